import PyProof.Rows.All
import HandS.ForMost
import HandS.ForExc
import HandS.TryMany
import HandS.IsInst
import HandS.Walk
import HandS.Wide
import HandS.EndBits
import HandS.HeadHook1
import KE.KeyNested
import HandS.TupMul
import HandS.TupAny
import HandS.Deep
import HandS.SortInts
import KE.DataEq
import KE.DataCmp
import KE.DataFind
import KE.DataIsa
import KE.DataMinMax
import KE.SortData
import HandS.Flow
import KE.GoesNew
import KE.GoesEnum
import HandS.Zip
import HandS.Style
import HandS.HeadHook4
import HandS.HeadEnd
import HandS.Head2
import HandS.HeadNt
import HandS.HeadWalk
import HandS.Conv
import HandS.Strs
import PyProof.SetRoads
import PyProof.ListNew
import HandS.ExcIs
import KE.GoesSet
import HandS.SetTxt0
import HandS.SetFor
import PyProof.Rows.SortShellAny
import PyProof.ListStr
import HandS.SetTxtIn
import HandS.TupSets
import PySem.Challenge.RW_justkept_k06_whole_no_fewer_and_no_lesse
namespace JK
set_option Elab.async false
set_option linter.all false
set_option maxRecDepth 100000
set_option autoImplicit false
open PySem PySem.Spec PyProof.Rows L2
def top (i : Nat) : Stmt := PySem.Challenge.pw_justkept_k06_whole_no_fewer_and_no_lesse.main.body.getD i (.Pass ⟨0, 0, 0, 0⟩)
abbrev st_is_within : Stmt := top 9
abbrev st_is_row : Stmt := top 10
abbrev st_is_stream : Stmt := top 11
abbrev st_look_stream : Stmt := top 12
abbrev st_all_rows : Stmt := top 13
abbrev st_are_keys : Stmt := top 18
abbrev st_is_question : Stmt := top 19
abbrev st_is_plan : Stmt := top 20
abbrev st_look_plan : Stmt := top 21
abbrev st_sees : Stmt := top 22
abbrev st_greater : Stmt := top 24
abbrev st_lesser : Stmt := top 25
abbrev st_part_of : Stmt := top 26
abbrev st_joined : Stmt := top 27
abbrev st_nothing : Stmt := top 28
abbrev st_start : Stmt := top 29
abbrev st_after : Stmt := top 30
abbrev st_top_two : Stmt := top 31
abbrev st_two_start : Stmt := top 32
abbrev st_two_after : Stmt := top 33
abbrev st_with_key : Stmt := top 35
abbrev st_kinds_start : Stmt := top 36
abbrev st_kinds_after : Stmt := top 37
abbrev st_run_start : Stmt := top 38
abbrev st_run_after : Stmt := top 39
abbrev st_start_of : Stmt := top 41
abbrev st_after_of : Stmt := top 42
abbrev st_told_by : Stmt := top 43
abbrev st_starts_of : Stmt := top 44
abbrev st_behind : Stmt := top 45
abbrev st_kept_of : Stmt := top 46
abbrev st_look_two : Stmt := top 47
abbrev st_first_unlike : Stmt := top 49
abbrev st_run_end : Stmt := top 50
abbrev st_run_apart : Stmt := top 51
abbrev st_fewest_of : Stmt := top 52
abbrev st_fewest_by : Stmt := top 53
abbrev st_fewest : Stmt := top 54
abbrev st_next_row : Stmt := top 55
abbrev st_apart_of : Stmt := top 56
abbrev st_apart : Stmt := top 57
abbrev st_law_cell : Stmt := top 59
abbrev st_law_row : Stmt := top 60
abbrev st_law_all : Stmt := top 61
abbrev st_law_line : Stmt := top 62
abbrev st_law_stream : Stmt := top 63
abbrev st_law_other : Stmt := top 64
abbrev st_law_words : Stmt := top 65
abbrev st_law_question : Stmt := top 66
abbrev st_law_plan : Stmt := top 67
abbrev st_law_sees : Stmt := top 68
abbrev st_law_answer : Stmt := top 69
abbrev st_law_few : Stmt := top 70
abbrev st_law_twins : Stmt := top 71
abbrev st_law_told_apart : Stmt := top 72
abbrev st_law : Stmt := top 73
section
set_option maxHeartbeats 0
def fa : List He.Fa := [.free "bool", .free "enumerate", .free "int", .free "isinstance", .free "len", .free "list", .free "max", .free "min", .free "range", .free "set", .free "sorted", .free "str", .free "sum", .free "tuple", .free "zip", .str "KEYS" "abcd", .int "MOST" 3, .int "MOST_QUESTIONS" 4, .int "MOST_ROWS" 60, .int "MOST_SPAN" 6, .glo "WORDS", .glo "Alike", .exc "Alike", .glo "BadPlan", .exc "BadPlan", .glo "BadStream", .exc "BadStream", .glo "is_within", .glo "is_row", .glo "is_stream"] ++ [.glo "look_stream", .glo "all_rows", .glo "are_keys", .glo "is_question", .glo "is_plan", .glo "look_plan", .glo "sees", .glo "greater", .glo "lesser", .glo "part_of", .glo "joined", .glo "nothing", .glo "start", .glo "after", .glo "top_two", .glo "two_start", .glo "two_after", .glo "with_key", .glo "kinds_start", .glo "kinds_after", .glo "run_start", .glo "run_after", .glo "start_of", .glo "after_of", .glo "told_by", .glo "starts_of", .glo "behind", .glo "kept_of", .glo "look_two", .glo "first_unlike"] ++ [.glo "run_end", .glo "run_apart", .glo "fewest_of", .glo "fewest_by", .glo "fewest", .glo "next_row", .glo "apart_of", .glo "apart", .glo "_law_cell", .glo "_law_row", .glo "_law_all", .glo "_law_line", .glo "_law_stream", .glo "_law_other", .glo "_law_words", .glo "_law_question", .glo "_law_plan", .glo "_law_sees", .glo "_law_answer", .glo "_law_few", .glo "_law_twins", .glo "_law_told_apart", .glo "law"]
def dd_is_within : He.DefD := ⟨("is_within", none), "is_within", "is_within", defArgs st_is_within, defBody st_is_within, defScope st_is_within, [], []⟩
def dd_is_row : He.DefD := ⟨("is_row", none), "is_row", "is_row", defArgs st_is_row, defBody st_is_row, defScope st_is_row, [], []⟩
def dd_is_stream : He.DefD := ⟨("is_stream", none), "is_stream", "is_stream", defArgs st_is_stream, defBody st_is_stream, defScope st_is_stream, [], []⟩
def dd_look_stream : He.DefD := ⟨("look_stream", none), "look_stream", "look_stream", defArgs st_look_stream, defBody st_look_stream, defScope st_look_stream, [], []⟩
def dd_all_rows : He.DefD := ⟨("all_rows", none), "all_rows", "all_rows", defArgs st_all_rows, defBody st_all_rows, defScope st_all_rows, [], []⟩
def dd_are_keys : He.DefD := ⟨("are_keys", none), "are_keys", "are_keys", defArgs st_are_keys, defBody st_are_keys, defScope st_are_keys, [], []⟩
def dd_is_question : He.DefD := ⟨("is_question", none), "is_question", "is_question", defArgs st_is_question, defBody st_is_question, defScope st_is_question, [], []⟩
def dd_is_plan : He.DefD := ⟨("is_plan", none), "is_plan", "is_plan", defArgs st_is_plan, defBody st_is_plan, defScope st_is_plan, [], []⟩
def dd_look_plan : He.DefD := ⟨("look_plan", none), "look_plan", "look_plan", defArgs st_look_plan, defBody st_look_plan, defScope st_look_plan, [], []⟩
def dd_sees : He.DefD := ⟨("sees", none), "sees", "sees", defArgs st_sees, defBody st_sees, defScope st_sees, [], []⟩
def dd_greater : He.DefD := ⟨("greater", none), "greater", "greater", defArgs st_greater, defBody st_greater, defScope st_greater, [], []⟩
def dd_lesser : He.DefD := ⟨("lesser", none), "lesser", "lesser", defArgs st_lesser, defBody st_lesser, defScope st_lesser, [], []⟩
def dd_part_of : He.DefD := ⟨("part_of", none), "part_of", "part_of", defArgs st_part_of, defBody st_part_of, defScope st_part_of, [], []⟩
def dd_joined : He.DefD := ⟨("joined", none), "joined", "joined", defArgs st_joined, defBody st_joined, defScope st_joined, [], []⟩
def dd_nothing : He.DefD := ⟨("nothing", none), "nothing", "nothing", defArgs st_nothing, defBody st_nothing, defScope st_nothing, [], []⟩
def dd_start : He.DefD := ⟨("start", none), "start", "start", defArgs st_start, defBody st_start, defScope st_start, [], []⟩
def dd_after : He.DefD := ⟨("after", none), "after", "after", defArgs st_after, defBody st_after, defScope st_after, [], []⟩
def dd_top_two : He.DefD := ⟨("top_two", none), "top_two", "top_two", defArgs st_top_two, defBody st_top_two, defScope st_top_two, [], []⟩
def dd_two_start : He.DefD := ⟨("two_start", none), "two_start", "two_start", defArgs st_two_start, defBody st_two_start, defScope st_two_start, [], []⟩
def dd_two_after : He.DefD := ⟨("two_after", none), "two_after", "two_after", defArgs st_two_after, defBody st_two_after, defScope st_two_after, [], []⟩
def dd_with_key : He.DefD := ⟨("with_key", none), "with_key", "with_key", defArgs st_with_key, defBody st_with_key, defScope st_with_key, [], []⟩
def dd_kinds_start : He.DefD := ⟨("kinds_start", none), "kinds_start", "kinds_start", defArgs st_kinds_start, defBody st_kinds_start, defScope st_kinds_start, [], []⟩
def dd_kinds_after : He.DefD := ⟨("kinds_after", none), "kinds_after", "kinds_after", defArgs st_kinds_after, defBody st_kinds_after, defScope st_kinds_after, [], []⟩
def dd_run_start : He.DefD := ⟨("run_start", none), "run_start", "run_start", defArgs st_run_start, defBody st_run_start, defScope st_run_start, [], []⟩
def dd_run_after : He.DefD := ⟨("run_after", none), "run_after", "run_after", defArgs st_run_after, defBody st_run_after, defScope st_run_after, [], []⟩
def dd_start_of : He.DefD := ⟨("start_of", none), "start_of", "start_of", defArgs st_start_of, defBody st_start_of, defScope st_start_of, [], []⟩
def dd_after_of : He.DefD := ⟨("after_of", none), "after_of", "after_of", defArgs st_after_of, defBody st_after_of, defScope st_after_of, [], []⟩
def dd_told_by : He.DefD := ⟨("told_by", none), "told_by", "told_by", defArgs st_told_by, defBody st_told_by, defScope st_told_by, [], []⟩
def dd_starts_of : He.DefD := ⟨("starts_of", none), "starts_of", "starts_of", defArgs st_starts_of, defBody st_starts_of, defScope st_starts_of, [], []⟩
def dd_behind : He.DefD := ⟨("behind", none), "behind", "behind", defArgs st_behind, defBody st_behind, defScope st_behind, [], []⟩
def dd_kept_of : He.DefD := ⟨("kept_of", none), "kept_of", "kept_of", defArgs st_kept_of, defBody st_kept_of, defScope st_kept_of, [], []⟩
def dd_look_two : He.DefD := ⟨("look_two", none), "look_two", "look_two", defArgs st_look_two, defBody st_look_two, defScope st_look_two, [], []⟩
def dd_first_unlike : He.DefD := ⟨("first_unlike", none), "first_unlike", "first_unlike", defArgs st_first_unlike, defBody st_first_unlike, defScope st_first_unlike, [], []⟩
def dd_run_end : He.DefD := ⟨("run_end", none), "run_end", "run_end", defArgs st_run_end, defBody st_run_end, defScope st_run_end, [], []⟩
def dd_run_apart : He.DefD := ⟨("run_apart", none), "run_apart", "run_apart", defArgs st_run_apart, defBody st_run_apart, defScope st_run_apart, [], []⟩
def dd_fewest_of : He.DefD := ⟨("fewest_of", none), "fewest_of", "fewest_of", defArgs st_fewest_of, defBody st_fewest_of, defScope st_fewest_of, [], []⟩
def dd_fewest_by : He.DefD := ⟨("fewest_by", none), "fewest_by", "fewest_by", defArgs st_fewest_by, defBody st_fewest_by, defScope st_fewest_by, [], []⟩
def dd_fewest : He.DefD := ⟨("fewest", none), "fewest", "fewest", defArgs st_fewest, defBody st_fewest, defScope st_fewest, [], []⟩
def dd_next_row : He.DefD := ⟨("next_row", none), "next_row", "next_row", defArgs st_next_row, defBody st_next_row, defScope st_next_row, [], []⟩
def dd_apart_of : He.DefD := ⟨("apart_of", none), "apart_of", "apart_of", defArgs st_apart_of, defBody st_apart_of, defScope st_apart_of, [], []⟩
def dd_apart : He.DefD := ⟨("apart", none), "apart", "apart", defArgs st_apart, defBody st_apart, defScope st_apart, [], []⟩
def dd_law_cell : He.DefD := ⟨("_law_cell", none), "_law_cell", "_law_cell", defArgs st_law_cell, defBody st_law_cell, defScope st_law_cell, [], []⟩
def dd_law_row : He.DefD := ⟨("_law_row", none), "_law_row", "_law_row", defArgs st_law_row, defBody st_law_row, defScope st_law_row, [], []⟩
def dd_law_all : He.DefD := ⟨("_law_all", none), "_law_all", "_law_all", defArgs st_law_all, defBody st_law_all, defScope st_law_all, [], []⟩
def dd_law_line : He.DefD := ⟨("_law_line", none), "_law_line", "_law_line", defArgs st_law_line, defBody st_law_line, defScope st_law_line, [], []⟩
def dd_law_stream : He.DefD := ⟨("_law_stream", none), "_law_stream", "_law_stream", defArgs st_law_stream, defBody st_law_stream, defScope st_law_stream, [], []⟩
def dd_law_other : He.DefD := ⟨("_law_other", none), "_law_other", "_law_other", defArgs st_law_other, defBody st_law_other, defScope st_law_other, [], []⟩
def dd_law_words : He.DefD := ⟨("_law_words", none), "_law_words", "_law_words", defArgs st_law_words, defBody st_law_words, defScope st_law_words, [], []⟩
def dd_law_question : He.DefD := ⟨("_law_question", none), "_law_question", "_law_question", defArgs st_law_question, defBody st_law_question, defScope st_law_question, [], []⟩
def dd_law_plan : He.DefD := ⟨("_law_plan", none), "_law_plan", "_law_plan", defArgs st_law_plan, defBody st_law_plan, defScope st_law_plan, [], []⟩
def dd_law_sees : He.DefD := ⟨("_law_sees", none), "_law_sees", "_law_sees", defArgs st_law_sees, defBody st_law_sees, defScope st_law_sees, [], []⟩
def dd_law_answer : He.DefD := ⟨("_law_answer", none), "_law_answer", "_law_answer", defArgs st_law_answer, defBody st_law_answer, defScope st_law_answer, [], []⟩
def dd_law_few : He.DefD := ⟨("_law_few", none), "_law_few", "_law_few", defArgs st_law_few, defBody st_law_few, defScope st_law_few, [], []⟩
def dd_law_twins : He.DefD := ⟨("_law_twins", none), "_law_twins", "_law_twins", defArgs st_law_twins, defBody st_law_twins, defScope st_law_twins, [], []⟩
def dd_law_told_apart : He.DefD := ⟨("_law_told_apart", none), "_law_told_apart", "_law_told_apart", defArgs st_law_told_apart, defBody st_law_told_apart, defScope st_law_told_apart, [], []⟩
def dd_law : He.DefD := ⟨("law", none), "law", "law", defArgs st_law, defBody st_law, defScope st_law, [], []⟩
def fn : List He.DefD := [dd_is_within, dd_is_row, dd_is_stream, dd_look_stream, dd_all_rows, dd_are_keys, dd_is_question, dd_is_plan, dd_look_plan, dd_sees, dd_greater, dd_lesser, dd_part_of, dd_joined, dd_nothing, dd_start, dd_after, dd_top_two, dd_two_start, dd_two_after, dd_with_key, dd_kinds_start, dd_kinds_after, dd_run_start, dd_run_after, dd_start_of, dd_after_of, dd_told_by, dd_starts_of, dd_behind] ++ [dd_kept_of, dd_look_two, dd_first_unlike, dd_run_end, dd_run_apart, dd_fewest_of, dd_fewest_by, dd_fewest, dd_next_row, dd_apart_of, dd_apart, dd_law_cell, dd_law_row, dd_law_all, dd_law_line, dd_law_stream, dd_law_other, dd_law_words, dd_law_question, dd_law_plan, dd_law_sees, dd_law_answer, dd_law_few, dd_law_twins, dd_law_told_apart, dd_law]
def ts : List He.Tab := []
abbrev LRow : PySem.W.OpenRow := PySem.W.OpenLaw.row PySem.Challenge.rw_justkept_k06_whole_no_fewer_and_no_lesse
def exB (K : PySem.W.Frag) : Bool := He.tupB K "WORDS" [.str "many", .str "sum", .str "most", .str "least", .str "last", .str "second", .str "kinds", .str "run"]
abbrev hk : PySem.W.Hook := He.hookX 4 fa fn ts [] exB
def ob (s : PySem.W.SharedT) : He.AlX := He.obsX 4 fa fn ts [] exB (HandSHeadRun.getT s)
theorem ob_eq (s : PySem.W.SharedT) : ob s = hk.obs s.abs := He.obsX_eq (HandSHeadRun.getT_eq s)
def loose : List Str := [("KeptError" : Str), ("BadStream" : Str), ("BadPlan" : Str), ("Alike" : Str), ("KEYS" : Str), ("MOST" : Str), ("MOST_ROWS" : Str), ("is_within" : Str), ("is_row" : Str), ("is_stream" : Str), ("look_stream" : Str), ("all_rows" : Str), ("WORDS" : Str), ("MOST_SPAN" : Str), ("MOST_QUESTIONS" : Str), ("are_keys" : Str), ("is_question" : Str), ("is_plan" : Str), ("look_plan" : Str), ("sees" : Str), ("greater" : Str), ("lesser" : Str), ("part_of" : Str), ("joined" : Str), ("nothing" : Str), ("start" : Str), ("after" : Str), ("top_two" : Str), ("two_start" : Str), ("two_after" : Str)] ++ [("with_key" : Str), ("kinds_start" : Str), ("kinds_after" : Str), ("run_start" : Str), ("run_after" : Str), ("start_of" : Str), ("after_of" : Str), ("told_by" : Str), ("starts_of" : Str), ("behind" : Str), ("kept_of" : Str), ("look_two" : Str), ("first_unlike" : Str), ("run_end" : Str), ("run_apart" : Str), ("fewest_of" : Str), ("fewest_by" : Str), ("fewest" : Str), ("next_row" : Str), ("apart_of" : Str), ("apart" : Str), ("_law_cell" : Str), ("_law_row" : Str), ("_law_all" : Str), ("_law_line" : Str), ("_law_stream" : Str), ("_law_other" : Str), ("_law_words" : Str), ("_law_question" : Str), ("_law_plan" : Str)] ++ [("_law_sees" : Str), ("_law_answer" : Str), ("_law_few" : Str), ("_law_twins" : Str), ("_law_told_apart" : Str)]
/-- a run told in two, for the memory's sake -/
theorem run_both {r : PySem.W.OpenRow} {q : Program} {H : PySem.W.Hook} {ob : PySem.W.SharedT → H.α} {M : Nat} {loose : List Str} {w : World} (a : HandSHeadRun.RunEq r q PySem.W.Hook.none (fun _ => ()) M loose w)
    (b : ∀ os : OsState, (HandSHeadRun.endF (HandSHeadRun.stepQ (HandSHeadRun.denQ HandSHeadRun.tabQ) r.prog w) M r.prog w os).map ob = some (H.val w)) : HandSHeadRun.RunEq r q H ob M loose w := by
  intro os
  have e1 := a os
  have e2 := b os
  revert e1 e2
  cases HandSHeadRun.endF (HandSHeadRun.stepQ (HandSHeadRun.denQ HandSHeadRun.tabQ) r.prog w) M r.prog w os with
  | none => intro e1 _; cases e1
  | some s =>
    intro e1 e2
    have f1 := Option.some.inj e1
    have f2 := Option.some.inj e2
    have g1 := congrArg (fun z => z.1) f1
    have g2 := congrArg (fun z => z.2.1) f1
    exact congrArg some (Prod.ext g1 (Prod.ext g2 f2))
theorem runa (w : World) : HandSHeadRun.RunEq LRow (PySem.W.view LRow.prog [73]) PySem.W.Hook.none (fun _ => ()) 20000 loose w := by
  intro os
  kernel_rfl
theorem runb (w : World) : ∀ os : OsState, (HandSHeadRun.endF (HandSHeadRun.stepQ (HandSHeadRun.denQ HandSHeadRun.tabQ) LRow.prog w) 20000 LRow.prog w os).map ob = some (hk.val w) := by
  intro os
  kernel_rfl
theorem run (w : World) : HandSHeadRun.RunEq LRow (PySem.W.view LRow.prog [73]) hk ob 20000 loose w := run_both (runa w) (runb w)
end
end JK
/-! Lay1 -/
set_option Elab.async false
set_option linter.all false
set_option maxRecDepth 100000
set_option autoImplicit false
/-! JK: a plain reading of expressions and statements by data without addresses. -/
namespace JK
open PySem PySem.Spec PyProof.Rows L2

/-- what a box is: an instance of a class with its fields' names; a dict with texts for keys; a dict with n tuples for keys, hashed as in a world -/
inductive Bx where
  | obj (c : Str) (ns : List Str) | dst (ks : List Str) | dct (w : World) (n : Nat)
/-- data -/
inductive D where
  | non | bl (b : Bool) | int (i : Int) | str (x : Str) | lst (xs : List D) | tup (xs : List D) | scr (ns : List Int)
  | box (k : Bx) (ds : List D)

/-- an exception: its class, a field -/
structure Exc where
  cls : Str
  fld : Option (Str × D)

/-- what a reading gives: nothing is said, a value, an exception -/
inductive R (α : Type) where
  | no | ok (a : α) | ex (x : Exc)
def R.bnd {α β : Type} (r : R α) (k : α → R β) : R β :=
  match r with
  | .no => .no
  | .ok a => k a
  | .ex x => .ex x
@[simp] theorem R.bnd_ok {α β : Type} (a : α) (k : α → R β) : (R.ok a).bnd k = k a := rfl
@[simp] theorem R.bnd_no {α β : Type} (k : α → R β) : (R.no : R α).bnd k = .no := rfl
@[simp] theorem R.bnd_ex {α β : Type} (x : Exc) (k : α → R β) : (R.ex x : R α).bnd k = .ex x := rfl

/-- the heap without some addresses -/
def hide (O : List Addr) (H : Hp) : Hp := fun a => if a ∈ O then none else H a
theorem hide_sub {O : List Addr} {H : Hp} {a : Addr} {o : HO} (h : hide O H a = some o) : a ∉ O ∧ H a = some o := by
  unfold hide at h
  split at h
  · cases h
  · exact ⟨by assumption, h⟩
theorem hide_of {O : List Addr} {H : Hp} {a : Addr} {o : HO} (h : H a = some o) (n : a ∉ O) : hide O H a = some o := by
  unfold hide; rw [if_neg n]; exact h
theorem same_hide {O : List Addr} {H : Hp} : Same (hide O H) H := fun _ _ h => (hide_sub h).2
theorem Same.hide {O : List Addr} {H H' : Hp} (s : Same H H') : Same (hide O H) (hide O H') := fun _ _ h => hide_of (s _ _ (hide_sub h).2) (hide_sub h).1

mutual
/-- data as a key -/
def D.nk : D → Option NestedKey
  | .non => some .none
  | .int i => some (.num i)
  | .str x => some (.text x)
  | .tup xs => (D.nkL xs).map .tup
  | _ => none
def D.nkL : List D → Option (List NestedKey)
  | [] => some []
  | x :: xs => match D.nk x, D.nkL xs with
    | some k, some ks => some (k :: ks)
    | _, _ => none
end
/-- a tuple as a key of a dict -/
def D.key : D → Option NestedKey
  | .tup xs => match D.nkL xs with
    | some ks => if (NestedKey.tup ks).depth ≤ 8 then some (.tup ks) else none
    | none => none
  | _ => none
def D.keyL : List D → Option (List NestedKey)
  | [] => some []
  | x :: xs => match D.key x, D.keyL xs with
    | some k, some ks => some (k :: ks)
    | _, _ => none
/-- what is asked of a class whose instances are boxes -/
structure ObjK (K : PySem.W.Frag) (C : Addr) : Prop where
  cl : Cls K C
  ha : PySem.W.findIn K (.ref C) "__class__" = some (some (.builtin "object.__class__"))
  hn : PySem.W.specialIn K (.builtin "object.__class__") "__get__" = some (some (.builtin "getset_descriptor.__get__"))
  ht : PySem.W.takesIn K (.builtin "object.__class__") = some true
  hm : PySem.W.mroIn K C (.type "object") = some true
  no : ∀ T ∈ ["int", "bool", "str", "list", "tuple"], PySem.W.kitOne K (.ref C) (.type T) = some false
/-- an entry of a dict with tuples for keys -/
def dnEnt (w : World) (nk : List NestedKey) (kas : List Addr) (us : List Value) : List DictEntry := (nk.zip (kas.zip us)).map fun x => ⟨x.1.hash w, .ref x.2.1, x.2.2⟩
/-- an object that is known whole -/
def pinO (a : Addr) (ob : Obj) : HO := .ext fun h => h.get? a = some ob
/-- what stands at the address of a box, its parts xs, their data ds -/
def BoxO (K : PySem.W.Frag) (a : Addr) (xs : List V) (ds : List D) : Bx → HO → Prop
  | .obj c ns, o => (∃ dx, o = .ins (He.ga K c) dx (ns.zip xs)) ∧ ns.length = xs.length ∧ ObjK K (He.ga K c) ∧ ∀ n ∈ ns, NoAttr K (He.ga K c) n
  | .dst ks, o => o = .dK ((ks.map Sum.inr).zip xs) ∧ ks.length = xs.length
  | .dct w n, o => ∃ nk kas vs us ob es ep, xs = kas.map V.ref ++ vs ∧ kas.length = n ∧ vs.length = n ∧ nk.length = n ∧ D.keyL (ds.take n) = some nk ∧ Vals vs us ∧ ob.ExactDict ∧ ob.data = .dict es ep ∧ es.toList = dnEnt w nk kas us ∧ nk.Nodup ∧ n ≤ sizeLine ∧ (a == sysModules) = false ∧ o = pinO a ob
mutual
inductive Rep (K : PySem.W.Frag) (H : Hp) : V → D → Prop
  | non : Rep K H .non .non
  | bl (b : Bool) : Rep K H (.bl b) (.bl b)
  | int (i : Int) : Rep K H (.int i) (.int i)
  | str (x : Str) : Rep K H (.str x) (.str x)
  | lst {a : Addr} {xs : List V} {ds : List D} : H a = some (.lst xs) → RepL K H xs ds → Rep K H (.ref a) (.lst ds)
  | tup {a : Addr} {xs : List V} {ds : List D} : SqT K H a xs → RepL K H xs ds → Rep K H (.ref a) (.tup ds)
  | scr {a : Addr} {ns : List Int} : SqL K H a (ns.map V.int) → Rep K H (.ref a) (.scr ns)
  | box {a : Addr} {k : Bx} {o : HO} {xs : List V} {ds : List D} : H a = some o → BoxO K a xs ds k o → RepL K H xs ds → Rep K H (.ref a) (.box k ds)
inductive RepL (K : PySem.W.Frag) (H : Hp) : List V → List D → Prop
  | nil : RepL K H [] []
  | cons {v : V} {vs : List V} {d : D} {ds : List D} : Rep K H v d → RepL K H vs ds → RepL K H (v :: vs) (d :: ds)
end
theorem Same.tupS {K : PySem.W.Frag} {H H' : Hp} {a : Addr} {xs : List V} (e : Same H H') (h : SqT K H a xs) : SqT K H' a xs := by
  rcases h with (h | ⟨o, h⟩) | h
  · exact .inl (.inl (e _ _ h))
  · exact .inl (.inr ⟨o, e _ _ h⟩)
  · exact .inr h
section
variable {K : PySem.W.Frag} {H H' : Hp}
mutual
theorem Rep.mono (s : Same H H') : ∀ {d : D} {v : V}, Rep K H v d → Rep K H' v d
  | .non, _, .non => .non
  | .bl _, _, .bl _ => .bl _
  | .int _, _, .int _ => .int _
  | .str _, _, .str _ => .str _
  | .lst _, _, .lst h r => .lst (s _ _ h) (RepL.mono s r)
  | .tup _, _, .tup h r => .tup (Same.tupS s h) (RepL.mono s r)
  | .scr _, _, .scr h => .scr (s.seq h)
  | .box _ _, _, .box h o r => .box (s _ _ h) o (RepL.mono s r)
theorem RepL.mono (s : Same H H') : ∀ {ds : List D} {vs : List V}, RepL K H vs ds → RepL K H' vs ds
  | [], _, .nil => .nil
  | _ :: _, _, .cons a b => .cons (Rep.mono s a) (RepL.mono s b)
end
theorem RepL.length : ∀ {ds : List D} {vs : List V}, RepL K H vs ds → vs.length = ds.length
  | [], _, .nil => rfl
  | _ :: _, _, .cons _ b => by rw [List.length_cons, List.length_cons, RepL.length b]
theorem RepL.get : ∀ {ds : List D} {vs : List V} {i : Nat} {d : D}, RepL K H vs ds → ds[i]? = some d → ∃ v, vs[i]? = some v ∧ Rep K H v d
  | [], _, _, _, .nil, e => by simp at e
  | _ :: _, _, 0, _, .cons a _, e => by simp at e; subst e; exact ⟨_, rfl, a⟩
  | _ :: ds, _, i + 1, d, .cons _ b, e => by
    obtain ⟨v, h1, h2⟩ := RepL.get (i := i) (d := d) b (by simpa using e)
    exact ⟨v, by simpa using h1, h2⟩
theorem RepL.get' : ∀ {ds : List D} {vs : List V} {i : Nat} {v : V}, RepL K H vs ds → vs[i]? = some v → ∃ d, ds[i]? = some d ∧ Rep K H v d
  | [], _, _, _, .nil, e => by simp at e
  | _ :: _, _, 0, _, .cons a _, e => by simp at e; subst e; exact ⟨_, rfl, a⟩
  | _ :: ds, _, i + 1, d, .cons _ b, e => by
    obtain ⟨v, h1, h2⟩ := RepL.get' (i := i) (v := d) b (by simpa using e)
    exact ⟨v, by simpa using h1, h2⟩
theorem RepL.append : ∀ {ds es : List D} {vs ws : List V}, RepL K H vs ds → RepL K H ws es → RepL K H (vs ++ ws) (ds ++ es)
  | [], _, _, _, .nil, b => b
  | _ :: _, _, _, _, .cons a r, b => .cons a (RepL.append r b)
theorem RepL.take : ∀ (n : Nat) {ds : List D} {vs : List V}, RepL K H vs ds → RepL K H (vs.take n) (ds.take n)
  | 0, _, _, _ => by simp; exact .nil
  | _ + 1, _, _, .nil => .nil
  | n + 1, _, _, .cons a b => .cons a (RepL.take n b)
theorem RepL.drop : ∀ (n : Nat) {ds : List D} {vs : List V}, RepL K H vs ds → RepL K H (vs.drop n) (ds.drop n)
  | 0, _, _, r => r
  | _ + 1, _, _, .nil => .nil
  | n + 1, _, _, .cons _ b => RepL.drop n b
theorem RepL.flat : ∀ (n : Nat) {ds : List D} {vs : List V}, RepL K H vs ds → RepL K H (List.replicate n vs).flatten (List.replicate n ds).flatten
  | 0, _, _, _ => .nil
  | n + 1, _, _, r => by
    rw [List.replicate_succ, List.replicate_succ, List.flatten_cons, List.flatten_cons]
    exact r.append (RepL.flat n r)
end

/-! ### slots -/
/-- things that are changed where they stand: a list that has more than one name; a dict with texts, with tuples for keys; an instance of a class with fields ns that hold data and fields ms that hold lists of its own; a list of things -/
inductive Th where
  | lst (xs : List D) | dst (ks : List Str) (ds : List D) | dct (w : World) (ks ds : List D)
  | ins (c : Str) (ns : List Str) (ds : List D) (ms : List Str) (xss : List (List D)) | lot (ts : List Th)
/-- an exception in a suite: where it stands, its class, its dict -/
structure Cau where
  a : Addr
  cls : Value
  dd : Option Addr
inductive Slot where
  | emp | val (d : D) | own (xs : List D) | exc (e : Cau) (x : Exc) | thing (t : Th)
  | ref (k : Nat) | refs (ks : List Nat) | sto (w : Bool) (m : Option Nat) (d : D) (S : List Th)
/-- slots that have to do with the store: names for its things, a list of such, the store itself (in slot 0, beside what that slot holds: a name for the thing m, or the data d) -/
def Slot.isR : Slot → Bool
  | .ref _ | .refs _ | .sto .. => true
  | _ => false
def Slot.isT : Slot → Bool
  | .thing _ | .ref _ | .refs _ | .sto .. => true
  | _ => false
def Slot.isOwn : Slot → Bool
  | .own _ | .thing _ | .ref _ | .refs _ | .sto .. => true
  | _ => false
theorem isOwn_T {s : Slot} (h : s.isT = true) : s.isOwn = true := by cases s <;> first | rfl | cases h
/-- the thing of the store that a slot names -/
def Slot.rf : Slot → Option Nat
  | .ref k => some k
  | .sto _ m _ _ => m
  | _ => none
abbrev Env := List Slot
/-- lists that stand at bs, one each -/
def LsR (K : PySem.W.Frag) (O : List Addr) (H : Hp) : List Addr → List (List D) → Prop
  | [], [] => True
  | b :: bs, xs :: xss => (∃ vs, H b = some (.lst vs) ∧ RepL K (hide O H) vs xs) ∧ LsR K O H bs xss
  | _, _ => False
mutual
/-- the thing t stands at a, at the addresses A -/
def ThR (K : PySem.W.Frag) (O : List Addr) (H : Hp) : Th → Addr → List Addr → Prop
  | .lst xs, a, A => A = [a] ∧ ∃ vs, H a = some (.lst vs) ∧ RepL K (hide O H) vs xs
  | .dst ks ds, a, A => A = [a] ∧ ∃ xs, H a = some (.dK ((ks.map Sum.inr).zip xs)) ∧ ks.length = xs.length ∧ RepL K (hide O H) xs ds
  | .dct w ks ds, a, A => A = [a] ∧ ∃ o xs, H a = some o ∧ ks.length = ds.length ∧ BoxO K a xs (ks ++ ds) (.dct w ks.length) o ∧ RepL K (hide O H) xs (ks ++ ds)
  | .ins c ns ds ms xss, a, A => ∃ dx xs bs, A = a :: bs ∧ H a = some (.ins (He.ga K c) dx (ns.zip xs ++ ms.zip (bs.map V.ref))) ∧ ns.length = xs.length ∧ ms.length = bs.length ∧ ObjK K (He.ga K c) ∧ (∀ n ∈ ns ++ ms, NoAttr K (He.ga K c) n) ∧ RepL K (hide O H) xs ds ∧ LsR K O H bs xss
  | .lot ts, a, A => ∃ as As, A = a :: As.flatten ∧ H a = some (.lst (as.map V.ref)) ∧ ThsR K O H ts as As
def ThsR (K : PySem.W.Frag) (O : List Addr) (H : Hp) : List Th → List Addr → List (List Addr) → Prop
  | [], [], [] => True
  | t :: ts, a :: as, A :: As => ThR K O H t a A ∧ ThsR K O H ts as As
  | _, _, _ => False
end
/-- where a def began: its heap, the addresses that its caller hides, where the store's things stood -/
structure Fm where
  H0 : Hp
  O0 : List Addr
  as0 : List Addr
def SlotR (K : PySem.W.Frag) (fm : Fm) (O : List Addr) (H : Hp) (v : Option V) : Slot → Prop
  | .emp => True
  | .val d => ∃ x, v = some x ∧ Rep K (hide O H) x d
  | .own ds => ∃ a xs, v = some (.ref a) ∧ a ∈ O ∧ fm.H0 a = none ∧ H a = some (.lst xs) ∧ RepL K (hide O H) xs ds
  | .exc e x => v = some (.ref e.a) ∧ e.cls = .ref (He.ga K x.cls) ∧ match x.fld with
    | none => e.dd = none
    | some (f, d) => ∃ da y, e.dd = some da ∧ hide O H da = some (.xd [(f, y)]) ∧ Rep K (hide O H) y d
  | .thing _ => True
  | .ref _ => True
  | .refs _ => True
  | .sto _ m d _ => m = none → ∃ x, v = some x ∧ Rep K (hide O H) x d
/-- the store: its things S at as, at the addresses As; A: those of the slots' own things -/
structure Sto (K : PySem.W.Frag) (fm : Fm) (O : List Addr) (H : Hp) (σ : L2.St) (ρ : Env) (A : Nat → List Addr) (S : List Th) (as : List Addr) (As : List (List Addr)) : Prop where
  th : ThsR K O H S as As
  nd : ∀ (i : Nat) (B : List Addr), As[i]? = some B → B.Nodup
  dj : ∀ (i j : Nat) (B C : List Addr), i ≠ j → As[i]? = some B → As[j]? = some C → ∀ b ∈ B, b ∉ C
  inO : ∀ b ∈ As.flatten, b ∈ O
  rf : ∀ (i : Nat) (s : Slot) (k : Nat), ρ[i]? = some s → s.rf = some k → ∃ a, as[k]? = some a ∧ σ[i]? = some (some (.ref a))
  rfs : ∀ (i : Nat) (ks : List Nat), ρ[i]? = some (.refs ks) → ∃ (a : Addr) (bs : List Addr), σ[i]? = some (some (.ref a)) ∧ hide O H a = some (.lst (bs.map V.ref)) ∧ ks.map (fun k => as[k]?) = bs.map some
  st : ∀ (w : Bool) (m : Option Nat) (d : D) (S' : List Th), ρ[0]? = some (.sto w m d S') → S' = S ∧ (w = true → ∀ b ∈ As.flatten, fm.H0 b = none) ∧ ∀ (k : Nat) (a : Addr), fm.as0[k]? = some a → as[k]? = some a
  own : ∀ (i : Nat) (xs : List D) (a : Addr), ρ[i]? = some (.own xs) → σ[i]? = some (some (.ref a)) → a ∉ As.flatten
  thg : ∀ (i : Nat) (T : Th), ρ[i]? = some (.thing T) → ∀ b ∈ A i, b ∉ As.flatten
/-- the things of the slots: each its own addresses; the store -/
def Held (K : PySem.W.Frag) (fm : Fm) (O : List Addr) (H : Hp) (σ : L2.St) (ρ : Env) : Prop := ∃ A : Nat → List Addr,
  (∀ (i : Nat) (T : Th), ρ[i]? = some (.thing T) → ∃ a, σ[i]? = some (some (.ref a)) ∧ ThR K O H T a (A i) ∧ (A i).Nodup ∧ ∀ b ∈ A i, b ∈ O ∧ fm.H0 b = none) ∧
  (∀ (i j : Nat) (T U : Th), i ≠ j → ρ[i]? = some (.thing T) → ρ[j]? = some (.thing U) → ∀ b ∈ A i, b ∉ A j) ∧
  (∀ (i j : Nat) (xs : List D) (T : Th) (a : Addr), ρ[i]? = some (.own xs) → σ[i]? = some (some (.ref a)) → ρ[j]? = some (.thing T) → a ∉ A j) ∧
  ∃ S as As, Sto K fm O H σ ρ A S as As
structure EnvR (K : PySem.W.Frag) (fm : Fm) (O : List Addr) (H : Hp) (σ : L2.St) (ρ : Env) : Prop where
  len : σ.length = ρ.length
  at' : ∀ (i : Nat) (s : Slot), ρ[i]? = some s → SlotR K fm O H (σ[i]?.getD none) s
  dist : ∀ (i j : Nat) (xs ys : List D) (a : Addr), i ≠ j → ρ[i]? = some (.own xs) → ρ[j]? = some (.own ys) → σ[i]? = some (some (.ref a)) → σ[j]? = some (some (.ref a)) → False
  there : ∀ a ∈ O, H a ≠ none
  there0 : ∀ a ∈ fm.O0, fm.H0 a ≠ none
  sub : ∀ a ∈ fm.O0, a ∈ O
  same : Same fm.H0 H
  held : Held K fm O H σ ρ
section
variable {K : PySem.W.Frag} {fm : Fm} {O O' : List Addr} {H H' : Hp} {σ σ' : L2.St} {ρ ρ' : Env}
theorem LsR.at : ∀ {bs : List Addr} {xss : List (List D)}, LsR K O H bs xss → ∀ b ∈ bs, H b ≠ none
  | [], _, _, b, hb => by cases hb
  | _ :: _, [], h, _, _ => h.elim
  | c :: bs, _ :: _, h, b, hb => by
    obtain ⟨⟨vs, h1, _⟩, h2⟩ := h
    rcases List.mem_cons.mp hb with rfl | hb
    · rw [h1]; exact fun z => by cases z
    · exact LsR.at h2 b hb
theorem LsR.move (s : Same (hide O H) (hide O' H')) : ∀ {bs : List Addr} {xss : List (List D)}, LsR K O H bs xss → (∀ b ∈ bs, H' b = H b) → LsR K O' H' bs xss
  | [], [], _, _ => trivial
  | [], _ :: _, h, _ => h.elim
  | _ :: _, [], h, _ => h.elim
  | b :: bs, _ :: _, h, e => by
    obtain ⟨⟨vs, h1, h3⟩, h2⟩ := h
    exact ⟨⟨vs, by rw [e b (by simp)]; exact h1, h3.mono s⟩, LsR.move s h2 fun c hc => e c (by simp [hc])⟩
mutual
theorem ThR.at : ∀ {t : Th} {a : Addr} {A : List Addr}, ThR K O H t a A → a ∈ A ∧ ∀ b ∈ A, H b ≠ none
  | .lst _, a, A, h => by
    unfold ThR at h
    obtain ⟨rfl, vs, h1, _⟩ := h
    exact ⟨by simp, fun b hb => by simp at hb; subst hb; rw [h1]; exact fun z => by cases z⟩
  | .dst _ _, a, A, h => by
    unfold ThR at h
    obtain ⟨rfl, vs, h1, _⟩ := h
    exact ⟨by simp, fun b hb => by simp at hb; subst hb; rw [h1]; exact fun z => by cases z⟩
  | .dct _ _ _, a, A, h => by
    unfold ThR at h
    obtain ⟨rfl, o, vs, h1, _⟩ := h
    exact ⟨by simp, fun b hb => by simp at hb; subst hb; rw [h1]; exact fun z => by cases z⟩
  | .ins _ _ _ _ _, a, A, h => by
    unfold ThR at h
    obtain ⟨dx, xs, bs, rfl, h1, _, _, _, _, _, h2⟩ := h
    refine ⟨by simp, fun b hb => ?_⟩
    rcases List.mem_cons.mp hb with rfl | hb
    · rw [h1]; exact fun z => by cases z
    · exact h2.at b hb
  | .lot ts, a, A, h => by
    unfold ThR at h
    obtain ⟨as, As, rfl, h1, h2⟩ := h
    refine ⟨by simp, fun b hb => ?_⟩
    rcases List.mem_cons.mp hb with rfl | hb
    · rw [h1]; exact fun z => by cases z
    · exact ThsR.at h2 b hb
theorem ThsR.at : ∀ {ts : List Th} {as : List Addr} {As : List (List Addr)}, ThsR K O H ts as As → ∀ b ∈ As.flatten, H b ≠ none
  | [], [], [], _, b, hb => by simp at hb
  | [], [], _ :: _, h, _, _ => by unfold ThsR at h; exact h.elim
  | [], _ :: _, _, h, _, _ => by unfold ThsR at h; exact h.elim
  | _ :: _, [], _, h, _, _ => by unfold ThsR at h; exact h.elim
  | _ :: _, _ :: _, [], h, _, _ => by unfold ThsR at h; exact h.elim
  | t :: ts, a :: as, A :: As, h, b, hb => by
    unfold ThsR at h
    rw [List.flatten_cons] at hb
    rcases List.mem_append.mp hb with hb | hb
    · exact (ThR.at h.1).2 b hb
    · exact ThsR.at h.2 b hb
end
mutual
theorem ThR.move (s : Same (hide O H) (hide O' H')) : ∀ {t : Th} {a : Addr} {A : List Addr}, ThR K O H t a A → (∀ b ∈ A, H' b = H b) → ThR K O' H' t a A
  | .lst _, a, A, h, e => by
    unfold ThR at h ⊢
    obtain ⟨rfl, vs, h1, h2⟩ := h
    exact ⟨rfl, vs, by rw [e a (by simp)]; exact h1, h2.mono s⟩
  | .dst _ _, a, A, h, e => by
    unfold ThR at h ⊢
    obtain ⟨rfl, vs, h1, h3, h2⟩ := h
    exact ⟨rfl, vs, by rw [e a (by simp)]; exact h1, h3, h2.mono s⟩
  | .dct _ _ _, a, A, h, e => by
    unfold ThR at h ⊢
    obtain ⟨rfl, o, vs, h1, h3, h4, h2⟩ := h
    exact ⟨rfl, o, vs, by rw [e a (by simp)]; exact h1, h3, h4, h2.mono s⟩
  | .ins _ _ _ _ _, a, A, h, e => by
    unfold ThR at h ⊢
    obtain ⟨dx, xs, bs, rfl, h1, h2, h3, h4, h5, h6, h7⟩ := h
    exact ⟨dx, xs, bs, rfl, by rw [e _ (by simp)]; exact h1, h2, h3, h4, h5, h6.mono s, h7.move s fun b hb => e b (by simp [hb])⟩
  | .lot ts, a, A, h, e => by
    unfold ThR at h ⊢
    obtain ⟨as, As, rfl, h1, h2⟩ := h
    exact ⟨as, As, rfl, by rw [e a (by simp)]; exact h1, ThsR.move s h2 fun b hb => e b (List.mem_cons_of_mem _ hb)⟩
theorem ThsR.move (s : Same (hide O H) (hide O' H')) : ∀ {ts : List Th} {as : List Addr} {As : List (List Addr)}, ThsR K O H ts as As → (∀ b ∈ As.flatten, H' b = H b) → ThsR K O' H' ts as As
  | [], [], [], _, _ => by unfold ThsR; trivial
  | [], [], _ :: _, h, _ => by unfold ThsR at h; exact h.elim
  | [], _ :: _, _, h, _ => by unfold ThsR at h; exact h.elim
  | _ :: _, [], _, h, _ => by unfold ThsR at h; exact h.elim
  | _ :: _, _ :: _, [], h, _ => by unfold ThsR at h; exact h.elim
  | t :: ts, a :: as, A :: As, h, e => by
    unfold ThsR at h ⊢
    rw [List.flatten_cons] at e
    exact ⟨ThR.move s h.1 fun b hb => e b (List.mem_append_left _ hb), ThsR.move s h.2 fun b hb => e b (List.mem_append_right _ hb)⟩
end
/-- the same store, in a heap that has it as it was -/
theorem Sto.move {A A' : Nat → List Addr} {S : List Th} {as : List Addr} {As : List (List Addr)} (h : Sto K fm O H σ ρ A S as As) (s : Same (hide O H) (hide O' H'))
    (hk : ∀ b ∈ As.flatten, b ∈ O → H b ≠ none → H' b = H b ∧ b ∈ O')
    (hs : ∀ (i : Nat) (s : Slot), s.isR = true → ρ'[i]? = some s → ρ[i]? = some s ∧ σ'[i]? = σ[i]?)
    (ho : ∀ (i : Nat) (xs : List D) (a : Addr), ρ'[i]? = some (.own xs) → σ'[i]? = some (some (.ref a)) → (∃ ys, ρ[i]? = some (.own ys) ∧ σ[i]? = some (some (.ref a))) ∨ a ∉ O ∨ H a = none)
    (ht : ∀ (i : Nat) (T : Th), ρ'[i]? = some (.thing T) → ∀ b ∈ A' i, (∃ U, ρ[i]? = some (.thing U) ∧ b ∈ A i) ∨ b ∉ O ∨ H b = none) : Sto K fm O' H' σ' ρ' A' S as As := by
  have al : ∀ b ∈ As.flatten, H b ≠ none := fun b hb => h.th.at b hb
  have k : ∀ b ∈ As.flatten, H' b = H b ∧ b ∈ O' := fun b hb => hk b hb (h.inO b hb) (al b hb)
  refine ⟨h.th.move s fun b hb => (k b hb).1, h.nd, h.dj, fun b hb => (k b hb).2, fun i sl j q e => ?_, fun i ks q => ?_, fun w m d S' q => h.st w m d S' (hs 0 _ rfl q).1, fun i xs a q1 q2 => ?_, fun i T q b hb => ?_⟩
  · have hR : sl.isR = true := by
      cases sl <;> first | rfl | cases e
    obtain ⟨q1, q2⟩ := hs i sl hR q
    rw [q2]
    exact h.rf i sl j q1 e
  · obtain ⟨q1, q2⟩ := hs i _ rfl q
    obtain ⟨a, bs, w1, w2, w3⟩ := h.rfs i ks q1
    exact ⟨a, bs, by rw [q2]; exact w1, s _ _ w2, w3⟩
  · rcases ho i xs a q1 q2 with ⟨ys, p1, p2⟩ | p | p
    · exact h.own i ys a p1 p2
    · exact fun z => p (h.inO a z)
    · exact fun z => al a z p
  · rcases ht i T q b hb with ⟨U, p1, p2⟩ | p | p
    · exact h.thg i U p1 b p2
    · exact fun z => p (h.inO b z)
    · exact fun z => al b z p
/-- the same things, in a heap that has them as they were -/
theorem Held.move (h : Held K fm O H σ ρ) (s : Same (hide O H) (hide O' H')) (hk : ∀ b ∈ O, H b ≠ none → (∀ (i : Nat) (xs : List D) (a : Addr), ρ[i]? = some (.own xs) → σ[i]? = some (some (.ref a)) → b ≠ a) → H' b = H b ∧ b ∈ O')
    (ht : ∀ (i : Nat) (s : Slot), s.isT = true → ρ'[i]? = some s → ρ[i]? = some s ∧ σ'[i]? = σ[i]?) (ho : ∀ (i : Nat) (xs : List D) (a : Addr), ρ'[i]? = some (.own xs) → σ'[i]? = some (some (.ref a)) → (∃ ys, ρ[i]? = some (.own ys) ∧ σ[i]? = some (some (.ref a))) ∨ a ∉ O ∨ H a = none) :
    Held K fm O' H' σ' ρ' := by
  obtain ⟨A, h1, h2, h3, S, as, As, h4⟩ := h
  refine ⟨A, fun i T q => ?_, fun i j T U ne q1 q2 => ?_, fun i j xs T a q1 q2 q3 => ?_, S, as, As, h4.move s (fun b hb bO hn => hk b bO hn fun i xs a p1 p2 z => h4.own i xs a p1 p2 (z ▸ hb)) (fun i sl hR q => ht i sl (by cases sl <;> first | rfl | cases hR) q) ho fun i T q b hb => .inl ⟨T, (ht i _ rfl q).1, hb⟩⟩
  · obtain ⟨q1, q2⟩ := ht i _ rfl q
    obtain ⟨a, e1, e2, e3, e4⟩ := h1 i T q1
    have k : ∀ b ∈ A i, H' b = H b ∧ b ∈ O' := fun b hb => hk b (e4 b hb).1 (e2.at.2 b hb) fun j xs c p1 p2 z => h3 j i xs T c p1 p2 q1 (z ▸ hb)
    exact ⟨a, by rw [q2]; exact e1, e2.move s fun b hb => (k b hb).1, e3, fun b hb => ⟨(k b hb).2, (e4 b hb).2⟩⟩
  · exact h2 i j T U ne (ht i _ rfl q1).1 (ht j _ rfl q2).1
  · obtain ⟨q4, _⟩ := ht j _ rfl q3
    obtain ⟨b, e1, e2, e3, e4⟩ := h1 j T q4
    rcases ho i xs a q1 q2 with ⟨ys, p1, p2⟩ | p | p
    · exact h3 i j ys T a p1 p2 q4
    · exact fun z => p (e4 a z).1
    · exact fun z => e2.at.2 a z p
theorem exc_mono {e : Cau} {x : Exc} {v : Option V} (s : Same (hide O H) (hide O' H')) (h : SlotR K fm O H v (.exc e x)) : SlotR K fm O' H' v (.exc e x) := by
  obtain ⟨h1, h2, h3⟩ := h
  refine ⟨h1, h2, ?_⟩
  cases ef : x.fld with
  | none => rw [ef] at h3; exact h3
  | some p =>
    obtain ⟨f, d⟩ := p
    rw [ef] at h3
    obtain ⟨da, y, w1, w2, w3⟩ := h3
    exact ⟨da, y, w1, s _ _ w2, w3.mono s⟩
theorem SlotR.same {v : Option V} {s : Slot} (h : SlotR K fm O H v s) (e : Same H H') : SlotR K fm O H' v s := by
  cases s with
  | emp => trivial
  | val d => obtain ⟨x, h1, h2⟩ := h; exact ⟨x, h1, h2.mono (Same.hide e)⟩
  | own ds => obtain ⟨a, xs, h1, h2, h3, h4, h5⟩ := h; exact ⟨a, xs, h1, h2, h3, e _ _ h4, h5.mono (Same.hide e)⟩
  | exc e' x => exact exc_mono (Same.hide e) h
  | thing x => trivial
  | ref x => trivial
  | refs x => trivial
  | sto w' m d S => exact fun z => by obtain ⟨x, h1, h2⟩ := h z; exact ⟨x, h1, h2.mono (Same.hide e)⟩
theorem some_of_ne {H H' : Hp} {a : Addr} (e : Same H H') (h : H a ≠ none) : H' a ≠ none := by
  cases q : H a with
  | none => exact absurd q h
  | some o => rw [e _ _ q]; exact fun z => by cases z
theorem keep_same {H H' : Hp} {b : Addr} (e : Same H H') (h : H b ≠ none) : H' b = H b := by
  cases q : H b with
  | none => exact absurd q h
  | some o => exact e _ _ q
theorem Held.mono (h : Held K fm O H σ ρ) (e : Same H H') : Held K fm O H' σ ρ :=
  h.move (Same.hide e) (fun _ hb hn _ => ⟨keep_same e hn, hb⟩) (fun _ _ _ q => ⟨q, rfl⟩) fun _ xs _ q1 q2 => .inl ⟨xs, q1, q2⟩
/-- a slot gets something that is no thing -/
theorem Held.set (h : Held K fm O H σ ρ) {i : Nat} {v : Option V} {s : Slot} (n1 : s.isT = false) (n2 : ∀ xs, s ≠ .own xs) : Held K fm O H (σ.set i v) (ρ.set i s) := by
  refine h.move (Same.refl _) (fun _ hb _ _ => ⟨rfl, hb⟩) (fun j sl hT q => ?_) fun j xs a q1 q2 => .inl ⟨xs, ?_⟩
  · by_cases hj : i = j
    · subst hj
      rw [List.getElem?_set] at q
      simp only [if_true] at q
      split at q
      · cases q; rw [n1] at hT; cases hT
      · cases q
    · rw [List.getElem?_set_ne hj] at q ⊢
      exact ⟨q, rfl⟩
  · by_cases hj : i = j
    · subst hj
      rw [List.getElem?_set] at q1
      simp only [if_true] at q1
      split at q1
      · exact absurd (Option.some.inj q1) (n2 xs)
      · cases q1
    · rw [List.getElem?_set_ne hj] at q1 q2
      exact ⟨q1, q2⟩
theorem EnvR.mono (h : EnvR K fm O H σ ρ) (e : Same H H') : EnvR K fm O H' σ ρ :=
  ⟨h.len, fun i s q => (h.at' i s q).same e, h.dist, fun a ha => some_of_ne e (h.there a ha), h.there0, h.sub, h.same.trans e, h.held.mono e⟩
theorem EnvR.val (h : EnvR K fm O H σ ρ) {i : Nat} {d : D} (e : ρ[i]? = some (.val d)) : ∃ x, σ[i]? = some (some x) ∧ Rep K (hide O H) x d := by
  obtain ⟨x, h1, h2⟩ := h.at' i _ e
  have hl : i < σ.length := by rw [h.len]; exact (List.getElem?_eq_some_iff.mp e).1
  rw [List.getElem?_eq_getElem hl, Option.getD_some] at h1
  exact ⟨x, by rw [List.getElem?_eq_getElem hl, h1], h2⟩
theorem EnvR.set {i : Nat} {x : V} {d : D} (h : EnvR K fm O H σ ρ) (r : Rep K (hide O H) x d) : EnvR K fm O H (σ.set i (some x)) (ρ.set i (.val d)) := by
  refine ⟨by simp [h.len], fun j s q => ?_, fun j k xs ys a ne q1 q2 q3 q4 => ?_, h.there, h.there0, h.sub, h.same, h.held.set rfl fun _ z => by cases z⟩
  · by_cases hj : i = j
    · subst hj
      by_cases hl : i < ρ.length
      · rw [List.getElem?_set_self hl] at q
        cases q
        have hl' : i < σ.length := by rw [h.len]; exact hl
        rw [List.getElem?_set_self hl']
        exact ⟨x, rfl, r⟩
      · rw [List.getElem?_eq_none (by simp; omega)] at q; cases q
    · rw [List.getElem?_set_ne hj] at q ⊢
      exact h.at' j s q
  · have e1 : j ≠ i := fun z => by
      subst z
      by_cases hl : j < ρ.length
      · rw [List.getElem?_set_self hl] at q1; cases q1
      · rw [List.getElem?_eq_none (by simp; omega)] at q1; cases q1
    have e2 : k ≠ i := fun z => by
      subst z
      by_cases hl : k < ρ.length
      · rw [List.getElem?_set_self hl] at q2; cases q2
      · rw [List.getElem?_eq_none (by simp; omega)] at q2; cases q2
    rw [List.getElem?_set_ne (Ne.symm e1)] at q1 q3
    rw [List.getElem?_set_ne (Ne.symm e2)] at q2 q4
    exact h.dist j k xs ys a ne q1 q2 q3 q4
end

/-! ### what is wanted behind -/
/-- an exception as the layer knows it -/
def ExcR (mg : Str → Option Value) (K : PySem.W.Frag) (O : List Addr) (H : Hp) (x : Exc) (cls : Value) (dd : Option Addr) : Prop :=
  ∃ C : Addr, mg x.cls = some (.ref C) ∧ cls = .ref C ∧ match x.fld with
    | none => dd = none
    | some (f, d) => ∃ a v, dd = some a ∧ hide O H a = some (.xd [(f, v)]) ∧ Rep K (hide O H) v d
/-- a value without exceptions -/
def PostV (K : PySem.W.Frag) (O : List Addr) (H : Hp) (Q : VK) : R D → Prop
  | .ok d => ∀ v H', Same H H' → Rep K (hide O H') v d → Q v H'
  | _ => False
def Post (mg : Str → Option Value) (K : PySem.W.Frag) (O : List Addr) (σ : L2.St) (H : Hp) (W : WX) (Q : VK) : R D → Prop
  | .ok d => ∀ v H', Same H H' → Rep K (hide O H') v d → Q v H'
  | .ex x => ∀ H' cls dd, Same H H' → ExcR mg K O H' x cls dd → W cls dd σ H'
  | .no => False
def PostT (mg : Str → Option Value) (K : PySem.W.Frag) (O : List Addr) (σ : L2.St) (H : Hp) (W : WX) (Q : Bool → Hp → Prop) : R Bool → Prop
  | .ok b => ∀ H', Same H H' → Q b H'
  | .ex x => ∀ H' cls dd, Same H H' → ExcR mg K O H' x cls dd → W cls dd σ H'
  | .no => False
def PostA (mg : Str → Option Value) (K : PySem.W.Frag) (O : List Addr) (σ : L2.St) (H : Hp) (W : WX) (Q : List V → Hp → Prop) : R (List D) → Prop
  | .ok ds => ∀ vs H', Same H H' → RepL K (hide O H') vs ds → Q vs H'
  | .ex x => ∀ H' cls dd, Same H H' → ExcR mg K O H' x cls dd → W cls dd σ H'
  | .no => False
abbrev Ex := Env → R D
abbrev Tx := Env → R Bool
abbrev Ax := Env → R (List D)
def tD (mg : Str → Option Value) (K : PySem.W.Frag) (W : WX) (f : Ex) : TE := fun σ H Q => ∃ fm O ρ, EnvR K fm O H σ ρ ∧ Post mg K O σ H W Q (f ρ)
def tDT (mg : Str → Option Value) (K : PySem.W.Frag) (W : WX) (f : Tx) : TT := fun σ H Q => ∃ fm O ρ, EnvR K fm O H σ ρ ∧ PostT mg K O σ H W Q (f ρ)
def tDA (mg : Str → Option Value) (K : PySem.W.Frag) (W : WX) (f : Ax) : TA := fun σ H Q => ∃ fm O ρ, EnvR K fm O H σ ρ ∧ PostA mg K O σ H W Q (f ρ)
/-- e is read by f -/
def SE (X : Cx) (W : WX) (e : Expr) (f : Ex) : Prop := PE X e (tD X.mg X.K W f)
def ST (X : Cx) (W : WX) (e : Expr) (f : Tx) : Prop := PT X e (tDT X.mg X.K W f)
def SW (X : Cx) (W : WX) (e : Expr) (f : Tx) : Prop := PW X e (tDT X.mg X.K W f)
def SA (X : Cx) (W : WX) (es : List Expr) (f : Ax) : Prop := PA X es (tDA X.mg X.K W f)
section
variable {mg : Str → Option Value} {K : PySem.W.Frag} {O : List Addr} {σ : L2.St} {H H1 : Hp} {W : WX}
theorem Post.imp {Q Q' : VK} {r : R D} (h : Post mg K O σ H W Q r) (k : ∀ v H', Same H H' → Q v H' → Q' v H') : Post mg K O σ H W Q' r := by
  cases r with
  | no => exact h
  | ok d => exact fun v H' s q => k v H' s (h v H' s q)
  | ex x => exact h
theorem PostT.imp {Q Q' : Bool → Hp → Prop} {r : R Bool} (h : PostT mg K O σ H W Q r) (k : ∀ v H', Same H H' → Q v H' → Q' v H') : PostT mg K O σ H W Q' r := by
  cases r with
  | no => exact h
  | ok d => exact fun H' s => k d H' s (h H' s)
  | ex x => exact h
theorem PostV.imp {Q Q' : VK} {r : R D} (h : PostV K O H Q r) (k : ∀ v H', Same H H' → Q v H' → Q' v H') : PostV K O H Q' r := by
  cases r with
  | no => exact h
  | ok d => exact fun v H' s q => k v H' s (h v H' s q)
  | ex x => exact h
/-- the first of two: what follows is asked at each heap behind -/
theorem Post.bnd {Q : VK} {r : R D} {k : D → R D} (h : Post mg K O σ H W Q (r.bnd k)) : Post mg K O σ H W (fun v H1 => Same H H1 ∧ ∃ d, Rep K (hide O H1) v d ∧ Post mg K O σ H1 W Q (k d)) r := by
  cases r with
  | no => exact h
  | ex x => exact h
  | ok d =>
    intro v H1 s q
    refine ⟨s, d, q, ?_⟩
    show Post mg K O σ H1 W Q (k d)
    have h' : Post mg K O σ H W Q (k d) := h
    cases e : k d with
    | no => rw [e] at h'; exact h'
    | ok d2 => rw [e] at h'; exact fun v2 H2 s2 q2 => h' v2 H2 (s.trans s2) q2
    | ex x => rw [e] at h'; exact fun H2 cls dd s2 q2 => h' H2 cls dd (s.trans s2) q2
theorem PostT.ofD {Q : Bool → Hp → Prop} {r : R D} {k : D → R Bool} (h : PostT mg K O σ H W Q (r.bnd k)) : Post mg K O σ H W (fun v H1 => Same H H1 ∧ ∃ d, Rep K (hide O H1) v d ∧ PostT mg K O σ H1 W Q (k d)) r := by
  cases r with
  | no => exact h
  | ex x => exact h
  | ok d =>
    intro v H1 s q
    refine ⟨s, d, q, ?_⟩
    have h' : PostT mg K O σ H W Q (k d) := h
    cases e : k d with
    | no => rw [e] at h'; exact h'
    | ok d2 => rw [e] at h'; exact fun H2 s2 => h' H2 (s.trans s2)
    | ex x => rw [e] at h'; exact fun H2 cls dd s2 q2 => h' H2 cls dd (s.trans s2) q2
theorem PostT.bnd {Q : Bool → Hp → Prop} {r : R Bool} {k : Bool → R Bool} (h : PostT mg K O σ H W Q (r.bnd k)) : PostT mg K O σ H W (fun b H1 => Same H H1 ∧ PostT mg K O σ H1 W Q (k b)) r := by
  cases r with
  | no => exact h
  | ex x => exact h
  | ok d =>
    intro H1 s
    refine ⟨s, ?_⟩
    have h' : PostT mg K O σ H W Q (k d) := h
    cases e : k d with
    | no => rw [e] at h'; exact h'
    | ok d2 => rw [e] at h'; exact fun H2 s2 => h' H2 (s.trans s2)
    | ex x => rw [e] at h'; exact fun H2 cls dd s2 q2 => h' H2 cls dd (s.trans s2) q2
theorem Post.ofT {Q : VK} {r : R Bool} {k : Bool → R D} (h : Post mg K O σ H W Q (r.bnd k)) : PostT mg K O σ H W (fun b H1 => Same H H1 ∧ Post mg K O σ H1 W Q (k b)) r := by
  cases r with
  | no => exact h
  | ex x => exact h
  | ok d =>
    intro H1 s
    refine ⟨s, ?_⟩
    have h' : Post mg K O σ H W Q (k d) := h
    cases e : k d with
    | no => rw [e] at h'; exact h'
    | ok d2 => rw [e] at h'; exact fun v H2 s2 q2 => h' v H2 (s.trans s2) q2
    | ex x => rw [e] at h'; exact fun H2 cls dd s2 q2 => h' H2 cls dd (s.trans s2) q2
theorem PostA.ofD {Q : List V → Hp → Prop} {r : R D} {k : D → R (List D)} (h : PostA mg K O σ H W Q (r.bnd k)) : Post mg K O σ H W (fun v H1 => Same H H1 ∧ ∃ d, Rep K (hide O H1) v d ∧ PostA mg K O σ H1 W Q (k d)) r := by
  cases r with
  | no => exact h
  | ex x => exact h
  | ok d =>
    intro v H1 s q
    refine ⟨s, d, q, ?_⟩
    have h' : PostA mg K O σ H W Q (k d) := h
    cases e : k d with
    | no => rw [e] at h'; exact h'
    | ok d2 => rw [e] at h'; exact fun v2 H2 s2 q2 => h' v2 H2 (s.trans s2) q2
    | ex x => rw [e] at h'; exact fun H2 cls dd s2 q2 => h' H2 cls dd (s.trans s2) q2
theorem PostA.bnd {Q : List V → Hp → Prop} {r : R (List D)} {k : List D → R (List D)} (h : PostA mg K O σ H W Q (r.bnd k)) : PostA mg K O σ H W (fun v H1 => Same H H1 ∧ ∃ d, RepL K (hide O H1) v d ∧ PostA mg K O σ H1 W Q (k d)) r := by
  cases r with
  | no => exact h
  | ex x => exact h
  | ok d =>
    intro v H1 s q
    refine ⟨s, d, q, ?_⟩
    have h' : PostA mg K O σ H W Q (k d) := h
    cases e : k d with
    | no => rw [e] at h'; exact h'
    | ok d2 => rw [e] at h'; exact fun v2 H2 s2 q2 => h' v2 H2 (s.trans s2) q2
    | ex x => rw [e] at h'; exact fun H2 cls dd s2 q2 => h' H2 cls dd (s.trans s2) q2
theorem Post.ofA {Q : VK} {r : R (List D)} {k : List D → R D} (h : Post mg K O σ H W Q (r.bnd k)) : PostA mg K O σ H W (fun v H1 => Same H H1 ∧ ∃ d, RepL K (hide O H1) v d ∧ Post mg K O σ H1 W Q (k d)) r := by
  cases r with
  | no => exact h
  | ex x => exact h
  | ok d =>
    intro v H1 s q
    refine ⟨s, d, q, ?_⟩
    have h' : Post mg K O σ H W Q (k d) := h
    cases e : k d with
    | no => rw [e] at h'; exact h'
    | ok d2 => rw [e] at h'; exact fun v2 H2 s2 q2 => h' v2 H2 (s.trans s2) q2
    | ex x => rw [e] at h'; exact fun H2 cls dd s2 q2 => h' H2 cls dd (s.trans s2) q2
theorem PostA.imp {Q Q' : List V → Hp → Prop} {r : R (List D)} (h : PostA mg K O σ H W Q r) (k : ∀ v H', Same H H' → Q v H' → Q' v H') : PostA mg K O σ H W Q' r := by
  cases r with
  | no => exact h
  | ok d => exact fun v H' s q => k v H' s (h v H' s q)
  | ex x => exact h
/-- without exceptions -/
theorem Post.ofV {Q : VK} {r : R D} (h : PostV K O H Q r) : Post mg K O σ H W Q r := by
  cases r with
  | no => exact h
  | ok d => exact h
  | ex x => exact h.elim
end
theorem PE.weak {X : Cx} {e : Expr} {t t' : TE} (h : PE X e t) (k : ∀ σ H Q, t' σ H Q → t σ H Q) : PE X e t' := ⟨fun pins s σ H Q I hw => h.run pins s σ H Q I (k σ H Q hw)⟩
theorem PT.weak {X : Cx} {e : Expr} {t t' : TT} (h : PT X e t) (k : ∀ σ H Q, t' σ H Q → t σ H Q) : PT X e t' := ⟨fun pins s σ H Q I hw => h.run pins s σ H Q I (k σ H Q hw)⟩
theorem PW.weak {X : Cx} {e : Expr} {t t' : TT} (h : PW X e t) (k : ∀ σ H Q, t' σ H Q → t σ H Q) : PW X e t' := ⟨fun wh pins s σ H Q I hw => h.run wh pins s σ H Q I (k σ H Q hw)⟩
theorem PA.weak {X : Cx} {e : List Expr} {t t' : TA} (h : PA X e t) (k : ∀ σ H Q, t' σ H Q → t σ H Q) : PA X e t' := ⟨fun ps pins s σ H Q I hw => h.run ps pins s σ H Q I (k σ H Q hw)⟩
theorem PS.weak {X : Cx} {e : Stmt} {t t' : TS} (h : PS X e t) (k : ∀ D σ H, t' D σ H → t D σ H) : PS X e t' := ⟨fun pins s σ H D I hw => h.run pins s σ H D I (k D σ H hw)⟩
theorem PSs.weak {X : Cx} {e : List Stmt} {t t' : TS} (h : PSs X e t) (k : ∀ D σ H, t' D σ H → t D σ H) : PSs X e t' := ⟨fun pins s σ H D I hw => h.run pins s σ H D I (k D σ H hw)⟩

/-! ### names, constants -/
def eName (i : Nat) : Ex := fun ρ => match ρ[i]? with
  | some (.val d) => .ok d
  | some (.sto _ none d _) => .ok d
  | _ => .no
def eC (d : D) : Ex := fun _ => .ok d
section
variable {X : Cx} {W : WX}
theorem se_name {i : Nat} {x : Str} {pos : Pos} (hN : X.N[i]? = some x) (hv : Vis X.env.scope x) (hd : (x == ("__debug__" : Str)) = false := by decide) (hcd : (x == ("__classdict__" : Str)) = false := by decide) : SE X W (.Name x pos) (eName i) := by
  refine PE.weak (pe_var hN hv hd hcd) fun σ H Q ⟨fm, O, ρ, en, h⟩ => ?_
  unfold eName at h
  split at h
  · rename_i d e
    obtain ⟨v, e1, r⟩ := en.val e
    exact ⟨v, e1, h v H (Same.refl _) r⟩
  · rename_i w' d S e
    obtain ⟨v, h1, r⟩ := en.at' i _ e rfl
    have hl : i < σ.length := by rw [en.len]; exact (List.getElem?_eq_some_iff.mp e).1
    rw [List.getElem?_eq_getElem hl, Option.getD_some] at h1
    exact ⟨v, by rw [List.getElem?_eq_getElem hl, h1], h v H (Same.refl _) r⟩
  · exact h.elim
theorem se_c {e : Expr} {v : V} {d : D} (h : PE X e (tC v)) (r : ∀ H, Rep X.K H v d) : SE X W e (eC d) :=
  PE.weak h fun σ H Q ⟨fm, O, ρ, en, h⟩ => h v H (Same.refl _) (r _)
theorem se_int {i j pos} : SE X W (.Constant (.int i) j pos) (eC (.int i)) := se_c pe_int fun _ => .int i
theorem se_bl {b j pos} : SE X W (.Constant (.bool b) j pos) (eC (.bl b)) := se_c pe_bl fun _ => .bl b
theorem se_non {j pos} : SE X W (.Constant .none j pos) (eC .non) := se_c pe_non fun _ => .non
theorem se_str {x j pos} : SE X W (.Constant (.str x) j pos) (eC (.str x)) := se_c pe_str fun _ => .str x
/-- a constant of the module -/
theorem se_glob {x : Str} {v : V} {u : Value} {d : D} {pos : Pos} (hg : Gl X x) (hm : X.mg x = some u) (r : RelV v u) (hr : ∀ H, Rep X.K H v d) (hd : (x == ("__debug__" : Str)) = false := by decide) : SE X W (.Name x pos) (eC d) :=
  se_c (pe_glob hg hm r hd) hr

/-! ### operators -/
/-- by values: g tells what comes of two data -/
def rD (K : PySem.W.Frag) (g : D → D → R D) : R2 := fun x y H Q => ∃ O d e, (∀ a ∈ O, H a ≠ none) ∧ Rep K (hide O H) x d ∧ Rep K (hide O H) y e ∧ PostV K O H Q (g d e)
def eBin (g : D → D → R D) (a b : Ex) : Ex := fun ρ => (a ρ).bnd fun x => (b ρ).bnd fun y => g x y
/-- g gives no exceptions -/
def NoEx (r : R D) : Prop := ∀ x, r ≠ .ex x
theorem PostV.of {mg : Str → Option Value} {K : PySem.W.Frag} {O : List Addr} {σ : L2.St} {H : Hp} {Q : VK} {r : R D} (n : NoEx r) (h : Post mg K O σ H W Q r) : PostV K O H Q r := by
  cases r with
  | no => exact h
  | ok d => exact h
  | ex x => exact (n x rfl).elim
theorem bin_read {g : D → D → R D} (hn : ∀ d e, NoEx (g d e)) {mg : Str → Option Value} {K : PySem.W.Frag} {fa fb : Ex} {σ : L2.St} {H : Hp} {Q : VK} (h : tD mg K W (eBin g fa fb) σ H Q) : tOp (rD K g) (tD mg K W fa) (tD mg K W fb) σ H Q := by
  obtain ⟨fm, O, ρ, en, h⟩ := h
  refine ⟨fm, O, ρ, en, (Post.bnd h).imp fun v H1 s1 ⟨_, d, r1, h1⟩ => ?_⟩
  refine ⟨fm, O, ρ, en.mono s1, (Post.bnd h1).imp fun u H2 s2 ⟨_, e, r2, h2⟩ => ?_⟩
  exact ⟨O, d, e, ((en.mono s1).mono s2).there, r1.mono (Same.hide s2), r2, PostV.of (hn d e) h2⟩
theorem se_bin {op : Operator} {g : D → D → R D} {a b : Expr} {fa fb : Ex} {pos : Pos} (ho : OpR X (binaryOp op) (rD X.K g)) (hn : ∀ d e, NoEx (g d e)) (ha : SE X W a fa) (hb : SE X W b fb) : SE X W (.BinOp a op b pos) (eBin g fa fb) :=
  PE.weak (pe_op ho ha hb) fun _ _ _ h => bin_read hn h
theorem se_cmp {op : CmpOp} {g : D → D → R D} {a b : Expr} {fa fb : Ex} {pos : Pos} (ho : OpR X (compareOp op) (rD X.K g)) (hn : ∀ d e, NoEx (g d e)) (ha : SE X W a fa) (hb : SE X W b fb) (hm : behindInMarks op b = false) : SE X W (.Compare a [op] [b] pos) (eBin g fa fb) :=
  PE.weak (pe_cmpR ho ha hb hm) fun _ _ _ h => bin_read hn h
/-- a value as a test: True, False alone -/
def dBl : D → R Bool
  | .bl b => .ok b
  | _ => .no
def tOf (a : Ex) : Tx := fun ρ => (a ρ).bnd dBl
theorem test_read {mg : Str → Option Value} {K : PySem.W.Frag} {fa : Ex} {σ : L2.St} {H : Hp} {Q : Bool → Hp → Prop} (h : tDT mg K W (tOf fa) σ H Q) : tTest (tD mg K W fa) σ H Q := by
  obtain ⟨fm, O, ρ, en, h⟩ := h
  refine ⟨fm, O, ρ, en, (PostT.ofD h).imp fun v H1 s1 ⟨_, d, r1, h1⟩ => ?_⟩
  cases r1 with
  | bl b => exact ⟨b, rfl, h1 H1 (Same.refl _)⟩
  | non => exact h1.elim
  | int => exact h1.elim
  | str => exact h1.elim
  | lst => exact h1.elim
  | tup => exact h1.elim
  | scr => exact h1.elim
  | box => exact h1.elim
theorem st_cmp {op : CmpOp} {g : D → D → R D} {a b : Expr} {fa fb : Ex} {pos : Pos} (ho : OpR X (compareOp op) (rD X.K g)) (hn : ∀ d e, NoEx (g d e)) (ha : SE X W a fa) (hb : SE X W b fb) (hm : behindInMarks op b = false) : ST X W (.Compare a [op] [b] pos) (tOf (eBin g fa fb)) := by
  refine PT.weak (pt_cmpR ho ha hb hm) fun σ H Q h => ?_
  obtain ⟨fm, O, ρ, en, h⟩ := h
  have h' := PostT.ofD h
  obtain h2 := bin_read (W := W) (mg := X.mg) (K := X.K) (fa := fa) (fb := fb) hn ⟨fm, O, ρ, en, h'⟩
  obtain ⟨fm1, O1, ρ1, en1, h3⟩ := h2
  refine ⟨fm1, O1, ρ1, en1, h3.imp fun v H1 s1 q1 => ?_⟩
  obtain ⟨fm2, O2, ρ2, en2, h4⟩ := q1
  refine ⟨fm2, O2, ρ2, en2, h4.imp fun v H2 s2 q2 => ?_⟩
  obtain ⟨O3, d, e, th, r1, r2, h5⟩ := q2
  refine ⟨O3, d, e, th, r1, r2, h5.imp fun v H3 s3 q3 => ?_⟩
  obtain ⟨_, dd, r, q⟩ := q3
  cases r with
  | bl b => exact ⟨b, rfl, q H3 (Same.refl _)⟩
  | non => exact q.elim
  | int => exact q.elim
  | str => exact q.elim
  | lst => exact q.elim
  | tup => exact q.elim
  | scr => exact q.elim
  | box => exact q.elim
end
end JK

/-! LayM -/
set_option Elab.async false
set_option linter.all false
set_option maxRecDepth 100000
set_option autoImplicit false
/-! a tuple taken once, or not at all -/
namespace JK
open PySem PySem.Spec PyProof.Rows L2
theorem once {a : Addr} {ob : Obj} {xs : Array Value} {m : Nat} (hc : ob.cls = .type "tuple") (hd : ob.data = .seq xs m) (u : Tok) :
    Meets (Builtin.«tuple.__mul__» ⟨[.ref a, .int 1 u], []⟩) (fun _ R s => s.heap.get? a = some ob ∧ R (.ok (.ret (.ref a))) s) := by
  refine .of_wp fun prog w A R s h => ?_
  obtain ⟨at_, fin⟩ := h
  have ix := AutoSeq1.idx_int
  wp_walk using wpAny_loadPart' at_
  rw [hd]
  refine wpAny_pure (wpAny_pure ?_)
  rw [if_pos (by simp)]
  wp_walk using wpAny_loadPart' at_
  exact ⟨_, rfl, fin⟩
theorem never {a : Addr} {ob : Obj} {xs : Array Value} {m : Nat} (hc : ob.cls = .type "tuple") (hd : ob.data = .seq xs m) (ne : xs.isEmpty = false) {k : Int} (k0 : k ≤ 0) (k1 : -1000 ≤ k) (u : Tok) :
    Meets (Builtin.«tuple.__mul__» ⟨[.ref a, .int k u], []⟩) (fun _ R s => s.heap.get? a = some ob ∧ R (.ok (.ret (.ref s.heap.objs.size))) { s with heap := s.heap.push { cls := .type "tuple", data := .seq #[] } }) := by
  refine .of_wp fun prog w A R s h => ?_
  obtain ⟨at_, fin⟩ := h
  have ix := AutoSeq1.idx_int
  have far : (decide (k < -2 ^ 63) || decide (k ≥ 2 ^ 63)) = false := by simp; omega
  have one : (k == 1) = false := by simp; omega
  wp_walk using wpAny_loadPart' at_
  simp only [far, Bool.false_eq_true, if_false]
  wp_walk using wpAny_loadPart' at_
  rw [hd]
  refine wpAny_pure (wpAny_pure ?_)
  simp only [ne, one, Bool.or_false, Bool.false_eq_true, if_false, decide_eq_true k0, if_true]
  wp_walk using wpAny_loadPart' at_
  exact ⟨_, rfl, fin⟩
section
variable {X : Cx}
/-- t * 1 is t -/
def rOnce (K : PySem.W.Frag) : R2 := fun x y H Q => ∃ a vs, x = .ref a ∧ y = .int 1 ∧ SqT K H a vs ∧ Q (.ref a) H
/-- t * k, k not above nought, is a new empty one -/
def rNever (K : PySem.W.Frag) : R2 := fun x y H Q => ∃ a k vs, x = .ref a ∧ y = .int k ∧ SqT K H a vs ∧ vs ≠ [] ∧ k ≤ 0 ∧ -1000 ≤ k ∧ ∀ p, H p = none → Q (.ref p) (upd H p (.tup []))
/-- the road of tuple * int, up to the tuple's own method -/
theorem mul_to {pins : List (Addr × Obj)} {s : Shared} {σ : L2.St} {H : Hp} {a : Addr} {k : Int} {u : Tok} {vs : List V} {Q : Value → Shared → Prop} {E : Value → Shared → Prop} (I : Inv X pins σ H s) (hT : SqT X.K H a vs)
    (go : ∀ (its : List Value) (ob : Obj) (m : Nat), its.length = vs.length → s.heap.get? a = some ob → ob.cls = .type "tuple" → ob.data = .seq its.toArray m → wpAny (model X.prog X.w) X.A (call (.builtin "tuple.__mul__") [.ref a, .int k u]) Q E s) :
    wpAny (model X.prog X.w) X.A (binaryOp .Mult (.ref a) (.int k u)) Q E s := by
  obtain ⟨its, r, ⟨ob, at_, cl, m, da⟩, _⟩ := I.tuple hT
  have same : ob = { cls := .type "tuple", dict := ob.dict, data := .seq its.toArray m, slots := ob.slots } := by
    cases ob; simp only at cl da; rw [cl, da]
  have at2 := at_
  rw [same] at at2
  have isT : s.TypeIs (.ref a) "tuple" := ⟨ob, at_, cl⟩
  have fromInt := int_rmul_tuple k u a its.toArray m ob.dict ob.slots
  refine wpAny_binaryOp_repeat_ref (T := "tuple") (U := "int") (by decide) isT (fun t => typeIs_int t k u) noFill_tuple_mul F.fills_int_mul F.slot_int_rmul repeat_tuple F.slot_int_index.lookup ?_
  refine call_meets F.slot_int_rmul (typeIs_int s k u) F.entry_int_rmul (F.args_int_rmul_2 _ _) fromInt ⟨at2, rfl, isT, ?_⟩
  exact go its ob m r.length.symm at_ cl da
theorem op_once : OpR X (binaryOp .Mult) (rOnce X.K) := by
  intro pins s σ H x y v w Q I rx ry want
  obtain ⟨a, vs, rfl, rfl, hT, q⟩ := want
  obtain rfl : v = Value.ref a := rx
  obtain ⟨u, rfl⟩ := ry
  refine mul_to I hT fun its ob m _ at_ cl da => ?_
  exact call_meets F.slot_tuple_mul ⟨ob, at_, cl⟩ F.entry_tuple_mul (F.args_tuple_mul_2 _ _) (once cl da u) ⟨at_, .ref a, H, I, rfl, q⟩
theorem op_never : OpR X (binaryOp .Mult) (rNever X.K) := by
  intro pins s σ H x y v w Q I rx ry want
  obtain ⟨a, k, vs, rfl, rfl, hT, ne, k0, k1, q⟩ := want
  obtain rfl : v = Value.ref a := rx
  obtain ⟨u, rfl⟩ := ry
  refine mul_to I hT fun its ob m hl at_ cl da => ?_
  have some_ : its.toArray.isEmpty = false := by
    cases its with
    | nil => exact absurd (List.eq_nil_of_length_eq_zero hl.symm) ne
    | cons _ _ => rfl
  refine call_meets F.slot_tuple_mul ⟨ob, at_, cl⟩ F.entry_tuple_mul (F.args_tuple_mul_2 _ _) (never cl da some_ k0 k1 u) ⟨at_, ?_⟩
  have new := I.laid (t' := s.toks) (a := s.heap.objs.size) (o := .tup []) (fun b o e => Heap.get?_push_of_some _ e) (Nat.le_refl _) (⟨Nat.zero_le _, [], .nil, IsTup.new _ _⟩)
  exact ⟨.ref s.heap.objs.size, _, new, rfl, q _ (I.hok.fresh (Nat.le_refl _))⟩
end
end JK

/-! Lay2 -/
set_option Elab.async false
set_option linter.all false
set_option maxRecDepth 100000
set_option autoImplicit false
namespace JK
open PySem PySem.Spec PyProof.Rows L2

/-! ### data as the library's own -/
mutual
def D.py : D → PyData
  | .non => .none
  | .bl b => .bool b
  | .int i => .int i
  | .str x => .str x
  | .lst xs => .list (D.pyL xs)
  | .tup xs => .tuple (D.pyL xs)
  | .scr ns => .list (ns.map .int)
  | .box _ _ => .none
def D.pyL : List D → List PyData
  | [] => []
  | x :: xs => D.py x :: D.pyL xs
end
mutual
/-- no box in it -/
def D.flat : D → Bool
  | .lst xs => D.flatL xs
  | .tup xs => D.flatL xs
  | .box _ _ => false
  | _ => true
def D.flatL : List D → Bool
  | [] => true
  | x :: xs => D.flat x && D.flatL xs
end
mutual
def D.dep : D → Nat
  | .lst xs => D.depL xs + 1
  | .tup xs => D.depL xs + 1
  | .scr _ => 1
  | _ => 0
def D.depL : List D → Nat
  | [] => 0
  | x :: xs => max (D.dep x) (D.depL xs)
end
theorem depInts : ∀ ns : List Int, PyData.depthAll (ns.map .int) = 0
  | [] => rfl
  | _ :: ns => by rw [List.map_cons, PyData.depthAll, depInts ns]; rfl
theorem layInts : ∀ ns : List Int, PyData.plainAll (ns.map .int) = true
  | [] => rfl
  | _ :: ns => by rw [List.map_cons, PyData.plainAll, layInts ns]; rfl
mutual
theorem D.dep_py : ∀ d : D, d.py.depth = d.dep
  | .non => rfl
  | .bl _ => rfl
  | .int _ => rfl
  | .str _ => rfl
  | .lst xs => by rw [D.py, D.dep, PyData.depth, D.depL_py]
  | .tup xs => by rw [D.py, D.dep, PyData.depth, D.depL_py]
  | .scr ns => by rw [D.py, D.dep, PyData.depth, depInts]
  | .box _ _ => rfl
theorem D.depL_py : ∀ ds : List D, PyData.depthAll (D.pyL ds) = D.depL ds
  | [] => rfl
  | x :: xs => by rw [D.pyL, D.depL, PyData.depthAll, D.dep_py, D.depL_py]
end
mutual
theorem D.lay_py : ∀ d : D, d.py.plain = true
  | .non => rfl
  | .bl _ => rfl
  | .int _ => rfl
  | .str _ => rfl
  | .lst xs => by rw [D.py, PyData.plain]; exact D.layL_py xs
  | .tup xs => by rw [D.py, PyData.plain]; exact D.layL_py xs
  | .scr ns => by rw [D.py, PyData.plain]; exact layInts ns
  | .box _ _ => rfl
theorem D.layL_py : ∀ ds : List D, PyData.plainAll (D.pyL ds) = true
  | [] => rfl
  | x :: xs => by rw [D.pyL, PyData.plainAll, D.lay_py, D.layL_py]; rfl
end
theorem Dp.ints {K : PySem.W.Frag} {H : Hp} : ∀ ns : List Int, DpAll K H (ns.map V.int) (ns.map .int)
  | [] => .nil
  | _ :: ns => .cons (.int _) (Dp.ints ns)
section
variable {K : PySem.W.Frag} {H : Hp}
mutual
theorem Rep.dp : ∀ {d : D} {v : V}, d.flat = true → Rep K H v d → Dp K H v d.py
  | .non, _, _, .non => .non
  | .bl _, _, _, .bl _ => .bl _
  | .int _, _, _, .int _ => .int _
  | .str _, _, _, .str _ => .str _
  | .lst _, _, f, .lst h r => .lst (SqL.of h) (RepL.dp f r)
  | .tup _, _, f, .tup h r => .tup h (RepL.dp f r)
  | .scr _, _, _, .scr h => .lst h (Dp.ints _)
  | .box _ _, _, f, _ => by cases f
theorem RepL.dp : ∀ {ds : List D} {vs : List V}, D.flatL ds = true → RepL K H vs ds → DpAll K H vs (D.pyL ds)
  | [], _, _, .nil => .nil
  | _ :: _, _, f, .cons a b => by
    rw [D.flatL, Bool.and_eq_true] at f
    exact .cons (Rep.dp f.1 a) (RepL.dp f.2 b)
end
end
/-- == -/
def deq (a b : D) : Bool := PyData.eqv a.py b.py

section
variable {X : Cx} {W : WX}
/-- a value that stands, the heap as it is -/
theorem PostV.now {K : PySem.W.Frag} {O : List Addr} {H : Hp} {Q : VK} {d : D} {v : V} (h : PostV K O H Q (.ok d)) (r : Rep K (hide O H) v d) : Q v H := h v H (Same.refl _) r
theorem same_new {H : Hp} {p : Addr} {o : HO} (h : H p = none) : Same H (upd H p o) := fun b x e => by
  rw [upd_ne (ne_of_none e h)]; exact e
theorem new_out {O : List Addr} {H : Hp} {p : Addr} (th : ∀ a ∈ O, H a ≠ none) (h : H p = none) : p ∉ O := fun z => th p z h
theorem PostV.lst {K : PySem.W.Frag} {O : List Addr} {H : Hp} {Q : VK} {ds : List D} {vs : List V} {p : Addr} (h : PostV K O H Q (.ok (.lst ds))) (th : ∀ a ∈ O, H a ≠ none) (r : RepL K (hide O H) vs ds) (hp : H p = none) : Q (.ref p) (upd H p (.lst vs)) :=
  h _ _ (same_new hp) (.lst (hide_of upd_same (new_out th hp)) (r.mono (Same.hide (same_new hp))))
theorem PostV.tup {K : PySem.W.Frag} {O : List Addr} {H : Hp} {Q : VK} {ds : List D} {vs : List V} {p : Addr} (h : PostV K O H Q (.ok (.tup ds))) (th : ∀ a ∈ O, H a ≠ none) (r : RepL K (hide O H) vs ds) (hp : H p = none) : Q (.ref p) (upd H p (.tup vs)) :=
  h _ _ (same_new hp) (.tup (SqT.of (hide_of upd_same (new_out th hp))) (r.mono (Same.hide (same_new hp))))
theorem SqT.out {K : PySem.W.Frag} {O : List Addr} {H : Hp} {a : Addr} {xs : List V} (h : SqT K (hide O H) a xs) : SqT K H a xs := Same.tupS same_hide h

/-! ### + - * // % ** -/
def dAdd : D → D → R D
  | .int i, .int j => .ok (.int (i + j))
  | .str x, .str y => if x.length + y.length ≤ sizeLine then .ok (.str (x ++ y)) else .no
  | .lst xs, .lst ys => if xs.length + ys.length ≤ sizeLine then .ok (.lst (xs ++ ys)) else .no
  | .tup xs, .tup ys => if xs.length + ys.length ≤ sizeLine then .ok (.tup (xs ++ ys)) else .no
  | _, _ => .no
theorem dAdd_nx (d e : D) : NoEx (dAdd d e) := fun x h => by
  unfold dAdd at h
  split at h <;> first | (split at h <;> cases h) | cases h
theorem opD_add : OpR X (binaryOp .Add) (rD X.K dAdd) := by
  intro pins s σ H x y v u Q I rx ry h
  obtain ⟨O, d, e, th, r1, r2, h⟩ := h
  unfold dAdd at h
  split at h
  · cases r1; cases r2
    exact op_add pins s σ H _ _ v u Q I rx ry ⟨_, _, rfl, rfl, h.now (.int _)⟩
  · split at h
    · cases r1; cases r2
      exact op_add_str pins s σ H _ _ v u Q I rx ry ⟨_, _, rfl, rfl, by assumption, h.now (.str _)⟩
    · exact h.elim
  · split at h
    · rename_i hz
      cases r1 with
      | lst e1 l1 =>
        cases r2 with
        | lst e2 l2 =>
          exact op_cat pins s σ H _ _ v u Q I rx ry ⟨_, _, _, _, rfl, rfl, same_hide _ _ e1, same_hide _ _ e2, by rw [l1.length, l2.length]; exact hz, fun p hp => h.lst th (l1.append l2) hp⟩
    · exact h.elim
  · split at h
    · rename_i hz
      cases r1 with
      | tup e1 l1 =>
        cases r2 with
        | tup e2 l2 =>
          refine op_catA pins s σ H _ _ v u Q I rx ry ⟨_, _, _, _, rfl, rfl, SqT.out e1, SqT.out e2, by rw [l1.length, l2.length]; exact hz, fun z => ?_, fun _ z => ?_, fun _ _ p hp => h.tup th (l1.append l2) hp⟩
          · subst z; cases l1
            exact h.now (.tup e2 l2)
          · subst z; cases l2
            rw [List.append_nil] at h
            exact h.now (.tup e1 l1)
    · exact h.elim
  · exact h.elim
def dSub : D → D → R D
  | .int i, .int j => .ok (.int (i - j))
  | _, _ => .no
theorem dSub_nx (d e : D) : NoEx (dSub d e) := fun x h => by
  unfold dSub at h
  split at h <;> cases h
theorem opD_sub : OpR X (binaryOp .Sub) (rD X.K dSub) := by
  intro pins s σ H x y v u Q I rx ry h
  obtain ⟨O, d, e, th, r1, r2, h⟩ := h
  unfold dSub at h
  split at h
  · cases r1; cases r2
    exact op_sub pins s σ H _ _ v u Q I rx ry ⟨_, _, rfl, rfl, h.now (.int _)⟩
  · exact h.elim
def dMul : D → D → R D
  | .int i, .int j => if (-(2 ^ 64) < i ∧ i < 2 ^ 64) ∨ (-(2 ^ 64) < j ∧ j < 2 ^ 64) then .ok (.int (i * j)) else .no
  | .lst xs, .int k => if -(2 ^ 63) ≤ k ∧ k < 2 ^ 63 ∧ xs.length * k.toNat ≤ sizeLine then .ok (.lst (List.replicate k.toNat xs).flatten) else .no
  | .tup xs, .int k => if xs ≠ [] ∧ -1000 ≤ k ∧ k ≤ 1000 ∧ xs.length ≤ 1000 then .ok (.tup (List.replicate k.toNat xs).flatten) else .no
  | _, _ => .no
theorem dMul_nx (d e : D) : NoEx (dMul d e) := fun x h => by
  unfold dMul at h
  split at h <;> first | (split at h <;> cases h) | cases h
theorem opD_mul : OpR X (binaryOp .Mult) (rD X.K dMul) := by
  intro pins s σ H x y v u Q I rx ry h
  obtain ⟨O, d, e, th, r1, r2, h⟩ := h
  unfold dMul at h
  split at h
  · split at h
    · cases r1; cases r2
      exact op_mul pins s σ H _ _ v u Q I rx ry ⟨_, _, rfl, rfl, by assumption, h.now (.int _)⟩
    · exact h.elim
  · split at h
    · rename_i hz
      cases r2
      cases r1 with
      | lst e1 l1 =>
        exact op_rep pins s σ H _ _ v u Q I rx ry ⟨_, _, _, rfl, rfl, same_hide _ _ e1, hz.1, hz.2.1, by rw [l1.length]; exact hz.2.2, fun p hp => h.lst th (l1.flat _) hp⟩
    · exact h.elim
  · split at h
    · rename_i k hz
      cases r2
      cases r1 with
      | tup e1 l1 =>
        rename_i vs
        have hv : vs ≠ [] := fun z => by subst z; cases l1; exact hz.1 rfl
        by_cases k2 : 2 ≤ k
        · exact op_repT pins s σ H _ _ v u Q I rx ry ⟨_, _, _, rfl, rfl, SqT.out e1, hv, k2, hz.2.2.1, by rw [l1.length]; exact hz.2.2.2, fun p hp => h.tup th (l1.flat _) hp⟩
        · by_cases k1 : k = 1
          · subst k1
            refine op_once pins s σ H _ _ v u Q I rx ry ⟨_, _, rfl, rfl, SqT.out e1, ?_⟩
            refine h.now ?_
            simp only [Int.toNat_one, List.replicate_one, List.flatten_singleton]
            exact .tup e1 l1
          · refine op_never pins s σ H _ _ v u Q I rx ry ⟨_, _, _, rfl, rfl, SqT.out e1, hv, by omega, hz.2.1, fun p hp => ?_⟩
            have e0 : k.toNat = 0 := by omega
            rw [e0] at h
            exact h.tup th .nil hp
    · exact h.elim
  · exact h.elim
def dFdiv : D → D → R D
  | .int i, .int j => if 0 < j ∧ j < 1073741824 then .ok (.int (i / j)) else .no
  | _, _ => .no
theorem dFdiv_nx (d e : D) : NoEx (dFdiv d e) := fun x h => by
  unfold dFdiv at h
  split at h <;> first | (split at h <;> cases h) | cases h
theorem opD_fdiv : OpR X (binaryOp .FloorDiv) (rD X.K dFdiv) := by
  intro pins s σ H x y v u Q I rx ry h
  obtain ⟨O, d, e, th, r1, r2, h⟩ := h
  unfold dFdiv at h
  split at h
  · split at h
    · cases r1; cases r2
      exact op_fdiv pins s σ H _ _ v u Q I rx ry ⟨_, _, rfl, rfl, by assumption, h.now (.int _)⟩
    · exact h.elim
  · exact h.elim
def dMod : D → D → R D
  | .int i, .int j => if 0 < j then .ok (.int (i % j)) else .no
  | _, _ => .no
theorem dMod_nx (d e : D) : NoEx (dMod d e) := fun x h => by
  unfold dMod at h
  split at h <;> first | (split at h <;> cases h) | cases h
theorem opD_mod : OpR X (binaryOp .Mod) (rD X.K dMod) := by
  intro pins s σ H x y v u Q I rx ry h
  obtain ⟨O, d, e, th, r1, r2, h⟩ := h
  unfold dMod at h
  split at h
  · split at h
    · cases r1; cases r2
      exact op_mod pins s σ H _ _ v u Q I rx ry ⟨_, _, rfl, rfl, by assumption, h.now (.int _)⟩
    · exact h.elim
  · exact h.elim
def dPow : D → D → R D
  | .int i, .int j => if 0 ≤ j ∧ j ≤ 1000000 ∧ i.natAbs < 2 ^ 64 then .ok (.int (i ^ j.toNat)) else .no
  | _, _ => .no
theorem dPow_nx (d e : D) : NoEx (dPow d e) := fun x h => by
  unfold dPow at h
  split at h <;> first | (split at h <;> cases h) | cases h
theorem opD_pow : OpR X (binaryOp .Pow) (rD X.K dPow) := by
  intro pins s σ H x y v u Q I rx ry h
  obtain ⟨O, d, e, th, r1, r2, h⟩ := h
  unfold dPow at h
  split at h
  · split at h
    · cases r1; cases r2
      exact op_pow pins s σ H _ _ v u Q I rx ry ⟨_, _, rfl, rfl, by assumption, h.now (.int _)⟩
    · exact h.elim
  · exact h.elim
/-! ### == != < <= > >= -/
def dEq (a b : D) : R D := if (a.dep ≤ 60 ∨ b.dep ≤ 60) ∧ a.flat = true ∧ b.flat = true then .ok (.bl (deq a b)) else .no
def dNe (a b : D) : R D := if (a.dep ≤ 60 ∨ b.dep ≤ 60) ∧ a.flat = true ∧ b.flat = true then .ok (.bl (!deq a b)) else .no
theorem dEq_nx (d e : D) : NoEx (dEq d e) := fun x h => by
  unfold dEq at h
  split at h <;> cases h
theorem dNe_nx (d e : D) : NoEx (dNe d e) := fun x h => by
  unfold dNe at h
  split at h <;> cases h
theorem Rep.up {K : PySem.W.Frag} {O : List Addr} {H : Hp} {v : V} {d : D} (r : Rep K (hide O H) v d) : Rep K H v d := r.mono same_hide
theorem RepL.up {K : PySem.W.Frag} {O : List Addr} {H : Hp} {v : List V} {d : List D} (r : RepL K (hide O H) v d) : RepL K H v d := r.mono same_hide
theorem opD_eq (hu : X.A.units + 64 < cLine) : OpR X (compareOp .Eq) (rD X.K dEq) := by
  intro pins s σ H x y v u Q I rx ry h
  obtain ⟨O, d, e, th, r1, r2, h⟩ := h
  unfold dEq at h
  split at h
  · rename_i hz
    obtain ⟨as, q1⟩ := Dp.reads I d.py x v (r1.up.dp hz.2.1) rx
    obtain ⟨bs, q2⟩ := Dp.reads I e.py y u (r2.up.dp hz.2.2) ry
    exact SeqAt.eq_plain q1 q2 d.lay_py e.lay_py (by rw [d.dep_py, e.dep_py]; omega) ⟨.bl _, H, I, rfl, h.now (.bl _)⟩
  · exact h.elim
theorem opD_ne (hu : X.A.units + 64 < cLine) : OpR X (compareOp .NotEq) (rD X.K dNe) := by
  intro pins s σ H x y v u Q I rx ry h
  obtain ⟨O, d, e, th, r1, r2, h⟩ := h
  unfold dNe at h
  split at h
  · rename_i hz
    obtain ⟨as, q1⟩ := Dp.reads I d.py x v (r1.up.dp hz.2.1) rx
    obtain ⟨bs, q2⟩ := Dp.reads I e.py y u (r2.up.dp hz.2.2) ry
    exact SeqAt.ne_plain q1 q2 d.lay_py e.lay_py (by rw [d.dep_py, e.dep_py]; omega) ⟨.bl _, H, I, rfl, h.now (.bl _)⟩
  · exact h.elim
def dCmpI (p : Int → Int → Bool) : D → D → R D
  | .int i, .int j => .ok (.bl (p i j))
  | _, _ => .no
theorem dCmpI_nx (p : Int → Int → Bool) (d e : D) : NoEx (dCmpI p d e) := fun x h => by
  unfold dCmpI at h
  split at h <;> cases h
abbrev dLt := dCmpI fun i j => decide (i < j)
abbrev dLe := dCmpI fun i j => decide (i ≤ j)
abbrev dGt := dCmpI fun i j => decide (j < i)
abbrev dGe := dCmpI fun i j => decide (j ≤ i)
theorem opD_cmpI {op : CmpOp} {p : Int → Int → Bool} (ho : OpR X (compareOp op) (rI0 fun i j => .bl (p i j))) : OpR X (compareOp op) (rD X.K (dCmpI p)) := by
  intro pins s σ H x y v u Q I rx ry h
  obtain ⟨O, d, e, th, r1, r2, h⟩ := h
  unfold dCmpI at h
  split at h
  · cases r1; cases r2
    exact ho pins s σ H _ _ v u Q I rx ry ⟨_, _, rfl, rfl, h.now (.bl _)⟩
  · exact h.elim
theorem opD_lt : OpR X (compareOp .Lt) (rD X.K dLt) := opD_cmpI op_lt
theorem opD_le : OpR X (compareOp .LtE) (rD X.K dLe) := opD_cmpI op_le
theorem opD_gt : OpR X (compareOp .Gt) (rD X.K dGt) := opD_cmpI op_gt
theorem opD_ge : OpR X (compareOp .GtE) (rD X.K dGe) := opD_cmpI op_ge
/-! ### is None, is not None -/
def isNon : D → Bool
  | .non => true
  | _ => false
def dIs : D → D → R D
  | d, .non => .ok (.bl (isNon d))
  | _, _ => .no
def dIsNot : D → D → R D
  | d, .non => .ok (.bl (!isNon d))
  | _, _ => .no
theorem dIs_nx (d e : D) : NoEx (dIs d e) := fun x h => by
  unfold dIs at h
  split at h <;> cases h
theorem dIsNot_nx (d e : D) : NoEx (dIsNot d e) := fun x h => by
  unfold dIsNot at h
  split at h <;> cases h
theorem Rep.isNon {K : PySem.W.Frag} {H : Hp} {v : V} {d : D} (r : Rep K H v d) : decide (v = .non) = JK.isNon d := by
  cases r <;> first | rfl | exact decide_eq_false (fun z => by cases z)
theorem opD_is : OpR X (compareOp .Is) (rD X.K dIs) := by
  intro pins s σ H x y v u Q I rx ry h
  obtain ⟨O, d, e, th, r1, r2, h⟩ := h
  unfold dIs at h
  split at h
  · cases r2
    exact op_isN pins s σ H _ _ v u Q I rx ry ⟨rfl, by rw [r1.isNon]; exact h.now (.bl _)⟩
  · exact h.elim
theorem opD_isNot : OpR X (compareOp .IsNot) (rD X.K dIsNot) := by
  intro pins s σ H x y v u Q I rx ry h
  obtain ⟨O, d, e, th, r1, r2, h⟩ := h
  unfold dIsNot at h
  split at h
  · cases r2
    exact op_notN pins s σ H _ _ v u Q I rx ry ⟨rfl, by rw [r1.isNon]; exact h.now (.bl _)⟩
  · exact h.elim
end
end JK

/-! Lay3 -/
set_option Elab.async false
set_option linter.all false
set_option maxRecDepth 100000
set_option autoImplicit false
namespace JK
open PySem PySem.Spec PyProof.Rows L2
section
variable {X : Cx} {W : WX}
/-! ### in, not in -/
def strIn (x z : Str) : Bool := !(Builtin.Str.occurrences z x 0 z.length 1).isEmpty
def dIn : D → D → R D
  | .str x, .str z => .ok (.bl (strIn x z))
  | d, .lst xs => if d.dep ≤ 50 ∧ d.flat = true ∧ D.flatL xs = true then .ok (.bl (xs.any fun y => deq y d)) else .no
  | d, .tup xs => if d.dep ≤ 50 ∧ d.flat = true ∧ D.flatL xs = true then .ok (.bl (xs.any fun y => deq y d)) else .no
  | _, _ => .no
def rNot : R D → R D
  | .ok (.bl b) => .ok (.bl (!b))
  | .ok _ => .no
  | .no => .no
  | .ex x => .ex x
def dNotIn (a b : D) : R D := rNot (dIn a b)
theorem dIn_nx (d e : D) : NoEx (dIn d e) := fun x h => by
  unfold dIn at h
  split at h <;> first | (split at h <;> cases h) | cases h
theorem dNotIn_nx (d e : D) : NoEx (dNotIn d e) := fun x h => by
  unfold dNotIn dIn at h
  split at h <;> first | (split at h <;> cases h) | cases h
theorem any_pyL (d : D) : ∀ xs : List D, ((D.pyL xs).any fun y => PyData.eqv y d.py) = xs.any fun y => deq y d
  | [] => rfl
  | x :: xs => by rw [D.pyL, List.any_cons, List.any_cons, any_pyL d xs]; rfl
theorem opD_in (hu : X.A.units + 64 < cLine) : OpR X (compareOp .In) (rD X.K dIn) := by
  intro pins s σ H x y v u Q I rx ry h
  obtain ⟨O, d, e, th, r1, r2, h⟩ := h
  unfold dIn at h
  split at h
  · cases r1; cases r2
    exact op_in_str pins s σ H _ _ v u Q I rx ry ⟨_, _, rfl, rfl, h.now (.bl _)⟩
  · split at h
    · rename_i ds hz
      obtain ⟨as, q1⟩ := Dp.reads I d.py x v (r1.up.dp hz.2.1) rx
      obtain ⟨bs, q2⟩ := Dp.reads I (D.lst ds).py y u (r2.up.dp hz.2.2) ry
      rw [D.py] at q2
      exact SeqAt.in_list_data q2 q1 (D.layL_py ds) (D.lay_py d) (by rw [D.dep_py]; omega) (by rw [any_pyL]; exact ⟨.bl _, H, I, rfl, h.now (.bl _)⟩)
    · exact h.elim
  · split at h
    · rename_i ds hz
      obtain ⟨as, q1⟩ := Dp.reads I d.py x v (r1.up.dp hz.2.1) rx
      obtain ⟨bs, q2⟩ := Dp.reads I (D.tup ds).py y u (r2.up.dp hz.2.2) ry
      rw [D.py] at q2
      exact SeqAt.in_tuple_data q2 q1 (D.layL_py ds) (D.lay_py d) (by rw [D.dep_py]; omega) (by rw [any_pyL]; exact ⟨.bl _, H, I, rfl, h.now (.bl _)⟩)
    · exact h.elim
  · exact h.elim
theorem opD_notIn (hu : X.A.units + 64 < cLine) : OpR X (compareOp .NotIn) (rD X.K dNotIn) := by
  intro pins s σ H x y v u Q I rx ry h
  obtain ⟨O, d, e, th, r1, r2, h⟩ := h
  unfold dNotIn dIn at h
  split at h
  · cases r1; cases r2
    exact op_notin_str pins s σ H _ _ v u Q I rx ry ⟨_, _, rfl, rfl, h.now (.bl _)⟩
  · split at h
    · rename_i ds hz
      obtain ⟨as, q1⟩ := Dp.reads I d.py x v (r1.up.dp hz.2.1) rx
      obtain ⟨bs, q2⟩ := Dp.reads I (D.lst ds).py y u (r2.up.dp hz.2.2) ry
      rw [D.py] at q2
      exact SeqAt.notIn_list_data q2 q1 (D.layL_py ds) (D.lay_py d) (by rw [D.dep_py]; omega) (by rw [any_pyL]; exact ⟨.bl _, H, I, rfl, h.now (.bl _)⟩)
    · exact h.elim
  · split at h
    · rename_i ds hz
      obtain ⟨as, q1⟩ := Dp.reads I d.py x v (r1.up.dp hz.2.1) rx
      obtain ⟨bs, q2⟩ := Dp.reads I (D.tup ds).py y u (r2.up.dp hz.2.2) ry
      rw [D.py] at q2
      exact SeqAt.notIn_tuple_data q2 q1 (D.layL_py ds) (D.lay_py d) (by rw [D.dep_py]; omega) (by rw [any_pyL]; exact ⟨.bl _, H, I, rfl, h.now (.bl _)⟩)
    · exact h.elim
  · exact h.elim

/-! ### truth, tests -/
def dTru : D → R Bool
  | .non => .ok false
  | .bl b => .ok b
  | .int i => .ok (i != 0)
  | .str x => if x.length ≤ sizeLine then .ok (x.length != 0) else .no
  | .lst xs => .ok (!xs.isEmpty)
  | .tup xs => .ok (!xs.isEmpty)
  | .scr ns => .ok (!ns.isEmpty)
  | .box _ _ => .no
theorem RepL.empty {K : PySem.W.Frag} {H : Hp} {vs : List V} {ds : List D} (r : RepL K H vs ds) : (!ds.isEmpty) = !vs.isEmpty := by
  cases r <;> rfl
theorem tru_of {K : PySem.W.Frag} {O : List Addr} {H : Hp} {v : V} {d : D} {b : Bool} (r : Rep K (hide O H) v d) (e : dTru d = .ok b) : TruV K v H b := by
  cases r with
  | non => cases e; rfl
  | bl b => cases e; rfl
  | int i => cases e; rfl
  | str x =>
    unfold dTru at e
    dsimp only at e
    split at e
    · cases e
      refine ⟨by assumption, ?_⟩
      cases h : x.length with
      | zero => rfl
      | succ n => show (n + 1 != 0) = (((n + 1 : Nat) : Int) != 0); simp; omega
    · cases e
  | lst h r =>
    cases e
    exact .inl ⟨_, SqL.of (same_hide _ _ h), r.empty⟩
  | tup h r =>
    cases e
    exact .inr (.inl ⟨_, SqT.out h, r.empty⟩)
  | box => cases e
  | scr h =>
    cases e
    refine .inl ⟨_, same_hide.seq h, ?_⟩
    rename_i ns
    cases ns <;> rfl
def tTru (a : Ex) : Tx := fun ρ => (a ρ).bnd dTru
/-- a value as a test, by its truth -/
theorem st_val {e : Expr} {fa : Ex} (ha : SE X W e fa) (he : ∀ whole, isTrue e X.env whole = (do let v ← whole; standAt e.pos; holding [v] (truthy v)) := by intro _; rfl) : ST X W e (tTru fa) := by
  refine PT.weak (pt_truth ha he) fun σ H Q ⟨fm, O, ρ, en, h⟩ => ?_
  refine ⟨fm, O, ρ, en, (PostT.ofD h).imp fun v H1 s1 ⟨_, d, r1, h1⟩ => ?_⟩
  cases e : dTru d with
  | no => rw [e] at h1; exact h1.elim
  | ex x =>
    exfalso
    unfold dTru at e
    split at e <;> first | (split at e <;> cases e) | cases e
  | ok b =>
    rw [e] at h1
    exact ⟨b, tru_of r1 e, h1 H1 (Same.refl _)⟩
def tAndD (a b : Tx) : Tx := fun ρ => (a ρ).bnd fun x => if x = true then b ρ else .ok false
def tOrD (a b : Tx) : Tx := fun ρ => (a ρ).bnd fun x => if x = true then .ok true else b ρ
def tNotD (a : Tx) : Tx := fun ρ => (a ρ).bnd fun x => .ok (!x)
theorem sw_and1 {a : Expr} {fa : Tx} {pos : Pos} (ha : ST X W a fa) : SW X W (.BoolOp .And [a] pos) fa := pw_and1 ha
theorem sw_or1 {a : Expr} {fa : Tx} {pos : Pos} (ha : ST X W a fa) : SW X W (.BoolOp .Or [a] pos) fa := pw_or1 ha
theorem sw_and {a b : Expr} {rest : List Expr} {fa fb : Tx} {pos : Pos} (ha : ST X W a fa) (hb : SW X W (.BoolOp .And (b :: rest) pos) fb) : SW X W (.BoolOp .And (a :: b :: rest) pos) (tAndD fa fb) := by
  refine PW.weak (pw_and ha hb) fun σ H Q ⟨fm, O, ρ, en, h⟩ => ?_
  refine ⟨fm, O, ρ, en, (PostT.bnd h).imp fun c H1 s1 ⟨_, h1⟩ => ?_⟩
  cases c with
  | true => exact ⟨fm, O, ρ, en.mono s1, h1⟩
  | false => exact h1 H1 (Same.refl _)
theorem sw_or {a b : Expr} {rest : List Expr} {fa fb : Tx} {pos : Pos} (ha : ST X W a fa) (hb : SW X W (.BoolOp .Or (b :: rest) pos) fb) : SW X W (.BoolOp .Or (a :: b :: rest) pos) (tOrD fa fb) := by
  refine PW.weak (pw_or ha hb) fun σ H Q ⟨fm, O, ρ, en, h⟩ => ?_
  refine ⟨fm, O, ρ, en, (PostT.bnd h).imp fun c H1 s1 ⟨_, h1⟩ => ?_⟩
  cases c with
  | true => exact h1 H1 (Same.refl _)
  | false => exact ⟨fm, O, ρ, en.mono s1, h1⟩
theorem st_w {a : Expr} {fa : Tx} (h : SW X W a fa) : ST X W a fa := PW.pt h
theorem st_not {a : Expr} {fa : Tx} {pos : Pos} (ha : ST X W a fa) : ST X W (.UnaryOp .Not a pos) (tNotD fa) := by
  refine PT.weak (pt_not ha) fun σ H Q ⟨fm, O, ρ, en, h⟩ => ?_
  exact ⟨fm, O, ρ, en, (PostT.bnd h).imp fun c H1 s1 ⟨_, h1⟩ => h1 H1 (Same.refl _)⟩
/-! ### and, or, not as values -/
def eAnd (a b : Ex) : Ex := fun ρ => (a ρ).bnd fun x => (dBl x).bnd fun k => if k = true then b ρ else .ok (.bl false)
def eOr (a b : Ex) : Ex := fun ρ => (a ρ).bnd fun x => (dBl x).bnd fun k => if k = true then .ok (.bl true) else b ρ
def eNot (a : Ex) : Ex := fun ρ => (a ρ).bnd fun x => (dTru x).bnd fun k => .ok (.bl (!k))
theorem rep_bl {K : PySem.W.Frag} {H : Hp} {v : V} {d : D} {b : Bool} (r : Rep K H v d) (e : dBl d = .ok b) : v = .bl b := by
  cases r <;> first | (cases e; rfl) | cases e
theorem dBl_ex {d : D} {x : Exc} : dBl d ≠ .ex x := fun e => by
  unfold dBl at e
  split at e <;> cases e
theorem dTru_ex {d : D} {x : Exc} : dTru d ≠ .ex x := fun e => by
  unfold dTru at e
  split at e <;> first | (split at e <;> cases e) | cases e
theorem se_one {op : BoolOp} {a : Expr} {fa : Ex} {pos : Pos} (ha : SE X W a fa) : SE X W (.BoolOp op [a] pos) fa := pe_one ha
theorem se_and {a b : Expr} {rest : List Expr} {fa fb : Ex} {pos : Pos} (ha : SE X W a fa) (hb : SE X W (.BoolOp .And (b :: rest) pos) fb) : SE X W (.BoolOp .And (a :: b :: rest) pos) (eAnd fa fb) := by
  refine PE.weak (pe_and ha hb) fun σ H Q ⟨fm, O, ρ, en, h⟩ => ?_
  refine ⟨fm, O, ρ, en, (Post.bnd h).imp fun v H1 s1 ⟨_, d, r1, h1⟩ => ?_⟩
  cases e : dBl d with
  | no => rw [e] at h1; exact h1.elim
  | ex x => exact (dBl_ex e).elim
  | ok b =>
    rw [e] at h1
    refine ⟨b, rep_bl r1 e, ?_⟩
    cases b with
    | true => exact ⟨fm, O, ρ, en.mono s1, h1⟩
    | false => exact h1 _ H1 (Same.refl _) (.bl _)
theorem se_or {a b : Expr} {rest : List Expr} {fa fb : Ex} {pos : Pos} (ha : SE X W a fa) (hb : SE X W (.BoolOp .Or (b :: rest) pos) fb) : SE X W (.BoolOp .Or (a :: b :: rest) pos) (eOr fa fb) := by
  refine PE.weak (pe_or ha hb) fun σ H Q ⟨fm, O, ρ, en, h⟩ => ?_
  refine ⟨fm, O, ρ, en, (Post.bnd h).imp fun v H1 s1 ⟨_, d, r1, h1⟩ => ?_⟩
  cases e : dBl d with
  | no => rw [e] at h1; exact h1.elim
  | ex x => exact (dBl_ex e).elim
  | ok b =>
    rw [e] at h1
    refine ⟨b, rep_bl r1 e, ?_⟩
    cases b with
    | true => exact h1 _ H1 (Same.refl _) (.bl _)
    | false => exact ⟨fm, O, ρ, en.mono s1, h1⟩
theorem se_not {a : Expr} {fa : Ex} {pos : Pos} (ha : SE X W a fa) : SE X W (.UnaryOp .Not a pos) (eNot fa) := by
  refine PE.weak (pe_notT ha) fun σ H Q ⟨fm, O, ρ, en, h⟩ => ?_
  refine ⟨fm, O, ρ, en, (Post.bnd h).imp fun v H1 s1 ⟨_, d, r1, h1⟩ => ?_⟩
  cases e : dTru d with
  | no => rw [e] at h1; exact h1.elim
  | ex x => exact (dTru_ex e).elim
  | ok b =>
    rw [e] at h1
    exact ⟨b, tru_of r1 e, h1 _ H1 (Same.refl _) (.bl _)⟩
def dNeg : D → R D
  | .int i => .ok (.int (-i))
  | _ => .no
def eNeg (a : Ex) : Ex := fun ρ => (a ρ).bnd dNeg
theorem se_neg {a : Expr} {fa : Ex} {pos : Pos} (ha : SE X W a fa) : SE X W (.UnaryOp .USub a pos) (eNeg fa) := by
  refine PE.weak (pe_un un_neg ha) fun σ H Q ⟨fm, O, ρ, en, h⟩ => ?_
  refine ⟨fm, O, ρ, en, (Post.bnd h).imp fun v H1 s1 ⟨_, d, r1, h1⟩ => ?_⟩
  cases r1 with
  | int i => exact ⟨i, rfl, h1 _ H1 (Same.refl _) (.int _)⟩
  | non => exact h1.elim
  | bl => exact h1.elim
  | str => exact h1.elim
  | lst => exact h1.elim
  | tup => exact h1.elim
  | scr => exact h1.elim
  | box => exact h1.elim
/-- a if t else b -/
def eIf (t : Tx) (a b : Ex) : Ex := fun ρ => (t ρ).bnd fun k => if k = true then a ρ else b ρ
theorem se_if {c a b : Expr} {t : Tx} {fa fb : Ex} {pos : Pos} (hc : ST X W c t) (ha : SE X W a fa) (hb : SE X W b fb) : SE X W (.IfExp c a b pos) (eIf t fa fb) := by
  refine PE.weak (pe_ifExp hc ha hb) fun σ H Q ⟨fm, O, ρ, en, h⟩ => ?_
  refine ⟨fm, O, ρ, en, (Post.ofT h).imp fun k H1 s1 ⟨_, h1⟩ => ?_⟩
  cases k with
  | true => exact ⟨fm, O, ρ, en.mono s1, h1⟩
  | false => exact ⟨fm, O, ρ, en.mono s1, h1⟩
/-- a op b op' c -/
def eChain (g g' : D → D → R D) (a b c : Ex) : Ex := fun ρ => (a ρ).bnd fun x => (b ρ).bnd fun y => (g x y).bnd fun k => (dBl k).bnd fun k => if k = true then (c ρ).bnd fun z => g' y z else .ok (.bl false)
theorem chain_read {g g' : D → D → R D} (hn : ∀ d e, NoEx (g d e)) (hn' : ∀ d e, NoEx (g' d e)) {mg : Str → Option Value} {K : PySem.W.Frag} {fa fb fc : Ex} {σ : L2.St} {H : Hp} {Q : VK} (h : tD mg K W (eChain g g' fa fb fc) σ H Q) :
    tChain (rD K g) (rD K g') (tD mg K W fa) (tD mg K W fb) (tD mg K W fc) σ H Q := by
  obtain ⟨fm, O, ρ, en, h⟩ := h
  refine ⟨fm, O, ρ, en, (Post.bnd h).imp fun v H1 s1 ⟨_, d, r1, h1⟩ => ?_⟩
  refine ⟨fm, O, ρ, en.mono s1, (Post.bnd h1).imp fun u H2 s2 ⟨_, e, r2, h2⟩ => ?_⟩
  refine ⟨O, d, e, ((en.mono s1).mono s2).there, r1.mono (Same.hide s2), r2, (PostV.of (hn d e) (Post.bnd h2)).imp fun z H3 s3 ⟨_, k, r3, h3⟩ => ?_⟩
  cases q : dBl k with
  | no => rw [q] at h3; exact h3.elim
  | ex x => exact (dBl_ex q).elim
  | ok b =>
    rw [q] at h3
    refine ⟨b, rep_bl r3 q, ?_⟩
    cases b with
    | true =>
      have en3 := ((en.mono s1).mono s2).mono s3
      refine ⟨fm, O, ρ, en3, (Post.bnd h3).imp fun w H4 s4 ⟨_, c, r4, h4⟩ => ?_⟩
      exact ⟨O, e, c, (en3.mono s4).there, (r2.mono (Same.hide s3)).mono (Same.hide s4), r4, PostV.of (hn' e c) h4⟩
    | false => exact h3 _ H3 (Same.refl _) (.bl _)
theorem se_chain {op op' : CmpOp} {g g' : D → D → R D} {a b c : Expr} {fa fb fc : Ex} {pos : Pos} (ho : OpR X (compareOp op) (rD X.K g)) (ho' : OpR X (compareOp op') (rD X.K g')) (hn : ∀ d e, NoEx (g d e)) (hn' : ∀ d e, NoEx (g' d e))
    (ha : SE X W a fa) (hb : SE X W b fb) (hc : SE X W c fc) (hm : lastMarks [op, op'] [b, c] = false := by with_unfolding_all rfl) : SE X W (.Compare a [op, op'] [b, c] pos) (eChain g g' fa fb fc) :=
  PE.weak (pe_chain ho ho' ha hb hc hm) fun _ _ _ h => chain_read hn hn' h
theorem tTest_of {mg : Str → Option Value} {K : PySem.W.Frag} {fa : Ex} {σ : L2.St} {H : Hp} {Q : Bool → Hp → Prop} (h : tDT mg K W (tOf fa) σ H Q) : tD mg K W fa σ H (fun x H' => ∃ k, x = .bl k ∧ Q k H') := test_read h
theorem st_chain {op op' : CmpOp} {g g' : D → D → R D} {a b c : Expr} {fa fb fc : Ex} {pos : Pos} (ho : OpR X (compareOp op) (rD X.K g)) (ho' : OpR X (compareOp op') (rD X.K g')) (hn : ∀ d e, NoEx (g d e)) (hn' : ∀ d e, NoEx (g' d e))
    (ha : SE X W a fa) (hb : SE X W b fb) (hc : SE X W c fc) (hm : lastMarks [op, op'] [b, c] = false := by with_unfolding_all rfl) : ST X W (.Compare a [op, op'] [b, c] pos) (tOf (eChain g g' fa fb fc)) :=
  PT.weak (pt_chain ho ho' ha hb hc hm) fun _ _ _ h => chain_read hn hn' (tTest_of h)
/-! ### arguments, displays -/
def aNil : Ax := fun _ => .ok []
def aCons (a : Ex) (r : Ax) : Ax := fun ρ => (a ρ).bnd fun x => (r ρ).bnd fun xs => .ok (x :: xs)
/-- arguments, with their number -/
structure SAs (X : Cx) (W : WX) (es : List Expr) (f : Ax) : Prop where
  pa : SA X W es f
  len : ∀ ρ ds, f ρ = .ok ds → ds.length = es.length
theorem sa_nil : SAs X W [] aNil := ⟨PA.weak pa_nil fun σ H Q ⟨fm, O, ρ, en, h⟩ => h [] H (Same.refl _) .nil, fun ρ ds e => by cases e; rfl⟩
theorem sa_cons {e : Expr} {es : List Expr} {a : Ex} {r : Ax} (ha : SE X W e a) (hr : SAs X W es r) (hs : starEach (e :: es) X.env = (false, eval e X.env) :: starEach es X.env := by rfl) : SAs X W (e :: es) (aCons a r) := by
  refine ⟨PA.weak (pa_cons ha hr.pa hs) fun σ H Q ⟨fm, O, ρ, en, h⟩ => ?_, fun ρ ds q => ?_⟩
  · refine ⟨fm, O, ρ, en, (PostA.ofD h).imp fun v H1 s1 ⟨_, d, r1, h1⟩ => ?_⟩
    refine ⟨fm, O, ρ, en.mono s1, (PostA.bnd h1).imp fun vs H2 s2 ⟨_, ds, r2, h2⟩ => ?_⟩
    exact h2 _ H2 (Same.refl _) (.cons (r1.mono (Same.hide s2)) r2)
  · unfold aCons at q
    cases e1 : a ρ with
    | no => rw [e1] at q; cases q
    | ex x => rw [e1] at q; cases q
    | ok d =>
      rw [e1, R.bnd_ok] at q
      cases e2 : r ρ with
      | no => rw [e2] at q; cases q
      | ex x => rw [e2] at q; cases q
      | ok ds2 =>
        rw [e2, R.bnd_ok] at q
        cases q
        rw [List.length_cons, List.length_cons, hr.len ρ ds2 e2]
def eTup (f : Ax) : Ex := fun ρ => (f ρ).bnd fun ds => .ok (.tup ds)
def eLst (f : Ax) : Ex := fun ρ => (f ρ).bnd fun ds => .ok (.lst ds)
/-- a new list: read as fresh -/
def PostF (mg : Str → Option Value) (K : PySem.W.Frag) (O : List Addr) (σ : L2.St) (H : Hp) (W : WX) (Q : VK) : R (List D) → Prop
  | .ok ds => ∀ p H' vs, Same H H' → H p = none → H' p = some (.lst vs) → RepL K (hide (p :: O) H') vs ds → Q (.ref p) H'
  | .ex x => ∀ H' cls dd, Same H H' → ExcR mg K O H' x cls dd → W cls dd σ H'
  | .no => False
def tDF (mg : Str → Option Value) (K : PySem.W.Frag) (W : WX) (f : Ax) : TE := fun σ H Q => ∃ fm O ρ, EnvR K fm O H σ ρ ∧ PostF mg K O σ H W Q (f ρ)
/-- e makes a new list of what f tells -/
def SF (X : Cx) (W : WX) (e : Expr) (f : Ax) : Prop := PE X e (tDF X.mg X.K W f)
theorem hide_cons {O : List Addr} {H : Hp} {p : Addr} : Same (hide (p :: O) H) (hide O H) := fun a o h => by
  obtain ⟨h1, h2⟩ := hide_sub h
  exact hide_of h2 fun z => h1 (List.mem_cons_of_mem _ z)
theorem SF.se {e : Expr} {f : Ax} (h : SF X W e f) : SE X W e (eLst f) := by
  refine PE.weak h fun σ H Q ⟨fm, O, ρ, en, h⟩ => ?_
  refine ⟨fm, O, ρ, en, ?_⟩
  unfold eLst at h
  cases e1 : f ρ with
  | no => rw [e1] at h; exact h
  | ex x => rw [e1] at h; exact h
  | ok ds =>
    rw [e1] at h
    intro p H' vs s hp hq r
    exact h _ H' s (.lst (hide_of hq (new_out en.there hp)) (r.mono hide_cons))
theorem hide_new {O : List Addr} {H : Hp} {p : Addr} {o : HO} (hp : H p = none) : Same (hide O H) (hide (p :: O) (upd H p o)) := fun a u h => by
  obtain ⟨h1, h2⟩ := hide_sub h
  have ne : a ≠ p := ne_of_none h2 hp
  exact hide_of (by rw [upd_ne ne]; exact h2) (by simp only [List.mem_cons, not_or]; exact ⟨ne, h1⟩)
theorem PostF.ofA {mg : Str → Option Value} {K : PySem.W.Frag} {O : List Addr} {σ : L2.St} {H : Hp} {Q : VK} {r : R (List D)} (h : PostF mg K O σ H W Q r) :
    PostA mg K O σ H W (fun vs H1 => ∀ p, H1 p = none → Q (.ref p) (upd H1 p (.lst vs))) r := by
  cases r with
  | no => exact h
  | ex x => exact h
  | ok ds =>
    intro vs H1 s q p hp
    have hp0 : H p = none := s.free hp
    exact h p _ vs (s.trans (same_new hp)) hp0 upd_same (q.mono (hide_new hp))
theorem sf_lst {es : List Expr} {f : Ax} {pos : Pos} (h : SAs X W es f) (hn : es.length ≤ 1000 := by decide) : SF X W (.List es pos) f := by
  refine PE.weak (pe_lst h.pa) fun σ H Q ⟨fm, O, ρ, en, q⟩ => ?_
  have hl : ∀ ds, f ρ = .ok ds → ds.length ≤ sizeLine := fun ds e => by
    have h1 := h.len ρ ds e
    have h2 : (1000 : Nat) ≤ sizeLine := by decide
    omega
  refine ⟨fm, O, ρ, en, ?_⟩
  have q' := PostF.ofA q
  cases e1 : f ρ with
  | no => rw [e1] at q'; exact q'
  | ex x => rw [e1] at q'; exact q'
  | ok ds =>
    rw [e1] at q'
    exact fun vs H1 s r => ⟨by rw [r.length]; exact hl ds e1, q' vs H1 s r⟩
theorem se_lst {es : List Expr} {f : Ax} {pos : Pos} (h : SAs X W es f) (hn : es.length ≤ 1000 := by decide) : SE X W (.List es pos) (eLst f) := (sf_lst h hn).se
theorem se_tup {es : List Expr} {f : Ax} {k : Nat} {pos : Pos} (h : SAs X W es f) (hn : es.length ≤ 1000 := by decide) : SE X W (.Tuple es k pos) (eTup f) := by
  refine PE.weak (pe_tup h.pa) fun σ H Q ⟨fm, O, ρ, en, q⟩ => ?_
  have hl : ∀ ds, f ρ = .ok ds → ds.length ≤ sizeLine := fun ds e => by
    have h1 := h.len ρ ds e
    have h2 : (1000 : Nat) ≤ sizeLine := by decide
    omega
  refine ⟨fm, O, ρ, en, ?_⟩
  unfold eTup at q
  cases e1 : f ρ with
  | no => rw [e1] at q; exact q
  | ex x => rw [e1] at q; exact q
  | ok ds =>
    rw [e1] at q
    refine fun vs H1 s r => ⟨by rw [r.length]; exact hl ds e1, fun p hp => ?_⟩
    exact q _ _ (s.trans (same_new hp)) (.tup (SqT.of (hide_of upd_same (new_out (en.mono s).there hp))) (r.mono (Same.hide (same_new hp))))
/-- the sum of two lists is new -/
def dCat : D → D → R (List D)
  | .lst xs, .lst ys => if xs.length + ys.length ≤ sizeLine then .ok (xs ++ ys) else .no
  | _, _ => .no
def aCat (a b : Ex) : Ax := fun ρ => (a ρ).bnd fun x => (b ρ).bnd fun y => dCat x y
theorem PostF.ofD {mg : Str → Option Value} {K : PySem.W.Frag} {O : List Addr} {σ : L2.St} {H : Hp} {Q : VK} {r : R D} {k : D → R (List D)} (h : PostF mg K O σ H W Q (r.bnd k)) :
    Post mg K O σ H W (fun v H1 => Same H H1 ∧ ∃ d, Rep K (hide O H1) v d ∧ PostF mg K O σ H1 W Q (k d)) r := by
  cases r with
  | no => exact h
  | ex x => exact h
  | ok d =>
    intro v H1 s q
    refine ⟨s, d, q, ?_⟩
    have h' : PostF mg K O σ H W Q (k d) := h
    cases e : k d with
    | no => rw [e] at h'; exact h'
    | ok d2 => rw [e] at h'; exact fun p H2 vs s2 hp hq r => h' p H2 vs (s.trans s2) (s.free hp) hq r
    | ex x => rw [e] at h'; exact fun H2 cls dd s2 q2 => h' H2 cls dd (s.trans s2) q2
theorem sf_cat {a b : Expr} {fa fb : Ex} {pos : Pos} (ha : SE X W a fa) (hb : SE X W b fb) : SF X W (.BinOp a .Add b pos) (aCat fa fb) := by
  refine PE.weak (pe_op op_cat ha hb) fun σ H Q ⟨fm, O, ρ, en, h⟩ => ?_
  refine ⟨fm, O, ρ, en, (PostF.ofD h).imp fun v H1 s1 ⟨_, d, r1, h1⟩ => ?_⟩
  refine ⟨fm, O, ρ, en.mono s1, (PostF.ofD h1).imp fun u H2 s2 ⟨_, e, r2, h2⟩ => ?_⟩
  unfold dCat at h2
  split at h2
  · split at h2
    · rename_i hz
      cases r1 with
      | lst e1 l1 =>
        cases r2 with
        | lst e2 l2 =>
          refine ⟨_, _, _, _, rfl, rfl, s2 _ _ (same_hide _ _ e1), same_hide _ _ e2, by rw [l1.length, l2.length]; exact hz, fun p hp => ?_⟩
          exact h2 p _ _ (same_new hp) hp upd_same (((l1.mono (Same.hide s2)).append l2).mono (hide_new hp))
    · exact h2.elim
  · exact h2.elim
/-! ### places -/
def dIx : D → D → R D
  | .lst xs, .int i => match atI xs i with
    | some d => .ok d
    | none => .no
  | .tup xs, .int i => match atI xs i with
    | some d => .ok d
    | none => .no
  | .scr ns, .int i => match atI ns i with
    | some d => .ok (.int d)
    | none => .no
  | .str z, .int i => if z.length ≤ sizeLine then match atI z.cps.toList i with
    | some c => .ok (.str ⟨#[c]⟩)
    | none => .no else .no
  | _, _ => .no
theorem RepL.atI {K : PySem.W.Frag} {H : Hp} {vs : List V} {ds : List D} {i : Int} {d : D} (r : RepL K H vs ds) (e : L2.atI ds i = some d) : ∃ v, L2.atI vs i = some v ∧ Rep K H v d := by
  unfold L2.atI at e ⊢
  rw [r.length]
  cases h : ixN ds.length i with
  | none => rw [h] at e; cases e
  | some j =>
    rw [h] at e
    obtain ⟨v, h1, h2⟩ := r.get (i := j) (d := d) e
    exact ⟨v, h1, h2⟩
theorem atI_map {α β : Type} (f : α → β) (xs : List α) (i : Int) : L2.atI (xs.map f) i = (L2.atI xs i).map f := by
  unfold L2.atI
  rw [List.length_map]
  cases h : ixN xs.length i with
  | none => rfl
  | some j => simp
theorem dIx_nx (d e : D) : NoEx (dIx d e) := fun x h => by
  unfold dIx at h
  split at h <;> first | (split at h <;> first | (split at h <;> cases h) | cases h) | cases h
theorem ixD : IxR X (rD X.K dIx) := by
  intro value slice pins s σ H x y v u Q I rx ry h hs
  obtain ⟨O, d, e, th, r1, r2, h⟩ := h
  unfold dIx at h
  split at h
  · cases r2
    split at h
    · rename_i xs i d e1
      cases r1 with
      | lst e2 l2 =>
        obtain ⟨w, h1, h2⟩ := RepL.atI l2 e1
        exact ix_list value slice pins s σ H _ _ v u Q I rx ry ⟨_, _, _, _, rfl, rfl, SqL.of (same_hide _ _ e2), h1, h.now h2⟩ hs
    · exact h.elim
  · cases r2
    split at h
    · rename_i xs i d e1
      cases r1 with
      | tup e2 l2 =>
        obtain ⟨w, h1, h2⟩ := RepL.atI l2 e1
        exact ix_tup value slice pins s σ H _ _ v u Q I rx ry ⟨_, _, _, _, rfl, rfl, SqT.out e2, h1, h.now h2⟩ hs
    · exact h.elim
  · cases r2
    split at h
    · rename_i ns i d e1
      cases r1 with
      | scr e2 =>
        exact ix_list value slice pins s σ H _ _ v u Q I rx ry ⟨_, _, _, _, rfl, rfl, same_hide.seq e2, by rw [atI_map, e1]; rfl, h.now (.int _)⟩ hs
    · exact h.elim
  · cases r2
    split at h
    · split at h
      · cases r1
        exact ix_str value slice pins s σ H _ _ v u Q I rx ry ⟨_, _, _, rfl, rfl, by assumption, by assumption, h.now (.str _)⟩ hs
      · exact h.elim
    · exact h.elim
  · exact h.elim
theorem se_ix {a b : Expr} {fa fb : Ex} {pos : Pos} (ha : SE X W a fa) (hb : SE X W b fb) (hs : PlainIx b := by intro _ _; rfl) : SE X W (.Subscript a b pos) (eBin dIx fa fb) :=
  PE.weak (pe_ix ixD ha hb hs) fun _ _ _ h => bin_read dIx_nx h
/-! ### slices -/
def cutL {α : Type} (xs : List α) (lo hi : Option Int) : List α := (xs.drop (HT.sIx xs.length 0 lo)).take (HT.sIx xs.length xs.length hi - HT.sIx xs.length 0 lo)
def dSl : D → Option Int → Option Int → R D
  | .lst xs, lo, hi => .ok (.lst (cutL xs lo hi))
  | .tup xs, lo, hi => .ok (.tup (cutL xs lo hi))
  | .str z, lo, hi => if z.length ≤ sizeLine then .ok (.str (cutS z lo hi)) else .no
  | _, _, _ => .no
theorem RepL.cut {K : PySem.W.Frag} {H : Hp} {vs : List V} {ds : List D} (r : RepL K H vs ds) (lo hi : Option Int) : RepL K H (cutV vs lo hi) (cutL ds lo hi) := by
  unfold cutV cutL
  rw [r.length]
  exact RepL.take _ (RepL.drop _ r)
theorem cutL_whole {α : Type} {xs : List α} {lo hi : Option Int} (h : HT.sIx xs.length 0 lo = 0 ∧ HT.sIx xs.length xs.length hi = xs.length) : cutL xs lo hi = xs := by
  unfold cutL
  rw [h.1, h.2, List.drop_zero, Nat.sub_zero, List.take_length]
/-- a bound of a slice -/
abbrev Ox := Env → R (Option Int)
def oNone : Ox := fun _ => .ok none
def dInt : D → R (Option Int)
  | .int i => .ok (some i)
  | _ => .no
def oSome (a : Ex) : Ox := fun ρ => (a ρ).bnd dInt
def PostO (mg : Str → Option Value) (K : PySem.W.Frag) (O : List Addr) (σ : L2.St) (H : Hp) (W : WX) (Q : Option Int → Hp → Prop) : R (Option Int) → Prop
  | .ok b => ∀ H', Same H H' → Q b H'
  | .ex x => ∀ H' cls dd, Same H H' → ExcR mg K O H' x cls dd → W cls dd σ H'
  | .no => False
def tDO (mg : Str → Option Value) (K : PySem.W.Frag) (W : WX) (f : Ox) : TO := fun σ H Q => ∃ fm O ρ, EnvR K fm O H σ ρ ∧ PostO mg K O σ H W Q (f ρ)
def SO (X : Cx) (W : WX) (e : Option Expr) (f : Ox) : Prop := PO X e (tDO X.mg X.K W f)
theorem PO.weak {X : Cx} {e : Option Expr} {t t' : TO} (h : PO X e t) (k : ∀ σ H Q, t' σ H Q → t σ H Q) : PO X e t' := ⟨fun pins s σ H Q I hw => h.run pins s σ H Q I (k σ H Q hw)⟩
theorem so_none : SO X W none oNone := PO.weak po_none fun σ H Q ⟨fm, O, ρ, en, h⟩ => h H (Same.refl _)
theorem so_some {e : Expr} {fa : Ex} (ha : SE X W e fa) : SO X W (some e) (oSome fa) := by
  refine PO.weak (po_some ha) fun σ H Q ⟨fm, O, ρ, en, h⟩ => ?_
  refine ⟨fm, O, ρ, en, ?_⟩
  unfold oSome at h
  cases e1 : fa ρ with
  | no => rw [e1] at h; exact h
  | ex x => rw [e1] at h; exact h
  | ok d =>
    rw [e1, R.bnd_ok] at h
    intro v H1 s r
    cases r with
    | int i => exact ⟨i, rfl, h H1 s⟩
    | non => exact h.elim
    | bl => exact h.elim
    | str => exact h.elim
    | lst => exact h.elim
    | tup => exact h.elim
    | scr => exact h.elim
    | box => exact h.elim
def eSl (a : Ex) (lo hi : Ox) : Ex := fun ρ => (a ρ).bnd fun x => (lo ρ).bnd fun l => (hi ρ).bnd fun h => dSl x l h
def rSlD (K : PySem.W.Frag) : V → Option Int → Option Int → Hp → VK → Prop := fun x lo hi H Q => ∃ O d, (∀ a ∈ O, H a ≠ none) ∧ Rep K (hide O H) x d ∧ PostV K O H Q (dSl d lo hi)
theorem slD : SlR X (rSlD X.K) := by
  intro pins s σ H x v vl vu lo hi sl Q I rx hs pl pu h
  obtain ⟨O, d, th, r1, h⟩ := h
  unfold dSl at h
  split at h
  · cases r1 with
    | lst e1 l1 => exact sl_list pins s σ H _ v vl vu _ _ sl Q I rx hs pl pu ⟨_, _, rfl, SqL.of (same_hide _ _ e1), fun p hp => h.lst th (l1.cut _ _) hp⟩
  · cases r1 with
    | tup e1 l1 =>
      refine sl_tupA pins s σ H _ v vl vu _ _ sl Q I rx hs pl pu ⟨_, _, rfl, SqT.out e1, fun z => ?_, fun _ p hp => h.tup th (l1.cut _ _) hp⟩
      rw [l1.length] at z
      rw [cutL_whole z] at h
      exact h.now (.tup e1 l1)
  · split at h
    · cases r1
      exact sl_str pins s σ H _ v vl vu _ _ sl Q I rx hs pl pu ⟨_, rfl, by assumption, h.now (.str _)⟩
    · exact h.elim
  · exact h.elim
theorem dSl_nx (d : D) (lo hi : Option Int) : NoEx (dSl d lo hi) := fun x h => by
  unfold dSl at h
  split at h <;> first | (split at h <;> cases h) | cases h
theorem Post.ofO {mg : Str → Option Value} {K : PySem.W.Frag} {O : List Addr} {σ : L2.St} {H : Hp} {Q : VK} {r : R (Option Int)} {k : Option Int → R D} (h : Post mg K O σ H W Q (r.bnd k)) : PostO mg K O σ H W (fun b H1 => Same H H1 ∧ Post mg K O σ H1 W Q (k b)) r := by
  cases r with
  | no => exact h
  | ex x => exact h
  | ok d =>
    intro H1 s
    refine ⟨s, ?_⟩
    have h' : Post mg K O σ H W Q (k d) := h
    cases e : k d with
    | no => rw [e] at h'; exact h'
    | ok d2 => rw [e] at h'; exact fun v H2 s2 q2 => h' v H2 (s.trans s2) q2
    | ex x => rw [e] at h'; exact fun H2 cls dd s2 q2 => h' H2 cls dd (s.trans s2) q2
theorem PostO.imp {mg : Str → Option Value} {K : PySem.W.Frag} {O : List Addr} {σ : L2.St} {H : Hp} {Q Q' : Option Int → Hp → Prop} {r : R (Option Int)} (h : PostO mg K O σ H W Q r) (k : ∀ v H', Same H H' → Q v H' → Q' v H') : PostO mg K O σ H W Q' r := by
  cases r with
  | no => exact h
  | ok d => exact fun H' s => k d H' s (h H' s)
  | ex x => exact h
theorem se_sl {a : Expr} {lo hi : Option Expr} {fa : Ex} {fl fh : Ox} {pos p2 : Pos} (ha : SE X W a fa) (hl : SO X W lo fl) (hh : SO X W hi fh) : SE X W (.Subscript a (.Slice lo hi none p2) pos) (eSl fa fl fh) := by
  refine PE.weak (pe_slice slD ha hl hh) fun σ H Q ⟨fm, O, ρ, en, h⟩ => ?_
  refine ⟨fm, O, ρ, en, (Post.bnd h).imp fun v H1 s1 ⟨_, d, r1, h1⟩ => ?_⟩
  refine ⟨fm, O, ρ, en.mono s1, (Post.ofO h1).imp fun l H2 s2 ⟨_, h2⟩ => ?_⟩
  refine ⟨fm, O, ρ, (en.mono s1).mono s2, (Post.ofO h2).imp fun u H3 s3 ⟨_, h3⟩ => ?_⟩
  exact ⟨O, d, (((en.mono s1).mono s2).mono s3).there, (r1.mono (Same.hide s2)).mono (Same.hide s3), PostV.of (dSl_nx _ _ _) h3⟩
end
end JK

/-! Lay4 -/
set_option Elab.async false
set_option linter.all false
set_option maxRecDepth 100000
set_option autoImplicit false
namespace JK
open PySem PySem.Spec PyProof.Rows L2
/-! ### own defs -/
/-- the promise: g tells what comes of n data -/
def spD (mg : Str → Option Value) (K : PySem.W.Frag) (n : Nat) (g : List D → R D) : Sp := fun vs H Q E => ∃ O ds, (∀ a ∈ O, H a ≠ none) ∧ RepL K (hide O H) vs ds ∧ ds.length = n ∧ Post mg K O [] H (fun cls dd _ H' => E cls dd H') Q (g ds)
/-- the module's def x does g -/
structure FnS (P : Program) (w : World) (K : PySem.W.Frag) (mg : Str → Option Value) (base : Heap) (k : Nat) (x : Str) (n : Nat) (g : List D → R D) : Prop where
  ex : ∃ (f : Addr) (fd : FuncData) (ps : List Str), FnOk P w K mg base (L2.CX P w) k f fd ps (spD mg K n g) ∧ mg x = some (.ref f) ∧ PySem.W.keepIn K (.ref f) = true ∧ Binds K fd ps []
def eCall (g : List D → R D) (f : Ax) : Ex := fun ρ => (f ρ).bnd g
section
variable {X : Cx} {W : WX}
theorem se_call {k n : Nat} {x : Str} {g : List D → R D} {e : Expr} {es : List Expr} {f : Ax} {p pos : Pos} (F : FnS X.prog X.w X.K X.mg X.base k x n g) (hr : Room k X.A) (hg : Gl X x) (tk : Takes X W) (ha : SAs X W (e :: es) f)
    (hn : (e :: es).length = n := by rfl) (hdb : (x == ("__debug__" : Str)) = false := by decide) (he : starEach (e :: es) X.env = (false, eval e X.env) :: starEach es X.env := by rfl) (hpl : (backTo pos (starEach es X.env)).any (·.1) = false := by rfl) :
    SE X W (.Call (.Name x p) (e :: es) [] pos) (eCall g f) := by
  obtain ⟨fa, fd, ps, F, hm, hk, hb⟩ := F.ex
  refine PE.weak (pe_callS F hr hg hm hk hb (fun σ => passAt tk σ) ha.pa hdb he hpl) fun σ H Q ⟨fm, O, ρ, en, h⟩ => ?_
  refine ⟨fm, O, ρ, en, ?_⟩
  have hl := ha.len ρ
  unfold eCall at h
  cases e1 : f ρ with
  | no => rw [e1] at h; exact h
  | ex x => rw [e1] at h; exact h
  | ok ds =>
    rw [e1, R.bnd_ok] at h
    intro vs H1 s r
    refine ⟨O, ds, (en.mono s).there, r, (hl ds e1).trans hn, ?_⟩
    cases q : g ds with
    | no => rw [q] at h; exact h
    | ok d => rw [q] at h; exact fun v H2 s2 r2 => h v H2 (s.trans s2) r2
    | ex x => rw [q] at h; exact fun H2 cls dd s2 q2 => h H2 cls dd (s.trans s2) q2
/-- f() -/
theorem se_call0 {k : Nat} {x : Str} {g : List D → R D} {p pos : Pos} (F : FnS X.prog X.w X.K X.mg X.base k x 0 g) (hr : Room k X.A) (hg : Gl X x) (hq : NoEx (g [])) (hdb : (x == ("__debug__" : Str)) = false := by decide) :
    SE X W (.Call (.Name x p) [] [] pos) (eCall g aNil) := by
  obtain ⟨fa, fd, ps, F, hm, hk, hb⟩ := F.ex
  refine PE.weak (pe_call0 (E := E0) F hr hg hm hk hb .nil passL hdb) fun σ H Q ⟨fm, O, ρ, en, h⟩ => ?_
  refine ⟨O, [], en.there, .nil, rfl, ?_⟩
  have h' : Post X.mg X.K O σ H W Q (g []) := h
  cases q : g [] with
  | no => rw [q] at h'; exact h'
  | ok d => rw [q] at h'; exact h'
  | ex x => exact (hq x q).elim
/-! ### built-ins -/
def rDs (K : PySem.W.Frag) (g : List D → R D) : List V → Hp → VK → Prop := fun vs H Q => ∃ O ds, (∀ a ∈ O, H a ≠ none) ∧ RepL K (hide O H) vs ds ∧ PostV K O H Q (g ds)
theorem blt_read {g : List D → R D} (hn : ∀ ds, NoEx (g ds)) {mg : Str → Option Value} {K : PySem.W.Frag} {f : Ax} {σ : L2.St} {H : Hp} {Q : VK} (h : tD mg K W (eCall g f) σ H Q) : tCB (rDs K g) (tDA mg K W f) σ H Q := by
  obtain ⟨fm, O, ρ, en, h⟩ := h
  exact ⟨fm, O, ρ, en, (Post.ofA h).imp fun vs H1 s1 ⟨_, ds, r, h1⟩ => ⟨O, ds, (en.mono s1).there, r, PostV.of (hn ds) h1⟩⟩
theorem se_blt {id : String} {x : Str} {g : List D → R D} {e : Expr} {es : List Expr} {f : Ax} {p pos : Pos} (hc : CallR X (.builtin id) (rDs X.K g)) (hn : ∀ ds, NoEx (g ds)) (hg : Gl X x) (hm : X.mg x = none) (hv : bootBuiltins x = some (.builtin id)) (ha : SAs X W (e :: es) f)
    (hx : x ≠ "__name__" := by decide) (hdb : (x == ("__debug__" : Str)) = false := by decide) (he : starEach (e :: es) X.env = (false, eval e X.env) :: starEach es X.env := by rfl) (hpl : (backTo pos (starEach es X.env)).any (·.1) = false := by rfl) :
    SE X W (.Call (.Name x p) (e :: es) [] pos) (eCall g f) := PE.weak (pe_callB hc hg hm hv ha.pa hx hdb he hpl) fun _ _ _ h => blt_read hn h
theorem se_ty {T : String} {x : Str} {g : List D → R D} {e : Expr} {es : List Expr} {f : Ax} {p pos : Pos} (hc : CallR X (.type T) (rDs X.K g)) (hn : ∀ ds, NoEx (g ds)) (hg : Gl X x) (hm : X.mg x = none) (hv : bootBuiltins x = some (.type T)) (ha : SAs X W (e :: es) f)
    (hx : x ≠ "__name__" := by decide) (hdb : (x == ("__debug__" : Str)) = false := by decide) (he : starEach (e :: es) X.env = (false, eval e X.env) :: starEach es X.env := by rfl) (hpl : (backTo pos (starEach es X.env)).any (·.1) = false := by rfl) :
    SE X W (.Call (.Name x p) (e :: es) [] pos) (eCall g f) := PE.weak (pe_callTy hc hg hm hv ha.pa hx hdb he hpl) fun _ _ _ h => blt_read hn h
theorem RepL.one {K : PySem.W.Frag} {H : Hp} {vs : List V} {d : D} (r : RepL K H vs [d]) : ∃ v, vs = [v] ∧ Rep K H v d := by
  cases r with
  | cons a b => cases b; exact ⟨_, rfl, a⟩
theorem RepL.two {K : PySem.W.Frag} {H : Hp} {vs : List V} {d e : D} (r : RepL K H vs [d, e]) : ∃ v u, vs = [v, u] ∧ Rep K H v d ∧ Rep K H u e := by
  cases r with
  | cons a b => obtain ⟨u, e, h⟩ := b.one; subst e; exact ⟨_, _, rfl, a, h⟩
/-- len -/
def dLen : List D → R D
  | [.str x] => if x.length ≤ sizeLine then .ok (.int x.length) else .no
  | [.lst xs] => .ok (.int xs.length)
  | [.tup xs] => .ok (.int xs.length)
  | [.scr xs] => .ok (.int xs.length)
  | _ => .no
theorem dLen_nx (ds : List D) : NoEx (dLen ds) := fun x h => by
  unfold dLen at h
  split at h <;> first | (split at h <;> cases h) | cases h
theorem cD_len : CallR X (.builtin "len") (rDs X.K dLen) := by
  intro pins s σ H vs us Q I rv h
  obtain ⟨O, ds, th, r, h⟩ := h
  unfold dLen at h
  split at h
  · split at h
    · obtain ⟨v, rfl, r1⟩ := r.one
      cases r1
      rename_i x hx
      exact call_len pins s σ H _ us Q I rv ⟨.str x, x.length, rfl, ⟨hx, rfl⟩, h.now (.int _)⟩
    · exact h.elim
  · obtain ⟨v, rfl, r1⟩ := r.one
    cases r1 with
    | lst e l => exact call_len pins s σ H _ us Q I rv ⟨_, _, rfl, .inl ⟨_, SqL.of (same_hide _ _ e), rfl⟩, by rw [l.length]; exact h.now (.int _)⟩
  · obtain ⟨v, rfl, r1⟩ := r.one
    cases r1 with
    | tup e l => exact call_len pins s σ H _ us Q I rv ⟨_, _, rfl, .inr ⟨_, SqT.out e, rfl⟩, by rw [l.length]; exact h.now (.int _)⟩
  · obtain ⟨v, rfl, r1⟩ := r.one
    cases r1 with
    | scr e => exact call_len pins s σ H _ us Q I rv ⟨_, _, rfl, .inl ⟨_, same_hide.seq e, rfl⟩, by rw [List.length_map]; exact h.now (.int _)⟩
  · exact h.elim
theorem se_len {e : Expr} {f : Ax} {p pos : Pos} (hg : Gl X "len") (hm : X.mg "len" = none) (ha : SAs X W [e] f) (he : starEach [e] X.env = (false, eval e X.env) :: starEach [] X.env := by rfl) :
    SE X W (.Call (.Name "len" p) [e] [] pos) (eCall dLen f) := se_blt cD_len dLen_nx hg hm PySem.boot_len ha (by decide) (by decide) he rfl
/-- isinstance, of the classes int, bool, str, list, tuple -/
inductive Tn where
  | int | bool | str | list | tuple
def Tn.s : Tn → String
  | .int => "int"
  | .bool => "bool"
  | .str => "str"
  | .list => "list"
  | .tuple => "tuple"
def isT : Tn → D → Bool
  | .int, .int _ => true
  | .int, .bl _ => true
  | .bool, .bl _ => true
  | .str, .str _ => true
  | .list, .lst _ => true
  | .list, .scr _ => true
  | .tuple, .tup _ => true
  | _, _ => false
def eIsi (T : Tn) (a : Ex) : Ex := fun ρ => (a ρ).bnd fun d => .ok (.bl (isT T d))
/-- the class that data has -/
def tyD (K : PySem.W.Frag) : D → Value
  | .non => .type "NoneType"
  | .bl _ => .type "bool"
  | .int _ => .type "int"
  | .str _ => .type "str"
  | .lst _ => .type "list"
  | .tup _ => .type "tuple"
  | .scr _ => .type "list"
  | .box (.obj c _) _ => .ref (He.ga K c)
  | .box (.dst _) _ => .type "dict"
  | .box (.dct _ _) _ => .type "dict"
/-- what isinstance asks of data -/
theorem kit_rep {pins : List (Addr × Obj)} {s : Shared} {σ : L2.St} {H : Hp} {x : V} {u : Value} {d : D} (I : Inv X pins σ H s) (r : Rep X.K H x d) (ru : RelV x u) : ∃ P : Heap → Prop, PySem.W.KitX X.K u (tyD X.K d) P ∧ P s.heap ∧ u ≠ .builtin "__main__.__loader__#opaque" := by
  have sq : ∀ {a : Addr} {xs : List V}, SqL X.K H a xs → RelV (.ref a) u → ∃ P : Heap → Prop, PySem.W.KitX X.K u (.type "list") P ∧ P s.heap ∧ u ≠ .builtin "__main__.__loader__#opaque" := fun {a xs} h ru => by
    obtain ⟨its, _, p, _⟩ := I.list h
    cases (show u = Value.ref a from ru)
    exact ⟨_, PySem.W.kitx_list, ⟨_, p.isList.choose_spec.1, p.isList.choose_spec.2.1⟩, fun z => nomatch z⟩
  cases r with
  | non => exact kit_of I ru (.base .non)
  | bl b => exact kit_of I ru (.base (.bl b))
  | int i => exact kit_of I ru (.base (.int i))
  | str y => exact kit_of I ru (.base (.str y))
  | lst h l => exact kit_of I ru (.base (.lst h))
  | @tup a xs ds h l =>
    obtain ⟨its, _, p, _⟩ := I.tuple h
    cases (show u = Value.ref a from ru)
    exact ⟨_, PySem.W.kitx_tuple, ⟨_, p.choose_spec.1, p.choose_spec.2.1⟩, fun z => nomatch z⟩
  | scr h => exact sq h ru
  | @box a k o xs ds h b l =>
    cases k with
    | obj c ns =>
      obtain ⟨⟨dx, rfl⟩, _, k, _⟩ := b
      exact kit_of I ru (.base (.ins h k.cl k.ha k.hn k.ht k.hm))
    | dst ks =>
      obtain ⟨rfl, _⟩ := b
      exact kit_of I ru (.base (.dK h))
    | dct w n =>
      obtain ⟨nk, kas, vs, us, ob, es, ep, _, _, _, _, _, _, ex, _, _, _, _, _, rfl⟩ := b
      obtain ⟨e, _⟩ := I.hok a _ h
      cases (show u = Value.ref a from ru)
      exact ⟨_, PySem.W.kitx_dict, ⟨ob, e, ex.1⟩, fun z => nomatch z⟩
theorem tyD_isT {K : PySem.W.Frag} {H : Hp} {v : V} {d : D} (r : Rep K H v d) (T : Tn) : PySem.W.kitOne K (tyD K d) (.type T.s) = some (isT T d) := by
  cases r with
  | non => exact kit_ty (by cases T <;> (simp only [isT]; decide +kernel))
  | bl b => exact kit_ty (by cases T <;> (simp only [isT]; decide +kernel))
  | int i => exact kit_ty (by cases T <;> (simp only [isT]; decide +kernel))
  | str y => exact kit_ty (by cases T <;> (simp only [isT]; decide +kernel))
  | lst h l => exact kit_ty (by cases T <;> (simp only [isT]; decide +kernel))
  | tup h l => exact kit_ty (by cases T <;> (simp only [isT]; decide +kernel))
  | scr h => exact kit_ty (by cases T <;> (simp only [isT]; decide +kernel))
  | @box a k o xs ds h b l =>
    have no : isT T (.box k ds) = false := by cases T <;> rfl
    rw [no]
    cases k with
    | obj c ns => exact b.2.2.1.no T.s (by cases T <;> decide)
    | dst ks => exact kit_ty (by cases T <;> decide +kernel)
    | dct w n => exact kit_ty (by cases T <;> decide +kernel)
def rIsD (K : PySem.W.Frag) (T : Tn) : List V → Hp → VK → Prop := fun vs H Q => ∃ O v d, (∀ a ∈ O, H a ≠ none) ∧ vs = [v, .ty T.s] ∧ Rep K (hide O H) v d ∧ Q (.bl (isT T d)) H
theorem cD_isi {T : Tn} : CallR X (.builtin "isinstance") (rIsD X.K T) := by
  intro pins s σ H vs us Q I rv h
  obtain ⟨O, v, d, th, rfl, r, h⟩ := h
  obtain ⟨u, u', rfl, r1, r2⟩ := vals2 rv
  cases r2
  obtain ⟨P, Z, p, hx⟩ := kit_rep I r.up r1
  exact PySem.W.kia_one Z I.kIn p (tyD_isT r.up T) hx fun tk => ⟨.bl _, H, I.tok tk, rfl, h⟩
theorem se_isi {T : Tn} {x : Str} {e : Expr} {fa : Ex} {p p2 pos : Pos} (hg : Gl X "isinstance") (hm : X.mg "isinstance" = none) (hgT : Gl X x) (hmT : X.mg x = none) (hv : bootBuiltins x = some (.type T.s)) (ha : SE X W e fa)
    (hb : bootBuiltins "isinstance" = some (.builtin "isinstance") := by decide +kernel)
    (hx : x ≠ "__name__" := by decide) (hdb : (x == ("__debug__" : Str)) = false := by decide) (hs1 : starEach [e, .Name x p2] X.env = (false, eval e X.env) :: starEach [.Name x p2] X.env := by rfl) :
    SE X W (.Call (.Name "isinstance" p) [e, .Name x p2] [] pos) (eIsi T fa) := by
  have hT : PE X (.Name x p2) (tC (.ty T.s)) := pe_bltn hgT hmT hv rfl hx hdb
  refine PE.weak (pe_callB (cD_isi (T := T)) hg hm hb (pa_cons ha (pa_cons hT pa_nil) hs1) (by decide) (by decide) hs1 rfl) fun σ H Q ⟨fm, O, ρ, en, h⟩ => ?_
  refine ⟨fm, O, ρ, en, (Post.bnd h).imp fun v H1 s1 ⟨_, d, r, h1⟩ => ?_⟩
  exact ⟨O, v, d, (en.mono s1).there, rfl, r, h1 _ H1 (Same.refl _) (.bl _)⟩
/-- max, min of two numbers -/
def dMax2 : List D → R D
  | [.int i, .int j] => .ok (.int (if j > i then j else i))
  | _ => .no
def dMin2 : List D → R D
  | [.int i, .int j] => .ok (.int (if j < i then j else i))
  | _ => .no
theorem dMax2_nx (ds : List D) : NoEx (dMax2 ds) := fun x h => by
  unfold dMax2 at h
  split at h <;> cases h
theorem dMin2_nx (ds : List D) : NoEx (dMin2 ds) := fun x h => by
  unfold dMin2 at h
  split at h <;> cases h
theorem cD_max2 (hc : X.calm = true) : CallR X (.builtin "max") (rDs X.K dMax2) := by
  intro pins s σ H vs us Q I rv h
  obtain ⟨O, ds, th, r, h⟩ := h
  unfold dMax2 at h
  split at h
  · obtain ⟨v, u, rfl, r1, r2⟩ := r.two
    cases r1; cases r2
    exact call_max2 hc pins s σ H _ us Q I rv ⟨_, _, rfl, h.now (.int _)⟩
  · exact h.elim
theorem cD_min2 (hc : X.calm = true) : CallR X (.builtin "min") (rDs X.K dMin2) := by
  intro pins s σ H vs us Q I rv h
  obtain ⟨O, ds, th, r, h⟩ := h
  unfold dMin2 at h
  split at h
  · obtain ⟨v, u, rfl, r1, r2⟩ := r.two
    cases r1; cases r2
    exact call_min2 hc pins s σ H _ us Q I rv ⟨_, _, rfl, h.now (.int _)⟩
  · exact h.elim
theorem se_max2 {a b : Expr} {f : Ax} {p pos : Pos} (hc : X.calm = true) (hg : Gl X "max") (hm : X.mg "max" = none) (ha : SAs X W [a, b] f) (hv : bootBuiltins "max" = some (.builtin "max") := by decide +kernel)
    (he : starEach [a, b] X.env = (false, eval a X.env) :: starEach [b] X.env := by rfl) (hpl : (backTo pos (starEach [b] X.env)).any (·.1) = false := by rfl) :
    SE X W (.Call (.Name "max" p) [a, b] [] pos) (eCall dMax2 f) := se_blt (cD_max2 hc) dMax2_nx hg hm hv ha (by decide) (by decide) he hpl
theorem se_min2 {a b : Expr} {f : Ax} {p pos : Pos} (hc : X.calm = true) (hg : Gl X "min") (hm : X.mg "min" = none) (ha : SAs X W [a, b] f) (hv : bootBuiltins "min" = some (.builtin "min") := by decide +kernel)
    (he : starEach [a, b] X.env = (false, eval a X.env) :: starEach [b] X.env := by rfl) (hpl : (backTo pos (starEach [b] X.env)).any (·.1) = false := by rfl) :
    SE X W (.Call (.Name "min" p) [a, b] [] pos) (eCall dMin2 f) := se_blt (cD_min2 hc) dMin2_nx hg hm hv ha (by decide) (by decide) he hpl
/-- intsOf out of data -/
def intsOf : List D → Option (List Int)
  | [] => some []
  | .int i :: r => (intsOf r).map (i :: ·)
  | _ :: _ => none
theorem intsOf_rep {K : PySem.W.Frag} {H : Hp} : ∀ {ds : List D} {vs : List V} {ns : List Int}, RepL K H vs ds → intsOf ds = some ns → vs = ns.map V.int
  | [], _, _, .nil, e => by cases e; rfl
  | .int i :: r, _, _, .cons a b, e => by
    unfold intsOf at e
    cases q : intsOf r with
    | none => rw [q] at e; cases e
    | some ms =>
      rw [q] at e
      cases e
      cases a
      rw [intsOf_rep b q]
      rfl
  | .non :: _, _, _, _, e => by cases e
  | .bl _ :: _, _, _, _, e => by cases e
  | .str _ :: _, _, _, _, e => by cases e
  | .lst _ :: _, _, _, _, e => by cases e
  | .tup _ :: _, _, _, _, e => by cases e
  | .scr _ :: _, _, _, _, e => by cases e
  | .box _ _ :: _, _, _, _, e => by cases e
theorem ints_map (ns : List Int) : intsOf (ns.map D.int) = some ns := by
  induction ns with
  | nil => rfl
  | cons n r ih => rw [List.map_cons, intsOf, ih]; rfl
theorem rep_ints {K : PySem.W.Frag} {H : Hp} : ∀ ns : List Int, RepL K H (ns.map V.int) (ns.map D.int)
  | [] => .nil
  | _ :: r => .cons (.int _) (rep_ints r)
def dSum : List D → R D
  | [.lst xs] => match intsOf xs with
    | some ns => .ok (.int ns.sum)
    | none => .no
  | _ => .no
theorem dSum_nx (ds : List D) : NoEx (dSum ds) := fun x h => by
  unfold dSum at h
  split at h <;> first | (split at h <;> cases h) | cases h
theorem cD_sum (hc : X.calm = true) : CallR X (.builtin "sum") (rDs X.K dSum) := by
  intro pins s σ H vs us Q I rv h
  obtain ⟨O, ds, th, r, h⟩ := h
  unfold dSum at h
  split at h
  · split at h
    · rename_i ns e
      obtain ⟨v, rfl, r1⟩ := r.one
      cases r1 with
      | lst e1 l =>
        have := intsOf_rep l e
        subst this
        exact cr_sum hc pins s σ H _ us Q I rv ⟨_, _, rfl, SqL.of (same_hide _ _ e1), h.now (.int _)⟩
    · exact h.elim
  · exact h.elim
theorem se_sum {a : Expr} {f : Ax} {p pos : Pos} (hc : X.calm = true) (hg : Gl X "sum") (hm : X.mg "sum" = none) (ha : SAs X W [a] f) (hv : bootBuiltins "sum" = some (.builtin "sum") := by decide +kernel)
    (he : starEach [a] X.env = (false, eval a X.env) :: starEach [] X.env := by rfl) :
    SE X W (.Call (.Name "sum" p) [a] [] pos) (eCall dSum f) := se_blt (cD_sum hc) dSum_nx hg hm hv ha (by decide) (by decide) he rfl
/-- the least of a list of numbers -/
def minL : List Int → Option Int
  | [] => none
  | x :: r => some (r.foldl min x)
def maxL : List Int → Option Int
  | [] => none
  | x :: r => some (r.foldl max x)
theorem foldl_min : ∀ (r : List Int) (x : Int), r.foldl min x ≤ x ∧ (∀ y ∈ r, r.foldl min x ≤ y) ∧ (r.foldl min x = x ∨ r.foldl min x ∈ r)
  | [], x => ⟨by simp, by simp, .inl rfl⟩
  | y :: r, x => by
    obtain ⟨h1, h2, h3⟩ := foldl_min r (min x y)
    rw [List.foldl_cons]
    refine ⟨by omega, fun z hz => ?_, ?_⟩
    · rcases List.mem_cons.mp hz with rfl | hz
      · omega
      · exact h2 z hz
    · rcases h3 with h3 | h3
      · rw [h3]
        by_cases hxy : x ≤ y
        · exact .inl (by omega)
        · refine .inr ?_
          rw [show min x y = y by omega]
          exact List.mem_cons_self
      · exact .inr (List.mem_cons_of_mem _ h3)
theorem foldl_max : ∀ (r : List Int) (x : Int), x ≤ r.foldl max x ∧ (∀ y ∈ r, y ≤ r.foldl max x) ∧ (r.foldl max x = x ∨ r.foldl max x ∈ r)
  | [], x => ⟨by simp, by simp, .inl rfl⟩
  | y :: r, x => by
    obtain ⟨h1, h2, h3⟩ := foldl_max r (max x y)
    rw [List.foldl_cons]
    refine ⟨by omega, fun z hz => ?_, ?_⟩
    · rcases List.mem_cons.mp hz with rfl | hz
      · omega
      · exact h2 z hz
    · rcases h3 with h3 | h3
      · rw [h3]
        by_cases hxy : y ≤ x
        · exact .inl (by omega)
        · refine .inr ?_
          rw [show max x y = y by omega]
          exact List.mem_cons_self
      · exact .inr (List.mem_cons_of_mem _ h3)
def dMinL : List D → R D
  | [.lst xs] => match (intsOf xs).bind minL with
    | some m => .ok (.int m)
    | none => .no
  | _ => .no
def dMaxL : List D → R D
  | [.lst xs] => match (intsOf xs).bind maxL with
    | some m => .ok (.int m)
    | none => .no
  | _ => .no
theorem dMinL_nx (ds : List D) : NoEx (dMinL ds) := fun x h => by
  unfold dMinL at h
  split at h <;> first | (split at h <;> cases h) | cases h
theorem dMaxL_nx (ds : List D) : NoEx (dMaxL ds) := fun x h => by
  unfold dMaxL at h
  split at h <;> first | (split at h <;> cases h) | cases h
theorem cD_minL (hc : X.calm = true) : CallR X (.builtin "min") (rDs X.K dMinL) := by
  intro pins s σ H vs us Q I rv h
  obtain ⟨O, ds, th, r, h⟩ := h
  unfold dMinL at h
  split at h
  · split at h
    · rename_i m e
      obtain ⟨v, rfl, r1⟩ := r.one
      cases r1 with
      | lst e1 l =>
        cases e2 : intsOf _ with
        | none => rw [e2] at e; cases e
        | some ns =>
          rw [e2] at e
          have := intsOf_rep l e2
          subst this
          cases ns with
          | nil => cases e
          | cons y ns =>
            have em : ns.foldl min y = m := Option.some.inj e
            obtain ⟨h1, h2, h3⟩ := foldl_min ns y
            refine cr_min hc pins s σ H _ us Q I rv ⟨_, _, rfl, SqL.of (same_hide _ _ e1), by simp, fun z hz hle => ?_⟩
            have a1 : z ≤ m := by
              rw [← em]
              rcases h3 with h3 | h3
              · rw [h3]; exact hle y List.mem_cons_self
              · exact hle _ (List.mem_cons_of_mem _ h3)
            have a2 : m ≤ z := by
              rw [← em]
              rcases List.mem_cons.mp hz with q | hz
              · rw [q]; exact h1
              · exact h2 z hz
            rw [show z = m by omega]
            exact h.now (.int _)
    · exact h.elim
  · exact h.elim
theorem cD_maxL (hc : X.calm = true) : CallR X (.builtin "max") (rDs X.K dMaxL) := by
  intro pins s σ H vs us Q I rv h
  obtain ⟨O, ds, th, r, h⟩ := h
  unfold dMaxL at h
  split at h
  · split at h
    · rename_i m e
      obtain ⟨v, rfl, r1⟩ := r.one
      cases r1 with
      | lst e1 l =>
        cases e2 : intsOf _ with
        | none => rw [e2] at e; cases e
        | some ns =>
          rw [e2] at e
          have := intsOf_rep l e2
          subst this
          cases ns with
          | nil => cases e
          | cons y ns =>
            have em : ns.foldl max y = m := Option.some.inj e
            obtain ⟨h1, h2, h3⟩ := foldl_max ns y
            refine cr_max hc pins s σ H _ us Q I rv ⟨_, _, rfl, SqL.of (same_hide _ _ e1), by simp, fun z hz hle => ?_⟩
            have a1 : m ≤ z := by
              rw [← em]
              rcases h3 with h3 | h3
              · rw [h3]; exact hle y List.mem_cons_self
              · exact hle _ (List.mem_cons_of_mem _ h3)
            have a2 : z ≤ m := by
              rw [← em]
              rcases List.mem_cons.mp hz with q | hz
              · rw [q]; exact h1
              · exact h2 z hz
            rw [show z = m by omega]
            exact h.now (.int _)
    · exact h.elim
  · exact h.elim
theorem se_minL {a : Expr} {f : Ax} {p pos : Pos} (hc : X.calm = true) (hg : Gl X "min") (hm : X.mg "min" = none) (ha : SAs X W [a] f) (hv : bootBuiltins "min" = some (.builtin "min") := by decide +kernel)
    (he : starEach [a] X.env = (false, eval a X.env) :: starEach [] X.env := by rfl) :
    SE X W (.Call (.Name "min" p) [a] [] pos) (eCall dMinL f) := se_blt (cD_minL hc) dMinL_nx hg hm hv ha (by decide) (by decide) he rfl
theorem se_maxL {a : Expr} {f : Ax} {p pos : Pos} (hc : X.calm = true) (hg : Gl X "max") (hm : X.mg "max" = none) (ha : SAs X W [a] f) (hv : bootBuiltins "max" = some (.builtin "max") := by decide +kernel)
    (he : starEach [a] X.env = (false, eval a X.env) :: starEach [] X.env := by rfl) :
    SE X W (.Call (.Name "max" p) [a] [] pos) (eCall dMaxL f) := se_blt (cD_maxL hc) dMaxL_nx hg hm hv ha (by decide) (by decide) he rfl
/-- sorted, of numbers -/
def sortI (ns : List Int) : List Int := ns.mergeSort (fun a b => decide (a ≤ b))
theorem sortI_perm (ns : List Int) : (sortI ns).Perm ns := List.mergeSort_perm _ _
theorem sortI_le (ns : List Int) : (sortI ns).Pairwise (· ≤ ·) := by
  have h := List.pairwise_mergeSort (le := fun (a b : Int) => decide (a ≤ b)) (fun a b c => by simp; omega) (fun a b => by simp; omega) ns
  exact h.imp (by simp)
theorem sortI_one {ns ms : List Int} (p : ms.Perm ns) (h : ms.Pairwise (· ≤ ·)) : ms = sortI ns :=
  List.Perm.eq_of_pairwise (le := fun a b => a ≤ b) (fun a b _ _ h1 h2 => by omega) h (sortI_le ns) (p.trans (sortI_perm ns).symm)
def dSort : List D → R D
  | [.lst xs] => match intsOf xs with
    | some ns => .ok (.lst ((sortI ns).map D.int))
    | none => .no
  | _ => .no
theorem dSort_nx (ds : List D) : NoEx (dSort ds) := fun x h => by
  unfold dSort at h
  split at h <;> first | (split at h <;> cases h) | cases h
theorem cD_sort : CallR X (.builtin "sorted") (rDs X.K dSort) := by
  intro pins s σ H vs us Q I rv h
  obtain ⟨O, ds, th, r, h⟩ := h
  unfold dSort at h
  split at h
  · split at h
    · rename_i ns e
      obtain ⟨v, rfl, r1⟩ := r.one
      cases r1 with
      | lst e1 l =>
        have := intsOf_rep l e
        subst this
        refine cr_sortedI pins s σ H _ us Q I rv ⟨_, _, rfl, SqL.of (same_hide _ _ e1), fun ns' p hp hw hn => ?_⟩
        rw [sortI_one hp hw]
        exact h.lst th (rep_ints _) hn
    · exact h.elim
  · exact h.elim
theorem se_sort {a : Expr} {f : Ax} {p pos : Pos} (hg : Gl X "sorted") (hm : X.mg "sorted" = none) (ha : SAs X W [a] f) (hv : bootBuiltins "sorted" = some (.builtin "sorted") := by decide +kernel)
    (he : starEach [a] X.env = (false, eval a X.env) :: starEach [] X.env := by rfl) :
    SE X W (.Call (.Name "sorted" p) [a] [] pos) (eCall dSort f) := se_blt cD_sort dSort_nx hg hm hv ha (by decide) (by decide) he rfl
/-- tuple(..), list(..) of a list or a tuple -/
def dTuple : List D → R D
  | [.lst xs] => .ok (.tup xs)
  | [.tup xs] => .ok (.tup xs)
  | _ => .no
def dList : List D → R D
  | [.lst xs] => .ok (.lst xs)
  | [.tup xs] => .ok (.lst xs)
  | _ => .no
theorem dTuple_nx (ds : List D) : NoEx (dTuple ds) := fun x h => by
  unfold dTuple at h
  split at h <;> cases h
theorem dList_nx (ds : List D) : NoEx (dList ds) := fun x h => by
  unfold dList at h
  split at h <;> cases h
theorem cD_tuple : CallR X (.type "tuple") (rDs X.K dTuple) := by
  intro pins s σ H vs us Q I rv h
  obtain ⟨O, ds, th, r, h⟩ := h
  unfold dTuple at h
  split at h
  · obtain ⟨v, rfl, r1⟩ := r.one
    cases r1 with
    | lst e1 l => exact call_tuple_of pins s σ H _ us Q I rv ⟨_, _, rfl, .inl ⟨SqL.of (same_hide _ _ e1), fun p hp => h.tup th l hp⟩⟩
  · obtain ⟨v, rfl, r1⟩ := r.one
    cases r1 with
    | tup e1 l => exact call_tuple_of pins s σ H _ us Q I rv ⟨_, _, rfl, .inr ⟨SqT.out e1, h.now (.tup e1 l)⟩⟩
  · exact h.elim
theorem cD_list : CallR X (.type "list") (rDs X.K dList) := by
  intro pins s σ H vs us Q I rv h
  obtain ⟨O, ds, th, r, h⟩ := h
  unfold dList at h
  split at h
  · obtain ⟨v, rfl, r1⟩ := r.one
    cases r1 with
    | lst e1 l => exact call_list_of pins s σ H _ us Q I rv ⟨_, _, rfl, .inl (SqL.of (same_hide _ _ e1)), fun p hp => h.lst th l hp⟩
  · obtain ⟨v, rfl, r1⟩ := r.one
    cases r1 with
    | tup e1 l => exact call_list_of pins s σ H _ us Q I rv ⟨_, _, rfl, .inr (SqT.out e1), fun p hp => h.lst th l hp⟩
  · exact h.elim
theorem se_tuple {a : Expr} {f : Ax} {p pos : Pos} (hg : Gl X "tuple") (hm : X.mg "tuple" = none) (ha : SAs X W [a] f) (hv : bootBuiltins "tuple" = some (.type "tuple") := by decide +kernel)
    (he : starEach [a] X.env = (false, eval a X.env) :: starEach [] X.env := by rfl) :
    SE X W (.Call (.Name "tuple" p) [a] [] pos) (eCall dTuple f) := se_ty cD_tuple dTuple_nx hg hm hv ha (by decide) (by decide) he rfl
theorem se_list {a : Expr} {f : Ax} {p pos : Pos} (hg : Gl X "list") (hm : X.mg "list" = none) (ha : SAs X W [a] f) (hv : bootBuiltins "list" = some (.type "list") := by decide +kernel)
    (he : starEach [a] X.env = (false, eval a X.env) :: starEach [] X.env := by rfl) :
    SE X W (.Call (.Name "list" p) [a] [] pos) (eCall dList f) := se_ty cD_list dList_nx hg hm hv ha (by decide) (by decide) he rfl
/-- texts out of data -/
def strsOf : List D → Option (List Str)
  | [] => some []
  | .str i :: r => (strsOf r).map (i :: ·)
  | _ :: _ => none
theorem strsOf_rep {K : PySem.W.Frag} {H : Hp} : ∀ {ds : List D} {vs : List V} {ns : List Str}, RepL K H vs ds → strsOf ds = some ns → vs = ns.map V.str
  | [], _, _, .nil, e => by cases e; rfl
  | .str i :: r, _, _, .cons a b, e => by
    unfold strsOf at e
    cases q : strsOf r with
    | none => rw [q] at e; cases e
    | some ms =>
      rw [q] at e
      cases e
      cases a
      rw [strsOf_rep b q]
      rfl
  | .non :: _, _, _, _, e => by cases e
  | .bl _ :: _, _, _, _, e => by cases e
  | .int _ :: _, _, _, _, e => by cases e
  | .lst _ :: _, _, _, _, e => by cases e
  | .tup _ :: _, _, _, _, e => by cases e
  | .scr _ :: _, _, _, _, e => by cases e
  | .box _ _ :: _, _, _, _, e => by cases e
/-- sep.join(xs) -/
def dJoin (a : Str) : D → R D
  | .lst xs => match strsOf xs with
    | some ys => if (ys.map (·.length)).sum + ys.length * a.length ≤ 16777216 then .ok (.str (Txt.join a ys)) else .no
    | none => .no
  | _ => .no
theorem dJoin_nx (a : Str) (e : D) : NoEx (dJoin a e) := fun x h => by
  unfold dJoin at h
  split at h
  · split at h
    · split at h <;> cases h
    · cases h
  · cases h
/-- a method of a text with one argument -/
def eM1 (g : Str → D → R D) (fo fe : Ex) : Ex := fun ρ => (fo ρ).bnd fun x => match x with
  | .str a => (fe ρ).bnd fun y => g a y
  | _ => .no
theorem m1_read {g : Str → D → R D} {r : V → List V → Hp → VK → Prop} {mg : Str → Option Value} {K : PySem.W.Frag} {fo fe : Ex} {σ : L2.St} {H : Hp} {Q : VK} (h : tD mg K W (eM1 g fo fe) σ H Q) (hn : ∀ a d, NoEx (g a d))
    (hr : ∀ O H a y d, (∀ a ∈ O, H a ≠ none) → Rep K (hide O H) y d → PostV K O H Q (g a d) → r (.str a) [y] H Q) : tM1 r (tD mg K W fo) (tD mg K W fe) σ H Q := by
  obtain ⟨fm, O, ρ, en, h⟩ := h
  refine ⟨fm, O, ρ, en, (Post.bnd h).imp fun v H1 s1 ⟨_, d, r1, h1⟩ => ?_⟩
  cases r1 with
  | str a =>
    refine ⟨⟨a, rfl⟩, fm, O, ρ, en.mono s1, (Post.bnd h1).imp fun u H2 s2 ⟨_, e, r2, h2⟩ => ?_⟩
    exact hr O H2 a u e ((en.mono s1).mono s2).there r2 (PostV.of (hn a e) h2)
  | non => exact h1.elim
  | bl => exact h1.elim
  | int => exact h1.elim
  | lst => exact h1.elim
  | tup => exact h1.elim
  | scr => exact h1.elim
  | box => exact h1.elim
theorem se_join {o e : Expr} {fo fe : Ex} {apos pos : Pos} (ho : SE X W o fo) (he : SE X W e fe) (hs : starEach [e] X.env = [(false, eval e X.env)] := by rfl) (hbase : attributeBase o "join" X.env (eval o X.env) = eval o X.env := by rfl) (hline : (apos.endLine == pos.line) = true := by rfl) :
    SE X W (.Call (.Attribute o "join" apos) [e] [] pos) (eM1 dJoin fo fe) := by
  refine PE.weak (pe_join ho he hs hbase hline) fun σ H Q h => m1_read h dJoin_nx fun O H a y d th r q => ?_
  unfold dJoin at q
  split at q
  · split at q
    · split at q
      · rename_i ys e1 hz
        cases r with
        | lst e2 l =>
          have := strsOf_rep l e1
          subst this
          exact ⟨_, _, _, rfl, rfl, .inl (SqL.of (same_hide _ _ e2)), hz, q.now (.str _)⟩
      · exact q.elim
    · exact q.elim
  · exact q.elim
end
end JK

/-! Lay5 -/
set_option Elab.async false
set_option linter.all false
set_option maxRecDepth 100000
set_option autoImplicit false
namespace JK
open PySem PySem.Spec PyProof.Rows L2
/-! ### statements -/
inductive Out where
  | no | nx (ρ : Env) | rt (d : D) | rm (d : D) (ρ : Env) | rr (i : Nat) (ρ : Env) | bk (ρ : Env) | ct (ρ : Env) | ex (x : Exc) (ρ : Env)
abbrev Sx := Env → Out
def PostS (mg : Str → Option Value) (K : PySem.W.Frag) (fm : Fm) (B : Hp) (W : WX) (Dn : Ends) : Out → Prop
  | .no => False
  | .nx ρ => ∀ O σ H, EnvR K fm O H σ ρ → Same B (hide O H) → Dn.nx σ H
  | .rt d => ∀ v H, Same fm.H0 H → Rep K (hide fm.O0 H) v d → Dn.rt v H
  | .rm d ρ => ∀ O σ v H, EnvR K fm O H σ ρ → Same B (hide O H) → Rep K (hide O H) v d → Dn.rt v H
  | .rr i ρ => ∀ O σ v H, EnvR K fm O H σ ρ → Same B (hide O H) → σ[i]? = some (some v) → Dn.rt v H
  | .bk ρ => ∀ O σ H, EnvR K fm O H σ ρ → Same B (hide O H) → Dn.bk σ H
  | .ct ρ => ∀ O σ H, EnvR K fm O H σ ρ → Same B (hide O H) → Dn.ct σ H
  | .ex x ρ => ∀ O σ H cls dd, EnvR K fm O H σ ρ → Same B (hide O H) → ExcR mg K O H x cls dd → W cls dd σ H
def tS (mg : Str → Option Value) (K : PySem.W.Frag) (W : WX) (F : Sx) : TS := fun Dn σ H => ∃ fm O ρ, EnvR K fm O H σ ρ ∧ PostS mg K fm (hide O H) W Dn (F ρ)
def SS (X : Cx) (W : WX) (st : Stmt) (F : Sx) : Prop := PS X st (tS X.mg X.K W F)
def SSs (X : Cx) (W : WX) (st : List Stmt) (F : Sx) : Prop := PSs X st (tS X.mg X.K W F)
section
variable {mg : Str → Option Value} {K : PySem.W.Frag} {fm : Fm} {B B' : Hp} {W : WX} {Dn Dn' : Ends}
theorem PostS.mono {o : Out} (h : PostS mg K fm B W Dn o) (s : Same B B') : PostS mg K fm B' W Dn o := by
  cases o with
  | no => exact h
  | nx ρ => exact fun O σ H en q => h O σ H en (s.trans q)
  | rt d => exact h
  | rm d ρ => exact fun O σ v H en q => h O σ v H en (s.trans q)
  | rr i ρ => exact fun O σ v H en q => h O σ v H en (s.trans q)
  | bk ρ => exact fun O σ H en q => h O σ H en (s.trans q)
  | ct ρ => exact fun O σ H en q => h O σ H en (s.trans q)
  | ex x ρ => exact fun O σ H cls dd en q => h O σ H cls dd en (s.trans q)
theorem rt_of {O : List Addr} {H H' : Hp} {σ : L2.St} {ρ : Env} {v : V} {d : D} (en : EnvR K fm O H σ ρ) (s : Same H H') (r : Rep K (hide O H') v d) : Same fm.H0 H' ∧ Rep K (hide fm.O0 H') v d := by
  refine ⟨en.same.trans s, r.mono fun a o h => ?_⟩
  obtain ⟨h1, h2⟩ := hide_sub h
  exact hide_of h2 fun z => h1 (en.sub a z)
end
section
variable {X : Cx} {W : WX}
def sNil : Sx := fun ρ => .nx ρ
def sSeq (F G : Sx) : Sx := fun ρ => match F ρ with
  | .nx ρ' => G ρ'
  | o => o
theorem ss_nil : SSs X W [] sNil := PSs.weak pss_nil fun Dn σ H ⟨fm, O, ρ, en, h⟩ => h O σ H en (Same.refl _)
theorem ss_cons {st : Stmt} {sts : List Stmt} {F G : Sx} (h1 : SS X W st F) (h2 : SSs X W sts G) : SSs X W (st :: sts) (sSeq F G) := by
  refine PSs.weak (pss_cons h1 h2) fun Dn σ H ⟨fm, O, ρ, en, h⟩ => ?_
  refine ⟨fm, O, ρ, en, ?_⟩
  unfold sSeq at h
  cases e : F ρ with
  | no => rw [e] at h; exact h
  | nx ρ' =>
    rw [e] at h
    exact fun O' σ' H' en' s' => ⟨fm, O', ρ', en', PostS.mono h s'⟩
  | rt d => rw [e] at h; exact h
  | rm d ρ' => rw [e] at h; exact h
  | rr i ρ' => rw [e] at h; exact h
  | bk ρ' => rw [e] at h; exact h
  | ct ρ' => rw [e] at h; exact h
  | ex x ρ' => rw [e] at h; exact h
theorem ss_one {st : Stmt} {F : Sx} (h1 : SS X W st F) : SSs X W [st] F := pss_one h1
/-- an expression, then what follows -/
def rThen (r : R D) (ρ : Env) (k : D → Out) : Out := match r with
  | .no => .no
  | .ok d => k d
  | .ex x => .ex x ρ
def tThen (r : R Bool) (ρ : Env) (k : Bool → Out) : Out := match r with
  | .no => .no
  | .ok d => k d
  | .ex x => .ex x ρ
def lThen (r : R (List D)) (ρ : Env) (k : List D → Out) : Out := match r with
  | .no => .no
  | .ok d => k d
  | .ex x => .ex x ρ
theorem PostS.then {mg : Str → Option Value} {K : PySem.W.Frag} {fm : Fm} {O : List Addr} {σ : L2.St} {H : Hp} {Dn : Ends} {r : R D} {ρ : Env} {k : D → Out} (en : EnvR K fm O H σ ρ) (h : PostS mg K fm (hide O H) W Dn (rThen r ρ k)) :
    Post mg K O σ H W (fun v H1 => Same H H1 ∧ EnvR K fm O H1 σ ρ ∧ ∃ d, Rep K (hide O H1) v d ∧ PostS mg K fm (hide O H1) W Dn (k d)) r := by
  cases r with
  | no => exact h
  | ok d => exact fun v H1 s q => ⟨s, en.mono s, d, q, PostS.mono (o := k d) h (Same.hide s)⟩
  | ex x => exact fun H1 cls dd s q => h O σ H1 cls dd (en.mono s) (Same.hide s) q
theorem PostS.thenT {mg : Str → Option Value} {K : PySem.W.Frag} {fm : Fm} {O : List Addr} {σ : L2.St} {H : Hp} {Dn : Ends} {r : R Bool} {ρ : Env} {k : Bool → Out} (en : EnvR K fm O H σ ρ) (h : PostS mg K fm (hide O H) W Dn (tThen r ρ k)) :
    PostT mg K O σ H W (fun b H1 => Same H H1 ∧ EnvR K fm O H1 σ ρ ∧ PostS mg K fm (hide O H1) W Dn (k b)) r := by
  cases r with
  | no => exact h
  | ok d => exact fun H1 s => ⟨s, en.mono s, PostS.mono (o := k d) h (Same.hide s)⟩
  | ex x => exact fun H1 cls dd s q => h O σ H1 cls dd (en.mono s) (Same.hide s) q
def sExpr (a : Ex) : Sx := fun ρ => rThen (a ρ) ρ fun _ => .nx ρ
theorem ss_expr {e : Expr} {fa : Ex} {pos : Pos} (ha : SE X W e fa) (hs : swapsWith e none pos.line X.env = pure false := by rfl) : SS X W (.Expr e pos) (sExpr fa) := by
  refine PS.weak (ps_expr ha hs) fun Dn σ H ⟨fm, O, ρ, en, h⟩ => ?_
  exact ⟨fm, O, ρ, en, (PostS.then en h).imp fun v H1 s1 ⟨_, en1, d, r, h1⟩ => h1 O σ H1 en1 (Same.refl _)⟩
def sRet (a : Ex) : Sx := fun ρ => rThen (a ρ) ρ fun d => .rt d
theorem ss_ret {e : Expr} {fa : Ex} {pos : Pos} (ha : SE X W e fa) : SS X W (.Return (some e) pos) (sRet fa) := by
  refine PS.weak (ps_ret ha) fun Dn σ H ⟨fm, O, ρ, en, h⟩ => ?_
  refine ⟨fm, O, ρ, en, (PostS.then en h).imp fun v H1 s1 ⟨_, en1, d, r, h1⟩ => ?_⟩
  obtain ⟨q1, q2⟩ := rt_of en s1 r
  exact h1 v H1 q1 q2
def sRetN : Sx := fun _ => .rt .non
theorem ss_retN {pos : Pos} : SS X W (.Return none pos) sRetN := by
  refine PS.weak ps_retN fun Dn σ H ⟨fm, O, ρ, en, h⟩ => ?_
  obtain ⟨q1, q2⟩ := rt_of (v := .non) (d := .non) en (Same.refl _) .non
  exact h .non H q1 q2
def sPass : Sx := fun ρ => .nx ρ
theorem ss_pass {pos : Pos} : SS X W (.Pass pos) sPass := PS.weak ps_pass fun Dn σ H ⟨fm, O, ρ, en, h⟩ => h O σ H en (Same.refl _)
def sBreak : Sx := fun ρ => .bk ρ
theorem ss_break {pos : Pos} : SS X W (.Break pos) sBreak := PS.weak ps_break fun Dn σ H ⟨fm, O, ρ, en, h⟩ => h O σ H en (Same.refl _)
def sIf (t : Tx) (F G : Sx) : Sx := fun ρ => tThen (t ρ) ρ fun b => if b = true then F ρ else G ρ
theorem ss_if {c : Expr} {a b : List Stmt} {t : Tx} {F G : Sx} {pos : Pos} (hc : ST X W c t) (ha : SSs X W a F) (hb : SSs X W b G) : SS X W (.If c a b pos) (sIf t F G) := by
  refine PS.weak (ps_if hc ha hb) fun Dn σ H ⟨fm, O, ρ, en, h⟩ => ?_
  refine ⟨fm, O, ρ, en, (PostS.thenT en h).imp fun k H1 s1 ⟨_, en1, h1⟩ => ?_⟩
  cases k with
  | true => exact ⟨fm, O, ρ, en1, h1⟩
  | false => exact ⟨fm, O, ρ, en1, h1⟩
def sSet (i : Nat) (a : Ex) : Sx := fun ρ => rThen (a ρ) ρ fun d => .nx (ρ.set i (.val d))
/-- x = e -/
theorem ss_set {i : Nat} {x : Str} {e : Expr} {fa : Ex} {pos pos' : Pos} (hN : X.N.Nodup) (hi : X.N[i]? = some x) (hx : Loc X.env.scope x) (ha : SE X W e fa) (hs : swapsWith e (some (.Name x pos')) pos.line X.env = pure false := by rfl)
    (hf : X.fn x = true ∨ X.env.scope.names.lookup x = some .local := by first | exact .inl rfl | exact .inr rfl | assumption) : SS X W (.Assign [.Name x pos'] e pos) (sSet i fa) := by
  refine PS.weak (ps_set hN hi hx ha hs hf) fun Dn σ H ⟨fm, O, ρ, en, h⟩ => ?_
  exact ⟨fm, O, ρ, en, (PostS.then en h).imp fun v H1 s1 ⟨_, en1, d, r, h1⟩ => h1 O _ H1 (en1.set r) (Same.refl _)⟩
/-! own lists -/
theorem EnvR.new {K : PySem.W.Frag} {fm : Fm} {O : List Addr} {H H' : Hp} {σ : L2.St} {ρ : Env} {p : Addr} (en : EnvR K fm O H σ ρ) (s : Same H H') (hp : H p = none) (hq : H' p ≠ none) : EnvR K fm (p :: O) H' σ ρ := by
  have sh : Same (hide O H) (hide (p :: O) H') := fun a o h => by
    obtain ⟨h1, h2⟩ := hide_sub h
    exact hide_of (s _ _ h2) (by simp only [List.mem_cons, not_or]; exact ⟨ne_of_none h2 hp, h1⟩)
  refine ⟨en.len, fun i sl q => ?_, en.dist, fun a ha => ?_, en.there0, fun a ha => List.mem_cons_of_mem _ (en.sub a ha), en.same.trans s, en.held.move sh (fun b hb hn _ => ⟨keep_same s hn, List.mem_cons_of_mem _ hb⟩) (fun _ _ _ q => ⟨q, rfl⟩) fun _ xs _ q1 q2 => .inl ⟨xs, q1, q2⟩⟩
  · have h := en.at' i sl q
    cases sl with
    | ref x => trivial
    | refs x => trivial
    | sto w' m d S => exact fun z => by obtain ⟨x, h1, h2⟩ := h z; exact ⟨x, h1, h2.mono sh⟩
    | thing x => trivial
    | emp => trivial
    | val d => obtain ⟨x, h1, h2⟩ := h; exact ⟨x, h1, h2.mono sh⟩
    | own ds => obtain ⟨a, xs, h1, h2, h3, h4, h5⟩ := h; exact ⟨a, xs, h1, List.mem_cons_of_mem _ h2, h3, s _ _ h4, h5.mono sh⟩
    | exc e' x => exact exc_mono sh h
  · rcases List.mem_cons.mp ha with rfl | ha
    · exact hq
    · exact some_of_ne s (en.there a ha)
theorem EnvR.setOwn {K : PySem.W.Frag} {fm : Fm} {O : List Addr} {H : Hp} {σ : L2.St} {ρ : Env} {i : Nat} {p : Addr} {vs : List V} {ds : List D} (en : EnvR K fm O H σ ρ) (hO : p ∈ O) (h0 : fm.H0 p = none) (hp : H p = some (.lst vs)) (r : RepL K (hide O H) vs ds)
    (hd : ∀ (j : Nat) (ys : List D), ρ[j]? = some (Slot.own ys) → σ[j]? ≠ some (some (V.ref p))) (hh : Held K fm O H (σ.set i (some (.ref p))) (ρ.set i (.own ds))) : EnvR K fm O H (σ.set i (some (.ref p))) (ρ.set i (.own ds)) := by
  refine ⟨by simp [en.len], fun j s q => ?_, fun j k xs ys a ne q1 q2 q3 q4 => ?_, en.there, en.there0, en.sub, en.same, hh⟩
  · by_cases hj : i = j
    · subst hj
      by_cases hl : i < ρ.length
      · rw [List.getElem?_set_self hl] at q
        cases q
        have hl' : i < σ.length := by rw [en.len]; exact hl
        rw [List.getElem?_set_self hl']
        exact ⟨p, vs, rfl, hO, h0, hp, r⟩
      · rw [List.getElem?_eq_none (by simp; omega)] at q; cases q
    · rw [List.getElem?_set_ne hj] at q ⊢
      exact en.at' j s q
  · by_cases hj : i = j
    · subst hj
      have hk : i ≠ k := ne
      rw [List.getElem?_set_ne hk] at q2 q4
      by_cases hl' : i < σ.length
      · rw [List.getElem?_set_self hl'] at q3
        cases q3
        exact hd k ys q2 q4
      · rw [List.getElem?_eq_none (by simp; omega)] at q3; cases q3
    · rw [List.getElem?_set_ne hj] at q1 q3
      by_cases hk : i = k
      · subst hk
        by_cases hl' : i < σ.length
        · rw [List.getElem?_set_self hl'] at q4
          cases q4
          exact hd j xs q1 q3
        · rw [List.getElem?_eq_none (by simp; omega)] at q4; cases q4
      · rw [List.getElem?_set_ne hk] at q2 q4
        exact en.dist j k xs ys a ne q1 q2 q3 q4
/-- a slot gets a new list of its own -/
theorem Held.newOwn {K : PySem.W.Frag} {fm : Fm} {O : List Addr} {H H' : Hp} {σ : L2.St} {ρ : Env} {i : Nat} {p : Addr} {ds : List D} (h : Held K fm O H σ ρ) (s : Same H H') (hp : H p = none) : Held K fm (p :: O) H' (σ.set i (some (.ref p))) (ρ.set i (.own ds)) := by
  have sh : Same (hide O H) (hide (p :: O) H') := fun a o h => by
    obtain ⟨h1, h2⟩ := hide_sub h
    exact hide_of (s _ _ h2) (by simp only [List.mem_cons, not_or]; exact ⟨ne_of_none h2 hp, h1⟩)
  refine h.move sh (fun b hb hn _ => ⟨keep_same s hn, List.mem_cons_of_mem _ hb⟩) (fun j sl hT q => ?_) fun j xs a q1 q2 => ?_
  · by_cases hj : i = j
    · subst hj
      rw [List.getElem?_set] at q
      simp only [if_true] at q
      split at q
      · cases q; cases hT
      · cases q
    · rw [List.getElem?_set_ne hj] at q ⊢
      exact ⟨q, rfl⟩
  · by_cases hj : i = j
    · subst hj
      rw [List.getElem?_set] at q2
      simp only [if_true] at q2
      split at q2
      · cases q2
        exact .inr (.inr hp)
      · cases q2
    · rw [List.getElem?_set_ne hj] at q1 q2
      exact .inl ⟨xs, q1, q2⟩
def sOwn (i : Nat) (f : Ax) : Sx := fun ρ => lThen (f ρ) ρ fun ds => .nx (ρ.set i (.own ds))
/-- x = a new list, x the one name for it -/
theorem ss_own {i : Nat} {x : Str} {e : Expr} {f : Ax} {pos pos' : Pos} (hN : X.N.Nodup) (hi : X.N[i]? = some x) (hx : Loc X.env.scope x) (ha : SF X W e f) (hs : swapsWith e (some (.Name x pos')) pos.line X.env = pure false := by rfl)
    (hf : X.fn x = true ∨ X.env.scope.names.lookup x = some .local := by first | exact .inl rfl | exact .inr rfl | assumption) : SS X W (.Assign [.Name x pos'] e pos) (sOwn i f) := by
  refine PS.weak (ps_set hN hi hx ha hs hf) fun Dn σ H ⟨fm, O, ρ, en, h⟩ => ?_
  refine ⟨fm, O, ρ, en, ?_⟩
  unfold sOwn at h
  cases e1 : f ρ with
  | no => rw [e1] at h; exact h
  | ex x => rw [e1] at h; exact fun H1 cls dd s q => h O σ H1 cls dd (en.mono s) (Same.hide s) q
  | ok ds =>
    rw [e1] at h
    intro p H1 vs s hp hq r
    have en1 : EnvR X.K fm (p :: O) H1 σ ρ := en.new s hp (by rw [hq]; exact fun z => by cases z)
    have sh : Same (hide O H) (hide (p :: O) H1) := fun a o h => by
      obtain ⟨h1, h2⟩ := hide_sub h
      exact hide_of (s _ _ h2) (by simp only [List.mem_cons, not_or]; exact ⟨ne_of_none h2 hp, h1⟩)
    refine h (p :: O) _ H1 (en1.setOwn List.mem_cons_self ?_ hq r ?_ (en.held.newOwn s hp)) ?_
    · cases q : fm.H0 p with
      | none => rfl
      | some o => rw [en.same _ _ q] at hp; cases hp
    · intro j ys q1 q2
      obtain ⟨a, xs, h1, h2, h3, h4, h5⟩ := en.at' j _ q1
      rw [q2] at h1
      cases h1
      exact en.there p h2 hp
    · intro a o h
      obtain ⟨h1, h2⟩ := hide_sub h
      exact hide_of (s _ _ h2) (by simp only [List.mem_cons, not_or]; exact ⟨ne_of_none h2 hp, h1⟩)
/-- x.append(e) -/
def sApp (i : Nat) (a : Ex) : Sx := fun ρ => match ρ[i]? with
  | some (.own xs) => if xs.length < 1000000 then rThen (a ρ) ρ fun d => .nx (ρ.set i (.own (xs ++ [d]))) else .no
  | _ => .no
theorem upd_hide {O : List Addr} {H : Hp} {p : Addr} {o : HO} (h : p ∈ O) : hide O (upd H p o) = hide O H := by
  funext a
  unfold hide
  split
  · rfl
  · rename_i hn
    exact upd_ne fun z => hn (z ▸ h)
theorem ss_app {i : Nat} {x : Str} {e : Expr} {fa : Ex} {pos cpos apos npos : Pos} (hN : X.N.Nodup) (hi : X.N[i]? = some x) (hv : Vis X.env.scope x) (ha : SE X W e fa) (hd : (x == ("__debug__" : Str)) = false := by decide) (hcd : (x == ("__classdict__" : Str)) = false := by decide)
    (hbase : attributeBase (.Name x npos) "append" X.env (eval (.Name x npos) X.env) = eval (.Name x npos) X.env := by rfl)
    (hfew : ((backTo cpos (starEach [e] X.env)).all (fun x => !x.1) && (backToKw cpos (keywordEach [] X.env)).all (fun x => x.1.isSome) && decide ([e].length + ([] : List Keyword).length + (if ([] : List Keyword).isEmpty then 0 else 1) < 30)) = true := by rfl)
    (hline : (apos.endLine == cpos.line) = true := by rfl) (hs : starEach [e] X.env = (false, eval e X.env) :: starEach [] X.env := by rfl)
    (hsw : swapsWith (.Call (.Attribute (.Name x npos) "append" apos) [e] [] cpos) none pos.line X.env = pure false := by rfl) :
    SS X W (.Expr (.Call (.Attribute (.Name x npos) "append" apos) [e] [] cpos) pos) (sApp i fa) := by
  refine PS.weak (ps_expr (pe_bm PySem.F.plainAttrs_list PySem.F.slot_list_append PySem.F.type_list_append mt_append (pe_var hi hv hd hcd) (pa_cons ha pa_nil hs) hbase hfew hline hs rfl) hsw) fun Dn σ H ⟨fm, O, ρ, en, h⟩ => ?_
  unfold sApp at h
  split at h
  · rename_i xs e1
    split at h
    · rename_i hz
      obtain ⟨a, vs, h1, h2, h3, h4, h5⟩ := en.at' i _ e1
      have hl : i < σ.length := by rw [en.len]; exact (List.getElem?_eq_some_iff.mp e1).1
      have hσ : σ[i]? = some (some (.ref a)) := by
        rw [List.getElem?_eq_getElem hl, Option.getD_some] at h1
        rw [List.getElem?_eq_getElem hl, h1]
      refine ⟨.ref a, hσ, .inl ⟨rfl, _, SqL.of h4⟩, fm, O, ρ, en, (PostS.then en h).imp fun v H1 s1 ⟨_, en1, d, r, q⟩ => ?_⟩
      have h4' : H1 a = some (.lst vs) := s1 _ _ h4
      refine ⟨a, vs, v, rfl, rfl, h4', ?_, ?_⟩
      · rw [h5.length]
        have : (1000000 : Nat) ≤ sizeLine := by decide
        omega
      · have hh : hide O (upd H1 a (.lst (vs ++ [v]))) = hide O H1 := upd_hide h2
        have en2 : EnvR X.K fm O (upd H1 a (.lst (vs ++ [v]))) σ (ρ.set i (.own (xs ++ [d]))) := by
          have hHeld : Held X.K fm O (upd H1 a (.lst (vs ++ [v]))) σ (ρ.set i (.own (xs ++ [d]))) := by
            refine en1.held.move (by rw [hh]; exact Same.refl _) (fun b hb _ hno => ⟨upd_ne (hno i xs a e1 hσ), hb⟩) (fun j sl hT q => ?_) fun j us b q1 q2 => .inl ?_
            · by_cases hj : i = j
              · subst hj
                rw [List.getElem?_set] at q
                simp only [if_true] at q
                split at q
                · cases q; cases hT
                · cases q
              · rw [List.getElem?_set_ne hj] at q
                exact ⟨q, rfl⟩
            · by_cases hj : i = j
              · subst hj; exact ⟨xs, e1, q2⟩
              · rw [List.getElem?_set_ne hj] at q1; exact ⟨us, q1, q2⟩
          refine ⟨by simp [en.len], fun j s q => ?_, fun j k ys zs b ne q1 q2 q3 q4 => ?_, fun b hb => ?_, en.there0, en.sub, fun b o q => ?_, hHeld⟩
          · by_cases hj : i = j
            · subst hj
              rw [List.getElem?_set_self (by rw [← en.len]; exact hl)] at q
              cases q
              rw [hσ]
              exact ⟨a, _, rfl, h2, h3, upd_same, by rw [hh]; exact (h5.mono (Same.hide s1)).append (.cons r .nil)⟩
            · rw [List.getElem?_set_ne hj] at q
              have w := en1.at' j s q
              cases s with
              | ref x => trivial
              | refs x => trivial
              | sto w' m d S => exact fun z => by obtain ⟨x, w1, w2⟩ := w z; exact ⟨x, w1, by rw [hh]; exact w2⟩
              | thing x => trivial
              | emp => trivial
              | val d => obtain ⟨x, w1, w2⟩ := w; exact ⟨x, w1, by rw [hh]; exact w2⟩
              | own ds =>
                obtain ⟨b, ys, w1, w2, w3, w4, w5⟩ := w
                refine ⟨b, ys, w1, w2, w3, ?_, by rw [hh]; exact w5⟩
                rw [upd_ne]
                · exact w4
                · intro z
                  subst z
                  have hl2 : j < σ.length := by rw [en.len]; exact (List.getElem?_eq_some_iff.mp q).1
                  rw [List.getElem?_eq_getElem hl2, Option.getD_some] at w1
                  exact en.dist i j xs ds b hj e1 q hσ (by rw [List.getElem?_eq_getElem hl2, w1])
              | exc e' x => exact exc_mono (by rw [hh]; exact Same.refl _) w
          · have own_of : ∀ (m : Nat) (us : List D), (ρ.set i (.own (xs ++ [d])))[m]? = some (.own us) → ∃ us', ρ[m]? = some (.own us') := fun m us q => by
              by_cases hm : i = m
              · subst hm; exact ⟨xs, e1⟩
              · rw [List.getElem?_set_ne hm] at q; exact ⟨us, q⟩
            obtain ⟨_, q1'⟩ := own_of j ys q1
            obtain ⟨_, q2'⟩ := own_of k zs q2
            exact en.dist j k _ _ b ne q1' q2' q3 q4
          · by_cases hb' : b = a
            · subst hb'; rw [upd_same]; exact fun z => by cases z
            · rw [upd_ne hb']; exact en1.there b hb
          · have nb : b ≠ a := fun z => by rw [z, h3] at q; cases q
            rw [upd_ne nb]; exact en1.same b o q
        exact q O _ _ en2 (by rw [hh]; exact Same.refl _)
    · exact h.elim
  · exact h.elim
/-- x is no longer the one name for its list -/
def sRel (i : Nat) (F : Sx) : Sx := fun ρ => match ρ[i]? with
  | some (.own xs) => F (ρ.set i (.val (.lst xs)))
  | _ => F ρ
theorem EnvR.rel {K : PySem.W.Frag} {fm : Fm} {O : List Addr} {H : Hp} {σ : L2.St} {ρ : Env} {i : Nat} {xs : List D} (en : EnvR K fm O H σ ρ) (e : ρ[i]? = some (.own xs)) : ∃ O', EnvR K fm O' H σ (ρ.set i (.val (.lst xs))) ∧ Same (hide O H) (hide O' H) := by
  obtain ⟨a, vs, h1, h2, h3, h4, h5⟩ := en.at' i _ e
  have hl : i < σ.length := by rw [en.len]; exact (List.getElem?_eq_some_iff.mp e).1
  have hσ : σ[i]? = some (some (.ref a)) := by
    rw [List.getElem?_eq_getElem hl, Option.getD_some] at h1
    rw [List.getElem?_eq_getElem hl, h1]
  have sh : Same (hide O H) (hide (O.filter fun b => b ≠ a) H) := fun b o q => by
    obtain ⟨q1, q2⟩ := hide_sub q
    exact hide_of q2 fun z => q1 (List.mem_filter.mp z).1
  have hHeld : Held K fm (O.filter fun b => b ≠ a) H σ (ρ.set i (.val (.lst xs))) := by
    refine en.held.move sh (fun b hb _ hno => ⟨rfl, List.mem_filter.mpr ⟨hb, by simpa using hno i xs a e hσ⟩⟩) (fun j sl hT q => ?_) fun j us b q1 q2 => .inl ?_
    · by_cases hj : i = j
      · subst hj
        rw [List.getElem?_set] at q
        simp only [if_true] at q
        split at q
        · cases q; cases hT
        · cases q
      · rw [List.getElem?_set_ne hj] at q
        exact ⟨q, rfl⟩
    · by_cases hj : i = j
      · subst hj
        rw [List.getElem?_set] at q1
        simp only [if_true] at q1
        split at q1
        · cases q1
        · cases q1
      · rw [List.getElem?_set_ne hj] at q1; exact ⟨us, q1, q2⟩
  refine ⟨O.filter fun b => b ≠ a, ⟨by simp [en.len], fun j s q => ?_, fun j k ys zs b ne q1 q2 q3 q4 => ?_, fun b hb => en.there b (List.mem_filter.mp hb).1, en.there0, fun b hb => ?_, en.same, hHeld⟩, sh⟩
  · by_cases hj : i = j
    · subst hj
      rw [List.getElem?_set_self (by rw [← en.len]; exact hl)] at q
      cases q
      rw [hσ]
      exact ⟨.ref a, rfl, .lst (hide_of h4 fun z => by simpa using (List.mem_filter.mp z).2) (h5.mono sh)⟩
    · rw [List.getElem?_set_ne hj] at q
      have w := en.at' j s q
      cases s with
      | ref x => trivial
      | refs x => trivial
      | sto w' m d S => exact fun z => by obtain ⟨x, w1, w2⟩ := w z; exact ⟨x, w1, w2.mono sh⟩
      | thing x => trivial
      | emp => trivial
      | val d => obtain ⟨x, w1, w2⟩ := w; exact ⟨x, w1, w2.mono sh⟩
      | own ds =>
        obtain ⟨b, ys, w1, w2, w3, w4, w5⟩ := w
        refine ⟨b, ys, w1, List.mem_filter.mpr ⟨w2, ?_⟩, w3, w4, w5.mono sh⟩
        have hl2 : j < σ.length := by rw [en.len]; exact (List.getElem?_eq_some_iff.mp q).1
        rw [List.getElem?_eq_getElem hl2, Option.getD_some] at w1
        simp only [ne_eq, decide_not, Bool.not_eq_true', decide_eq_false_iff_not]
        intro z
        subst z
        exact en.dist i j xs ds b hj e q hσ (by rw [List.getElem?_eq_getElem hl2, w1])
      | exc e' x => exact exc_mono sh w
  · have ho : ∀ (m : Nat) (us : List D), (ρ.set i (.val (.lst xs)))[m]? = some (.own us) → ρ[m]? = some (.own us) := fun m us q => by
      by_cases hm : i = m
      · subst hm
        rw [List.getElem?_set_self (by rw [← en.len]; exact hl)] at q; cases q
      · rw [List.getElem?_set_ne hm] at q; exact q
    exact en.dist j k ys zs b ne (ho j ys q1) (ho k zs q2) q3 q4
  · refine List.mem_filter.mpr ⟨en.sub b hb, ?_⟩
    simp only [ne_eq, decide_not, Bool.not_eq_true', decide_eq_false_iff_not]
    intro z
    subst z
    exact en.there0 b hb h3
theorem rel_read {mg : Str → Option Value} {K : PySem.W.Frag} {i : Nat} {F : Sx} {Dn : Ends} {σ : L2.St} {H : Hp} (h : tS mg K W (sRel i F) Dn σ H) : tS mg K W F Dn σ H := by
  obtain ⟨fm, O, ρ, en, h⟩ := h
  unfold sRel at h
  split at h
  · rename_i xs e
    obtain ⟨O', en', s⟩ := en.rel e
    exact ⟨fm, O', _, en', PostS.mono h s⟩
  · exact ⟨fm, O, ρ, en, h⟩
theorem ss_rel {i : Nat} {sts : List Stmt} {F : Sx} (h : SSs X W sts F) : SSs X W sts (sRel i F) := PSs.weak h fun _ _ _ h => rel_read h
theorem s1_rel {i : Nat} {st : Stmt} {F : Sx} (h : SS X W st F) : SS X W st (sRel i F) := PS.weak h fun _ _ _ h => rel_read h
end
end JK

/-! Lay6 -/
set_option Elab.async false
set_option linter.all false
set_option maxRecDepth 100000
set_option autoImplicit false
namespace JK
open PySem PySem.Spec PyProof.Rows L2
/-! ### targets -/
abbrev Gx := D → Env → R Env
abbrev Gsx := List D → Env → R Env
def PostG (K : PySem.W.Frag) (fm : Fm) (O : List Addr) (H : Hp) (vs : List Nat) (σ : L2.St) (Q : L2.St → Hp → Prop) : R Env → Prop
  | .ok ρ => ∀ σ', EnvR K fm O H σ' ρ → wipe σ' vs = wipe σ vs → Q σ' H
  | _ => False
def tG (K : PySem.W.Frag) (vs : List Nat) (g : Gx) : TG := fun v σ H Q => ∃ fm O ρ d, EnvR K fm O H σ ρ ∧ Rep K (hide O H) v d ∧ PostG K fm O H vs σ Q (g d ρ)
def tGs (K : PySem.W.Frag) (vs : List Nat) (g : Gsx) : TGs := fun xs σ H Q => ∃ fm O ρ ds, EnvR K fm O H σ ρ ∧ RepL K (hide O H) xs ds ∧ PostG K fm O H vs σ Q (g ds ρ)
def SG (X : Cx) (vs : List Nat) (tg : Expr) (g : Gx) : Prop := PG X tg (tG X.K vs g)
def SGs (X : Cx) (vs : List Nat) (tgs : List Expr) (g : Gsx) : Prop := PGs X tgs (tGs X.K vs g)
theorem PG.weak {X : Cx} {e : Expr} {t t' : TG} (h : PG X e t) (k : ∀ v σ H Q, t' v σ H Q → t v σ H Q) : PG X e t' := ⟨fun pins s σ H v u Q I r hw => h.run pins s σ H v u Q I r (k v σ H Q hw)⟩
theorem PGs.weak {X : Cx} {e : List Expr} {t t' : TGs} (h : PGs X e t) (k : ∀ v σ H Q, t' v σ H Q → t v σ H Q) : PGs X e t' := ⟨fun pins s σ H v u Q I r hw => h.run pins s σ H v u Q I r (k v σ H Q hw)⟩
theorem wipe_set {σ : L2.St} {i : Nat} {v : Option V} : ∀ {vs : List Nat}, i ∈ vs → wipe (σ.set i v) vs = wipe σ vs
  | [], h => by cases h
  | j :: vs, h => by
    by_cases e : i = j
    · subst e
      unfold wipe
      by_cases hm : i ∈ vs
      · rw [wipe_set hm]
      · have gen : ∀ ws : List Nat, i ∉ ws → wipe (σ.set i v) ws = (wipe σ ws).set i v := by
          intro ws
          induction ws with
          | nil => intro _; rfl
          | cons k ws ih =>
            intro hn
            simp only [List.mem_cons, not_or] at hn
            unfold wipe
            rw [ih hn.2, List.set_comm _ _ hn.1]
        rw [gen vs hm, List.set_set]
    · rcases List.mem_cons.mp h with z | z
      · exact absurd z e
      · unfold wipe
        rw [wipe_set z]
section
variable {X : Cx} {W : WX} {vs : List Nat}
def gN (i : Nat) : Gx := fun d ρ => .ok (ρ.set i (.val d))
def gsNil : Gsx := fun ds ρ => match ds with
  | [] => .ok ρ
  | _ => .no
def gsCons (g : Gx) (r : Gsx) : Gsx := fun ds ρ => match ds with
  | d :: ds => (g d ρ).bnd (r ds)
  | [] => .no
def gT (r : Gsx) : Gx := fun d ρ => match d with
  | .tup ds => r ds ρ
  | .lst ds => r ds ρ
  | _ => .no
theorem sg_name {i : Nat} {x : Str} {pos : Pos} (hv : i ∈ vs) (hN : X.N.Nodup) (hi : X.N[i]? = some x) (hx : Loc X.env.scope x) (hf : X.fn x = true ∨ X.env.scope.names.lookup x = some .local := by first | exact .inl rfl | exact .inr rfl | assumption) : SG X vs (.Name x pos) (gN i) :=
  PG.weak (pg_name hN hi hx hf) fun v σ H Q ⟨fm, O, ρ, d, en, r, h⟩ => h _ (en.set r) (wipe_set hv)
theorem sgs_nil : SGs X vs [] gsNil := by
  refine PGs.weak pgs_nil fun v σ H Q ⟨fm, O, ρ, ds, en, r, h⟩ => ?_
  cases r with
  | nil => exact ⟨rfl, h σ en rfl⟩
  | cons a b => exact h.elim
theorem sgs_cons {e : Expr} {es : List Expr} {g : Gx} {gs : Gsx} (h1 : SG X vs e g) (h2 : SGs X vs es gs) (hs : (assignEach (e :: es) X.env).map (·.2) = assign e X.env :: (assignEach es X.env).map (·.2) := by rfl) : SGs X vs (e :: es) (gsCons g gs) := by
  refine PGs.weak (pgs_cons h1 h2 hs) fun v σ H Q ⟨fm, O, ρ, ds, en, r, h⟩ => ?_
  cases r with
  | nil => exact h.elim
  | @cons v0 vs0 d ds a b =>
    refine ⟨_, _, rfl, fm, O, ρ, _, en, a, ?_⟩
    have h' : PostG X.K fm O H vs σ Q ((g d ρ).bnd (gs ds)) := h
    cases q : g d ρ with
    | no => rw [q] at h'; exact h'
    | ex x => rw [q] at h'; exact h'
    | ok ρ1 =>
      rw [q] at h'
      intro σ1 en1 w1
      refine ⟨fm, O, ρ1, ds, en1, b, ?_⟩
      have h'' : PostG X.K fm O H vs σ Q (gs ds ρ1) := h'
      cases q2 : gs ds ρ1 with
      | no => rw [q2] at h''; exact h''
      | ex x => rw [q2] at h''; exact h''
      | ok ρ2 => rw [q2] at h''; exact fun σ2 en2 w2 => h'' σ2 en2 (w2.trans w1)
theorem gs_len {es : List Expr} {gs : Gsx} (h : SGs X vs es gs) : True := trivial
theorem sg_tup {es : List Expr} {k n : Nat} {gs : Gsx} {pos : Pos} (hc : X.calm = true) (h : SGs X vs es gs) (hlen : ∀ ds ρ ρ', gs ds ρ = .ok ρ' → ds.length = n)
    (hn : (assignEach es X.env).length = n := by rfl) (hst : (assignEach es X.env).findIdx? (·.1) = none := by rfl) : SG X vs (.Tuple es k pos) (gT gs) := by
  refine ⟨fun pins s σ H v u Q I rv h' => ?_⟩
  obtain ⟨fm, O, ρ, d, en, r, q⟩ := h'
  cases r with
  | tup e l =>
    refine (pg_tup hc h hn hst).run pins s σ H _ u Q I rv ⟨_, _, rfl, SqT.out e, ?_, fm, O, ρ, _, en, l, q⟩
    rw [l.length]
    have q' : PostG X.K fm O H vs σ Q (gs _ ρ) := q
    cases q2 : gs _ ρ with
    | no => rw [q2] at q'; exact q'.elim
    | ex x => rw [q2] at q'; exact q'.elim
    | ok ρ2 => exact hlen _ _ _ q2
  | lst e l =>
    refine (pg_lst hc h hn hst).run pins s σ H _ u Q I rv ⟨_, _, rfl, SqL.of (same_hide _ _ e), ?_, fm, O, ρ, _, en, l, q⟩
    rw [l.length]
    have q' : PostG X.K fm O H vs σ Q (gs _ ρ) := q
    cases q2 : gs _ ρ with
    | no => rw [q2] at q'; exact q'.elim
    | ex x => rw [q2] at q'; exact q'.elim
    | ok ρ2 => exact hlen _ _ _ q2
  | non => exact q.elim
  | bl => exact q.elim
  | int => exact q.elim
  | str => exact q.elim
  | scr => exact q.elim
  | box => exact q.elim
theorem gl_nil : ∀ ds ρ ρ', gsNil ds ρ = .ok ρ' → ds.length = 0 := fun ds ρ ρ' h => by
  cases ds with
  | nil => rfl
  | cons a b => cases h
theorem gl_cons {g : Gx} {gs : Gsx} {n : Nat} (h : ∀ ds ρ ρ', gs ds ρ = .ok ρ' → ds.length = n) : ∀ ds ρ ρ', gsCons g gs ds ρ = .ok ρ' → ds.length = n + 1 := fun ds ρ ρ' q => by
  cases ds with
  | nil => cases q
  | cons a b =>
    have q' : (g a ρ).bnd (gs b) = .ok ρ' := q
    cases e : g a ρ with
    | no => rw [e] at q'; cases q'
    | ex x => rw [e] at q'; cases q'
    | ok ρ1 => rw [e] at q'; rw [List.length_cons, h b ρ1 ρ' q']
/-- (a, b, ..) = e -/
def sAsg (a : Ex) (g : Gx) : Sx := fun ρ => rThen (a ρ) ρ fun d => match g d ρ with
  | .ok ρ' => .nx ρ'
  | _ => .no
theorem ss_asg {tg e : Expr} {fa : Ex} {g : Gx} {pos : Pos} (ha : SE X W e fa) (hg : SG X vs tg g) (hs : swapsWithSole [tg] e pos.line X.env = pure false := by rfl) (hw : swappedStores [tg] e X.env = pure none := by rfl)
    (h1 : (assignEach [tg] X.env).map (·.2) = [assign tg X.env] := by rfl) : SS X W (.Assign [tg] e pos) (sAsg fa g) := by
  refine PS.weak (ps_asg ha hg hs hw h1) fun Dn σ H ⟨fm, O, ρ, en, h⟩ => ?_
  refine ⟨fm, O, ρ, en, (PostS.then en h).imp fun v H1 s1 ⟨_, en1, d, r, q⟩ => ?_⟩
  refine ⟨fm, O, ρ, d, en1, r, ?_⟩
  cases e1 : g d ρ with
  | no => rw [e1] at q; exact q.elim
  | ex x => rw [e1] at q; exact q.elim
  | ok ρ' => rw [e1] at q; exact fun σ' en' _ => q O σ' H1 en' (Same.refl _)
/-- a, b = x, y -/
def sPar (i j : Nat) (f : Ax) : Sx := fun ρ => lThen (f ρ) ρ fun ds => match ds with
  | [d, e] => .nx ((ρ.set i (.val d)).set j (.val e))
  | _ => .no
theorem PostS.thenA {mg : Str → Option Value} {K : PySem.W.Frag} {fm : Fm} {O : List Addr} {σ : L2.St} {H : Hp} {Dn : Ends} {r : R (List D)} {ρ : Env} {k : List D → Out} (en : EnvR K fm O H σ ρ) (h : PostS mg K fm (hide O H) W Dn (lThen r ρ k)) :
    PostA mg K O σ H W (fun v H1 => Same H H1 ∧ EnvR K fm O H1 σ ρ ∧ ∃ d, RepL K (hide O H1) v d ∧ PostS mg K fm (hide O H1) W Dn (k d)) r := by
  cases r with
  | no => exact h
  | ok d => exact fun v H1 s q => ⟨s, en.mono s, d, q, PostS.mono (o := k d) h (Same.hide s)⟩
  | ex x => exact fun H1 cls dd s q => h O σ H1 cls dd (en.mono s) (Same.hide s) q
theorem ss_par {i j : Nat} {x y : Str} {a b : Expr} {f : Ax} {px py pt pos : Pos} {kt k2 : Nat} {pt2 : Pos} (hc : X.calm = true) (hN : X.N.Nodup) (hi : X.N[i]? = some x) (hj : X.N[j]? = some y) (hij : i ≠ j)
    (hx : X.env.scope.names.lookup x = some .local) (hy : X.env.scope.names.lookup y = some .local) (ha : SAs X W [a, b] f)
    (hw : swappedStores [.Tuple [.Name x px, .Name y py] kt pt] (.Tuple [a, b] k2 pt2) X.env = pure (some [x, y]))
    (hs : swapsWithSole [.Tuple [.Name x px, .Name y py] kt pt] (.Tuple [a, b] k2 pt2) pos.line X.env = pure false := by rfl) :
    SS X W (.Assign [.Tuple [.Name x px, .Name y py] kt pt] (.Tuple [a, b] k2 pt2) pos) (sPar i j f) := by
  refine PS.weak (ps_par hc hN hi hj hij hx hy ha.pa hw hs) fun Dn σ H ⟨fm, O, ρ, en, h⟩ => ?_
  refine ⟨fm, O, ρ, en, (PostS.thenA en h).imp fun v H1 s1 ⟨_, en1, ds, r, q⟩ => ?_⟩
  match ds, r, q with
  | [d, e], r, q =>
    obtain ⟨v1, v2, ev, r1, r2⟩ := r.two
    subst ev
    exact ⟨v1, v2, rfl, q O _ H1 ((en1.set r1).set r2) (Same.refl _)⟩
  | [], r, q => exact q.elim
  | [_], r, q => exact q.elim
  | _ :: _ :: _ :: _, r, q => exact q.elim
/-! ### what is walked -/
structure WalkD (K : PySem.W.Frag) (B : Hp) (J : It) (ds : List D) : Prop where
  len : ds.length ≤ sizeLine
  goes : ∀ i H, i < ds.length → Same B H → J.go i H
  stops : ∀ H, Same B H → J.stop ds.length H
  yields : ∀ i H v H', i < ds.length → Same B H → J.yld i H v H' → ∃ d B', ds[i]? = some d ∧ Rep K B' v d ∧ Same B B' ∧ Same H H' ∧ ∀ a o, B' a = some o → B a = some o ∨ (H a = none ∧ H' a = some o)
/-- .. where what goes on hangs on more of the heap -/
structure WalkG (K : PySem.W.Frag) (G B : Hp) (J : It) (ds : List D) : Prop where
  len : ds.length ≤ sizeLine
  goes : ∀ i H, i < ds.length → Same G H → J.go i H
  stops : ∀ H, Same G H → J.stop ds.length H
  yields : ∀ i H v H', i < ds.length → Same G H → J.yld i H v H' → ∃ d B', ds[i]? = some d ∧ Rep K B' v d ∧ Same B B' ∧ Same H H' ∧ ∀ a o, B' a = some o → B a = some o ∨ (H a = none ∧ H' a = some o)
theorem WalkD.g {K : PySem.W.Frag} {G B : Hp} {J : It} {ds : List D} (w : WalkD K B J ds) (s : Same B G) : WalkG K G B J ds :=
  ⟨w.len, fun i H h q => w.goes i H h (s.trans q), fun H q => w.stops H (s.trans q), fun i H v H' h q y => w.yields i H v H' h (s.trans q) y⟩
def PostI (mg : Str → Option Value) (K : PySem.W.Frag) (O : List Addr) (σ : L2.St) (H : Hp) (W : WX) (Rr : It → Hp → Prop) : R (List D) → Prop
  | .ok ds => ∀ J H', Same H H' → WalkD K (hide O H') J ds → Rr J H'
  | .ex x => ∀ H' cls dd, Same H H' → ExcR mg K O H' x cls dd → W cls dd σ H'
  | .no => False
def PostIg (mg : Str → Option Value) (K : PySem.W.Frag) (O : List Addr) (σ : L2.St) (H : Hp) (W : WX) (Rr : It → Hp → Prop) : R (List D) → Prop
  | .ok ds => ∀ J H', Same H H' → WalkG K H' (hide O H') J ds → Rr J H'
  | .ex x => ∀ H' cls dd, Same H H' → ExcR mg K O H' x cls dd → W cls dd σ H'
  | .no => False
def tI (mg : Str → Option Value) (K : PySem.W.Frag) (W : WX) (f : Ax) : TI := fun σ H Rr => ∃ fm O ρ, EnvR K fm O H σ ρ ∧ PostI mg K O σ H W Rr (f ρ)
def tIg (mg : Str → Option Value) (K : PySem.W.Frag) (W : WX) (f : Ax) : TI := fun σ H Rr => ∃ fm O ρ, EnvR K fm O H σ ρ ∧ PostIg mg K O σ H W Rr (f ρ)
def SIg (X : Cx) (W : WX) (tg iter : Expr) (f : Ax) : Prop := PI X tg iter (tIg X.mg X.K W f)
def SI (X : Cx) (W : WX) (tg iter : Expr) (f : Ax) : Prop := PI X tg iter (tI X.mg X.K W f)
theorem PI.weak {tg e : Expr} {t t' : TI} (h : PI X tg e t) (k : ∀ σ H Q, t' σ H Q → t σ H Q) : PI X tg e t' := ⟨fun pins s σ H Q I hw => h.run pins s σ H Q I (k σ H Q hw)⟩
theorem SI.g {tg e : Expr} {f : Ax} (h : SI X W tg e f) : SIg X W tg e f := by
  refine PI.weak h fun σ H Rr ⟨fm, O, ρ, en, h⟩ => ⟨fm, O, ρ, en, ?_⟩
  cases q : f ρ with
  | no => rw [q] at h; exact h
  | ex x => rw [q] at h; exact h
  | ok ds => rw [q] at h; exact fun J H' s w => h J H' s (w.g same_hide)
/-- the items of a list, a tuple, a text -/
def signs (z : Str) : List D := z.cps.toList.map fun c => .str ⟨#[c]⟩
def dItems : D → R (List D)
  | .lst xs => .ok xs
  | .tup xs => .ok xs
  | .str z => if z.length ≤ sizeLine then .ok (signs z) else .no
  | _ => .no
def aItems (a : Ex) : Ax := fun ρ => (a ρ).bnd dItems
theorem PostI.ofD {mg : Str → Option Value} {K : PySem.W.Frag} {O : List Addr} {σ : L2.St} {H : Hp} {Rr : It → Hp → Prop} {r : R D} {k : D → R (List D)} (h : PostI mg K O σ H W Rr (r.bnd k)) :
    Post mg K O σ H W (fun v H1 => Same H H1 ∧ ∃ d, Rep K (hide O H1) v d ∧ PostI mg K O σ H1 W Rr (k d)) r := by
  cases r with
  | no => exact h
  | ex x => exact h
  | ok d =>
    intro v H1 s q
    refine ⟨s, d, q, ?_⟩
    have h' : PostI mg K O σ H W Rr (k d) := h
    cases e : k d with
    | no => rw [e] at h'; exact h'
    | ok d2 => rw [e] at h'; exact fun J H2 s2 q2 => h' J H2 (s.trans s2) q2
    | ex x => rw [e] at h'; exact fun H2 cls dd s2 q2 => h' H2 cls dd (s.trans s2) q2
theorem walk_lstD {K : PySem.W.Frag} {B : Hp} {a : Addr} {xs : List V} {ds : List D} (h : B a = some (.lst xs)) (r : RepL K B xs ds) (hl : ds.length ≤ sizeLine) : WalkD K B (Itl K a) ds := by
  refine ⟨hl, fun i H hi s => ?_, fun H s => ?_, fun i H v H' hi s y => ?_⟩
  · have hi' : i < xs.length := by rw [r.length]; exact hi
    exact ⟨xs, xs[i], SqL.of (s _ _ h), by simp [hi']⟩
  · exact ⟨xs, SqL.of (s _ _ h), by rw [r.length]; exact Nat.le_refl _⟩
  · obtain ⟨e, hv⟩ := y
    subst e
    obtain ⟨d, h1, h2⟩ := r.get' (hv xs (SqL.of (s _ _ h)))
    exact ⟨d, B, h1, h2, Same.refl _, Same.refl _, fun a o q => .inl q⟩
theorem walk_tupD {K : PySem.W.Frag} {B : Hp} {a : Addr} {xs : List V} {ds : List D} (h : SqT K B a xs) (r : RepL K B xs ds) (hl : ds.length ≤ sizeLine) : WalkD K B (Itt K a) ds := by
  refine ⟨hl, fun i H hi s => ?_, fun H s => ?_, fun i H v H' hi s y => ?_⟩
  · have hi' : i < xs.length := by rw [r.length]; exact hi
    exact ⟨xs, xs[i], Same.tupS s h, by simp [hi']⟩
  · exact ⟨xs, Same.tupS s h, by rw [r.length]; exact Nat.le_refl _⟩
  · obtain ⟨e, hv⟩ := y
    subst e
    obtain ⟨d, h1, h2⟩ := r.get' (hv xs (Same.tupS s h))
    exact ⟨d, B, h1, h2, Same.refl _, Same.refl _, fun a o q => .inl q⟩
theorem walk_strD {K : PySem.W.Frag} {B : Hp} {z : Str} (hl : z.length ≤ sizeLine) : WalkD K B (Its z) (signs z) := by
  have hz : (signs z).length = z.cps.size := by unfold signs; rw [List.length_map, Array.length_toList]
  refine ⟨by rw [hz]; exact hl, fun i H hi s => ?_, fun H s => ?_, fun i H v H' hi s y => ?_⟩
  · show i < z.cps.size
    rw [← hz]; exact hi
  · show z.cps.size ≤ _
    rw [← hz]; exact Nat.le_refl _
  · obtain ⟨e, c, hc, hv⟩ := y
    subst e hv
    refine ⟨.str ⟨#[c]⟩, B, ?_, .str _, Same.refl _, Same.refl _, fun a o q => .inl q⟩
    unfold signs
    rw [List.getElem?_map, Array.getElem?_toList, hc]
    rfl
theorem si_seq {tg e : Expr} {fa : Ex} (ha : SE X W e fa) : SI X W tg e (aItems fa) := by
  refine ⟨fun pins s σ H Rr I h => ?_⟩
  obtain ⟨fm, O, ρ, en, h⟩ := h
  refine thn (ha.run pins s σ H (fun v H1 => ∃ d, Rep X.K (hide O H1) v d ∧ PostI X.mg X.K O σ H1 W Rr (dItems d)) I ⟨fm, O, ρ, en, (PostI.ofD h).imp fun v H1 s1 ⟨_, d, r, q⟩ => ⟨d, r, q⟩⟩) fun v s1 ⟨x, H1, I1, r1, d, r, q⟩ => ?_
  unfold dItems at q
  split at q
  · cases r with
    | lst e1 l =>
      cases r1
      have hq : SqL X.K H1 _ _ := SqL.of (same_hide _ _ e1)
      obtain ⟨its, rv, p, hz⟩ := I1.list hq
      have hl : (_ : List D).length ≤ sizeLine := l.length ▸ hz
      refine wpAny_pyIter_list p.isList ?_
      refine ⟨s1.heap.objs.size, [s1.heap.objs.size], _, _, H1, rfl, I1.kept (t' := s1.toks) fun b o e => Heap.get?_push_of_some _ e, turn_list _ _, ⟨_, Heap.get?_push_size _ rfl, rfl, rfl⟩, fun b hb => ?_, q _ H1 (Same.refl _) (walk_lstD e1 l hl)⟩
      have e : b = s1.heap.objs.size := by simpa using hb
      subst e
      exact I1.fpOk (Nat.le_refl _) (I1.hok.fresh (Nat.le_refl _))
  · cases r with
    | tup e1 l =>
      cases r1
      have hq : SqT X.K H1 _ _ := SqT.out e1
      obtain ⟨its, rv, p, hz⟩ := I1.tuple hq
      have hl : (_ : List D).length ≤ sizeLine := l.length ▸ hz
      refine wpAny_pyIter_tuple (show s1.heap.IsTuple _ its.toArray from p) ?_
      refine ⟨s1.heap.objs.size, [s1.heap.objs.size], _, _, H1, rfl, I1.kept (t' := s1.toks) fun b o e => Heap.get?_push_of_some _ e, turn_tuple _ _, ⟨_, Heap.get?_push_size _ rfl, rfl, rfl⟩, fun b hb => ?_, q _ H1 (Same.refl _) (walk_tupD e1 l hl)⟩
      have e : b = s1.heap.objs.size := by simpa using hb
      subst e
      exact I1.fpOk (Nat.le_refl _) (I1.hok.fresh (Nat.le_refl _))
  · split at q
    · rename_i z hz
      cases r
      obtain ⟨t, rfl⟩ := r1
      have w := q _ H1 (Same.refl _) (walk_strD hz)
      cases ha : z.cps.all (· < 128)
      · exact wpAny_pyIter_wide ha (pi_one (tk := s1.toks) I1 _ (turn_str _ z t "str_iterator" (.inr rfl)) ⟨_, Heap.get?_push_size _ rfl, rfl, rfl⟩ w)
      · exact wpAny_pyIter_ascii ha (pi_one (tk := s1.toks) I1 _ (turn_str _ z t "str_ascii_iterator" (.inl rfl)) ⟨_, Heap.get?_push_size _ rfl, rfl, rfl⟩ w)
    · exact q.elim
  · exact q.elim
/-- range(a, b) -/
def rng (lo : Int) (n : Nat) : List D := (List.range n).map fun (i : Nat) => .int (lo + i)
theorem walk_rngD {K : PySem.W.Frag} {B : Hp} {lo : Int} {n : Nat} (hl : n ≤ sizeLine) : WalkD K B (Itr lo n) (rng lo n) := by
  have hz : (rng lo n).length = n := by unfold rng; rw [List.length_map, List.length_range]
  refine ⟨by rw [hz]; exact hl, fun i H hi s => by rw [hz] at hi; exact hi, fun H s => by rw [hz]; exact Nat.le_refl _, fun i H v H' hi s y => ?_⟩
  obtain ⟨e, hv⟩ := y
  subst e hv
  rw [hz] at hi
  refine ⟨.int (lo + i), B, ?_, .int _, Same.refl _, Same.refl _, fun a o q => .inl q⟩
  unfold rng
  rw [List.getElem?_map, List.getElem?_range hi]
  rfl
def dRng1 : List D → R (List D)
  | [.int j] => if j ≤ 1000000 ∧ -1000000 ≤ j then .ok (rng 0 j.toNat) else .no
  | _ => .no
def dRng2 : List D → R (List D)
  | [.int i, .int j] => if j ≤ 1000000 ∧ -1000000 ≤ j ∧ i ≤ 1000000 ∧ -1000000 ≤ i then .ok (rng i (j - i).toNat) else .no
  | _ => .no
def aRng (g : List D → R (List D)) (f : Ax) : Ax := fun ρ => (f ρ).bnd g
theorem PostI.ofA {mg : Str → Option Value} {K : PySem.W.Frag} {O : List Addr} {σ : L2.St} {H : Hp} {Rr : It → Hp → Prop} {r : R (List D)} {k : List D → R (List D)} (h : PostI mg K O σ H W Rr (r.bnd k)) :
    PostA mg K O σ H W (fun v H1 => Same H H1 ∧ ∃ d, RepL K (hide O H1) v d ∧ PostI mg K O σ H1 W Rr (k d)) r := by
  cases r with
  | no => exact h
  | ex x => exact h
  | ok d =>
    intro v H1 s q
    refine ⟨s, d, q, ?_⟩
    have h' : PostI mg K O σ H W Rr (k d) := h
    cases e : k d with
    | no => rw [e] at h'; exact h'
    | ok d2 => rw [e] at h'; exact fun J H2 s2 q2 => h' J H2 (s.trans s2) q2
    | ex x => rw [e] at h'; exact fun H2 cls dd s2 q2 => h' H2 cls dd (s.trans s2) q2
theorem si_range1 {tg a : Expr} {f : Ax} {p pos : Pos} (hg : Gl X "range") (hm : X.mg "range" = none) (ha : SAs X W [a] f) (hs : starEach [a] X.env = [(false, eval a X.env)] := by rfl) : SI X W tg (.Call (.Name "range" p) [a] [] pos) (aRng dRng1 f) := by
  refine PI.weak (pi_range1 hg hm ha.pa hs) fun σ H Rr ⟨fm, O, ρ, en, h⟩ => ?_
  refine ⟨fm, O, ρ, en, (PostI.ofA h).imp fun vs H1 s1 ⟨_, ds, r, q⟩ => ?_⟩
  unfold dRng1 at q
  split at q
  · split at q
    · rename_i j hj
      obtain ⟨v, ev, r1⟩ := r.one
      subst ev
      cases r1
      have : (1000000 : Nat) ≤ sizeLine := by decide
      exact ⟨j, rfl, by omega, by omega, q _ H1 (Same.refl _) (walk_rngD (by omega))⟩
    · exact q.elim
  · exact q.elim
theorem si_range2 {tg a b : Expr} {f : Ax} {p pos : Pos} (hg : Gl X "range") (hm : X.mg "range" = none) (ha : SAs X W [a, b] f) (hs : starEach [a, b] X.env = [(false, eval a X.env), (false, eval b X.env)] := by rfl) (hs2 : starEach [b] X.env = [(false, eval b X.env)] := by rfl) :
    SI X W tg (.Call (.Name "range" p) [a, b] [] pos) (aRng dRng2 f) := by
  refine PI.weak (pi_range2 hg hm ha.pa hs hs2) fun σ H Rr ⟨fm, O, ρ, en, h⟩ => ?_
  refine ⟨fm, O, ρ, en, (PostI.ofA h).imp fun vs H1 s1 ⟨_, ds, r, q⟩ => ?_⟩
  unfold dRng2 at q
  split at q
  · split at q
    · rename_i i j hj
      obtain ⟨v, u, ev, r1, r2⟩ := r.two
      subst ev
      cases r1; cases r2
      have : (2000000 : Nat) ≤ sizeLine := by decide
      exact ⟨i, j, rfl, ⟨by omega, by omega, by omega, by omega⟩, q _ H1 (Same.refl _) (walk_rngD (by omega))⟩
    · exact q.elim
  · exact q.elim
/-! ### for -/
def sLoop (g : Gx) (F : Sx) : List D → Env → Out
  | [], ρ => .nx ρ
  | d :: r, ρ => match g d ρ with
    | .ok ρ1 => match F ρ1 with
      | .nx ρ' => sLoop g F r ρ'
      | .ct ρ' => sLoop g F r ρ'
      | .bk ρ' => .nx ρ'
      | o => o
    | _ => .no
def sFor (f : Ax) (g : Gx) (F : Sx) : Sx := fun ρ => lThen (f ρ) ρ fun ds => sLoop g F ds ρ
theorem PostS.thenI {mg : Str → Option Value} {K : PySem.W.Frag} {fm : Fm} {O : List Addr} {σ : L2.St} {H : Hp} {Dn : Ends} {r : R (List D)} {ρ : Env} {k : List D → Out} {Rr : It → Hp → Prop} (en : EnvR K fm O H σ ρ) (h : PostS mg K fm (hide O H) W Dn (lThen r ρ k))
    (hk : ∀ ds J H1, Same H H1 → WalkD K (hide O H1) J ds → PostS mg K fm (hide O H1) W Dn (k ds) → Rr J H1) : PostI mg K O σ H W Rr r := by
  cases r with
  | no => exact h
  | ok d => exact fun J H1 s w => hk d J H1 s w (PostS.mono (o := k d) h (Same.hide s))
  | ex x => exact fun H1 cls dd s q => h O σ H1 cls dd (en.mono s) (Same.hide s) q
theorem yield_env {K : PySem.W.Frag} {fm : Fm} {B : Hp} {O : List Addr} {H H' : Hp} {σ : L2.St} {ρ : Env} {B' : Hp} {v : V} {d : D} (en : EnvR K fm O H σ ρ) (sB : Same B (hide O H)) (r : Rep K B' v d) (sH : Same H H') (hB : ∀ a o, B' a = some o → B a = some o ∨ (H a = none ∧ H' a = some o)) :
    EnvR K fm O H' σ ρ ∧ Rep K (hide O H') v d := by
  refine ⟨en.mono sH, r.mono fun a o h => ?_⟩
  rcases hB a o h with q | ⟨q1, q2⟩
  · exact Same.hide sH _ _ (sB _ _ q)
  · exact hide_of q2 (new_out en.there q1)
theorem ss_for {tg iter : Expr} {body : List Stmt} {f : Ax} {g : Gx} {F : Sx} {pos : Pos} (hp : PassesOwn (model X.prog X.w) X.A X.env X.xe) (hc : X.calm = true) (hi : SI X W tg iter f) (hg : SG X vs tg g) (hb : SSs X W body F)
    (hs : ∀ x, foldedSetIterable iter X.env x = pure x := by intro _; rfl) : SS X W (.For tg iter body [] pos) (sFor f g F) := by
  refine PS.weak (ps_for hp hc hi hg hb hs) fun Dn σ H ⟨fm, O, ρ, en, h⟩ => ?_
  refine ⟨fm, O, ρ, en, PostS.thenI en h fun ds J H1 s1 wd h1 => ?_⟩
  have en1 := en.mono s1
  refine ⟨fun i m σ H => ∃ O' ρ', i ≤ ds.length ∧ m = ds.length - i ∧ EnvR X.K fm O' H σ ρ' ∧ Same (hide O H1) (hide O' H) ∧ PostS X.mg X.K fm (hide O H1) W Dn (sLoop g F (ds.drop i) ρ'),
    ⟨ds.length, O, ρ, Nat.zero_le _, rfl, en1, Same.refl _, h1⟩, ?_⟩
  rintro i m σ H ⟨O', ρ', hi, em, en', sB, hL⟩
  by_cases hlt : i < ds.length
  · refine .inr ⟨wd.goes i H hlt (sB.trans same_hide), fun σ' H' => ∃ O'' ρ'', EnvR X.K fm O'' H' σ' ρ'' ∧ Same (hide O H1) (hide O'' H') ∧ PostS X.mg X.K fm (hide O H1) W Dn (sLoop g F (ds.drop (i + 1)) ρ''), ?_, ?_⟩
    · rintro σ' H' ⟨O'', ρ'', a1, a2, a3⟩
      exact ⟨ds.length - (i + 1), by omega, O'', ρ'', hlt, rfl, a1, a2, a3⟩
    · intro v H' y
      obtain ⟨d, B', hd, r, sBB, sHH, hBB⟩ := wd.yields i H v H' hlt (sB.trans same_hide) y
      obtain ⟨en2, r2⟩ := yield_env en' sB r sHH hBB
      have sB2 : Same (hide O H1) (hide O' H') := sB.trans (Same.hide sHH)
      refine ⟨fm, O', ρ', d, en2, r2, ?_⟩
      have e1 : ds.drop i = d :: ds.drop (i + 1) := by
        rw [List.drop_eq_getElem_cons hlt]
        congr 1
        rw [List.getElem?_eq_getElem hlt] at hd
        exact Option.some.inj hd
      rw [e1] at hL
      unfold sLoop at hL
      cases q : g d ρ' with
      | no => rw [q] at hL; exact hL.elim
      | ex x => rw [q] at hL; exact hL.elim
      | ok ρ1 =>
        rw [q] at hL
        intro σ2 en3 _
        refine ⟨fm, O', ρ1, en3, ?_⟩
        dsimp only at hL
        cases q2 : F ρ1 with
        | no => rw [q2] at hL; exact hL.elim
        | nx ρ2 =>
          rw [q2] at hL
          exact fun O3 σ3 H3 en4 s4 => ⟨O3, ρ2, en4, sB2.trans s4, hL⟩
        | ct ρ2 =>
          rw [q2] at hL
          exact fun O3 σ3 H3 en4 s4 => ⟨O3, ρ2, en4, sB2.trans s4, hL⟩
        | bk ρ2 =>
          rw [q2] at hL
          exact fun O3 σ3 H3 en4 s4 => hL O3 σ3 H3 en4 (sB2.trans s4)
        | rt d => rw [q2] at hL; exact hL
        | rm d ρ2 => rw [q2] at hL; exact fun O3 σ3 v3 H3 en4 s4 r4 => hL O3 σ3 v3 H3 en4 (sB2.trans s4) r4
        | rr i ρ2 => rw [q2] at hL; exact fun O3 σ3 v3 H3 en4 s4 r4 => hL O3 σ3 v3 H3 en4 (sB2.trans s4) r4
        | ex x ρ2 =>
          rw [q2] at hL
          exact fun O3 σ3 H3 cls dd en4 s4 q4 => hL O3 σ3 H3 cls dd en4 (sB2.trans s4) q4
  · have e : i = ds.length := by omega
    subst e
    refine .inl ⟨wd.stops H (sB.trans same_hide), ?_⟩
    rw [List.drop_length] at hL
    exact hL O' σ H en' sB
/-! ### while -/
def sWhileN (t : Tx) (F : Sx) : Nat → Env → Out
  | 0, _ => .no
  | n + 1, ρ => tThen (t ρ) ρ fun b => if b = true then (match F ρ with
      | .nx ρ' => sWhileN t F n ρ'
      | .ct ρ' => sWhileN t F n ρ'
      | .bk ρ' => .nx ρ'
      | o => o) else .nx ρ
def sWhile (n : Nat) (t : Tx) (F : Sx) : Sx := fun ρ => sWhileN t F n ρ
theorem ss_while {n : Nat} {c : Expr} {body : List Stmt} {t : Tx} {F : Sx} {pos : Pos} (hp : PassesOwn (model X.prog X.w) X.A X.env X.xe) (hc : ST X W c t) (hb : SSs X W body F) : SS X W (.While c body [] pos) (sWhile n t F) := by
  refine PS.weak (ps_while hp hc hb) fun Dn σ H ⟨fm, O, ρ, en, h⟩ => ?_
  refine ⟨fun m σ' H' => ∃ O' ρ', EnvR X.K fm O' H' σ' ρ' ∧ Same (hide O H) (hide O' H') ∧ PostS X.mg X.K fm (hide O' H') W Dn (sWhileN t F m ρ'), ⟨n, O, ρ, en, Same.refl _, h⟩, ?_⟩
  rintro m σ1 H1 ⟨O1, ρ1, en1, sB, hW⟩
  cases m with
  | zero => exact hW.elim
  | succ m =>
    unfold sWhileN at hW
    refine ⟨fm, O1, ρ1, en1, (PostS.thenT en1 hW).imp fun b H2 s2 ⟨_, en2, h2⟩ => ?_⟩
    cases b with
    | false => exact h2 O1 σ1 H2 en2 (Same.refl _)
    | true =>
      refine ⟨fun σ' H' => ∃ O' ρ', EnvR X.K fm O' H' σ' ρ' ∧ Same (hide O H) (hide O' H') ∧ PostS X.mg X.K fm (hide O' H') W Dn (sWhileN t F m ρ'), ?_, ?_⟩
      · rintro σ' H' ⟨O', ρ', a1, a2, a3⟩
        exact ⟨m, Nat.lt_succ_self _, O', ρ', a1, a2, a3⟩
      · refine ⟨fm, O1, ρ1, en2, ?_⟩
        rw [if_pos rfl] at h2
        cases q2 : F ρ1 with
        | no => rw [q2] at h2; exact h2.elim
        | nx ρ2 =>
          rw [q2] at h2
          exact fun O3 σ3 H3 en4 s4 => ⟨O3, ρ2, en4, (sB.trans (Same.hide s2)).trans s4, PostS.mono h2 s4⟩
        | ct ρ2 =>
          rw [q2] at h2
          exact fun O3 σ3 H3 en4 s4 => ⟨O3, ρ2, en4, (sB.trans (Same.hide s2)).trans s4, PostS.mono h2 s4⟩
        | bk ρ2 => rw [q2] at h2; exact h2
        | rt d => rw [q2] at h2; exact h2
        | rm d ρ2 => rw [q2] at h2; exact h2
        | rr i ρ2 => rw [q2] at h2; exact h2
        | ex x ρ2 => rw [q2] at h2; exact h2
end
end JK

/-! Lay7 -/
set_option Elab.async false
set_option linter.all false
set_option maxRecDepth 100000
set_option autoImplicit false
namespace JK
open PySem PySem.Spec PyProof.Rows L2
/-! ### comprehensions -/
def wipeE (ρ : Env) : List Nat → Env
  | [] => ρ
  | v :: vs => (wipeE ρ vs).set v .emp
section
variable {X : Cx} {W : WX} {vs : List Nat}
theorem EnvR.setEmp {K : PySem.W.Frag} {fm : Fm} {O : List Addr} {H : Hp} {σ : L2.St} {ρ : Env} {i : Nat} (h : EnvR K fm O H σ ρ) : EnvR K fm O H (σ.set i none) (ρ.set i .emp) := by
  refine ⟨by simp [h.len], fun j s q => ?_, fun j k xs ys a ne q1 q2 q3 q4 => ?_, h.there, h.there0, h.sub, h.same, h.held.set rfl fun _ z => by cases z⟩
  · by_cases hj : i = j
    · subst hj
      by_cases hl : i < ρ.length
      · rw [List.getElem?_set_self hl] at q
        cases q
        trivial
      · rw [List.getElem?_eq_none (by simp; omega)] at q; cases q
    · rw [List.getElem?_set_ne hj] at q ⊢
      exact h.at' j s q
  · have e1 : j ≠ i := fun z => by
      subst z
      by_cases hl : j < ρ.length
      · rw [List.getElem?_set_self hl] at q1; cases q1
      · rw [List.getElem?_eq_none (by simp; omega)] at q1; cases q1
    have e2 : k ≠ i := fun z => by
      subst z
      by_cases hl : k < ρ.length
      · rw [List.getElem?_set_self hl] at q2; cases q2
      · rw [List.getElem?_eq_none (by simp; omega)] at q2; cases q2
    rw [List.getElem?_set_ne (Ne.symm e1)] at q1 q3
    rw [List.getElem?_set_ne (Ne.symm e2)] at q2 q4
    exact h.dist j k xs ys a ne q1 q2 q3 q4
theorem EnvR.wipe {K : PySem.W.Frag} {fm : Fm} {O : List Addr} {H : Hp} {σ : L2.St} {ρ : Env} (h : EnvR K fm O H σ ρ) : ∀ vs : List Nat, EnvR K fm O H (L2.wipe σ vs) (wipeE ρ vs)
  | [] => h
  | v :: vs => (EnvR.wipe h vs).setEmp
/-- the tests of a comprehension -/
def SPt (X : Cx) (W : WX) (ifs : List Expr) (t : Tx) : Prop := PTs X ifs (tDT X.mg X.K W t)
def tYesD : Tx := fun _ => .ok true
theorem PTs.weak {ifs : List Expr} {t t' : TT} (h : PTs X ifs t) (k : ∀ σ H Q, t' σ H Q → t σ H Q) : PTs X ifs t' := ⟨fun pins s σ H Q I hw => h.run pins s σ H Q I (k σ H Q hw)⟩
theorem spt_nil : SPt X W [] tYesD := PTs.weak pts_nil fun σ H Q ⟨fm, O, ρ, en, h⟩ => h H (Same.refl _)
theorem spt_one {c : Expr} {t : Tx} (h : ST X W c t) : SPt X W [c] t := pts_one h
def cLoop (g : Gx) (t : Tx) (el : Ex) (ρ : Env) : List D → R (List D)
  | [] => .ok []
  | d :: r => match g d ρ with
    | .ok ρ1 => match t ρ1 with
      | .ok true => match el ρ1 with
        | .ok y => (cLoop g t el ρ r).bnd fun ys => .ok (y :: ys)
        | _ => .no
      | .ok false => cLoop g t el ρ r
      | _ => .no
    | _ => .no
def aComp (f : Ax) (vs : List Nat) (g : Gx) (t : Tx) (el : Ex) : Ax := fun ρ => (f ρ).bnd fun ds => cLoop g t el (wipeE ρ vs) ds
theorem cLoop_nx {g : Gx} {t : Tx} {el : Ex} {ρ : Env} : ∀ (ds : List D) (x : Exc), cLoop g t el ρ ds ≠ .ex x
  | [], x => fun h => by cases h
  | d :: r, x => fun h => by
    unfold cLoop at h
    split at h
    · split at h
      · split at h
        · cases e : cLoop g t el ρ r with
          | no => rw [e] at h; cases h
          | ok ys => rw [e] at h; cases h
          | ex y => exact cLoop_nx r y e
        · cases h
      · exact cLoop_nx r x h
      · cases h
    · cases h
abbrev WF : WX := fun _ _ _ _ => False
theorem lc_read {K : PySem.W.Frag} {mg : Str → Option Value} {f : Ax} {g : Gx} {t : Tx} {el : Ex} {σ : L2.St} {H : Hp} {Q : VK} (h : tDF mg K W (aComp f vs g t el) σ H Q) : tLc (tIg mg K W f) (tG K vs g) (tDT mg K WF t) (tD mg K WF el) vs σ H Q := by
  obtain ⟨fm, O, ρ, en, h⟩ := h
  refine ⟨fm, O, ρ, en, ?_⟩
  unfold aComp at h
  cases e1 : f ρ with
  | no => rw [e1] at h; exact h
  | ex x => rw [e1] at h; exact h
  | ok ds =>
    rw [e1, R.bnd_ok] at h
    intro J H1 s1 wd D hD
    cases e2 : cLoop g t el (wipeE ρ vs) ds with
    | no => rw [e2] at h; exact h.elim
    | ex x => exact (cLoop_nx ds x e2).elim
    | ok out =>
      rw [e2] at h
      have en1 := en.mono s1
      have hD0 : H D = none := s1.free hD
      refine ⟨fun i m H => i ≤ ds.length ∧ m = ds.length - i ∧ ∃ xs ys zs, H D = some (.lst xs) ∧ RepL K (hide (D :: O) H) xs ys ∧ xs.length ≤ i ∧ EnvR K fm (D :: O) H (wipe σ vs) (wipeE ρ vs) ∧ Same H1 H ∧ cLoop g t el (wipeE ρ vs) (ds.drop i) = .ok zs ∧ ys ++ zs = out,
        ⟨ds.length, Nat.zero_le _, rfl, [], [], out, upd_same, .nil, Nat.zero_le _, ?_, same_new hD, e2, rfl⟩, ?_⟩
      · exact ((en1.new (same_new hD) hD (by rw [upd_same]; exact fun z => by cases z))).wipe vs
      · rintro i m H2 ⟨hi, em, xs, ys, zs, hx, rx, hl, en2, s2, e3, e4⟩
        have sB : Same (hide O H1) (hide (D :: O) H2) := fun a o q => by
          obtain ⟨q1, q2⟩ := hide_sub q
          exact hide_of (s2 _ _ q2) (by simp only [List.mem_cons, not_or]; exact ⟨ne_of_none q2 hD, q1⟩)
        by_cases hlt : i < ds.length
        · refine .inr ⟨wd.goes i H2 hlt s2, fun H' => ∃ xs ys zs, H' D = some (.lst xs) ∧ RepL K (hide (D :: O) H') xs ys ∧ xs.length ≤ i + 1 ∧ EnvR K fm (D :: O) H' (wipe σ vs) (wipeE ρ vs) ∧ Same H1 H' ∧ cLoop g t el (wipeE ρ vs) (ds.drop (i + 1)) = .ok zs ∧ ys ++ zs = out, ?_, ?_⟩
          · intro H' nx
            exact ⟨ds.length - (i + 1), by omega, hlt, rfl, nx⟩
          · intro v H3 y
            obtain ⟨d, B', hd, r, sBB, sHH, hBB⟩ := wd.yields i H2 v H3 hlt s2 y
            obtain ⟨en3, r3⟩ := yield_env en2 sB r sHH hBB
            have ed : ds.drop i = d :: ds.drop (i + 1) := by
              rw [List.drop_eq_getElem_cons hlt]
              congr 1
              rw [List.getElem?_eq_getElem hlt] at hd
              exact Option.some.inj hd
            rw [ed] at e3
            unfold cLoop at e3
            refine ⟨fm, D :: O, wipeE ρ vs, d, en3, r3, ?_⟩
            cases q1 : g d (wipeE ρ vs) with
            | no => rw [q1] at e3; cases e3
            | ex x => rw [q1] at e3; cases e3
            | ok ρ1 =>
              rw [q1] at e3
              dsimp only at e3
              intro σ2 en4 hw
              have ww : ∀ us : List Nat, wipe (wipe σ us) us = wipe σ us := by
                intro us
                have aux : ∀ (us ws : List Nat) (τ : L2.St), (∀ u ∈ us, u ∈ ws) → wipe (wipe τ us) ws = wipe τ ws := by
                  intro us
                  induction us with
                  | nil => intro ws τ _; rfl
                  | cons u us ih =>
                    intro ws τ hs
                    show wipe ((wipe τ us).set u none) ws = wipe τ ws
                    rw [wipe_set (hs u List.mem_cons_self), ih ws τ fun z hz => hs z (List.mem_cons_of_mem _ hz)]
                exact aux us us σ fun _ h => h
              refine ⟨hw.trans (ww vs), fm, D :: O, ρ1, en4, ?_⟩
              have s3 : Same H1 H3 := s2.trans sHH
              have hx3 : H3 D = some (.lst xs) := sHH _ _ hx
              have rx3 : RepL K (hide (D :: O) H3) xs ys := rx.mono (Same.hide sHH)
              cases q2 : t ρ1 with
              | no => rw [q2] at e3; cases e3
              | ex x => rw [q2] at e3; cases e3
              | ok b =>
                rw [q2] at e3
                intro H4 s4
                cases b with
                | false =>
                  exact ⟨xs, ys, zs, s4 _ _ hx3, rx3.mono (Same.hide s4), by omega, en3.mono s4, s3.trans s4, e3, e4⟩
                | true =>
                  dsimp only at e3
                  refine ⟨fm, D :: O, ρ1, en4.mono s4, ?_⟩
                  cases q3 : el ρ1 with
                  | no => rw [q3] at e3; cases e3
                  | ex x => rw [q3] at e3; cases e3
                  | ok z =>
                    rw [q3] at e3
                    dsimp only at e3
                    intro w H5 s5 r5
                    have hx5 : H5 D = some (.lst xs) := s5 _ _ (s4 _ _ hx3)
                    refine ⟨xs, hx5, by have := wd.len; omega, ?_⟩
                    cases q4 : cLoop g t el (wipeE ρ vs) (ds.drop (i + 1)) with
                    | no => rw [q4] at e3; cases e3
                    | ex x => rw [q4] at e3; cases e3
                    | ok zs' =>
                      rw [q4] at e3
                      have ez : z :: zs' = zs := by injection e3
                      have hh : hide (D :: O) (upd H5 D (.lst (xs ++ [w]))) = hide (D :: O) H5 := upd_hide List.mem_cons_self
                      refine ⟨xs ++ [w], ys ++ [z], zs', upd_same, ?_, by rw [List.length_append]; simp; omega, ?_, ?_, rfl, ?_⟩
                      · rw [hh]
                        exact (rx3.mono (Same.hide (s4.trans s5))).append (.cons r5 .nil)
                      · have en5 := en3.mono (s4.trans s5)
                        have hHeld : Held K fm (D :: O) (upd H5 D (.lst (xs ++ [w]))) (wipe σ vs) (wipeE ρ vs) := by
                          refine (en.wipe vs).held.move ?_ (fun b hb hn _ => ⟨?_, List.mem_cons_of_mem _ hb⟩) (fun _ _ _ q => ⟨q, rfl⟩) fun _ us _ q1 q2 => .inl ⟨us, q1, q2⟩
                          · intro b o q
                            obtain ⟨q1, q2⟩ := hide_sub q
                            have nb : b ≠ D := ne_of_none q2 hD0
                            exact hide_of (by rw [upd_ne nb]; exact s5 _ _ (s4 _ _ (s3 _ _ (s1 _ _ q2)))) (by simp only [List.mem_cons, not_or]; exact ⟨nb, q1⟩)
                          · have nb : b ≠ D := fun z => hn (z ▸ hD0)
                            rw [upd_ne nb]
                            exact keep_same (s1.trans (s3.trans (s4.trans s5))) hn
                        refine ⟨en5.len, fun j s q => ?_, en5.dist, fun b hb => ?_, en5.there0, en5.sub, fun b o q => ?_, hHeld⟩
                        · have w := en5.at' j s q
                          cases s with
                          | ref x => trivial
                          | refs x => trivial
                          | sto w' m d S => exact fun z => by obtain ⟨x, w1, w2⟩ := w z; exact ⟨x, w1, by rw [hh]; exact w2⟩
                          | thing x => trivial
                          | emp => trivial
                          | val d => obtain ⟨x, w1, w2⟩ := w; exact ⟨x, w1, by rw [hh]; exact w2⟩
                          | own us =>
                            obtain ⟨b, ys, w1, w2, w3, w4, w5⟩ := w
                            refine ⟨b, ys, w1, w2, w3, ?_, by rw [hh]; exact w5⟩
                            have w0 := (en.wipe vs).at' j (.own us) q
                            obtain ⟨b', ys', v1, v2, v3, v4, v5⟩ := w0
                            have eb : b = b' := by
                              rw [w1] at v1
                              injection v1 with v1
                              injection v1
                            subst eb
                            rw [upd_ne (ne_of_none v4 hD0)]
                            exact w4
                          | exc e' x => exact exc_mono (by rw [hh]; exact Same.refl _) w
                        · by_cases hb' : b = D
                          · subst hb'; rw [upd_same]; exact fun z => by cases z
                          · rw [upd_ne hb']; exact en5.there b hb
                        · have nb : b ≠ D := fun z => by
                            subst z
                            rw [en.same _ _ q] at hD0; cases hD0
                          rw [upd_ne nb]; exact en5.same b o q
                      · intro b o q
                        rw [upd_ne (ne_of_none q hD)]
                        exact s5 _ _ (s4 _ _ (s3 _ _ q))
                      · rw [List.append_assoc, ← e4, ← ez]; rfl
        · have e : i = ds.length := by omega
          subst e
          rw [List.drop_length] at e3
          have ez : zs = [] := by injection e3 with e3; exact e3.symm
          subst ez
          rw [List.append_nil] at e4
          subst e4
          exact .inl ⟨wd.stops H2 s2, h D H2 xs (s1.trans s2) hD0 hx rx⟩
/-- [e for x in xs if t] -/
theorem sf_lcG {elt tg iter : Expr} {ifs : List Expr} {scope : Scope} {own : List (Str × Nat)} {pos : Pos} {f : Ax} {g : Gx} {t : Tx} {el : Ex} (hc : X.calm = true) (hN : X.N.Nodup) (hi : SIg X W tg iter f) (ok : BlkOk X.N X.env.scope scope own)
    (hg : ∀ (s : Shared) (H : Hp) (C : Addr) (cl : List (Str × Addr)) (fp : List Addr), SG (X.blk s H scope (compEnvC scope cl C X.env) fp) (own.map (·.2)) tg g)
    (ht : ∀ (s : Shared) (H : Hp) (C : Addr) (cl : List (Str × Addr)) (fp : List Addr), SPt (X.blk s H scope (compEnvC scope cl C X.env) fp) WF ifs t)
    (he : ∀ (s : Shared) (H : Hp) (C : Addr) (cl : List (Str × Addr)) (fp : List Addr), SE (X.blk s H scope (compEnvC scope cl C X.env) fp) WF elt el) (hs : ∀ x, foldedSetIterable iter X.env x = pure x := by intro _; rfl) :
    SF X W (.ListComp elt [⟨tg, iter, ifs, 0⟩] scope pos) (aComp f (own.map (·.2)) g t el) :=
  PE.weak (pe_lc (g := tG X.K (own.map fun p : Str × Nat => p.2) g) (tt := tDT X.mg X.K WF t) (te := tD X.mg X.K WF el) hc hN hi ok hg ht he hs) fun _ _ _ h => lc_read h
theorem sf_lc {elt tg iter : Expr} {ifs : List Expr} {scope : Scope} {own : List (Str × Nat)} {pos : Pos} {f : Ax} {g : Gx} {t : Tx} {el : Ex} (hc : X.calm = true) (hN : X.N.Nodup) (hi : SI X W tg iter f) (ok : BlkOk X.N X.env.scope scope own)
    (hg : ∀ (s : Shared) (H : Hp) (C : Addr) (cl : List (Str × Addr)) (fp : List Addr), SG (X.blk s H scope (compEnvC scope cl C X.env) fp) (own.map (·.2)) tg g)
    (ht : ∀ (s : Shared) (H : Hp) (C : Addr) (cl : List (Str × Addr)) (fp : List Addr), SPt (X.blk s H scope (compEnvC scope cl C X.env) fp) WF ifs t)
    (he : ∀ (s : Shared) (H : Hp) (C : Addr) (cl : List (Str × Addr)) (fp : List Addr), SE (X.blk s H scope (compEnvC scope cl C X.env) fp) WF elt el) (hs : ∀ x, foldedSetIterable iter X.env x = pure x := by intro _; rfl) :
    SF X W (.ListComp elt [⟨tg, iter, ifs, 0⟩] scope pos) (aComp f (own.map (·.2)) g t el) := sf_lcG hc hN hi.g ok hg ht he hs
/-- y = [..] -/
theorem lcOwn_read {K : PySem.W.Frag} {mg : Str → Option Value} {i : Nat} {f : Ax} {Dn : Ends} {σ : L2.St} {H : Hp} (h : tS mg K W (sSet i (eLst f)) Dn σ H) : tAsg (tDF mg K W f) (gName i) Dn σ H := by
  obtain ⟨fm, O, ρ, en, h⟩ := h
  refine ⟨fm, O, ρ, en, ?_⟩
  unfold sSet eLst at h
  cases e1 : f ρ with
  | no => rw [e1] at h; exact h
  | ex x => rw [e1] at h; exact fun H1 cls dd s q => h O σ H1 cls dd (en.mono s) (Same.hide s) q
  | ok ds =>
    rw [e1] at h
    intro p H1 us s hp hq r
    exact h O _ H1 ((en.mono s).set (.lst (hide_of hq (new_out en.there hp)) (r.mono hide_cons))) (Same.hide s)
theorem PE.asg {i : Nat} {t t' : TE} {Dn : Ends} {σ : L2.St} {H : Hp} (k : ∀ σ H Q, t' σ H Q → t σ H Q) (h : tAsg t' (gName i) Dn σ H) : tAsg t (gName i) Dn σ H := k _ _ _ h
theorem ss_setLcG {i : Nat} {y : Str} {py : Pos} {elt tg iter : Expr} {ifs : List Expr} {scope : Scope} {own : List (Str × Nat)} {pos spos : Pos} {f : Ax} {g : Gx} {t : Tx} {el : Ex} (hc : X.calm = true) (hN : X.N.Nodup) (hy : X.N[i]? = some y) (hyl : X.env.scope.names.lookup y = some .local)
    (hsw : swapsWith (.ListComp elt [⟨tg, iter, ifs, 0⟩] scope pos) (some (.Name y py)) spos.line X.env = pure true) (hi : SIg X W tg iter f) (ok : BlkOk X.N X.env.scope scope own)
    (hg : ∀ (s : Shared) (H : Hp) (C : Addr) (cl : List (Str × Addr)) (fp : List Addr), SG (X.blk s H scope (compEnvC scope cl C X.env) fp) (own.map (·.2)) tg g)
    (ht : ∀ (s : Shared) (H : Hp) (C : Addr) (cl : List (Str × Addr)) (fp : List Addr), SPt (X.blk s H scope (compEnvC scope cl C X.env) fp) WF ifs t)
    (he : ∀ (s : Shared) (H : Hp) (C : Addr) (cl : List (Str × Addr)) (fp : List Addr), SE (X.blk s H scope (compEnvC scope cl C X.env) fp) WF elt el) (hs : ∀ x, foldedSetIterable iter X.env x = pure x := by intro _; rfl) :
    SS X W (.Assign [.Name y py] (.ListComp elt [⟨tg, iter, ifs, 0⟩] scope pos) spos) (sSet i (eLst (aComp f (own.map (·.2)) g t el))) :=
  PS.weak (ps_setLc (g := tG X.K (own.map fun p : Str × Nat => p.2) g) (tt := tDT X.mg X.K WF t) (te := tD X.mg X.K WF el) hc hN hy hyl hsw hi ok hg ht he hs) fun _ _ _ h => PE.asg (fun _ _ _ h => lc_read h) (lcOwn_read h)
theorem ss_setLc {i : Nat} {y : Str} {py : Pos} {elt tg iter : Expr} {ifs : List Expr} {scope : Scope} {own : List (Str × Nat)} {pos spos : Pos} {f : Ax} {g : Gx} {t : Tx} {el : Ex} (hc : X.calm = true) (hN : X.N.Nodup) (hy : X.N[i]? = some y) (hyl : X.env.scope.names.lookup y = some .local)
    (hsw : swapsWith (.ListComp elt [⟨tg, iter, ifs, 0⟩] scope pos) (some (.Name y py)) spos.line X.env = pure true) (hi : SI X W tg iter f) (ok : BlkOk X.N X.env.scope scope own)
    (hg : ∀ (s : Shared) (H : Hp) (C : Addr) (cl : List (Str × Addr)) (fp : List Addr), SG (X.blk s H scope (compEnvC scope cl C X.env) fp) (own.map (·.2)) tg g)
    (ht : ∀ (s : Shared) (H : Hp) (C : Addr) (cl : List (Str × Addr)) (fp : List Addr), SPt (X.blk s H scope (compEnvC scope cl C X.env) fp) WF ifs t)
    (he : ∀ (s : Shared) (H : Hp) (C : Addr) (cl : List (Str × Addr)) (fp : List Addr), SE (X.blk s H scope (compEnvC scope cl C X.env) fp) WF elt el) (hs : ∀ x, foldedSetIterable iter X.env x = pure x := by intro _; rfl) :
    SS X W (.Assign [.Name y py] (.ListComp elt [⟨tg, iter, ifs, 0⟩] scope pos) spos) (sSet i (eLst (aComp f (own.map (·.2)) g t el))) := ss_setLcG hc hN hy hyl hsw hi.g ok hg ht he hs
/-- the items of an own list, in a comprehension -/
def aOwn (i : Nat) : Ax := fun ρ => match ρ[i]? with
  | some (.own xs) => .ok xs
  | _ => .no
theorem si_own {tg : Expr} {i : Nat} {x : Str} {pos : Pos} (hN : X.N[i]? = some x) (hv : Vis X.env.scope x) (hd : (x == ("__debug__" : Str)) = false := by decide) (hcd : (x == ("__classdict__" : Str)) = false := by decide) : SIg X W tg (.Name x pos) (aOwn i) := by
  refine ⟨fun pins s σ H Rr I h => ?_⟩
  obtain ⟨fm, O, ρ, en, h⟩ := h
  unfold aOwn at h
  split at h
  case h_2 => exact h.elim
  rename_i xs e
  obtain ⟨a, vs, h1, h2, h3, h4, h5⟩ := en.at' i _ e
  have hl : i < σ.length := by rw [en.len]; exact (List.getElem?_eq_some_iff.mp e).1
  have ea : σ[i]? = some (some (.ref a)) := by
    rw [List.getElem?_eq_getElem hl, Option.getD_some] at h1
    rw [List.getElem?_eq_getElem hl, h1]
  have hvar : PE X (.Name x pos) (tVar i) := pe_var hN hv hd hcd
  refine thn (hvar.run pins s σ H (fun y H' => y = .ref a ∧ H' = H) I ⟨_, ea, rfl, rfl⟩) fun u s1 ⟨y, H', I1, ry, ey, eH⟩ => ?_
  subst ey eH
  obtain rfl : u = Value.ref a := ry
  have hq : SqL X.K H' a vs := SqL.of h4
  obtain ⟨its, rv, p, hz⟩ := I1.list hq
  refine wpAny_pyIter_list p.isList ?_
  refine ⟨s1.heap.objs.size, [s1.heap.objs.size], _, _, H', rfl, I1.kept (t' := s1.toks) fun b o e => Heap.get?_push_of_some _ e, turn_list _ _, ⟨_, Heap.get?_push_size _ rfl, rfl, rfl⟩, fun b hb => ?_, h _ H' (Same.refl _) ⟨h5.length ▸ hz, fun j H2 hj sH => ?_, fun H2 sH => ?_, fun j H2 v H3 hj sH y => ?_⟩⟩
  · have e : b = s1.heap.objs.size := by simpa using hb
    subst e
    exact I1.fpOk (Nat.le_refl _) (I1.hok.fresh (Nat.le_refl _))
  · have hj' : j < vs.length := by rw [h5.length]; exact hj
    exact ⟨vs, vs[j], SqL.of (sH _ _ h4), by simp [hj']⟩
  · exact ⟨vs, SqL.of (sH _ _ h4), by rw [h5.length]; exact Nat.le_refl _⟩
  · obtain ⟨e2, hv2⟩ := y
    subst e2
    obtain ⟨d, q1, q2⟩ := h5.get' (hv2 vs (SqL.of (sH _ _ h4)))
    exact ⟨d, _, q1, q2, Same.refl _, Same.refl _, fun a o q => .inl q⟩
/-! ### x += e -/
def sAug (g : Int → Int → Int) (i : Nat) (a : Ex) : Sx := fun ρ => match ρ[i]? with
  | some (.val (.int m)) => rThen (a ρ) ρ fun d => match d with
    | .int k => .nx (ρ.set i (.val (.int (g m k))))
    | _ => .no
  | _ => .no
theorem ss_aug {i : Nat} {x : Str} {e : Expr} {fa : Ex} {op : Operator} {g : Int → Int → Int} {pos pos' : Pos} (hN : X.N.Nodup) (hi : X.N[i]? = some x) (hx : Loc X.env.scope x) (ha : SE X W e fa) (ho : PIp X op (ipI g))
    (hf : X.fn x = true ∨ X.env.scope.names.lookup x = some .local := by first | exact .inl rfl | exact .inr rfl | assumption) : SS X W (.AugAssign (.Name x pos') op e pos) (sAug g i fa) := by
  refine PS.weak (ps_aug hN hi hx ha ho hf) fun Dn σ H ⟨fm, O, ρ, en, h⟩ => ?_
  unfold sAug at h
  split at h
  · rename_i m e1
    obtain ⟨v, hv, rv⟩ := en.val e1
    cases rv
    refine ⟨_, hv, fm, O, ρ, en, (PostS.then en h).imp fun u H1 s1 ⟨_, en1, d, r, q⟩ => ?_⟩
    cases r with
    | int k => exact ⟨m, k, rfl, rfl, q O _ H1 (en1.set (.int _)) (Same.refl _)⟩
    | non => exact q.elim
    | bl => exact q.elim
    | str => exact q.elim
    | lst => exact q.elim
    | tup => exact q.elim
    | scr => exact q.elim
    | box => exact q.elim
  · exact h.elim
/-! ### raise C('..') -/
def sRaise (c : Str) : Sx := fun ρ => .ex ⟨c, none⟩ ρ
structure ExcCls (K : PySem.W.Frag) (mg : Str → Option Value) (x : Str) : Prop where
  ex : ∃ C : Addr, mg x = some (.ref C) ∧ PySem.W.excIn K C [.type "ValueError", .type "Exception", .type "BaseException", .type "object"] "ValueError.__new__" = true ∧ PySem.W.keepIn K (.ref C) = true ∧
    PySem.W.subIn K (.ref C) (.type "BaseException") = some true ∧ PySem.W.typeIn K (.ref C) = some (.type "type")
theorem ss_raise {x m : Str} {j : Nat} {p p2 cpos pos : Pos} (E : ExcCls X.K X.mg x) (hc : X.calm = true) (tk : Takes X W) (hg : Gl X x) (hdb : (x == ("__debug__" : Str)) = false := by decide) :
    SS X W (.Raise (some (.Call (.Name x p) [.Constant (.str m) j p2] [] cpos)) none pos) (sRaise x) := by
  obtain ⟨C, gC, q, kC, bC, tC⟩ := E.ex
  refine PS.weak (ps_raise hc tk (pmk_own PySem.F.excBase_ValueError q gC kC (raises_own bC tC) hg hdb)) fun Dn σ H ⟨fm, O, ρ, en, h⟩ => ?_
  exact h O σ H _ _ en (Same.refl _) ⟨C, gC, rfl, rfl⟩
end
/-! ### a def -/
def startE (n : Nat) (ds : List D) : Env := ds.map .val ++ List.replicate (n - ds.length) .emp
def outR : Out → R D
  | .rt d => .ok d
  | .nx _ => .ok .non
  | .ex x _ => .ex x
  | _ => .no
/-- a def of n parameters and N names in all -/
def runD (N n : Nat) (F : Sx) : List D → R D := fun ds => if ds.length = n then outR (F (startE N ds)) else .no
section
variable {P : Program} {w : World} {K : PySem.W.Frag} {mg : Str → Option Value} {base : Heap}
theorem env_start {N : List Str} {O : List Addr} {H : Hp} {vs : List V} {ds : List D} (r : RepL K (hide O H) vs ds) (th : ∀ a ∈ O, H a ≠ none) (hl : vs.length ≤ N.length) : EnvR K ⟨H, O, []⟩ O H (L2.start N vs) (startE N.length ds) := by
  have hlen := r.length
  refine ⟨?_, fun i s q => ?_, fun i j xs ys a _ q1 _ _ _ => ?_, th, th, fun _ h => h, Same.refl _, ?_⟩
  · unfold L2.start startE
    simp [hlen]
  · unfold startE at q
    unfold L2.start
    by_cases hi : i < ds.length
    · rw [List.getElem?_append_left (by simpa using hi), List.getElem?_map] at q
      rw [List.getElem?_append_left (by simpa [hlen] using hi), List.getElem?_map]
      cases e : ds[i]? with
      | none => rw [e] at q; cases q
      | some d =>
        rw [e] at q
        cases q
        obtain ⟨v, h1, h2⟩ := r.get e
        rw [h1]
        exact ⟨v, rfl, h2⟩
    · rw [List.getElem?_append_right (by simpa using hi), List.getElem?_replicate] at q
      split at q
      · cases q; trivial
      · cases q
  · unfold startE at q1
    by_cases hi : i < ds.length
    · rw [List.getElem?_append_left (by simpa using hi), List.getElem?_map] at q1
      cases e : ds[i]? with
      | none => rw [e] at q1; cases q1
      | some d => rw [e] at q1; cases q1
    · rw [List.getElem?_append_right (by simpa using hi), List.getElem?_replicate] at q1
      split at q1 <;> cases q1
  · have noT : ∀ (i : Nat) (s : Slot), s.isOwn = true → (startE N.length ds)[i]? ≠ some s := fun i s hT q1 => by
      unfold startE at q1
      by_cases hi : i < ds.length
      · rw [List.getElem?_append_left (by simpa using hi), List.getElem?_map] at q1
        cases e : ds[i]? with
        | none => rw [e] at q1; cases q1
        | some d => rw [e] at q1; cases q1; cases hT
      · rw [List.getElem?_append_right (by simpa using hi), List.getElem?_replicate] at q1
        split at q1
        · cases q1; cases hT
        · cases q1
    have noA : ∀ (i : Nat) (s : Slot), s.isT = true → (startE N.length ds)[i]? ≠ some s := fun i s h => noT i s (isOwn_T h)
    refine ⟨fun _ => [], fun i T q => absurd q (noA i _ rfl), fun i j T U _ q => absurd q (noA i _ rfl), fun i j xs T a _ _ q => absurd q (noA j _ rfl), [], [], [], ⟨by unfold ThsR; trivial, (fun i B q => by cases q), (fun i j B C _ q => by cases q), (fun b hb => absurd hb (by simp)), fun i s k q e => ?_, fun i ks q => absurd q (noA i _ rfl), fun w m d S' q => absurd q (noA 0 _ rfl), fun i xs a q => absurd q (noT i _ rfl), fun i T q => absurd q (noA i _ rfl)⟩⟩
    refine absurd q (noA i s ?_)
    cases s <;> first | rfl | cases e
theorem fn_ok {x qual : Str} {st : Stmt} {f : Addr} {fd : FuncData} {N ps : List Str} {k n M : Nat} {F : Sx} (Fu : Fun K x qual st f fd) (S : FnScope N ps (defScope st)) (hn : ps.length = n) (hM : N.length = M)
    (body : ∀ (cdv : Value) (A : Around) (outer : List PySem.Env) (s : Shared) (H : Hp) (E : XK), Room k (A.deeper (envOfC qual (defScope st) s.heap.objs.size f cdv)) →
      Takes (cxOf (L2.CX P w) P w K mg base N qual (defScope st) f cdv A outer s H E) (fun cls d _ H => E cls d H) →
      PassesOwn (model P w) (A.deeper (envOfC qual (defScope st) s.heap.objs.size f cdv)) (envOfC qual (defScope st) s.heap.objs.size f cdv) (cxOf (L2.CX P w) P w K mg base N qual (defScope st) f cdv A outer s H E).xe →
      SSs (cxOf (L2.CX P w) P w K mg base N qual (defScope st) f cdv A outer s H E) (fun cls d _ H => E cls d H) (defBody st) F) :
    FnOk P w K mg base (L2.CX P w) (k + 1) f fd ps (spD mg K n (runD M n F)) := by
  refine Fu.okX S (fun vs H Q E h => ?_) (fun cdv A outer s H vs Q E hr h => ?_)
  · obtain ⟨O, ds, _, r, hl, _⟩ := h
    rw [r.length, hl, hn]
  · obtain ⟨O, ds, th, r, hl, h⟩ := h
    refine ⟨_, body cdv A outer s H E hr (takes_of rfl rfl rfl rfl) (passes_of rfl), ⟨H, O, []⟩, O, startE N.length ds, env_start r th ?_, ?_⟩
    · rw [r.length, hl, ← hn, ← S.pre]
      rw [List.length_take]; omega
    · unfold runD at h
      rw [if_pos hl, ← hM] at h
      cases e : F (startE N.length ds) with
      | no => rw [e] at h; exact h
      | nx ρ =>
        rw [e] at h
        exact fun O' σ' H' en' _ => h .non H' en'.same .non
      | rt d => rw [e] at h; exact fun v H' s' r' => h v H' s' r'
      | rm d ρ => rw [e] at h; exact h.elim
      | rr i ρ => rw [e] at h; exact h.elim
      | bk ρ => rw [e] at h; exact h.elim
      | ct ρ => rw [e] at h; exact h.elim
      | ex x ρ =>
        rw [e] at h
        intro O' σ' H' cls dd en' _ q
        refine h H' cls dd en'.same ?_
        obtain ⟨C, q1, q2, q3⟩ := q
        refine ⟨C, q1, q2, ?_⟩
        cases ef : x.fld with
        | none => rw [ef] at q3; exact q3
        | some p =>
          rw [ef] at q3
          obtain ⟨a, v, w1, w2, w3⟩ := q3
          have sv : Same (hide O' H') (hide O H') := fun b o q => by
            obtain ⟨z1, z2⟩ := hide_sub q
            exact hide_of z2 fun zz => z1 (en'.sub b zz)
          exact ⟨a, v, w1, sv _ _ w2, w3.mono sv⟩
theorem fn_mk {x qual : Str} {st : Stmt} {f : Addr} {fd : FuncData} {N ps : List Str} {k n M : Nat} {F : Sx} (Fu : Fun K x qual st f fd) (S : FnScope N ps (defScope st)) (hn : ps.length = n) (hM : N.length = M) (hm : mg x = some (.ref f)) (hb : Binds K fd ps [])
    (body : ∀ (cdv : Value) (A : Around) (outer : List PySem.Env) (s : Shared) (H : Hp) (E : XK), Room k (A.deeper (envOfC qual (defScope st) s.heap.objs.size f cdv)) →
      Takes (cxOf (L2.CX P w) P w K mg base N qual (defScope st) f cdv A outer s H E) (fun cls d _ H => E cls d H) →
      PassesOwn (model P w) (A.deeper (envOfC qual (defScope st) s.heap.objs.size f cdv)) (envOfC qual (defScope st) s.heap.objs.size f cdv) (cxOf (L2.CX P w) P w K mg base N qual (defScope st) f cdv A outer s H E).xe →
      SSs (cxOf (L2.CX P w) P w K mg base N qual (defScope st) f cdv A outer s H E) (fun cls d _ H => E cls d H) (defBody st) F) :
    FnS P w K mg base (k + 1) x n (runD M n F) := ⟨f, fd, ps, fn_ok Fu S hn hM body, hm, Fu.kp, hb⟩
end
/-! ### the law -/
theorem law_sp {mg : Str → Option Value} {K : PySem.W.Frag} {g : List D → R D} {n : Nat} (hg : ∀ ns : List Int, ns.length ≤ n → g [.scr ns] = .ok (.bl true)) {H : Hp} {a : Addr} {ns : List Int} (hl : ns.length ≤ n) (hS : SqL K H a (ns.map V.int)) :
    spD mg K 1 g [.ref a] H (fun v _ => v = .bl true) fun _ _ _ => False := by
  refine ⟨[], [.scr ns], (fun _ h => nomatch h), .cons (.scr ?_) .nil, rfl, ?_⟩
  · have e : hide [] H = H := by funext b; unfold hide; rw [if_neg]; simp
    rw [e]; exact hS
  · rw [hg ns hl]
    intro v H' s r
    cases r
    rfl
end JK

/-! Lay8 -/
set_option Elab.async false
set_option linter.all false
set_option maxRecDepth 100000
set_option autoImplicit false
namespace JK
open PySem PySem.Spec PyProof.Rows L2
/-! ### iterators of tuples -/
/-- a turn's rules from the library's walk of tuples that are new -/
theorem turn_of {P : Program} {w : World} {K : PySem.W.Frag} {elts : List Expr} {kk : Nat} {tpos : Pos} {J : It} {fp wr : List Addr} {it : Addr} {tn : Nat → Heap → Prop} (mem : it ∈ fp)
    (obj : ∀ i h, tn i h → ∀ b ∈ fp, ∃ o, h.get? b = some o ∧ ∀ v, o.data ≠ .cell v)
    (keep : ∀ i h h', tn i h → (∀ b ∈ fp, ∀ o, h.get? b = some o → h'.get? b = some o) → tn i h') (hwr : ∀ b ∈ wr, b ∈ fp)
    (go : ∀ (X : Cx), X.prog = P → X.w = w → X.K = K → X.calm = true → ∀ (i : Nat) (pins : List (Addr × Obj)) (s : Shared) (σ : L2.St) (H : Hp), Inv X pins σ H s → (∀ b ∈ fp, H b = none) → tn i s.heap → J.go i H →
      ∃ (n : Nat) (Y : Nat → Heap → Value → Heap → Prop) (St : Nat → Heap → Prop) (fp' : List Addr), GoesN P w X.A (.Tuple elts kk tpos) it fp' wr n Y St ∧ i < n ∧ St i s.heap ∧
        ∀ v h', Y i s.heap v h' → St (i + 1) h' → (∀ b o, b ∉ wr → s.heap.get? b = some o → h'.get? b = some o) → tn (i + 1) h' ∧
          ∃ (T : Addr) (xs : List V) (us : List Value), v = .ref T ∧ s.heap.objs.size ≤ T ∧ h'.IsTuple T us.toArray ∧ Vals xs us ∧ xs.length ≤ sizeLine ∧ J.yld i H (.ref T) (upd H T (.tup xs)))
    (stop : ∀ (X : Cx), X.prog = P → X.w = w → X.K = K → X.calm = true → ∀ (i : Nat) (pins : List (Addr × Obj)) (s : Shared) (σ : L2.St) (H : Hp), Inv X pins σ H s → (∀ b ∈ fp, H b = none) → tn i s.heap → J.stop i H →
      ∃ (n : Nat) (Y : Nat → Heap → Value → Heap → Prop) (St : Nat → Heap → Prop) (fp' : List Addr), GoesN P w X.A (.Tuple elts kk tpos) it fp' wr n Y St ∧ St n s.heap)
    (self : ∀ (A : Around) (i : Nat) (s : Shared) (Q : Value → Shared → Prop) (E : Value → Shared → Prop), tn i s.heap → Q (.ref it) s → wpAny (model P w) A (pyIter (.ref it)) Q E s) :
    Turn P w K (.Tuple elts kk tpos) J fp it tn where
  mem := mem
  obj := obj
  keep := keep
  item := by
    intro X hP hw hK hc i pins s σ H E I hf st hg
    obtain ⟨n, Y, St, fp', W, hi, hst, hnx⟩ := go X hP hw hK hc i pins s σ H I (fun b hb => (hf b hb).1) st hg
    refine W.goes i s _ E hi hst fun v h' tk hY hst' hk htk => ?_
    obtain ⟨t1, T, xs, us, rfl, hT, hIs, rv, hl, hy⟩ := hnx v h' hY hst' hk
    have hn : H T = none := I.hok.fresh hT
    have new : ObjOk X.prog X.w (upd H T (.tup xs)) h' T (.tup xs) := ⟨hl, us, rv, hIs⟩
    refine ⟨.ref T, _, I.turnedNew (t' := tk) (ch := wr) hk (fun b hb => hf b (hwr b hb)) hT new, rfl, hy, t1, fun b hb => ?_⟩
    have nb : b ≠ T := fun z => by
      subst z
      obtain ⟨o, ho, _⟩ := obj i s.heap st b hb
      exact absurd (Nat.lt_of_lt_of_le (Heap.lt_size ho) hT) (Nat.lt_irrefl _)
    rw [upd_ne nb]
    exact (hf b hb).1
  done := by
    intro X hP hw hK hc i pins s σ H E I hf st hg
    obtain ⟨n, Y, St, fp', W, hst⟩ := stop X hP hw hK hc i pins s σ H I (fun b hb => (hf b hb).1) st hg
    exact wpAny_mono (W.stops s (fun s1 => Inv X pins σ H s1) E hst fun h' tk hk htk => I.turnedL (t' := tk) (ch := wr) hk fun b hb => hf b (hwr b hb)) (fun r s1 h => h) fun _ _ h => h
  self := self
/-! lists and tuples as sources -/
def SqX (K : PySem.W.Frag) (H : Hp) (t : Bool) (a : Addr) (xs : List V) : Prop := if t = true then SqT K H a xs else SqL K H a xs
def IsSq (h : Heap) (t : Bool) (a : Addr) (items : Array Value) : Prop := if t = true then h.IsTuple a items else h.IsList a items
def ItX (h : Heap) (t : Bool) (it a : Addr) (i : Nat) : Prop := if t = true then h.IsTupleIter it a i else h.IsListIter it a i
def oX (t : Bool) (a : Addr) : Obj := if t = true then { cls := .type "tuple_iterator", data := .fields #[.ref a, .int 0 0] } else { cls := .type "list_iterator", data := .fields #[.ref a, .int 0 0] }
theorem drawsX {prog : Program} {w : World} {A : Around} (hh : A.handled = none) (t : Bool) (it a : Addr) (hne : a ≠ it) (items : Array Value) : Draws prog w A it [it, a] items.size (fun i v => items[i]? = some v) (fun i h => ItX h t it a i ∧ IsSq h t a items) := by
  cases t
  · exact Draws.list hh it a hne items
  · exact Draws.tuple hh it a hne items
theorem beginsX (t : Bool) (a : Addr) (items : Array Value) : Begins (.ref a) (oX t a) fun h => IsSq h t a items := by
  cases t
  · exact begins_list a items
  · exact begins_tuple a items
theorem ItX.new {h : Heap} {t : Bool} {it a : Addr} (e : h.get? it = some (oX t a)) : ItX h t it a 0 := by
  cases t
  · exact ⟨_, e, rfl, rfl⟩
  · exact ⟨_, e, rfl, rfl⟩
theorem ItX.at {h h' : Heap} {t : Bool} {it a : Addr} {i : Nat} (x : ItX h t it a i) (e : ∀ o, h.get? it = some o → h'.get? it = some o) : ItX h' t it a i := by
  cases t
  · exact Heap.IsListIter.at x e
  · exact Heap.IsTupleIter.at x e
theorem ItX.obj {h : Heap} {t : Bool} {it a : Addr} {i : Nat} (x : ItX h t it a i) : ∃ o, h.get? it = some o ∧ ∀ v, o.data ≠ .cell v := by
  cases t
  · obtain ⟨o, ho, _, hd⟩ := (show h.IsListIter it a i from x)
    exact ⟨o, ho, fun v z => by rw [hd] at z; cases z⟩
  · obtain ⟨o, ho, _, hd⟩ := (show h.IsTupleIter it a i from x)
    exact ⟨o, ho, fun v z => by rw [hd] at z; cases z⟩
theorem IsSq.lt {h : Heap} {t : Bool} {a : Addr} {items : Array Value} (x : IsSq h t a items) : a < h.objs.size := by
  cases t
  · obtain ⟨o, ho, _⟩ := (show h.IsList a items from x); exact Heap.lt_size ho
  · obtain ⟨o, ho, _⟩ := (show h.IsTuple a items from x); exact Heap.lt_size ho
section
variable {X : Cx} {W : WX} {pins : List (Addr × Obj)} {σ : L2.St} {H : Hp} {s : Shared}
theorem sqX_get (I : Inv X pins σ H s) {t : Bool} {a : Addr} {xs : List V} (h : SqX X.K H t a xs) : ∃ its : List Value, Vals xs its ∧ IsSq s.heap t a its.toArray ∧ xs.length ≤ sizeLine := by
  cases t
  · obtain ⟨its, r, p, z⟩ := I.list (show SqL X.K H a xs from h)
    exact ⟨its, r, p.isList, z⟩
  · obtain ⟨its, r, p, z⟩ := I.tuple (show SqT X.K H a xs from h)
    exact ⟨its, r, p, z⟩
theorem sqX_inj (I : Inv X pins σ H s) {t : Bool} {a : Addr} {xs ys : List V} (h : SqX X.K H t a xs) (h' : SqX X.K H t a ys) : xs = ys := by
  cases t
  · exact I.list_inj (show SqL X.K H a xs from h) h'
  · exact I.tuple_inj (show SqT X.K H a xs from h) h'
theorem SqX.mono {K : PySem.W.Frag} {H H' : Hp} {t : Bool} {a : Addr} {xs : List V} (e : Same H H') (h : SqX K H t a xs) : SqX K H' t a xs := by
  cases t
  · exact e.seq (show SqL K H a xs from h)
  · exact Same.tupS e (show SqT K H a xs from h)
end
/-! zip of two -/
def ItZ2 (K : PySem.W.Frag) (t1 : Bool) (a1 : Addr) (t2 : Bool) (a2 : Addr) : It :=
  ⟨fun i H => ∃ (xs ys : List V) (x y : V), SqX K H t1 a1 xs ∧ SqX K H t2 a2 ys ∧ xs[i]? = some x ∧ ys[i]? = some y,
   fun i H v H' => ∃ T x y, v = .ref T ∧ H T = none ∧ H' = upd H T (.tup [x, y]) ∧ (∀ xs, SqX K H t1 a1 xs → xs[i]? = some x) ∧ ∀ ys, SqX K H t2 a2 ys → ys[i]? = some y,
   fun i H => ∃ xs ys : List V, SqX K H t1 a1 xs ∧ SqX K H t2 a2 ys ∧ i = min xs.length ys.length⟩
theorem get_len {xs : List V} {its : List Value} {i : Nat} {x : V} (r : Vals xs its) (h : xs[i]? = some x) : i < its.toArray.size := by
  have := (List.getElem?_eq_some_iff.mp h).1
  rw [r.length] at this
  simpa using this
theorem get_val {xs : List V} {its : List Value} {i : Nat} {x : V} {u : Value} (r : Vals xs its) (h : xs[i]? = some x) (hu : its.toArray[i]? = some u) : RelV x u := by
  obtain ⟨u', h1, h2⟩ := r.get h
  have e : its[i]? = some u := by simpa using hu
  rw [h1] at e
  cases e
  exact h2
theorem turn_zip2X {P : Program} {w : World} {K : PySem.W.Frag} {elts : List Expr} {kk : Nat} {tpos : Pos} {t1 t2 : Bool} {a1 a2 : Addr} {z TI TO i1 i2 : Addr} (S : ZipSep2 z TI TO i1 i2 [i1, a1] [i2, a2]) (n1 : a1 ≠ i1) (n2 : a2 ≠ i2) :
    Turn P w K (.Tuple elts kk tpos) (ItZ2 K t1 a1 t2 a2) [z, TI, TO, i1, i2] z (fun i h => IsZip h z TI TO .none ∧ IsTupOf2 h TI (.ref i1) (.ref i2) ∧ (∃ b1 b2, IsTupOf2 h TO b1 b2) ∧ ItX h t1 i1 a1 i ∧ ItX h t2 i2 a2 i) := by
  refine turn_of (wr := [z, TO, i1, i2]) (by simp) (fun i h st b hb => ?_) (fun i h h' st k => ?_) (fun b hb => ?_) ?_ ?_ (fun A i s Q E st h => wpAny_pyIter_zip st.1 h)
  · obtain ⟨hz, hTI, ⟨x, y, hTO⟩, h1, h2⟩ := st
    have e' : b = z ∨ b = TI ∨ b = TO ∨ b = i1 ∨ b = i2 := by simpa using hb
    rcases e' with q | q | q | q | q
    · rw [q]; exact ⟨_, hz, fun v q => nomatch q⟩
    · rw [q]; exact ⟨_, hTI, fun v q => nomatch q⟩
    · rw [q]; exact ⟨_, hTO, fun v q => nomatch q⟩
    · rw [q]; exact h1.obj
    · rw [q]; exact h2.obj
  · obtain ⟨hz, hTI, ⟨x, y, hTO⟩, h1, h2⟩ := st
    exact ⟨k z (by simp) _ hz, k TI (by simp) _ hTI, ⟨x, y, k TO (by simp) _ hTO⟩, h1.at fun o q => k i1 (by simp) o q, h2.at fun o q => k i2 (by simp) o q⟩
  · have e' : b = z ∨ b = TO ∨ b = i1 ∨ b = i2 := by simpa using hb
    rcases e' with q | q | q | q <;> simp [q]
  · intro X hP hw hK hc i pins s σ H I hf st hg
    subst hP hw hK
    obtain ⟨hz, hTI, hTO, h1, h2⟩ := st
    obtain ⟨xs, ys, x, y, q1, q2, hx, hy⟩ := hg
    obtain ⟨its1, r1, s1, l1⟩ := sqX_get I q1
    obtain ⟨its2, r2, s2, l2⟩ := sqX_get I q2
    have hh := I.ok.hd hc
    refine ⟨_, _, _, _, GoesN.zip2 S (drawsX (A := X.A.in1) hh t1 i1 a1 n1 its1.toArray) (drawsX (A := X.A.in1) hh t2 i2 a2 n2 its2.toArray), Nat.lt_min.mpr ⟨get_len r1 hx, get_len r2 hy⟩, ⟨hz, hTI, hTO, ⟨h1, s1⟩, ⟨h2, s2⟩⟩, ?_⟩
    intro v h' hY hst' hk
    obtain ⟨T, u1, u2, ev, hT, hu1, hu2, hIs⟩ := hY
    obtain ⟨z', TI', TO', ⟨h1', _⟩, ⟨h2', _⟩⟩ := hst'
    refine ⟨⟨z', TI', TO', h1', h2'⟩, T, [x, y], [u1, u2], ev, hT, hIs, .cons (get_val r1 hx hu1) (.cons (get_val r2 hy hu2) .nil), by show 2 ≤ sizeLine; decide, ?_⟩
    exact ⟨T, x, y, rfl, I.hok.fresh hT, rfl, fun l hl => by rw [sqX_inj I hl q1]; exact hx, fun l hl => by rw [sqX_inj I hl q2]; exact hy⟩
  · intro X hP hw hK hc i pins s σ H I hf st hg
    subst hP hw hK
    obtain ⟨hz, hTI, hTO, h1, h2⟩ := st
    obtain ⟨xs, ys, q1, q2, hi⟩ := hg
    obtain ⟨its1, r1, s1, l1⟩ := sqX_get I q1
    obtain ⟨its2, r2, s2, l2⟩ := sqX_get I q2
    have hh := I.ok.hd hc
    refine ⟨_, _, _, _, GoesN.zip2 S (drawsX (A := X.A.in1) hh t1 i1 a1 n1 its1.toArray) (drawsX (A := X.A.in1) hh t2 i2 a2 n2 its2.toArray), ?_⟩
    have e : min its1.toArray.size its2.toArray.size = i := by
      rw [List.size_toArray, List.size_toArray, ← r1.length, ← r2.length, hi]
    rw [e]
    exact ⟨hz, hTI, hTO, ⟨h1, s1⟩, ⟨h2, s2⟩⟩
/-! zip of three -/
def ItZ3 (K : PySem.W.Frag) (t1 : Bool) (a1 : Addr) (t2 : Bool) (a2 : Addr) (t3 : Bool) (a3 : Addr) : It :=
  ⟨fun i H => ∃ (xs ys zs : List V) (x y z : V), SqX K H t1 a1 xs ∧ SqX K H t2 a2 ys ∧ SqX K H t3 a3 zs ∧ xs[i]? = some x ∧ ys[i]? = some y ∧ zs[i]? = some z,
   fun i H v H' => ∃ T x y z, v = .ref T ∧ H T = none ∧ H' = upd H T (.tup [x, y, z]) ∧ (∀ xs, SqX K H t1 a1 xs → xs[i]? = some x) ∧ (∀ ys, SqX K H t2 a2 ys → ys[i]? = some y) ∧ ∀ zs, SqX K H t3 a3 zs → zs[i]? = some z,
   fun i H => ∃ xs ys zs : List V, SqX K H t1 a1 xs ∧ SqX K H t2 a2 ys ∧ SqX K H t3 a3 zs ∧ i = min (min xs.length ys.length) zs.length⟩
theorem turn_zip3X {P : Program} {w : World} {K : PySem.W.Frag} {elts : List Expr} {kk : Nat} {tpos : Pos} {t1 t2 t3 : Bool} {a1 a2 a3 : Addr} {z TI TO i1 i2 i3 : Addr} (S : ZipSep3 z TI TO i1 i2 i3 [i1, a1] [i2, a2] [i3, a3]) (n1 : a1 ≠ i1) (n2 : a2 ≠ i2) (n3 : a3 ≠ i3) :
    Turn P w K (.Tuple elts kk tpos) (ItZ3 K t1 a1 t2 a2 t3 a3) [z, TI, TO, i1, i2, i3] z (fun i h => IsZip h z TI TO .none ∧ IsTupOf3 h TI (.ref i1) (.ref i2) (.ref i3) ∧ (∃ b1 b2 b3, IsTupOf3 h TO b1 b2 b3) ∧ ItX h t1 i1 a1 i ∧ ItX h t2 i2 a2 i ∧ ItX h t3 i3 a3 i) := by
  refine turn_of (wr := [z, TO, i1, i2, i3]) (by simp) (fun i h st b hb => ?_) (fun i h h' st k => ?_) (fun b hb => ?_) ?_ ?_ (fun A i s Q E st h => wpAny_pyIter_zip st.1 h)
  · obtain ⟨hz, hTI, ⟨x, y, u, hTO⟩, h1, h2, h3⟩ := st
    have e' : b = z ∨ b = TI ∨ b = TO ∨ b = i1 ∨ b = i2 ∨ b = i3 := by simpa using hb
    rcases e' with q | q | q | q | q | q
    · rw [q]; exact ⟨_, hz, fun v q => nomatch q⟩
    · rw [q]; exact ⟨_, hTI, fun v q => nomatch q⟩
    · rw [q]; exact ⟨_, hTO, fun v q => nomatch q⟩
    · rw [q]; exact h1.obj
    · rw [q]; exact h2.obj
    · rw [q]; exact h3.obj
  · obtain ⟨hz, hTI, ⟨x, y, u, hTO⟩, h1, h2, h3⟩ := st
    exact ⟨k z (by simp) _ hz, k TI (by simp) _ hTI, ⟨x, y, u, k TO (by simp) _ hTO⟩, h1.at fun o q => k i1 (by simp) o q, h2.at fun o q => k i2 (by simp) o q, h3.at fun o q => k i3 (by simp) o q⟩
  · have e' : b = z ∨ b = TO ∨ b = i1 ∨ b = i2 ∨ b = i3 := by simpa using hb
    rcases e' with q | q | q | q | q <;> simp [q]
  · intro X hP hw hK hc i pins s σ H I hf st hg
    subst hP hw hK
    obtain ⟨hz, hTI, hTO, h1, h2, h3⟩ := st
    obtain ⟨xs, ys, zs, x, y, u, q1, q2, q3, hx, hy, hu⟩ := hg
    obtain ⟨its1, r1, s1, l1⟩ := sqX_get I q1
    obtain ⟨its2, r2, s2, l2⟩ := sqX_get I q2
    obtain ⟨its3, r3, s3, l3⟩ := sqX_get I q3
    have hh := I.ok.hd hc
    refine ⟨_, _, _, _, GoesN.zip3 S (drawsX (A := X.A.in1) hh t1 i1 a1 n1 its1.toArray) (drawsX (A := X.A.in1) hh t2 i2 a2 n2 its2.toArray) (drawsX (A := X.A.in1) hh t3 i3 a3 n3 its3.toArray),
      Nat.lt_min.mpr ⟨Nat.lt_min.mpr ⟨get_len r1 hx, get_len r2 hy⟩, get_len r3 hu⟩, ⟨hz, hTI, hTO, ⟨h1, s1⟩, ⟨h2, s2⟩, ⟨h3, s3⟩⟩, ?_⟩
    intro v h' hY hst' hk
    obtain ⟨T, u1, u2, u3, ev, hT, hu1, hu2, hu3, hIs⟩ := hY
    obtain ⟨z', TI', TO', ⟨h1', _⟩, ⟨h2', _⟩, ⟨h3', _⟩⟩ := hst'
    refine ⟨⟨z', TI', TO', h1', h2', h3'⟩, T, [x, y, u], [u1, u2, u3], ev, hT, hIs, .cons (get_val r1 hx hu1) (.cons (get_val r2 hy hu2) (.cons (get_val r3 hu hu3) .nil)), by show 3 ≤ sizeLine; decide, ?_⟩
    exact ⟨T, x, y, u, rfl, I.hok.fresh hT, rfl, fun l hl => by rw [sqX_inj I hl q1]; exact hx, fun l hl => by rw [sqX_inj I hl q2]; exact hy, fun l hl => by rw [sqX_inj I hl q3]; exact hu⟩
  · intro X hP hw hK hc i pins s σ H I hf st hg
    subst hP hw hK
    obtain ⟨hz, hTI, hTO, h1, h2, h3⟩ := st
    obtain ⟨xs, ys, zs, q1, q2, q3, hi⟩ := hg
    obtain ⟨its1, r1, s1, l1⟩ := sqX_get I q1
    obtain ⟨its2, r2, s2, l2⟩ := sqX_get I q2
    obtain ⟨its3, r3, s3, l3⟩ := sqX_get I q3
    have hh := I.ok.hd hc
    refine ⟨_, _, _, _, GoesN.zip3 S (drawsX (A := X.A.in1) hh t1 i1 a1 n1 its1.toArray) (drawsX (A := X.A.in1) hh t2 i2 a2 n2 its2.toArray) (drawsX (A := X.A.in1) hh t3 i3 a3 n3 its3.toArray), ?_⟩
    have e : min (min its1.toArray.size its2.toArray.size) its3.toArray.size = i := by
      rw [List.size_toArray, List.size_toArray, List.size_toArray, ← r1.length, ← r2.length, ← r3.length, hi]
    rw [e]
    exact ⟨hz, hTI, hTO, ⟨h1, s1⟩, ⟨h2, s2⟩, ⟨h3, s3⟩⟩
/-! enumerate -/
def ItE (K : PySem.W.Frag) (t : Bool) (a : Addr) : It :=
  ⟨fun i H => ∃ (xs : List V) (x : V), SqX K H t a xs ∧ xs[i]? = some x, fun i H v H' => ∃ T x, v = .ref T ∧ H T = none ∧ H' = upd H T (.tup [.int (i : Nat), x]) ∧ ∀ xs, SqX K H t a xs → xs[i]? = some x, fun i H => ∃ xs : List V, SqX K H t a xs ∧ i = xs.length⟩
theorem turn_enumX {P : Program} {w : World} {K : PySem.W.Frag} {elts : List Expr} {kk : Nat} {tpos : Pos} {t : Bool} {a e it : Addr} (hei : e ≠ it) (hea : e ≠ a) (n1 : a ≠ it) :
    Turn P w K (.Tuple elts kk tpos) (ItE K t a) [e, it] e (fun i h => (∃ old, IsEnum h e it ((0 : Int) + (i : Int)) old) ∧ ItX h t it a i) := by
  refine turn_of (wr := [e, it]) (by simp) (fun i h st b hb => ?_) (fun i h h' st k => ?_) (fun b hb => hb) ?_ ?_ (fun A i s Q E st h => let ⟨⟨_, he⟩, _⟩ := st; wpAny_pyIter_enum he h)
  · obtain ⟨⟨old, he⟩, h1⟩ := st
    have e' : b = e ∨ b = it := by simpa using hb
    rcases e' with q | q
    · rw [q]; exact ⟨_, he, fun v q => nomatch q⟩
    · rw [q]; exact h1.obj
  · obtain ⟨⟨old, he⟩, h1⟩ := st
    exact ⟨⟨old, k e (by simp) _ he⟩, h1.at fun o q => k it (by simp) o q⟩
  · intro X hP hw hK hc i pins s σ H I hf st hg
    subst hP hw hK
    obtain ⟨he, h1⟩ := st
    obtain ⟨xs, x, q1, hx⟩ := hg
    obtain ⟨its1, r1, s1, l1⟩ := sqX_get I q1
    have hh := I.ok.hd hc
    refine ⟨_, _, _, _, GoesN.enumFrom 0 (drawsX (A := X.A.in1) hh t it a n1 its1.toArray) e hei (by simp only [List.mem_cons, List.not_mem_nil, or_false, not_or]; exact ⟨hei, hea⟩) (by simp), get_len r1 hx, ⟨he, h1, s1⟩, ?_⟩
    intro v h' hY hst' hk
    obtain ⟨T, t', u, ev, hT, hu, hIs⟩ := hY
    obtain ⟨he', h1', _⟩ := hst'
    refine ⟨⟨he', h1'⟩, T, [.int (i : Nat), x], [.int (0 + (i : Int)) t', u], ev, hT, hIs, .cons ⟨t', by simp⟩ (.cons (get_val r1 hx hu) .nil), by show 2 ≤ sizeLine; decide, ?_⟩
    exact ⟨T, x, rfl, I.hok.fresh hT, rfl, fun l hl => by rw [sqX_inj I hl q1]; exact hx⟩
  · intro X hP hw hK hc i pins s σ H I hf st hg
    subst hP hw hK
    obtain ⟨he, h1⟩ := st
    obtain ⟨xs, q1, hi⟩ := hg
    obtain ⟨its1, r1, s1, l1⟩ := sqX_get I q1
    have hh := I.ok.hd hc
    refine ⟨_, _, _, _, GoesN.enumFrom 0 (drawsX (A := X.A.in1) hh t it a n1 its1.toArray) e hei (by simp only [List.mem_cons, List.not_mem_nil, or_false, not_or]; exact ⟨hei, hea⟩) (by simp), ?_⟩
    have e1 : its1.toArray.size = i := by rw [List.size_toArray, ← r1.length, hi]
    rw [e1]
    exact ⟨he, h1, s1⟩
/-! ### the same as data -/
/-- what a list or a tuple holds -/
inductive SrcD (K : PySem.W.Frag) (H : Hp) : V → List D → Prop
  | mk {t : Bool} {a : Addr} {xs : List V} {ds : List D} : SqX K H t a xs → RepL K H xs ds → SrcD K H (.ref a) ds
def srcs : D → Option (List D)
  | .lst xs => some xs
  | .tup xs => some xs
  | _ => none
theorem src_of {K : PySem.W.Frag} {H : Hp} {v : V} {d : D} {ds : List D} (r : Rep K H v d) (e : srcs d = some ds) : ∃ t a xs, v = .ref a ∧ SqX K H t a xs ∧ RepL K H xs ds := by
  cases r with
  | lst h l => cases e; exact ⟨false, _, _, rfl, SqL.of h, l⟩
  | tup h l => cases e; exact ⟨true, _, _, rfl, h, l⟩
  | non => cases e
  | bl => cases e
  | int => cases e
  | str => cases e
  | scr => cases e
  | box => cases e
def dZip2 : List D → R (List D)
  | [a, b] => match srcs a, srcs b with
    | some xs, some ys => .ok (List.zipWith (fun x y => .tup [x, y]) xs ys)
    | _, _ => .no
  | _ => .no
def zip3L : List D → List D → List D → List D
  | x :: xs, y :: ys, z :: zs => .tup [x, y, z] :: zip3L xs ys zs
  | _, _, _ => []
def dZip3 : List D → R (List D)
  | [a, b, c] => match srcs a, srcs b, srcs c with
    | some xs, some ys, some zs => .ok (zip3L xs ys zs)
    | _, _, _ => .no
  | _ => .no
def enumL : Nat → List D → List D
  | _, [] => []
  | n, x :: xs => .tup [.int n, x] :: enumL (n + 1) xs
def dEnum : List D → R (List D)
  | [a] => match srcs a with
    | some xs => .ok (enumL 0 xs)
    | _ => .no
  | _ => .no
theorem zip2_get : ∀ {xs ys : List D} {i : Nat} {x y : D}, xs[i]? = some x → ys[i]? = some y → (List.zipWith (fun x y => D.tup [x, y]) xs ys)[i]? = some (.tup [x, y]) := fun h1 h2 => by
  rw [List.getElem?_zipWith, h1, h2]
theorem zip3_len : ∀ xs ys zs : List D, (zip3L xs ys zs).length = min (min xs.length ys.length) zs.length
  | [], _, _ => by simp [zip3L]
  | _ :: _, [], _ => by simp [zip3L]
  | _ :: _, _ :: _, [] => by simp [zip3L]
  | x :: xs, y :: ys, z :: zs => by simp only [zip3L, List.length_cons, zip3_len xs ys zs]; omega
theorem zip3_get : ∀ {xs ys zs : List D} {i : Nat} {x y z : D}, xs[i]? = some x → ys[i]? = some y → zs[i]? = some z → (zip3L xs ys zs)[i]? = some (.tup [x, y, z])
  | [], _, _, _, _, _, _, h, _, _ => by simp at h
  | _ :: _, [], _, _, _, _, _, _, h, _ => by simp at h
  | _ :: _, _ :: _, [], _, _, _, _, _, _, h => by simp at h
  | x :: xs, y :: ys, z :: zs, 0, _, _, _, h1, h2, h3 => by simp at h1 h2 h3; subst h1 h2 h3; rfl
  | x :: xs, y :: ys, z :: zs, i + 1, a, b, c, h1, h2, h3 => by
    simp only [zip3L, List.getElem?_cons_succ] at h1 h2 h3 ⊢
    exact zip3_get h1 h2 h3
theorem enum_len : ∀ (n : Nat) (xs : List D), (enumL n xs).length = xs.length
  | _, [] => rfl
  | n, x :: xs => by simp only [enumL, List.length_cons, enum_len (n + 1) xs]
theorem enum_get : ∀ {n : Nat} {xs : List D} {i : Nat} {x : D}, xs[i]? = some x → (enumL n xs)[i]? = some (.tup [.int ((n + i : Nat) : Int), x])
  | _, [], _, _, h => by simp at h
  | n, y :: xs, 0, x, h => by simp at h; subst h; rfl
  | n, y :: xs, i + 1, x, h => by
    simp only [enumL, List.getElem?_cons_succ] at h ⊢
    rw [enum_get h]
    congr 4
    omega
/-- a yield of a new tuple -/
theorem yield_tup {K : PySem.W.Frag} {B H H' : Hp} {T : Addr} {vs : List V} {ds : List D} (r : RepL K B vs ds) (sB : Same B H) (hT : H T = none) (e : H' = upd H T (.tup vs)) :
    Rep K (upd B T (.tup vs)) (.ref T) (.tup ds) ∧ Same B (upd B T (.tup vs)) ∧ Same H H' ∧ ∀ a o, upd B T (.tup vs) a = some o → B a = some o ∨ (H a = none ∧ H' a = some o) := by
  have hB : B T = none := sB.free hT
  refine ⟨.tup (SqT.of upd_same) (r.mono (same_new hB)), same_new hB, by rw [e]; exact same_new hT, fun a o h => ?_⟩
  by_cases ha : a = T
  · subst ha
    rw [upd_same] at h
    cases h
    exact .inr ⟨hT, by rw [e]; exact upd_same⟩
  · rw [upd_ne ha] at h
    exact .inl h
section
variable {K : PySem.W.Frag} {B : Hp}
theorem walk_zip2D {t1 t2 : Bool} {a1 a2 : Addr} {xs ys : List V} {ds es : List D} (h1 : SqX K B t1 a1 xs) (r1 : RepL K B xs ds) (h2 : SqX K B t2 a2 ys) (r2 : RepL K B ys es) (hl : ds.length ≤ sizeLine) :
    WalkD K B (ItZ2 K t1 a1 t2 a2) (List.zipWith (fun x y => D.tup [x, y]) ds es) := by
  have e1 := r1.length
  have e2 := r2.length
  have hz : (List.zipWith (fun x y => D.tup [x, y]) ds es).length = min ds.length es.length := by simp
  refine ⟨by rw [hz]; omega, fun i H hi s => ?_, fun H s => ?_, fun i H v H' hi s y => ?_⟩
  · rw [hz] at hi
    have q1 : i < xs.length := by omega
    have q2 : i < ys.length := by omega
    exact ⟨xs, ys, xs[i], ys[i], h1.mono s, h2.mono s, by simp [q1], by simp [q2]⟩
  · exact ⟨xs, ys, h1.mono s, h2.mono s, by rw [hz, e1, e2]⟩
  · obtain ⟨T, x, u, rfl, hT, eH, hx, hu⟩ := y
    obtain ⟨d, d1, d2⟩ := r1.get' (hx xs (h1.mono s))
    obtain ⟨f, f1, f2⟩ := r2.get' (hu ys (h2.mono s))
    obtain ⟨w1, w2, w3, w4⟩ := yield_tup (.cons d2 (.cons f2 .nil)) s hT eH
    exact ⟨_, _, zip2_get d1 f1, w1, w2, w3, w4⟩
theorem walk_zip3D {t1 t2 t3 : Bool} {a1 a2 a3 : Addr} {xs ys zs : List V} {ds es fs : List D} (h1 : SqX K B t1 a1 xs) (r1 : RepL K B xs ds) (h2 : SqX K B t2 a2 ys) (r2 : RepL K B ys es) (h3 : SqX K B t3 a3 zs) (r3 : RepL K B zs fs) (hl : ds.length ≤ sizeLine) :
    WalkD K B (ItZ3 K t1 a1 t2 a2 t3 a3) (zip3L ds es fs) := by
  have e1 := r1.length
  have e2 := r2.length
  have e3 := r3.length
  have hz := zip3_len ds es fs
  refine ⟨by rw [hz]; omega, fun i H hi s => ?_, fun H s => ?_, fun i H v H' hi s y => ?_⟩
  · rw [hz] at hi
    have q1 : i < xs.length := by omega
    have q2 : i < ys.length := by omega
    have q3 : i < zs.length := by omega
    exact ⟨xs, ys, zs, xs[i], ys[i], zs[i], h1.mono s, h2.mono s, h3.mono s, by simp [q1], by simp [q2], by simp [q3]⟩
  · exact ⟨xs, ys, zs, h1.mono s, h2.mono s, h3.mono s, by rw [hz, e1, e2, e3]⟩
  · obtain ⟨T, x, u, q, rfl, hT, eH, hx, hu, hq⟩ := y
    obtain ⟨d, d1, d2⟩ := r1.get' (hx xs (h1.mono s))
    obtain ⟨f, f1, f2⟩ := r2.get' (hu ys (h2.mono s))
    obtain ⟨g, g1, g2⟩ := r3.get' (hq zs (h3.mono s))
    obtain ⟨w1, w2, w3, w4⟩ := yield_tup (.cons d2 (.cons f2 (.cons g2 .nil))) s hT eH
    exact ⟨_, _, zip3_get d1 f1 g1, w1, w2, w3, w4⟩
theorem walk_enumD {t : Bool} {a : Addr} {xs : List V} {ds : List D} (h1 : SqX K B t a xs) (r1 : RepL K B xs ds) (hl : ds.length ≤ sizeLine) : WalkD K B (ItE K t a) (enumL 0 ds) := by
  have e1 := r1.length
  have hz := enum_len 0 ds
  refine ⟨by rw [hz]; omega, fun i H hi s => ?_, fun H s => ?_, fun i H v H' hi s y => ?_⟩
  · rw [hz] at hi
    have q1 : i < xs.length := by omega
    exact ⟨xs, xs[i], h1.mono s, by simp [q1]⟩
  · exact ⟨xs, h1.mono s, by rw [hz, e1]⟩
  · obtain ⟨T, x, rfl, hT, eH, hx⟩ := y
    obtain ⟨d, d1, d2⟩ := r1.get' (hx xs (h1.mono s))
    obtain ⟨w1, w2, w3, w4⟩ := yield_tup (.cons (.int ((i : Nat) : Int)) (.cons d2 .nil)) s hT eH
    refine ⟨_, _, enum_get d1, ?_, w2, w3, w4⟩
    rw [show (0 + i : Nat) = i by omega]
    exact w1
end
section
variable {X : Cx} {W : WX}
theorem zipX_fresh {pins : List (Addr × Obj)} {σ : L2.St} {H : Hp} {s : Shared} (I : Inv X pins σ H s) {l : List Addr} (h : ∀ b ∈ l, s.heap.objs.size ≤ b) : ∀ b ∈ l, FpOk X pins H b := fun b hb => I.fpOk (h b hb) (I.hok.fresh (h b hb))
theorem si_zip2 {e e2 : Expr} {f : Ax} {p pos tpos : Pos} {elts : List Expr} {kk : Nat} (hg : Gl X "zip") (hm : X.mg "zip" = none) (ha : SAs X W [e, e2] f)
    (hs : starEach [e, e2] X.env = (false, eval e X.env) :: starEach [e2] X.env := by rfl) (hpl : (backTo pos (starEach [e2] X.env)).any (·.1) = false := by rfl) :
    SI X W (.Tuple elts kk tpos) (.Call (.Name "zip" p) [e, e2] [] pos) (aRng dZip2 f) := by
  refine ⟨fun pins s σ H Rr I h => ?_⟩
  obtain ⟨fm, O, ρ, en, h⟩ := h
  refine Call_ (ld_blt I hg hm PyProof.Rows.boot_zip (PyProof.Rows.callWith_type1 (thn (ha.pa.run pos pins s σ H (fun vs H1 => ∃ ds, RepL X.K (hide O H1) vs ds ∧ PostI X.mg X.K O σ H1 W Rr (dZip2 ds)) I ⟨fm, O, ρ, en, (PostI.ofA h).imp fun v H1 s1 ⟨_, d, r, q⟩ => ⟨d, r, q⟩⟩) fun us s1 ⟨vs, H1, I1, rv, ds, r, q⟩ => ?_) hs hpl))
  match ds, r, q with
  | [d1, d2], r, q =>
    obtain ⟨v1, v2, ev, r1, r2⟩ := r.two
    subst ev
    unfold dZip2 at q
    dsimp only at q
    split at q
    · rename_i xs ys g1 g2
      obtain ⟨t1, a1, ws1, ea, q1, l1⟩ := src_of r1 g1
      obtain ⟨t2, a2, ws2, eb, q2, l2⟩ := src_of r2 g2
      subst ea eb
      obtain ⟨u, u', rfl, ru, ru'⟩ := vals2 rv
      cases ru; cases ru'
      obtain ⟨its1, rv1, s1', z1⟩ := sqX_get I1 (q1.mono same_hide)
      obtain ⟨its2, rv2, s2', z2⟩ := sqX_get I1 (q2.mono same_hide)
      refine zip_begins2 (beginsX t1 a1 its1.toArray) (beginsX t2 a2 its2.toArray) s1' s2' fun h' hz hTI hTO h1 h2 hsz hk => wpAny_pyIter_zip hz ?_
      have I2 : Inv X pins σ H1 { s1 with heap := h' } := I1.kept (t' := s1.toks) hk
      have S := zip_sep2 (N := s1.heap.objs.size) (fp1 := [a1]) (fp2 := [a2]) (fun b hb => by rw [List.mem_singleton.mp hb]; exact s1'.lt) (fun b hb => by rw [List.mem_singleton.mp hb]; exact s2'.lt)
      refine ⟨s1.heap.objs.size + 4, [s1.heap.objs.size + 4, s1.heap.objs.size + 2, s1.heap.objs.size + 3, s1.heap.objs.size, s1.heap.objs.size + 1], _, _, H1, rfl, I2, turn_zip2X S (Nat.ne_of_lt s1'.lt) (Nat.ne_of_lt (Nat.lt_succ_of_lt s2'.lt)), ⟨hz, hTI, ⟨_, _, hTO⟩, ItX.new h1, ItX.new h2⟩, ?_, q _ H1 (Same.refl _) (walk_zip2D q1 l1 q2 l2 (by rw [← l1.length]; exact z1))⟩
      refine zipX_fresh I1 fun b hb => ?_
      have e' : b = s1.heap.objs.size + 4 ∨ b = s1.heap.objs.size + 2 ∨ b = s1.heap.objs.size + 3 ∨ b = s1.heap.objs.size ∨ b = s1.heap.objs.size + 1 := by simpa using hb
      rcases e' with z | z | z | z | z <;> rw [z] <;> first | exact Nat.le_add_right _ _ | exact Nat.le_refl _
    · exact q.elim
  | [], r, q => exact q.elim
  | [_], r, q => exact q.elim
  | _ :: _ :: _ :: _, r, q => exact q.elim
theorem RepL.three {K : PySem.W.Frag} {H : Hp} {vs : List V} {d e f : D} (r : RepL K H vs [d, e, f]) : ∃ v u w, vs = [v, u, w] ∧ Rep K H v d ∧ Rep K H u e ∧ Rep K H w f := by
  cases r with
  | cons a b => obtain ⟨u, w, e, h1, h2⟩ := b.two; subst e; exact ⟨_, _, _, rfl, a, h1, h2⟩
theorem vals3 {x y z : V} {us : List Value} (r : Vals [x, y, z] us) : ∃ u v w, us = [u, v, w] ∧ RelV x u ∧ RelV y v ∧ RelV z w := by
  cases r with
  | cons a b => obtain ⟨u, v, e, h1, h2⟩ := vals2 b; subst e; exact ⟨_, _, _, rfl, a, h1, h2⟩
theorem si_zip3 {e e2 e3 : Expr} {f : Ax} {p pos tpos : Pos} {elts : List Expr} {kk : Nat} (hg : Gl X "zip") (hm : X.mg "zip" = none) (ha : SAs X W [e, e2, e3] f)
    (hs : starEach [e, e2, e3] X.env = (false, eval e X.env) :: starEach [e2, e3] X.env := by rfl) (hpl : (backTo pos (starEach [e2, e3] X.env)).any (·.1) = false := by rfl) :
    SI X W (.Tuple elts kk tpos) (.Call (.Name "zip" p) [e, e2, e3] [] pos) (aRng dZip3 f) := by
  refine ⟨fun pins s σ H Rr I h => ?_⟩
  obtain ⟨fm, O, ρ, en, h⟩ := h
  refine Call_ (ld_blt I hg hm PyProof.Rows.boot_zip (PyProof.Rows.callWith_type1 (thn (ha.pa.run pos pins s σ H (fun vs H1 => ∃ ds, RepL X.K (hide O H1) vs ds ∧ PostI X.mg X.K O σ H1 W Rr (dZip3 ds)) I ⟨fm, O, ρ, en, (PostI.ofA h).imp fun v H1 s1 ⟨_, d, r, q⟩ => ⟨d, r, q⟩⟩) fun us s1 ⟨vs, H1, I1, rv, ds, r, q⟩ => ?_) hs hpl))
  match ds, r, q with
  | [d1, d2, d3], r, q =>
    obtain ⟨v1, v2, v3, ev, r1, r2, r3⟩ := r.three
    subst ev
    unfold dZip3 at q
    dsimp only at q
    split at q
    · rename_i xs ys zs g1 g2 g3
      obtain ⟨t1, a1, ws1, ea, q1, l1⟩ := src_of r1 g1
      obtain ⟨t2, a2, ws2, eb, q2, l2⟩ := src_of r2 g2
      obtain ⟨t3, a3, ws3, ec, q3, l3⟩ := src_of r3 g3
      subst ea eb ec
      obtain ⟨u, u', u'', rfl, ru, ru', ru''⟩ := vals3 rv
      cases ru; cases ru'; cases ru''
      obtain ⟨its1, rv1, s1', z1⟩ := sqX_get I1 (q1.mono same_hide)
      obtain ⟨its2, rv2, s2', z2⟩ := sqX_get I1 (q2.mono same_hide)
      obtain ⟨its3, rv3, s3', z3⟩ := sqX_get I1 (q3.mono same_hide)
      refine zip_begins3 (beginsX t1 a1 its1.toArray) (beginsX t2 a2 its2.toArray) (beginsX t3 a3 its3.toArray) s1' s2' s3' fun h' hz hTI hTO h1 h2 h3 hsz hk => wpAny_pyIter_zip hz ?_
      have I2 : Inv X pins σ H1 { s1 with heap := h' } := I1.kept (t' := s1.toks) hk
      have S := zip_sep3 (N := s1.heap.objs.size) (fp1 := [a1]) (fp2 := [a2]) (fp3 := [a3]) (fun b hb => by rw [List.mem_singleton.mp hb]; exact s1'.lt) (fun b hb => by rw [List.mem_singleton.mp hb]; exact s2'.lt) (fun b hb => by rw [List.mem_singleton.mp hb]; exact s3'.lt)
      refine ⟨s1.heap.objs.size + 5, [s1.heap.objs.size + 5, s1.heap.objs.size + 3, s1.heap.objs.size + 4, s1.heap.objs.size, s1.heap.objs.size + 1, s1.heap.objs.size + 2], _, _, H1, rfl, I2, turn_zip3X S (Nat.ne_of_lt s1'.lt) (Nat.ne_of_lt (Nat.lt_succ_of_lt s2'.lt)) (Nat.ne_of_lt (Nat.lt_succ_of_lt (Nat.lt_succ_of_lt s3'.lt))),
        ⟨hz, hTI, ⟨_, _, _, hTO⟩, ItX.new h1, ItX.new h2, ItX.new h3⟩, ?_, q _ H1 (Same.refl _) (walk_zip3D q1 l1 q2 l2 q3 l3 (by rw [← l1.length]; exact z1))⟩
      refine zipX_fresh I1 fun b hb => ?_
      have e' : b = s1.heap.objs.size + 5 ∨ b = s1.heap.objs.size + 3 ∨ b = s1.heap.objs.size + 4 ∨ b = s1.heap.objs.size ∨ b = s1.heap.objs.size + 1 ∨ b = s1.heap.objs.size + 2 := by simpa using hb
      rcases e' with z | z | z | z | z | z <;> rw [z] <;> first | exact Nat.le_add_right _ _ | exact Nat.le_refl _
    · exact q.elim
  | [], r, q => exact q.elim
  | [_], r, q => exact q.elim
  | [_, _], r, q => exact q.elim
  | _ :: _ :: _ :: _ :: _, r, q => exact q.elim
end
end JK

/-! LayE -/
set_option Elab.async false
set_option linter.all false
set_option maxRecDepth 100000
set_option autoImplicit false
/-! enumerate(v), v a list or a tuple -/
namespace JK
open PySem PySem.Spec PyProof.Rows L2
abbrev enumNew (it : Addr) : Obj := { cls := .type "enumerate", data := .fields #[.none, .bool false, .ref it, rawInt 0, .none, .none] }
theorem enumMade {v : Value} {o : Obj} {H : Heap → Prop} (B : Begins v o H) :
    Meets (Builtin.«enumerate.__new__» ⟨[.type "enumerate", v], []⟩) (fun _ R s => H s.heap ∧ R (.ok (.ret (.ref (s.heap.push o).objs.size))) { s with heap := (s.heap.push o).push (enumNew s.heap.objs.size) }) := by
  refine .of_wp fun prog w A R s want => ?_
  obtain ⟨now, fin⟩ := want
  have below := sub_enumerate
  generalize pi : pyIter = PI
  wp_walk
  subst pi
  refine wpAny_stack_any fun frames => wpAny_pure ?_
  have iter : ∀ {Q : Value → Shared → Prop} {E : Value → Shared → Prop}, Q (.ref s.heap.objs.size) { s with heap := s.heap.push o } → wpAny (model prog w) A.in1 (pyIter v) Q E s := fun q => B.iter _ _ _ _ _ _ now q
  generalize pi : pyIter = PI at iter ⊢
  have way : ∀ (short : Bool) {X Y : Sem PySem.Fin} {Q : PySem.Fin → Shared → Prop} {E : Value → Shared → Prop}, wpAny (model prog w) A.in1 X Q E s → wpAny (model prog w) A.in1 Y Q E s → wpAny (model prog w) A.in1 (if short = true then X else Y) Q E s := fun short _ _ _ _ p q => by
    cases short
    · exact q
    · exact p
  refine way _ ?_ ?_
  all_goals
    wp_walk
    try (refine iter ?_)
    try wp_walk
  all_goals exact ⟨_, rfl, fin⟩
section
variable {X : Cx} {W : WX}
/-- for i, x in enumerate(a list or a tuple) -/
theorem si_enum {e : Expr} {f : Ax} {p pos tpos : Pos} {elts : List Expr} {kk : Nat} (hg : Gl X "enumerate") (hm : X.mg "enumerate" = none) (ha : SAs X W [e] f)
    (hs : starEach [e] X.env = (false, eval e X.env) :: starEach [] X.env := by rfl) (hpl : (backTo pos (starEach [] X.env)).any (·.1) = false := by rfl) :
    SI X W (.Tuple elts kk tpos) (.Call (.Name "enumerate" p) [e] [] pos) (aRng dEnum f) := by
  refine ⟨fun pins s σ H Rr I h => ?_⟩
  obtain ⟨fm, O, ρ, en, h⟩ := h
  refine Call_ (ld_blt I hg hm boot_enumerate (PyProof.Rows.callWith_type1 (thn (ha.pa.run pos pins s σ H (fun vs H1 => ∃ ds, RepL X.K (hide O H1) vs ds ∧ PostI X.mg X.K O σ H1 W Rr (dEnum ds)) I ⟨fm, O, ρ, en, (PostI.ofA h).imp fun v H1 s1 ⟨_, d, r, q⟩ => ⟨d, r, q⟩⟩) fun us s1 ⟨vs, H1, I1, rv, ds, r, q⟩ => ?_) hs hpl))
  match ds, r, q with
  | [], _, q => exact q.elim
  | _ :: _ :: _, _, q => exact q.elim
  | [d], r, q =>
    obtain ⟨v, rfl, r1⟩ := r.one
    unfold dEnum at q
    dsimp only at q
    split at q
    · rename_i xs g1
      obtain ⟨t1, a1, ws1, rfl, q1, l1⟩ := src_of r1 g1
      obtain ⟨u, rfl, ru⟩ := vals1 rv
      obtain rfl : u = Value.ref a1 := ru
      obtain ⟨its, rv1, sx, zx⟩ := sqX_get I1 (q1.mono same_hide)
      have B := beginsX t1 a1 its.toArray
      have one : (s1.heap.push (oX t1 a1)).objs.size = s1.heap.objs.size + 1 := Heap.size_push ..
      have self : ((s1.heap.push (oX t1 a1)).push (enumNew s1.heap.objs.size)).get? (s1.heap.objs.size + 1) = some (enumNew s1.heap.objs.size) := by
        have z := Heap.get?_push_size (s1.heap.push (oX t1 a1)) (o := enumNew s1.heap.objs.size) rfl
        rwa [one] at z
      have kept : ∀ b x, s1.heap.get? b = some x → ((s1.heap.push (oX t1 a1)).push (enumNew s1.heap.objs.size)).get? b = some x := fun b x z => Heap.get?_push_of_some _ (Heap.get?_push_of_some _ z)
      refine callType_new F.called_enumerate (by decide) (F.typeCall_enumerate_1 _) (F.newCall_enumerate_1 _) (fun ob => F.args_object_init_2 ob _) F.entry_enumerate_new (enumMade B) ⟨sx, ?_⟩
      rw [one]
      refine ⟨⟨_, self, rfl⟩, ?_⟩
      have J : Inv X pins σ H1 { s1 with heap := (s1.heap.push (oX t1 a1)).push (enumNew s1.heap.objs.size) } := I1.kept (t' := s1.toks) kept
      have isE : IsEnum ((s1.heap.push (oX t1 a1)).push (enumNew s1.heap.objs.size)) (s1.heap.objs.size + 1) s1.heap.objs.size ((0 : Int) + ((0 : Nat) : Int)) .none := self
      have nA := sx.lt
      refine wpAny_pyIter_enum isE ⟨s1.heap.objs.size + 1, [s1.heap.objs.size + 1, s1.heap.objs.size], _, _, H1, rfl, J, turn_enumX (Nat.succ_ne_self _) (Nat.ne_of_gt (Nat.lt_succ_of_lt nA)) (Nat.ne_of_lt nA), ⟨⟨_, isE⟩, ItX.new (Heap.get?_push_of_some _ (Heap.get?_push_size _ B.free))⟩, ?_, q _ H1 (Same.refl _) (walk_enumD q1 l1 (by rw [← l1.length]; exact zx))⟩
      refine zipX_fresh I1 fun b hb => ?_
      simp only [List.mem_cons, List.not_mem_nil, or_false] at hb
      rcases hb with z | z
      · rw [z]; exact Nat.le_succ _
      · rw [z]; exact Nat.le_refl _
    · exact q.elim
end
end JK

/-! LayG -/
set_option Elab.async false
set_option linter.all false
set_option maxRecDepth 100000
set_option autoImplicit false
namespace JK
/-- what enumerate(zip(a, b)) goes over; its rule is still lacking -/
def dEnumZip : List D → R (List D)
  | [a, b] => match srcs a, srcs b with
    | some xs, some ys => .ok (enumL 0 (List.zipWith (fun x y => .tup [x, y]) xs ys))
    | _, _ => .no
  | _ => .no
end JK

/-! LayA -/
set_option Elab.async false
set_option linter.all false
set_option maxRecDepth 100000
set_option autoImplicit false
namespace JK
open PySem PySem.Spec PyProof.Rows L2
/-! ### short words for printed derivations -/
theorem boot_isi : bootBuiltins "isinstance" = some (.builtin "isinstance") := by decide +kernel
theorem boot_int : bootBuiltins "int" = some (.type Tn.int.s) := by decide +kernel
theorem boot_bool : bootBuiltins "bool" = some (.type Tn.bool.s) := by decide +kernel
theorem boot_str : bootBuiltins "str" = some (.type Tn.str.s) := by decide +kernel
theorem boot_list : bootBuiltins "list" = some (.type "list") := by decide +kernel
theorem boot_tuple : bootBuiltins "tuple" = some (.type "tuple") := by decide +kernel
theorem boot_max : bootBuiltins "max" = some (.builtin "max") := by decide +kernel
theorem boot_min : bootBuiltins "min" = some (.builtin "min") := by decide +kernel
theorem boot_sum : bootBuiltins "sum" = some (.builtin "sum") := by decide +kernel
theorem boot_sorted : bootBuiltins "sorted" = some (.builtin "sorted") := by decide +kernel
section
variable {X : Cx} {W : WX} {vs : List Nat}
theorem sn (i : Nat) {x : Str} {pos : Pos} (hN : X.N[i]? = some x := by rfl) (hv : Vis X.env.scope x := by first | exact Or.inl rfl | exact Or.inr (Or.inl rfl) | exact Or.inr (Or.inr rfl)) (hd : (x == ("__debug__" : Str)) = false := by decide)
    (hcd : (x == ("__classdict__" : Str)) = false := by decide) : SE X W (.Name x pos) (eName i) := se_name hN hv hd hcd
theorem sgn (i : Nat) {x : Str} {pos : Pos} (hv : i ∈ vs := by decide) (hN : X.N.Nodup := by assumption) (hi : X.N[i]? = some x := by rfl) (hx : Loc X.env.scope x := by first | exact Or.inl rfl | exact Or.inr rfl)
    (hf : X.fn x = true ∨ X.env.scope.names.lookup x = some .local := by first | exact .inl rfl | exact .inr rfl | assumption) : SG X vs (.Name x pos) (gN i) := sg_name hv hN hi hx hf
theorem sapp (i : Nat) {x : Str} {e : Expr} {fa : Ex} {pos cpos apos npos : Pos} (hN : X.N.Nodup) (ha : SE X W e fa) (hi : X.N[i]? = some x := by rfl) (hv : Vis X.env.scope x := by first | exact Or.inl rfl | exact Or.inr (Or.inl rfl) | exact Or.inr (Or.inr rfl)) (hd : (x == ("__debug__" : Str)) = false := by decide) (hcd : (x == ("__classdict__" : Str)) = false := by decide)
    (hbase : attributeBase (.Name x npos) "append" X.env (eval (.Name x npos) X.env) = eval (.Name x npos) X.env := by rfl)
    (hfew : ((backTo cpos (starEach [e] X.env)).all (fun x => !x.1) && (backToKw cpos (keywordEach [] X.env)).all (fun x => x.1.isSome) && decide ([e].length + ([] : List Keyword).length + (if ([] : List Keyword).isEmpty then 0 else 1) < 30)) = true := by rfl)
    (hline : (apos.endLine == cpos.line) = true := by rfl) (hs : starEach [e] X.env = (false, eval e X.env) :: starEach [] X.env := by rfl)
    (hsw : swapsWith (.Call (.Attribute (.Name x npos) "append" apos) [e] [] cpos) none pos.line X.env = pure false := by rfl) :
    SS X W (.Expr (.Call (.Attribute (.Name x npos) "append" apos) [e] [] cpos) pos) (sApp i fa) := ss_app hN hi hv ha hd hcd hbase hfew hline hs hsw
/-- a, b, c = x, y, z -/
def sPar3 (i j l : Nat) (f : Ax) : Sx := fun ρ => lThen (f ρ) ρ fun ds => match ds with
  | [d, e, g] => .nx (((ρ.set i (.val d)).set j (.val e)).set l (.val g))
  | _ => .no
theorem ss_par3 {i j l : Nat} {x y z : Str} {a b c : Expr} {f : Ax} {px py pz pt pos : Pos} {kt k2 : Nat} {pt2 : Pos} (hc : X.calm = true) (hN : X.N.Nodup) (hi : X.N[i]? = some x) (hj : X.N[j]? = some y) (hl : X.N[l]? = some z) (hij : i ≠ j) (hil : i ≠ l) (hjl : j ≠ l)
    (hx : X.env.scope.names.lookup x = some .local) (hy : X.env.scope.names.lookup y = some .local) (hz : X.env.scope.names.lookup z = some .local) (ha : SAs X W [a, b, c] f)
    (hw : swappedStores [.Tuple [.Name x px, .Name y py, .Name z pz] kt pt] (.Tuple [a, b, c] k2 pt2) X.env = pure (some [x, y, z]))
    (hs : swapsWithSole [.Tuple [.Name x px, .Name y py, .Name z pz] kt pt] (.Tuple [a, b, c] k2 pt2) pos.line X.env = pure false := by rfl) :
    SS X W (.Assign [.Tuple [.Name x px, .Name y py, .Name z pz] kt pt] (.Tuple [a, b, c] k2 pt2) pos) (sPar3 i j l f) := by
  refine PS.weak (ps_par3 hc hN hi hj hl hij hil hjl hx hy hz ha.pa hw hs) fun Dn σ H ⟨fm, O, ρ, en, h⟩ => ?_
  refine ⟨fm, O, ρ, en, (PostS.thenA en h).imp fun v H1 s1 ⟨_, en1, ds, r, q⟩ => ?_⟩
  match ds, r, q with
  | [d, e, g], r, q =>
    obtain ⟨v1, v2, v3, ev, r1, r2, r3⟩ := r.three
    subst ev
    exact ⟨v1, v2, v3, rfl, q O _ H1 (((en1.set r1).set r2).set r3) (Same.refl _)⟩
  | [], r, q => exact q.elim
  | [_], r, q => exact q.elim
  | [_, _], r, q => exact q.elim
  | _ :: _ :: _ :: _ :: _, r, q => exact q.elim
end
/-- a constant of the module -/
structure ConstD (K : PySem.W.Frag) (mg : Str → Option Value) (x : Str) (d : D) : Prop where
  ex : ∃ (v : V) (u : Value), mg x = some u ∧ RelV v u ∧ ∀ H, Rep K H v d
theorem ConstD.se {X : Cx} {W : WX} {x : Str} {d : D} {pos : Pos} (c : ConstD X.K X.mg x d) (hg : Gl X x) (hd : (x == ("__debug__" : Str)) = false := by decide) : SE X W (.Name x pos) (eC d) := by
  obtain ⟨v, u, h1, h2, h3⟩ := c.ex
  exact se_glob hg h1 h2 h3 hd
end JK

/-! LayB -/
set_option Elab.async false
set_option linter.all false
set_option maxRecDepth 100000
set_option autoImplicit false
namespace JK
open PySem PySem.Spec PyProof.Rows L2
section
variable {K : PySem.W.Frag} {mg : Str → Option Value} {h : Heap}
theorem const_int (X : K.In h) (G : h.Ns mainGlobals mg) {x : Str} {i : Int} (c : (He.Fa.int x i).ok K = true) : ConstD K mg x (.int i) := by
  obtain ⟨t, e⟩ := He.int_ok X G c
  exact ⟨.int i, _, e, ⟨t, rfl⟩, fun _ => .int i⟩
theorem const_str (X : K.In h) (G : h.Ns mainGlobals mg) {x z : Str} (c : (He.Fa.str x z).ok K = true) : ConstD K mg x (.str z) := by
  obtain ⟨t, e⟩ := He.str_ok X G c
  exact ⟨.str z, _, e, ⟨t, rfl⟩, fun _ => .str z⟩
theorem rep_strs {H : Hp} : ∀ zs : List Str, RepL K H (zs.map V.str) (zs.map D.str)
  | [] => .nil
  | _ :: r => .cons (.str _) (rep_strs r)
theorem const_strs (X : K.In h) (G : h.Ns mainGlobals mg) {x : Str} {zs : List Str} (c : (He.Fa.glo x).ok K = true) (t : He.tupB K x (zs.map He.Dv.str) = true) : ConstD K mg x (.tup (zs.map D.str)) := by
  refine ⟨.ref (He.ga K x), _, He.glo_ok X G c, rfl, fun H => .tup (xs := zs.map V.str) ?_ (rep_strs zs)⟩
  have := He.tupB_ok t H
  rw [List.map_map] at this
  exact this
theorem exc_cls (X : K.In h) (G : h.Ns mainGlobals mg) {x : Str} (c : (He.Fa.glo x).ok K = true) (e : (He.Fa.exc x).ok K = true) : ExcCls K mg x := by
  obtain ⟨h1, h2, h3, h4⟩ := He.exc_ok e
  exact ⟨_, He.glo_ok X G c, h1, h2, h3, h4⟩
end
theorem fun_of (K : PySem.W.Frag) {mg : Str → Option Value} {h : Heap} (X : K.In h) (G : h.Ns mainGlobals mg) {x : Str} {st : Stmt} (c : (He.Fa.glo x).ok K = true) (F : ∃ fd, FunD K x x (defArgs st) (defBody st) (defScope st) [] [] (He.ga K x) fd) :
    ∃ f fd, Fun K x x st f fd ∧ mg x = some (.ref f) := by
  obtain ⟨fd, F⟩ := F
  refine ⟨_, fd, ?_, He.glo_ok X G c⟩
  obtain ⟨oc, od, dV, kV, doc, pm, an, cdv, ct, osl, e, lk, hcd, hD, hK⟩ := F.ex
  rcases hD with ⟨_, rfl⟩ | ⟨e', _⟩
  · exact ⟨⟨oc, od, kV, doc, pm, an, cdv, ct, osl, e, lk, hcd⟩, F.kp⟩
  · exact absurd rfl e'
theorem cx_false {P : Program} (w : World) (H : Hp) (s : Shared) (e : Value) (s' : Shared) (h : L2.CX P w [] H s (fun _ _ _ => False) e s') : False := by
  obtain ⟨_, _, _, _, _, _, _, _, _, _, _, _, z⟩ := h
  first | exact z | exact z.elim | (obtain ⟨_, z⟩ := z; exact z)
/-- what the law's own def promises, and its arguments -/
theorem law_fn {P : Program} {w : World} {K : PySem.W.Frag} {mg : Str → Option Value} {k n : Nat} {g : List D → R D} {st : Stmt} {fa : Addr} (hfa : mg "law" = some (.ref fa)) (Fu : ∃ f fd, Fun K "law" "law" st f fd ∧ mg "law" = some (.ref f))
    (hb : ∀ (kV doc pm : Value) (an : Option Addr) (cdv ct : Value) (us : List Value), us.length = [("script" : Str)].length → bindArgs (PySem.W.fnOf "law" "law" (defArgs st) (defBody st) (defScope st) .none kV doc pm an cdv ct) ⟨us, []⟩ = pure ([("script" : Str)].zip us))
    (F : ∀ base : Heap, ∀ f fd, Fun K "law" "law" st f fd → mg "law" = some (.ref f) → FnOk P w K mg base (L2.CX P w) k f fd ["script"] (spD mg K 1 g)) (hg : ∀ ns : List Int, ns.length ≤ n → g [.scr ns] = .ok (.bl true)) :
    ∃ (fd : FuncData) (sp : Sp), (∀ (s : Shared) (u : Value), BindsTo s fd ⟨[u], []⟩ [("script", u)]) ∧
      (∀ (H : Hp) (a : Addr) (ns : List Int), ns.length ≤ n → SqL K H a (ns.map V.int) → sp [.ref a] H (fun v _ => v = .bl true) fun _ _ _ => False) ∧
      ∀ base : Heap, FnOk P w K mg base (L2.CX P w) k fa fd ["script"] sp := by
  obtain ⟨f, fd, Fu, hm⟩ := Fu
  have e := hfa.symm.trans hm
  cases e
  refine ⟨fd, spD mg K 1 g, fun s u => ?_, fun H a ns hl hS => law_sp hg hl hS, fun base => F base _ fd Fu hm⟩
  obtain ⟨oc, od, kV, doc, pm, an, cdv, ct, osl, rfl, lk, hcd⟩ := Fu.ex
  exact .of_eq (hb kV doc pm an cdv ct [u] rfl)
end JK

/-! LayC -/
set_option Elab.async false
set_option linter.all false
set_option maxRecDepth 100000
set_option autoImplicit false
/-! [e for x in xs for y in ys]; list(range(..)) -/
namespace JK
open PySem PySem.Spec PyProof.Rows L2
def noOwn (ρ : Env) : Bool := ρ.all fun s => !s.isOwn
section
variable {X : Cx} {W : WX} {vs : List Nat}
theorem noOwn_at {ρ : Env} (h : noOwn ρ = true) {i : Nat} {us : List D} (e : ρ[i]? = some (.own us)) : False := by
  have := List.all_eq_true.mp h _ (List.mem_of_getElem? e)
  cases this
theorem noOwn_set {ρ : Env} {i : Nat} {s : Slot} (h : noOwn ρ = true) (hs : s.isOwn = false) : noOwn (ρ.set i s) = true := by
  refine List.all_eq_true.mpr fun x hx => ?_
  rcases List.mem_or_eq_of_mem_set hx with h1 | h1
  · exact List.all_eq_true.mp h _ h1
  · subst h1; simp [hs]
theorem noOwn_wipe {ρ : Env} (h : noOwn ρ = true) : ∀ (vs : List Nat), noOwn (wipeE ρ vs) = true
  | [] => h
  | v :: vs => noOwn_set (noOwn_wipe h vs) rfl
theorem EnvR.appD {K : PySem.W.Frag} {fm : Fm} {O : List Addr} {H : Hp} {σ : L2.St} {ρ : Env} {D : Addr} {o : HO} (en : EnvR K fm (D :: O) H σ ρ) (hn : noOwn ρ = true) (h0 : fm.H0 D = none) : EnvR K fm (D :: O) (upd H D o) σ ρ := by
  have hh : hide (D :: O) (upd H D o) = hide (D :: O) H := upd_hide List.mem_cons_self
  have noT : ∀ (i : Nat) (s : Slot), s.isOwn = true → ρ[i]? ≠ some s := fun i s hs e => by
    have := List.all_eq_true.mp hn _ (List.mem_of_getElem? e)
    rw [hs] at this
    cases this
  have noA : ∀ (i : Nat) (s : Slot), s.isT = true → ρ[i]? ≠ some s := fun i s h => noT i s (isOwn_T h)
  refine ⟨en.len, fun j s q => ?_, en.dist, fun b hb => ?_, en.there0, en.sub, fun b o q => ?_, ⟨fun _ => [], fun i T q => absurd q (noA i _ rfl), fun i j T U _ q => absurd q (noA i _ rfl), fun i j xs T a _ _ q => absurd q (noA j _ rfl), [], [], [], ⟨by unfold ThsR; trivial, (fun i B q => by cases q), (fun i j B C _ q => by cases q), (fun b hb => absurd hb (by simp)), fun i s k q e => absurd q (noA i s (by cases s <;> first | rfl | cases e)), fun i ks q => absurd q (noA i _ rfl), fun w m d S' q => absurd q (noA 0 _ rfl), fun i xs a q => absurd q (noT i _ rfl), fun i T q => absurd q (noA i _ rfl)⟩⟩⟩
  · have w := en.at' j s q
    cases s with
    | ref x => trivial
    | refs x => trivial
    | sto w' m d S => exact absurd q (noT j _ rfl)
    | thing x => trivial
    | emp => trivial
    | val d => obtain ⟨x, w1, w2⟩ := w; exact ⟨x, w1, by rw [hh]; exact w2⟩
    | own us => exact (noOwn_at hn q).elim
    | exc e' x => exact exc_mono (by rw [hh]; exact Same.refl _) w
  · by_cases hb' : b = D
    · subst hb'; rw [upd_same]; exact fun z => by cases z
    · rw [upd_ne hb']; exact en.there b hb
  · have nb : b ≠ D := fun z => by subst z; rw [q] at h0; cases h0
    rw [upd_ne nb]; exact en.same b o q
def cLoop2 (g : Gx) (f1 : Ax) (vs1 : List Nat) (g1 : Gx) (el : Ex) (ρ : Env) : List D → R (List D)
  | [] => .ok []
  | d :: r => match g d ρ with
    | .ok ρ1 => if noOwn ρ1 = true then match f1 ρ1 with
      | .ok es => (cLoop g1 tYesD el (wipeE ρ1 vs1) es).bnd fun ys => (cLoop2 g f1 vs1 g1 el ρ r).bnd fun zs => .ok (ys ++ zs)
      | _ => .no else .no
    | _ => .no
def aComp2 (f : Ax) (vs : List Nat) (g : Gx) (f1 : Ax) (vs1 : List Nat) (g1 : Gx) (el : Ex) : Ax := fun ρ => if noOwn ρ = true then (f ρ).bnd fun ds => (cLoop2 g f1 vs1 g1 el (wipeE ρ vs) ds).bnd fun out => if out.length ≤ 100000 then .ok out else .no else .no
theorem wipe_twice (σ : L2.St) (us : List Nat) : wipe (wipe σ us) us = wipe σ us := by
  have aux : ∀ (us ws : List Nat) (τ : L2.St), (∀ u ∈ us, u ∈ ws) → wipe (wipe τ us) ws = wipe τ ws := by
    intro us
    induction us with
    | nil => intro ws τ _; rfl
    | cons u us ih =>
      intro ws τ hs
      show wipe ((wipe τ us).set u none) ws = wipe τ ws
      rw [wipe_set (hs u List.mem_cons_self), ih ws τ fun z hz => hs z (List.mem_cons_of_mem _ hz)]
  exact aux us us σ fun _ h => h
theorem drop_at {α : Type} {xs : List α} {i : Nat} {x : α} (h : xs[i]? = some x) : xs.drop i = x :: xs.drop (i + 1) := by
  obtain ⟨hl, e⟩ := List.getElem?_eq_some_iff.mp h
  rw [List.drop_eq_getElem_cons hl, e]
theorem bnd_ok_of {α β : Type} {r : R α} {k : α → R β} {y : β} (h : r.bnd k = .ok y) : ∃ x, r = .ok x ∧ k x = .ok y := by
  cases r with
  | no => cases h
  | ex x => cases h
  | ok a => exact ⟨a, rfl, h⟩
theorem lc2_read {K : PySem.W.Frag} {mg : Str → Option Value} {f f1 : Ax} {g g1 : Gx} {el : Ex} {vs1 : List Nat} {σ : L2.St} {H : Hp} {Q : VK} (h : tDF mg K W (aComp2 f vs g f1 vs1 g1 el) σ H Q) :
    tLc2 (tI mg K W f) (tG K vs g) (tDT mg K WF tYesD) (tI mg K WF f1) (tG K vs1 g1) (tDT mg K WF tYesD) (tD mg K WF el) vs vs1 σ H Q := by
  obtain ⟨fm, O, ρ, en, h⟩ := h
  refine ⟨fm, O, ρ, en, ?_⟩
  unfold aComp2 at h
  by_cases hn : noOwn ρ = true
  case neg => rw [if_neg hn] at h; exact h.elim
  rw [if_pos hn] at h
  cases e1 : f ρ with
  | no => rw [e1] at h; exact h
  | ex x => rw [e1] at h; exact h
  | ok ds =>
    rw [e1, R.bnd_ok] at h
    intro J H1 s1 wd D hD
    have hn' := noOwn_wipe hn vs
    cases e2 : cLoop2 g f1 vs1 g1 el (wipeE ρ vs) ds with
    | no => rw [e2] at h; exact h.elim
    | ex x =>
      exfalso
      have : ∀ (ds : List JK.D) (x : Exc), cLoop2 g f1 vs1 g1 el (wipeE ρ vs) ds ≠ .ex x := by
        intro ds
        induction ds with
        | nil => intro x z; cases z
        | cons d r ih =>
          intro x z
          unfold cLoop2 at z
          split at z
          · split at z
            · split at z
              · rename_i es _
                cases q1 : cLoop g1 tYesD el (wipeE _ vs1) es with
                | no => rw [q1] at z; cases z
                | ex y => exact cLoop_nx _ _ q1
                | ok ys =>
                  rw [q1, R.bnd_ok] at z
                  cases q2 : cLoop2 g f1 vs1 g1 el (wipeE ρ vs) r with
                  | no => rw [q2] at z; cases z
                  | ex y => exact ih _ q2
                  | ok zs => rw [q2] at z; cases z
              · cases z
            · cases z
          · cases z
      exact this ds x e2
    | ok out =>
      rw [e2, R.bnd_ok] at h
      by_cases hlen : out.length ≤ 100000
      case neg => rw [if_neg hlen] at h; exact h.elim
      rw [if_pos hlen] at h
      have en1 := en.mono s1
      have hD0 : H D = none := s1.free hD
      have hH0 : fm.H0 D = none := en.same.free hD0
      refine ⟨fun i m H => i ≤ ds.length ∧ m = ds.length - i ∧ ∃ xs ys zs, H D = some (.lst xs) ∧ RepL K (hide (D :: O) H) xs ys ∧ EnvR K fm (D :: O) H (wipe σ vs) (wipeE ρ vs) ∧ Same H1 H ∧ cLoop2 g f1 vs1 g1 el (wipeE ρ vs) (ds.drop i) = .ok zs ∧ ys ++ zs = out,
        ⟨ds.length, Nat.zero_le _, rfl, [], [], out, upd_same, .nil, ?_, same_new hD, e2, rfl⟩, ?_⟩
      · exact ((en1.new (same_new hD) hD (by rw [upd_same]; exact fun z => by cases z))).wipe vs
      · rintro i m H2 ⟨hi, em, xs, ys, zs, hx, rx, en2, s2, e3, e4⟩
        have sB : ∀ {H2 : Hp}, Same H1 H2 → Same (hide O H1) (hide (D :: O) H2) := fun s2 a o q => by
          obtain ⟨q1, q2⟩ := hide_sub q
          exact hide_of (s2 _ _ q2) (by simp only [List.mem_cons, not_or]; exact ⟨ne_of_none q2 hD, q1⟩)
        by_cases hlt : i < ds.length
        · refine .inr ⟨wd.goes i H2 hlt ((sB s2).trans same_hide), fun H' => ∃ xs ys zs, H' D = some (.lst xs) ∧ RepL K (hide (D :: O) H') xs ys ∧ EnvR K fm (D :: O) H' (wipe σ vs) (wipeE ρ vs) ∧ Same H1 H' ∧ cLoop2 g f1 vs1 g1 el (wipeE ρ vs) (ds.drop (i + 1)) = .ok zs ∧ ys ++ zs = out, ?_, ?_⟩
          · intro H' nx
            exact ⟨ds.length - (i + 1), by omega, hlt, rfl, nx⟩
          · intro v H3 y
            obtain ⟨d, B', hd, r, sBB, sHH, hBB⟩ := wd.yields i H2 v H3 hlt ((sB s2).trans same_hide) y
            obtain ⟨en3, r3⟩ := yield_env en2 (sB s2) r sHH hBB
            rw [drop_at hd] at e3
            unfold cLoop2 at e3
            refine ⟨fm, D :: O, wipeE ρ vs, d, en3, r3, ?_⟩
            cases q1 : g d (wipeE ρ vs) with
            | no => rw [q1] at e3; cases e3
            | ex x => rw [q1] at e3; cases e3
            | ok ρ1 =>
              rw [q1] at e3
              dsimp only at e3
              by_cases hn1 : noOwn ρ1 = true
              case neg => rw [if_neg hn1] at e3; cases e3
              rw [if_pos hn1] at e3
              intro σ2 en4 hw
              refine ⟨hw.trans (wipe_twice σ vs), fm, D :: O, ρ1, en4, ?_⟩
              have s3 : Same H1 H3 := s2.trans sHH
              have hx3 : H3 D = some (.lst xs) := sHH _ _ hx
              have rx3 : RepL K (hide (D :: O) H3) xs ys := rx.mono (Same.hide sHH)
              intro H4 s4
              dsimp only
              rw [if_pos rfl]
              refine ⟨fm, D :: O, ρ1, en4.mono s4, ?_⟩
              cases q2 : f1 ρ1 with
              | no => rw [q2] at e3; cases e3
              | ex x => rw [q2] at e3; cases e3
              | ok es =>
                rw [q2] at e3
                dsimp only at e3
                obtain ⟨as, q3, e5⟩ := bnd_ok_of e3
                obtain ⟨bs, q4, e6⟩ := bnd_ok_of e5
                have e7 : as ++ bs = zs := by injection e6
                intro J1 H5 s5 wd1
                have hn1' := noOwn_wipe hn1 vs1
                have en5 := (en4.mono s4).mono s5
                have en3' := (en3.mono s4).mono s5
                refine ⟨fun j k H => j ≤ es.length ∧ k = es.length - j ∧ ∃ xs ys cs, H D = some (.lst xs) ∧ RepL K (hide (D :: O) H) xs ys ∧ EnvR K fm (D :: O) H (wipe σ2 vs1) (wipeE ρ1 vs1) ∧ EnvR K fm (D :: O) H (wipe σ vs) (wipeE ρ vs) ∧ Same H1 H ∧ Same (hide (D :: O) H5) (hide (D :: O) H) ∧ cLoop g1 tYesD el (wipeE ρ1 vs1) (es.drop j) = .ok cs ∧ ys ++ (cs ++ bs) = out,
                  ⟨es.length, Nat.zero_le _, rfl, xs, ys, as, s5 _ _ (s4 _ _ hx3), rx3.mono (Same.hide (s4.trans s5)), en5.wipe vs1, en3', s3.trans (s4.trans s5), Same.refl _, q3, by rw [e7]; exact e4⟩, ?_⟩
                rintro j k H6 ⟨hj, ek, xs6, ys6, cs, hx6, rx6, en6, en6', s6, sh6, e8, e9⟩
                by_cases hlt1 : j < es.length
                · refine .inr ⟨wd1.goes j H6 hlt1 (sh6.trans same_hide), fun H' => ∃ xs ys cs, H' D = some (.lst xs) ∧ RepL K (hide (D :: O) H') xs ys ∧ EnvR K fm (D :: O) H' (wipe σ2 vs1) (wipeE ρ1 vs1) ∧ EnvR K fm (D :: O) H' (wipe σ vs) (wipeE ρ vs) ∧ Same H1 H' ∧ Same (hide (D :: O) H5) (hide (D :: O) H') ∧ cLoop g1 tYesD el (wipeE ρ1 vs1) (es.drop (j + 1)) = .ok cs ∧ ys ++ (cs ++ bs) = out, ?_, ?_⟩
                  · intro H' nx
                    exact ⟨es.length - (j + 1), by omega, hlt1, rfl, nx⟩
                  · intro v1 H7 y1
                    obtain ⟨d1, B1, hd1, r1, sBB1, sHH1, hBB1⟩ := wd1.yields j H6 v1 H7 hlt1 (sh6.trans same_hide) y1
                    obtain ⟨en7, r7⟩ := yield_env en6 sh6 r1 sHH1 hBB1
                    have en7' := en6'.mono sHH1
                    rw [drop_at hd1] at e8
                    unfold cLoop at e8
                    refine ⟨fm, D :: O, wipeE ρ1 vs1, d1, en7, r7, ?_⟩
                    cases q5 : g1 d1 (wipeE ρ1 vs1) with
                    | no => rw [q5] at e8; cases e8
                    | ex x => rw [q5] at e8; cases e8
                    | ok ρ2 =>
                      rw [q5] at e8
                      dsimp only [tYesD] at e8
                      intro σ3 en8 hw1
                      refine ⟨hw1.trans (wipe_twice σ2 vs1), fm, D :: O, ρ2, en8, ?_⟩
                      intro H8 s8
                      dsimp only
                      rw [if_pos rfl]
                      refine ⟨fm, D :: O, ρ2, en8.mono s8, ?_⟩
                      cases q6 : el ρ2 with
                      | no => rw [q6] at e8; cases e8
                      | ex x => rw [q6] at e8; cases e8
                      | ok z =>
                        rw [q6] at e8
                        dsimp only at e8
                        obtain ⟨cs', q7, e10⟩ := bnd_ok_of e8
                        have e11 : z :: cs' = cs := by injection e10
                        intro w H9 s9 r9
                        have hx9 : H9 D = some (.lst xs6) := s9 _ _ (s8 _ _ (sHH1 _ _ hx6))
                        have hh : hide (D :: O) (upd H9 D (.lst (xs6 ++ [w]))) = hide (D :: O) H9 := upd_hide List.mem_cons_self
                        have sall : Same H6 H9 := sHH1.trans (s8.trans s9)
                        refine ⟨xs6, hx9, ?_, xs6 ++ [w], ys6 ++ [z], cs', upd_same, ?_, ?_, ?_, ?_, ?_, q7, ?_⟩
                        · have l1 := rx6.length
                          have l2 := congrArg List.length e9
                          rw [← e11] at l2
                          simp at l2
                          rw [sizeLine_eq]; omega
                        · rw [hh]
                          exact (rx6.mono (Same.hide sall)).append (.cons r9 .nil)
                        · exact (en6.mono sall).appD hn1' hH0
                        · exact (en6'.mono sall).appD hn' hH0
                        · intro b o q
                          rw [upd_ne (ne_of_none q hD)]
                          exact sall _ _ (s6 _ _ q)
                        · rw [hh]; exact sh6.trans (Same.hide sall)
                        · rw [← e11] at e9
                          simpa using e9
                · have e : j = es.length := by omega
                  subst e
                  rw [List.drop_length] at e8
                  have ez : cs = [] := by injection e8 with e8; exact e8.symm
                  subst ez
                  exact .inl ⟨wd1.stops H6 (sh6.trans same_hide), xs6, ys6, bs, hx6, rx6, en6', s6, q4, by simpa using e9⟩
        · have e : i = ds.length := by omega
          subst e
          rw [List.drop_length] at e3
          have ez : zs = [] := by injection e3 with e3; exact e3.symm
          subst ez
          rw [List.append_nil] at e4
          subst e4
          exact .inl ⟨wd.stops H2 ((sB s2).trans same_hide), h D H2 xs (s1.trans s2) hD0 hx rx⟩
theorem sf_lc2 {elt tg iter tg1 iter1 : Expr} {scope : Scope} {own : List (Str × Nat)} {vs1 : List Nat} {pos : Pos} {f f1 : Ax} {g g1 : Gx} {el : Ex} (hc : X.calm = true) (hN : X.N.Nodup) (hi : SI X W tg iter f) (ok : BlkOk X.N X.env.scope scope own) (hv : ∀ i ∈ vs1, i ∈ own.map (·.2))
    (hg : ∀ (s : Shared) (H : Hp) (C : Addr) (cl : List (Str × Addr)) (fp : List Addr), SG (X.blk s H scope (compEnvC scope cl C X.env) fp) (own.map (·.2)) tg g)
    (hi1 : ∀ (s : Shared) (H : Hp) (C : Addr) (cl : List (Str × Addr)) (fp : List Addr), SI (X.blk s H scope (compEnvC scope cl C X.env) fp) WF tg1 iter1 f1)
    (hg1 : ∀ (s : Shared) (H : Hp) (C : Addr) (cl : List (Str × Addr)) (fp : List Addr), SG (X.blk s H scope (compEnvC scope cl C X.env) fp) vs1 tg1 g1)
    (he : ∀ (s : Shared) (H : Hp) (C : Addr) (cl : List (Str × Addr)) (fp : List Addr), SE (X.blk s H scope (compEnvC scope cl C X.env) fp) WF elt el) (hs : ∀ x, foldedSetIterable iter X.env x = pure x := by intro _; rfl) (hs1 : ∀ env x, foldedSetIterable iter1 env x = pure x := by intro _ _; rfl) :
    SF X W (.ListComp elt [⟨tg, iter, [], 0⟩, ⟨tg1, iter1, [], 0⟩] scope pos) (aComp2 f (own.map (·.2)) g f1 vs1 g1 el) :=
  PE.weak (pe_lc2 (g := tG X.K (own.map fun p : Str × Nat => p.2) g) (g1 := tG X.K vs1 g1) (wi1 := tI X.mg X.K WF f1) (tt := tDT X.mg X.K WF tYesD) (tt1 := tDT X.mg X.K WF tYesD) (te := tD X.mg X.K WF el) hc hN hi ok hv hg (fun _ _ _ _ _ => spt_nil) hi1 hg1 (fun _ _ _ _ _ => spt_nil) he hs hs1) fun _ _ _ h => lc2_read h
/-- int(..) of an int, of True, False -/
def dInt1 : List D → R D
  | [.int i] => .ok (.int i)
  | [.bl b] => .ok (.int (if b then 1 else 0))
  | _ => .no
theorem dInt1_nx (ds : List D) : NoEx (dInt1 ds) := fun x h => by
  unfold dInt1 at h
  split at h <;> cases h
theorem cD_int1 : CallR X (.type "int") (rDs X.K dInt1) := by
  intro pins s σ H vs us Q I rv h
  obtain ⟨O, ds, th, r, h⟩ := h
  unfold dInt1 at h
  split at h
  · obtain ⟨v, rfl, r1⟩ := r.one
    cases r1
    exact call_int1 pins s σ H _ us Q I rv (.inl ⟨_, rfl, h.now (.int _)⟩)
  · obtain ⟨v, rfl, r1⟩ := r.one
    cases r1
    exact call_int1 pins s σ H _ us Q I rv (.inr ⟨_, rfl, h.now (.int _)⟩)
  · exact h.elim
theorem se_int1 {a : Expr} {f : Ax} {p pos : Pos} (hg : Gl X "int") (hm : X.mg "int" = none) (ha : SAs X W [a] f) (hv : bootBuiltins "int" = some (.type "int") := by decide +kernel)
    (he : starEach [a] X.env = (false, eval a X.env) :: starEach [] X.env := by rfl) :
    SE X W (.Call (.Name "int" p) [a] [] pos) (eCall dInt1 f) := se_ty cD_int1 dInt1_nx hg hm hv ha (by decide) (by decide) he rfl
/-- list(range(n)) -/
def dLstR : D → R D
  | .int n => if n ≤ 1000000 ∧ -1000000 ≤ n then .ok (.lst (rng 0 n.toNat)) else .no
  | _ => .no
def eLstR (a : Ex) : Ex := fun ρ => (a ρ).bnd dLstR
theorem rep_rg {K : PySem.W.Frag} {H : Hp} {n : Int} : RepL K H (rgV 0 n) (rng 0 n.toNat) := by
  unfold rgV rng
  rw [Int.sub_zero]
  generalize List.range n.toNat = l
  induction l with
  | nil => exact .nil
  | cons i l ih => exact .cons (.int _) ih
theorem se_lstR {a : Expr} {fa : Ex} {p p2 pos pos2 : Pos} (hc : X.calm = true) (hg : Gl X "list") (hm : X.mg "list" = none) (hg2 : Gl X "range") (hm2 : X.mg "range" = none) (ha : SE X W a fa) (na : starEach [a] X.env = (false, eval a X.env) :: starEach [] X.env := by rfl)
    (nb : starEach [.Call (.Name "range" p2) [a] [] pos2] X.env = (false, eval (.Call (.Name "range" p2) [a] [] pos2) X.env) :: starEach [] X.env := by rfl) :
    SE X W (.Call (.Name "list" p) [.Call (.Name "range" p2) [a] [] pos2] [] pos) (eLstR fa) := by
  refine PE.weak (pe_listRg hc hg hm (prg_1 hg2 hm2 ha na) nb) fun σ H Q ⟨fm, O, ρ, en, h⟩ => ?_
  refine ⟨fm, O, ρ, en, (Post.bnd h).imp fun v H1 s1 ⟨_, d, r, h1⟩ => ?_⟩
  unfold dLstR at h1
  split at h1
  · rename_i n
    cases r
    split at h1
    · rename_i hz
      refine ⟨_, rfl, ⟨by omega, by omega, by omega, by omega, by omega⟩, fun q hq => ?_⟩
      have h2 : PostV X.K O H1 Q (.ok (.lst (rng 0 n.toNat))) := h1
      exact h2.lst (en.mono s1).there rep_rg hq
    · exact h1.elim
  · exact h1.elim
end
end JK

/-! LayN -/
set_option Elab.async false
set_option linter.all false
set_option maxRecDepth 100000
set_option autoImplicit false
/-! a set filled by a walk, whatever its keys -/
namespace JK
open PySem PySem.Spec PyProof.Rows L2
section
variable {κ : Type} [DecidableEq κ]
/-- each once, as they come -/
def once1 (acc : List κ) (k : κ) : List κ := if k ∈ acc then acc else acc ++ [k]
def onces (ks : List κ) : List κ := ks.foldl once1 []
theorem once1_mem (acc : List κ) (k j : κ) : j ∈ once1 acc k ↔ j ∈ acc ∨ j = k := by
  unfold once1
  by_cases h : k ∈ acc
  · rw [if_pos h]
    exact ⟨.inl, fun q => q.elim id fun e => e ▸ h⟩
  · rw [if_neg h]; simp
theorem once1_len (acc : List κ) (k : κ) : (once1 acc k).length = if k ∈ acc then acc.length else acc.length + 1 := by
  unfold once1; split <;> simp
theorem onces_next {ks : List κ} {i : Nat} {k : κ} (h : ks[i]? = some k) : onces (ks.take (i + 1)) = once1 (onces (ks.take i)) k := by
  unfold onces
  rw [List.take_succ, h, List.foldl_append]; rfl
theorem onces_le (ks : List κ) : (onces ks).length ≤ ks.length := by
  have : ∀ (l acc : List κ), (l.foldl once1 acc).length ≤ acc.length + l.length := by
    intro l
    induction l with
    | nil => intro acc; simp
    | cons k l ih =>
      intro acc
      have := ih (once1 acc k)
      have e := once1_len acc k
      simp only [List.foldl_cons, List.length_cons]
      split at e <;> omega
  simpa [onces] using this ks []
/-- the set at z holds just those that have come -/
def Holds' {prog : Program} {w : World} (knd : PySem.KeyKind prog w κ) (z : Addr) (ks : List κ) (h : Heap) : Prop := h.SetOf knd z (fun k => decide (k ∈ onces ks)) (onces ks).length
end
section
variable {κ : Type} [DecidableEq κ] {prog : Program} {w : World} {A : Around} {R : Result → Shared → Prop} {I : Addr} {fp wr : List Addr} {G : Array GenState → Array GenState → Prop} {n : Nat} {P : Nat → Value → Prop} {St : Nat → Shared → Prop}
/-- one thing more -/
theorem put1 {knd : PySem.KeyKind prog w κ} {z : Addr} {ks : List κ} {i : Nat} {k : κ} {v : Value} {s : Shared} {E : Value → Shared → Prop} {Q : Bool → Shared → Prop} (hk : ks[i]? = some k) (hv : knd.is k v = true) (hs : v.scannable = true) (few : ks.length + 1 < scanBound)
    (now : Holds' knd z (ks.take i) s.heap) (then_ : ∀ b h', Heap.SameBut z s.heap h' → Holds' knd z (ks.take (i + 1)) h' → Q b { s with heap := h', toks := s.toks + 1 }) :
    wpAny (model prog w) A (setAdd z v) Q E s := by
  have room : (onces (ks.take i)).length + 1 < scanBound := by
    have a := onces_le (ks.take i)
    have b : (ks.take i).length ≤ ks.length := by simp; omega
    omega
  unfold setAdd
  refine wpAny_holding (wpAny_bind (knd.pyHash hv ?_))
  refine wpAny_setAddHashed_of hv hs now room fun h' sb more => then_ _ h' sb ?_
  have em : (fun j => decide (j ∈ once1 (onces (ks.take i)) k)) = fun j => decide (j ∈ onces (ks.take i)) || decide (j = k) := funext fun j => by
    rw [Bool.eq_iff_iff, decide_eq_true_iff, once1_mem, Bool.or_eq_true, decide_eq_true_iff, decide_eq_true_iff]
  have el : (once1 (onces (ks.take i)) k).length = if decide (k ∈ onces (ks.take i)) = true then (onces (ks.take i)).length else (onces (ks.take i)).length + 1 := by
    rw [once1_len]; simp only [decide_eq_true_eq]
  unfold Holds'
  rw [onces_next hk, em, el]
  exact more
theorem fillW (W : WalksS prog w A.in1 I fp wr G n P St) (knd : PySem.KeyKind prog w κ) {z : Addr} (zf : z ∉ fp) (ks : List κ) (len : ks.length = n) (few : n + 1 < scanBound)
    (val : ∀ i v, i < n → P i v → ∃ k, ks[i]? = some k ∧ knd.is k v = true ∧ v.scannable = true) {s : Shared} (st : St 0 s) (now : Holds' knd z [] s.heap)
    (fin : ∀ s', Moved (z :: wr) G s s' → Holds' knd z ks s'.heap → R (.ok (.ret .none)) s') :
    codeAny (model prog w) A (.builtin "set.update.loop" ⟨[.ref z, .ref I], []⟩) R s := by
  have zw : z ∉ wr := fun q => zf (W.sub _ q)
  have on : ∀ {a b : Shared}, Moved wr G a b → Moved (z :: wr) G a b := fun q => ⟨fun c o hc e => q.heap c o (fun y => hc (List.mem_cons_of_mem _ y)) e, q.gens, q.drawn, q.os, q.toks⟩
  have two : ∀ {a b c : Shared}, Moved (z :: wr) G a b → Moved (z :: wr) G b c → Moved (z :: wr) G a c := fun p q => ⟨fun d o hd e => q.heap d o hd (p.heap d o hd e), W.gtrans _ _ _ p.gens q.gens, q.drawn.trans p.drawn, q.os.trans p.os, Nat.le_trans p.toks q.toks⟩
  have keeps : ∀ {a b : Shared} {l : List κ}, Moved wr G a b → Holds' knd z l a.heap → Holds' knd z l b.heap := fun q ⟨o, es, ep, tb, e, more⟩ => ⟨o, es, ep, tb, q.heap z o zw e, more⟩
  have all : ∀ (left i : Nat) (t : Shared), i + left = n → St i t → Holds' knd z (ks.take i) t.heap → Moved (z :: wr) G s t → codeAny (model prog w) A (.builtin "set.update.loop" ⟨[.ref z, .ref I], []⟩) R t := by
    intro left
    induction left with
    | zero =>
      intro i t im sti hol mv
      obtain rfl : i = n := by omega
      refine codeAny_builtin F.entry_set_update_loop ?_
      rw [Around.under_plainId F.plain_set_update_loop]
      refine wpAny_bind (W.done t _ _ sti fun t' q => wpAny_pure (fin t' (two mv (on q)) ?_))
      have got := keeps q hol
      rwa [List.take_of_length_le (by omega)] at got
    | succ left ih =>
      intro i t im sti hol mv
      refine codeAny_builtin F.entry_set_update_loop ?_
      rw [Around.under_plainId F.plain_set_update_loop]
      refine wpAny_bind (W.item i t _ _ (by omega) sti fun v t' pv st' q => ?_)
      obtain ⟨k, hk, is_, sc⟩ := val i v (by omega) pv
      refine wpAny_bind (wpAny_holding (put1 hk is_ sc (by omega) (keeps q hol) fun b h' sb more => wpAny_pure ⟨plainId_quiet F.plain_set_update_loop _, ?_⟩))
      refine ih (i + 1) _ (by omega) (W.frame _ t' _ _ st' (Nat.le_succ _) fun c hc o e => ?_) more (two (two mv (on q)) ⟨fun c o hc e => ?_, W.grefl _, rfl, rfl, Nat.le_succ _⟩)
      · exact (sb.2 c fun y => zf (y ▸ hc)).trans e
      · exact (sb.2 c fun y => hc (by rw [y]; exact List.mem_cons_self)).trans e
  exact all n 0 s (by omega) st now ⟨fun _ _ _ e => e, W.grefl _, rfl, rfl, Nat.le_refl _⟩
end
end JK

/-! LayO -/
set_option Elab.async false
set_option linter.all false
set_option maxRecDepth 100000
set_option autoImplicit false
set_option maxHeartbeats 1000000
/-! set(a list of texts) -/
namespace JK
open PySem PySem.Spec PyProof.Rows L2
section
variable {prog : Program} {w : World} {A : Around} {E : Value → Shared → Prop} {s : Shared}
/-- a list is no set -/
theorem noSet {l : Addr} {lo : Obj} {Q : Bool → Shared → Prop} (at_ : s.heap.get? l = some lo) (cl : lo.cls = .type "list") (q : Q false s) : wpAny (model prog w) A (Builtin.Frozenset.isAnySet (.ref l)) Q E s := by
  have n1 := F.sub_list_set
  have n2 := F.sub_list_frozenset
  unfold Builtin.Frozenset.isAnySet
  wp_walk
  rw [cl]
  wp_walk
  rw [cl]
  wp_walk
  exact q
/-- all of a list, into a new set -/
theorem intoSet {l z : Addr} {its : Array Value} {ys : List Str} {Q : Unit → Shared → Prop} (calm : A.handled = none) (il : s.heap.IsList l its) (lz : l ≠ z) (zs : z < s.heap.objs.size) (ls : l < s.heap.objs.size) (tx : PyProof.Rows.StrsAre its.toList ys) (few : ys.length + 1 < scanBound) (now : Holds' (PySem.strKind prog w) z [] s.heap)
    (fin : ∀ (h2 : Heap) (tk : Nat), Holds' (PySem.strKind prog w) z ys h2 → (∀ b o, b ≠ z → s.heap.get? b = some o → h2.get? b = some o) → Q () { s with heap := h2, toks := tk }) :
    wpAny (model prog w) A (Builtin.Frozenset.updateFrom "set.__init__" z (.ref l)) Q E s := by
  obtain ⟨lo, at_, cl, m, da⟩ := id il
  have isL : s.TypeIs (.ref l) "list" := ⟨lo, at_, cl⟩
  unfold Builtin.Frozenset.updateFrom
  refine wpAny_bind (noSet at_ cl ?_)
  simp only [Bool.false_eq_true, if_false]
  refine wpAny_bind (wpAny_typeOf isL ?_)
  rw [if_neg (by decide)]
  refine wpAny_bind (wpAny_pyIter_list il (wpAny_bind (wpAny_runValue ?_)))
  have nI : l ≠ s.heap.objs.size := Nat.ne_of_lt ls
  have W := (Walks.list (prog := prog) (w := w) (A := A.in1) (by simp [calm]) s.heap.objs.size l nI its).toS
  have ne : z ∉ [s.heap.objs.size, l] := by
    simp only [List.mem_cons, List.not_mem_nil, or_false, not_or]
    exact ⟨Nat.ne_of_lt zs, fun e => lz e.symm⟩
  have many : ys.length = its.size := by rw [← StrsAre.len_eq tx, Array.length_toList]
  have keep : ∀ b o, s.heap.get? b = some o → (s.heap.push { cls := Value.type "list_iterator", data := .fields #[.ref l, .int 0 0] }).get? b = some o := fun b o e => Heap.get?_push_of_some _ e
  refine fillW W (PySem.strKind prog w) ne ys many (by rw [← many]; exact few) (fun i v hi hv => ?_) ⟨⟨_, Heap.get?_push_size _ rfl, rfl, rfl⟩, il.push _⟩ ?_ fun t mv got => ?_
  · obtain ⟨u, rfl⟩ := SS.strs_at tx i v (by rw [Array.getElem?_toList]; exact hv)
    have lt : i < ys.length := by omega
    refine ⟨ys[i], List.getElem?_eq_getElem lt, ?_, rfl⟩
    rw [List.getD_eq_getElem?_getD, List.getElem?_eq_getElem lt]
    exact strKind_is _ _ _ _
  · obtain ⟨o, es, ep, tb, e, more⟩ := now
    exact ⟨o, es, ep, tb, keep _ _ e, more⟩
  · refine wpAny_pure ?_
    have same : t = { s with heap := t.heap, toks := t.toks } := by
      have g := mv.gens; have d := mv.drawn; have o := mv.os
      cases t; simp only at g d o; rw [g, d, o]
    rw [same]
    refine fin _ _ got fun b o bz e => mv.heap b o ?_ (keep b o e)
    simp only [List.mem_cons, List.not_mem_nil, or_false, not_or]
    exact ⟨bz, Nat.ne_of_lt (Heap.lt_size e)⟩
/-- the body of set.__init__, of a set just made and a list -/
theorem initBody {l z : Addr} {its : Array Value} {ys : List Str} {led : Bool} {Q : PySem.Fin → Shared → Prop} (calm : A.handled = none) (il : s.heap.IsList l its) (lz : l ≠ z) (ls : l < s.heap.objs.size) (new : s.heap.get? z = some { cls := .type "set", dict := none, data := .set #[] 0 (.fresh 0 0 led) }) (tx : PyProof.Rows.StrsAre its.toList ys) (few : ys.length + 1 < scanBound)
    (fin : ∀ (h2 : Heap) (tk : Nat), Holds' (PySem.strKind prog w) z ys h2 → (∀ b o, b ≠ z → s.heap.get? b = some o → h2.get? b = some o) → Q (.done (.ret .none)) { s with heap := h2, toks := tk }) :
    wpAny (model prog w) A (Builtin.«set.__init__» ⟨[.ref z, .ref l], []⟩) Q E s := by
  have empty : Holds' (PySem.strKind prog w) z [] s.heap := (setObjOf_fresh (knd := PySem.strKind prog w) led).setOf new (by unfold scanBound; omega)
  unfold Builtin.«set.__init__» noKeywords
  generalize up : Builtin.Frozenset.updateFrom = UP
  wp_walk
  subst up
  exact intoSet calm il lz (Heap.lt_size new) ls tx few empty fun h2 tk got keep => wpAny_pure (fin h2 tk got keep)
/-- the check ahead of set.__init__ wants a set for self, no more: so it is a code that can be run -/
theorem initCode {l z : Addr} {R : Result → Shared → Prop} (isS : s.TypeIs (.ref z) "set") (body : wpAny (model prog w) A.in1 (Builtin.«set.__init__» ⟨[.ref z, .ref l], []⟩) (fun f t => match f with | .done d => R (.ok d) t | .again c => c.quiet = true ∧ codeAny (model prog w) A c R t) (fun e t => R (.error e) t) s) :
    codeAny (model prog w) A (.call (.builtin "set.__init__") ⟨[.ref z, .ref l], []⟩) R s := by
  refine codeAny_call_builtin F.called_set.init.plain F.entry_set_init ?_
  exact check_set_init_1 isS body
theorem setOfTexts {l : Addr} {its : Array Value} {ys : List Str} {Q : Value → Shared → Prop} (calm : A.handled = none) (il : s.heap.IsList l its) (tx : PyProof.Rows.StrsAre its.toList ys) (few : ys.length + 1 < scanBound)
    (fin : ∀ (h2 : Heap) (tk : Nat), Holds' (PySem.strKind prog w) s.heap.objs.size ys h2 → (∀ b o, s.heap.get? b = some o → h2.get? b = some o) → Q (.ref s.heap.objs.size) { s with heap := h2, toks := tk }) :
    wpAny (model prog w) A (call (.type "set") [.ref l]) Q E s := by
  obtain ⟨c0, tl, mro⟩ := F.called_set.mro
  have made := F.called_set.made
  have below := F.called_set.sub
  have noT := F.called_set.notType
  have can := F.called_set.canCreate
  have chk := F.typeCall_set_1 (.ref l)
  refine wpAny_call (codeAny_of_tree ?_)
  wp_walk
  refine ⟨Code.quiet_builtin _ (by decide +kernel), codeAny_builtin F.entry_type_call ?_⟩
  rw [Around.under_plain (weight_type_call_type "set" [.ref l] []) rfl]
  unfold Builtin.«type.__call__»
  simp only [noT, Bool.false_eq_true, if_false, can, chk, mro, made, pure_bind, List.isEmpty_cons]
  refine wpAny_bind (wpAny_holding (wpAny_call (codeAny_mono (code_set_new_1 (.ref l) (E := E) (Q₁ := fun ob t => ∃ led : Bool, ob = .ref s.heap.objs.size ∧ t = { s with heap := s.heap.push { cls := .type "set", dict := none, data := .set #[] 0 (.fresh 0 0 led) } }) fun led => ⟨led, rfl, rfl⟩) fun r t hr => ?_)))
  cases r with
  | error e => exact hr
  | ok fl =>
    cases fl with
    | ret ob =>
      obtain ⟨led, rfl, rfl⟩ := hr
      have new : (s.heap.push { cls := .type "set", dict := none, data := .set #[] 0 (.fresh 0 0 led) }).get? s.heap.objs.size = some { cls := .type "set", dict := none, data := .set #[] 0 (.fresh 0 0 led) } := Heap.get?_push_size _ rfl
      have isS : Shared.TypeIs { s with heap := s.heap.push { cls := .type "set", dict := none, data := .set #[] 0 (.fresh 0 0 led) } } (.ref s.heap.objs.size) "set" := ⟨_, new, rfl⟩
      refine wpAny_bind (wpAny_isInstance isS below ?_)
      simp only [Bool.not_true, Bool.false_eq_true, if_false]
      refine wpAny_bind (wpAny_holding (wpAny_callSpecial?_slot isS F.called_set.init (wpAny_call (initCode isS ?_))))
      obtain ⟨lo, at_, _⟩ := id il
      have ls := Heap.lt_size at_
      refine initBody (led := led) (by simp [calm]) (il.push _) (Nat.ne_of_lt ls) (Nat.lt_trans ls (by rw [Heap.size_push]; exact Nat.lt_succ_self _)) new tx few fun h2 tk got keep => ?_
      exact wpAny_pure (fin h2 tk got fun b o e => keep b o (Nat.ne_of_lt (Heap.lt_size e)) (Heap.get?_push_of_some _ e))
    | _ => exact hr.elim
end
end JK

/-! LayS -/
set_option Elab.async false
set_option linter.all false
set_option maxRecDepth 100000
set_option autoImplicit false
/-! len(set(texts)) -/
namespace JK
open PySem PySem.Spec PyProof.Rows L2
/-- each text once, as they come -/
def uniS (acc : List Str) (y : Str) : List Str := if acc.contains y = true then acc else acc ++ [y]
def uni (ys : List Str) : List Str := ys.foldl uniS []
theorem uniS_has (acc : List Str) (y k : Str) : (uniS acc y).contains k = (acc.contains k || decide (k = y)) := by
  unfold uniS
  by_cases h : acc.contains y = true
  · rw [if_pos h]
    by_cases e : k = y
    · subst e; rw [h]; rfl
    · simp [e]
  · rw [if_neg h]
    by_cases e : k = y
    · subst e; simp
    · simp [e]
theorem uniS_len (acc : List Str) (y : Str) : (uniS acc y).length = if acc.contains y = true then acc.length else acc.length + 1 := by
  unfold uniS
  split <;> simp
theorem uni_take {ys : List Str} {i : Nat} (h : i < ys.length) : uni (ys.take (i + 1)) = uniS (uni (ys.take i)) (ys.getD i Str.empty) := by
  unfold uni
  rw [List.take_succ, List.foldl_append, List.getD_eq_getElem?_getD, List.getElem?_eq_getElem h]
  rfl
theorem uni_le (ys : List Str) : (uni ys).length ≤ ys.length := by
  suffices ∀ acc : List Str, (ys.foldl uniS acc).length ≤ acc.length + ys.length by simpa [uni] using this []
  induction ys with
  | nil => intro acc; simp
  | cons y ys ih =>
    intro acc
    have h := ih (uniS acc y)
    have h2 := uniS_len acc y
    simp only [List.foldl_cons, List.length_cons]
    split at h2 <;> omega
theorem uni_onces (ys : List Str) : uni ys = onces ys := by
  unfold uni onces
  congr 1
  funext acc y
  unfold uniS once1
  by_cases h : y ∈ acc
  · rw [if_pos h, if_pos (by simpa using h)]
  · rw [if_neg h, if_neg (by simpa using h)]
/-- len(set(a)), a list of texts -/
def dLenSet : D → R D
  | .lst xs => match strsOf xs with
    | some ys => if ys.length ≤ 1000 then .ok (.int (uni ys).length) else .no
    | none => match intsOf xs with
      | some ns => if ns.length ≤ 1000 then .ok (.int (PyProof.Rows.firstMet (fun i => ns.getD i 0) ns.length).length) else .no
      | none => .no
  | _ => .no
def eLenSet (a : Ex) : Ex := fun ρ => (a ρ).bnd dLenSet
section
variable {X : Cx} {W : WX}
/-- a set of n things at a -/
def SetX (a : Addr) (n : Nat) : HO := .ext fun h => ∃ o es ep t, h.get? a = some o ∧ o.ExactSet ∧ o.data = .set es ep t ∧ es.size < scanBound ∧ SetTable.fits t es.size = true ∧ es.size = n
theorem setX_new {w : World} {P : Program} {H : Hp} {h : Heap} {a : Addr} {κ : Type} [DecidableEq κ] {knd : PySem.KeyKind P w κ} {S : κ → Bool} {n : Nat} (R : h.SetOf knd a S n) : ObjOk P w H h a (SetX a n) := by
  obtain ⟨o, es, ep, t, ho, h1, h2, _, _, h3, h4, h5⟩ := R
  refine ⟨⟨o, es, ep, t, ho, h1, h2, h3, h4, h5⟩, ⟨o, ho⟩, fun h1 h2 p k => ?_⟩
  obtain ⟨o, es, ep, t, ho, r⟩ := p
  exact ⟨o, es, ep, t, k o ho, r⟩
def rSetX (K : PySem.W.Frag) : List V → Hp → VK → Prop := fun xs H Q => ∃ l n, xs = [.ref l] ∧ ((∃ ys : List Str, SqL K H l (ys.map V.str) ∧ ys.length ≤ 1000 ∧ n = (uni ys).length) ∨ (∃ ns : List Int, SqL K H l (ns.map V.int) ∧ ns.length ≤ 1000 ∧ n = (PyProof.Rows.firstMet (fun i => ns.getD i 0) ns.length).length)) ∧ ∀ p, H p = none → Q (.ref p) (upd H p (SetX p n))
theorem cr_setX (hc : X.calm = true) : CallR X (.type "set") (rSetX X.K) := by
  intro pins s σ H xs us Q I r h
  obtain ⟨l, n, rfl, h, q⟩ := h
  obtain ⟨u, eu, rx⟩ := vals1 r
  subst eu
  obtain rfl : u = Value.ref l := rx
  rcases h with ⟨ys, hs, hz, rfl⟩ | ⟨ns, hs, hz, rfl⟩
  · obtain ⟨its, rv, p, _⟩ := I.list hs
    refine setOfTexts (ys := ys) (I.ok.hd hc) p.isList (by rw [List.toList_toArray]; exact strs_of_vals rv) (by unfold scanBound; omega) fun h2 tk S hk => ?_
    rw [uni_onces] at q
    exact ⟨.ref s.heap.objs.size, upd H s.heap.objs.size (SetX s.heap.objs.size (onces ys).length), I.laid (t' := tk) hk (Nat.le_refl _) (setX_new S), rfl, q _ (I.hok.fresh (Nat.le_refl _))⟩
  · obtain ⟨its, rv, p, _⟩ := I.list hs
    have sz : its.toArray.size = ns.length := by rw [List.size_toArray, ← rv.length, List.length_map]
    refine call_set_list (ns := ns) (I.ok.hd hc) p.isList (by rw [List.toList_toArray]; exact rv.ints) (by rw [sz]; unfold scanBound; omega) fun h2 tk S hk => ?_
    rw [sz] at S
    exact ⟨.ref s.heap.objs.size, upd H s.heap.objs.size (SetX s.heap.objs.size _), I.laid (t' := tk) (fun b o e => hk b o (Heap.lt_size e) e) (Nat.le_refl _) (setX_new S), rfl, q _ (I.hok.fresh (Nat.le_refl _))⟩
def rLenX : List V → Hp → VK → Prop := fun xs H Q => ∃ p n, xs = [.ref p] ∧ H p = some (SetX p n) ∧ Q (.int (n : Nat)) H
theorem cr_lenX : CallR X (.builtin "len") rLenX := by
  intro pins s σ H xs us Q I r h
  obtain ⟨p, n, rfl, hp, q⟩ := h
  obtain ⟨u, eu, rx⟩ := vals1 r
  subst eu
  obtain rfl : u = Value.ref p := rx
  obtain ⟨o, es, ep, t, ho, hex, hd, hb, hf, hn⟩ := (I.hok p _ hp).1
  refine call_len_set ho hex hd hf (by unfold scanBound at hb; omega) ?_
  exact ⟨.int n, H, I.tok _, ⟨_, by rw [hn]⟩, q⟩
theorem se_lenSet {a : Expr} {fa : Ex} {p p2 pos pos2 : Pos} (hc : X.calm = true) (hg : Gl X "len") (hm : X.mg "len" = none) (hg2 : Gl X "set") (hm2 : X.mg "set" = none) (ha : SE X W a fa) (na : starEach [a] X.env = (false, eval a X.env) :: starEach [] X.env := by rfl)
    (nb : starEach [.Call (.Name "set" p2) [a] [] pos2] X.env = (false, eval (.Call (.Name "set" p2) [a] [] pos2) X.env) :: starEach [] X.env := by rfl) (hv : bootBuiltins "set" = some (.type "set") := by decide +kernel) :
    SE X W (.Call (.Name "len" p) [.Call (.Name "set" p2) [a] [] pos2] [] pos) (eLenSet fa) := by
  refine PE.weak (pe_callB cr_lenX hg hm PySem.boot_len (pa_cons (pe_callTy (cr_setX hc) hg2 hm2 hv (pa_cons ha pa_nil na) (by decide) (by decide) na rfl) pa_nil nb) (by decide) (by decide) nb rfl) fun σ H Q ⟨fm, O, ρ, en, h⟩ => ?_
  refine ⟨fm, O, ρ, en, (Post.bnd h).imp fun v H1 s1 ⟨_, d, r, h1⟩ => ?_⟩
  unfold dLenSet at h1
  split at h1
  · rename_i xs
    cases r with
    | lst e l =>
      split at h1
      · rename_i ys hy
        split at h1
        · rename_i hz
          refine ⟨_, _, rfl, .inl ⟨ys, ?_, hz, rfl⟩, fun q hq => ?_⟩
          · rw [← strsOf_rep l hy]; exact SqL.of (same_hide _ _ e)
          · exact ⟨_, _, rfl, upd_same, h1 _ _ (same_new hq) (.int _)⟩
        · exact h1.elim
      · split at h1
        · rename_i ns hy
          split at h1
          · rename_i hz
            refine ⟨_, _, rfl, .inr ⟨ns, ?_, hz, rfl⟩, fun q hq => ?_⟩
            · rw [← intsOf_rep l hy]; exact SqL.of (same_hide _ _ e)
            · exact ⟨_, _, rfl, upd_same, h1 _ _ (same_new hq) (.int _)⟩
          · exact h1.elim
        · exact h1.elim
  · exact h1.elim
end
/-! {"a": x, "b": y, "c": z}[i] -/
def dict3 (k1 k2 k3 : Str) (x y z : D) : D → R D
  | .str k => if k1 = k then .ok x else if k2 = k then .ok y else if k3 = k then .ok z else .no
  | _ => .no
def okOr {α : Type} : R α → R α
  | .ok a => .ok a
  | _ => .no
def eDict3 (k1 k2 k3 : Str) (a b c i : Ex) : Ex := fun ρ => if noOwn ρ = true then (okOr (a ρ)).bnd fun x => (okOr (b ρ)).bnd fun y => (okOr (c ρ)).bnd fun z => (okOr (i ρ)).bnd fun j => dict3 k1 k2 k3 x y z j else .no
theorem okOr_bnd {α β : Type} {r : R α} {k : α → R β} {mg : Str → Option Value} : ∀ {P : R β → Prop}, P ((okOr r).bnd k) → (¬ P .no) → ∃ x, r = .ok x ∧ P (k x) := by
  intro P h n
  cases r with
  | no => exact (n h).elim
  | ex x => exact (n h).elim
  | ok x => exact ⟨x, rfl, h⟩
section
variable {X : Cx} {W : WX}
theorem se_dict3 {k1 k2 k3 : Str} {a b c i : Expr} {fa fb fc fi : Ex} {j1 j2 j3 : Nat} {p1 p2 p3 dp pos : Pos} (hu : X.A.units + 64 < cLine) (hd : k1 ≠ k2 ∧ k1 ≠ k3 ∧ k2 ≠ k3) (ha : SE X W a fa) (hb : SE X W b fb) (hc : SE X W c fc) (hi : SE X W i fi) (hs : NoSl i := by intro _ _; rfl) :
    SE X W (.Subscript (.Dict [some (.Constant (.str k1) j1 p1), some (.Constant (.str k2) j2 p2), some (.Constant (.str k3) j3 p3)] [a, b, c] dp) i pos) (eDict3 k1 k2 k3 fa fb fc fi) := by
  refine PE.weak (pe_dget (by omega) (pe_disp (pps_cons pe_str ha (pps_cons pe_str hb (pps_cons pe_str hc pps_nil))) rfl rfl (by simp) (by simp)) hi hs) fun σ H Q ⟨fm, O, ρ, en, h⟩ => ?_
  unfold eDict3 at h
  by_cases hn : noOwn ρ = true
  case neg => rw [if_neg hn] at h; exact h.elim
  rw [if_pos hn] at h
  obtain ⟨x, e1, h⟩ := okOr_bnd (mg := X.mg) (P := Post X.mg X.K O σ H W Q) h id
  obtain ⟨y, e2, h⟩ := okOr_bnd (mg := X.mg) (P := Post X.mg X.K O σ H W Q) h id
  obtain ⟨z, e3, h⟩ := okOr_bnd (mg := X.mg) (P := Post X.mg X.K O σ H W Q) h id
  obtain ⟨j, e4, h⟩ := okOr_bnd (mg := X.mg) (P := Post X.mg X.K O σ H W Q) h id
  intro p hp
  have en1 : EnvR X.K fm (p :: O) (upd H p (.dK [])) σ ρ := en.new (same_new hp) hp (by rw [upd_same]; exact fun z => by cases z)
  have h0 : fm.H0 p = none := en.same.free hp
  refine ⟨fm, p :: O, ρ, en1, ?_⟩
  rw [e1]
  intro v1 H1 s1 r1
  have en2 := en1.mono s1
  refine ⟨fm, p :: O, ρ, en2, ?_⟩
  rw [e2]
  intro v2 H2 s2 r2
  have en3 := en2.mono s2
  refine ⟨fm, p :: O, ρ, en3, ?_⟩
  rw [e3]
  intro v3 H3 s3 r3
  have en4 := en3.mono s3
  have s13 := s1.trans (s2.trans s3)
  refine ⟨s13 _ _ upd_same, [(.inr k1, v1), (.inr k2, v2), (.inr k3, v3)], rfl, by simp, ?_⟩
  have em : mergeK [] [((.inr k1 : Key), v1), (.inr k2, v2), (.inr k3, v3)] = [(.inr k1, v1), (.inr k2, v2), (.inr k3, v3)] := by
    obtain ⟨d1, d2, d3⟩ := hd
    simp [mergeK, putK, d1, d2, d3]
  rw [em]
  have en5 : EnvR X.K fm (p :: O) (upd H3 p (.dK [(.inr k1, v1), (.inr k2, v2), (.inr k3, v3)])) σ ρ := en4.appD hn h0
  refine ⟨fm, p :: O, ρ, en5, ?_⟩
  rw [e4]
  intro vj H4 s4 rj
  unfold dict3 at h
  split at h
  case h_2 => exact h.elim
  rename_i k
  cases rj
  have hp4 : H4 p = some (.dK [(.inr k1, v1), (.inr k2, v2), (.inr k3, v3)]) := s4 _ _ upd_same
  have hh : hide (p :: O) (upd H3 p (.dK [(.inr k1, v1), (.inr k2, v2), (.inr k3, v3)])) = hide (p :: O) H3 := upd_hide List.mem_cons_self
  have sh : Same (hide (p :: O) H3) (hide O H4) := by
    rw [← hh]
    exact fun a o q => hide_cons _ _ (Same.hide s4 _ _ q)
  have sH : Same H H4 := fun q o e => by
    refine s4 _ _ ?_
    rw [upd_ne (ne_of_none e hp)]
    exact s13 _ _ (same_new hp _ _ e)
  have fin : ∀ {v : V} {d : JK.D}, Rep X.K (hide (p :: O) H3) v d → Post X.mg X.K O σ H W Q (.ok d) → Q v H4 := fun r q => q _ H4 sH (r.mono sh)
  have get : ∀ v, valV [((.inr k1 : Key), v1), (.inr k2, v2), (.inr k3, v3)] (.inr k) = some v → DGet H4 p (.str k) (some v) := fun v e => by
    have := DGet.k (k := .inr k) hp4
    rw [e] at this
    exact this
  have r1' : Rep X.K (hide (p :: O) H3) v1 x := r1.mono (Same.hide (s2.trans s3))
  have r2' : Rep X.K (hide (p :: O) H3) v2 y := r2.mono (Same.hide s3)
  by_cases c1 : k1 = k
  · subst c1
    rw [if_pos rfl] at h
    exact ⟨p, v1, rfl, get v1 (valV_pos rfl), fin r1' h⟩
  · rw [if_neg c1] at h
    by_cases c2 : k2 = k
    · subst c2
      rw [if_pos rfl] at h
      exact ⟨p, v2, rfl, get v2 (by rw [valV_neg (by simpa using c1), valV_pos rfl]), fin r2' h⟩
    · rw [if_neg c2] at h
      by_cases c3 : k3 = k
      · subst c3
        rw [if_pos rfl] at h
        exact ⟨p, v3, rfl, get v3 (by rw [valV_neg (by simpa using c1), valV_neg (by simpa using c2), valV_pos rfl]), fin r3 h⟩
      · rw [if_neg c3] at h; exact h.elim
end
end JK

/-! DenAll -/
set_option Elab.async false
set_option linter.all false
set_option maxRecDepth 100000
set_option autoImplicit false
namespace JK
open PySem PySem.Spec PyProof.Rows L2
def v_KEYS : D := .str "abcd"
abbrev c_KEYS : Ex := eC v_KEYS
def v_MOST : D := .int 3
abbrev c_MOST : Ex := eC v_MOST
def v_MOST_ROWS : D := .int 60
abbrev c_MOST_ROWS : Ex := eC v_MOST_ROWS
def v_WORDS : D := .tup [(.str "many"), (.str "sum"), (.str "most"), (.str "least"), (.str "last"), (.str "second"), (.str "kinds"), (.str "run")]
abbrev c_WORDS : Ex := eC v_WORDS
def v_MOST_SPAN : D := .int 6
abbrev c_MOST_SPAN : Ex := eC v_MOST_SPAN
def v_MOST_QUESTIONS : D := .int 4
abbrev c_MOST_QUESTIONS : Ex := eC v_MOST_QUESTIONS
def d_is_within : List D → R D := runD 3 3 (sRet (eAnd (eIsi .int (eName 0)) (eAnd (eNot (eIsi .bool (eName 0))) (eChain dLe dLe (eName 1) (eName 0) (eName 2)))))
def d_is_row : List D → R D := runD 1 1 (sSeq (sIf (tOrD (tNotD (tTru (eIsi .tuple (eName 0)))) (tOrD (tOf (eBin dNe (eCall dLen (aCons (eName 0) aNil)) (eC (.int 2)))) (tNotD (tTru (eIsi .str (eBin dIx (eName 0) (eC (.int 0)))))))) (sRet (eC (.bl false))) sNil)
    (sRet (eAnd (eBin dEq (eCall dLen (aCons (eBin dIx (eName 0) (eC (.int 0))) aNil)) (eC (.int 1))) (eAnd (eBin dIn (eBin dIx (eName 0) (eC (.int 0))) c_KEYS) (eCall d_is_within (aCons (eBin dIx (eName 0) (eC (.int 1))) (aCons (eNeg c_MOST) (aCons c_MOST aNil))))))))
def d_is_stream : List D → R D := runD 2 1 (sRet (eAnd (eIsi .list (eName 0)) (eAnd (eBin dLe (eCall dLen (aCons (eName 0) aNil)) c_MOST_ROWS) (eNot (eLst (aComp (aItems (eName 0)) [1] (gN 1) (tNotD (tTru (eCall d_is_row (aCons (eName 1) aNil)))) (eName 1)))))))
def d_look_stream : List D → R D := runD 1 1 (sIf (tNotD (tTru (eCall d_is_stream (aCons (eName 0) aNil)))) (sRaise "BadStream") sNil)
def d_all_rows : List D → R D := runD 2 0 (sRet (eLst (aComp2 (aItems c_KEYS) [0, 1] (gN 0) (aRng dRng2 (aCons (eNeg c_MOST) (aCons (eBin dAdd c_MOST (eC (.int 1))) aNil))) [1] (gN 1) (eTup (aCons (eName 0) (aCons (eName 1) aNil))))))
theorem nx_all_rows : NoEx (d_all_rows []) := by intro x h; revert h; exact nofun
def d_are_keys : List D → R D := runD 2 1 (sSeq (sIf (tOrD (tNotD (tTru (eIsi .str (eName 0)))) (tNotD (tTru (eName 0)))) (sRet (eC (.bl false))) sNil)
    (sRet (eBin dEq (eName 0) (eM1 dJoin (eC (.str "")) (eLst (aComp (aItems c_KEYS) [1] (gN 1) (tOf (eBin dIn (eName 1) (eName 0))) (eName 1)))))))
def d_is_question : List D → R D := runD 1 1 (sSeq (sIf (tOrD (tNotD (tTru (eIsi .tuple (eName 0)))) (tOrD (tOf (eBin dNe (eCall dLen (aCons (eName 0) aNil)) (eC (.int 5)))) (tOrD (tNotD (tTru (eIsi .str (eBin dIx (eName 0) (eC (.int 0)))))) (tOf (eBin dNotIn (eBin dIx (eName 0) (eC (.int 0))) c_WORDS))))) (sRet (eC (.bl false))) sNil)
    (sSeq (sIf (tOrD (tNotD (tTru (eCall d_are_keys (aCons (eBin dIx (eName 0) (eC (.int 1))) aNil)))) (tOrD (tNotD (tTru (eCall d_is_within (aCons (eBin dIx (eName 0) (eC (.int 2))) (aCons (eNeg c_MOST) (aCons c_MOST aNil)))))) (tNotD (tTru (eCall d_is_within (aCons (eBin dIx (eName 0) (eC (.int 3))) (aCons (eBin dIx (eName 0) (eC (.int 2))) (aCons c_MOST aNil)))))))) (sRet (eC (.bl false))) sNil)
    (sRet (eCall d_is_within (aCons (eBin dIx (eName 0) (eC (.int 4))) (aCons (eC (.int 0)) (aCons c_MOST_SPAN aNil)))))))
def d_is_plan : List D → R D := runD 2 1 (sSeq (sIf (tOrD (tNotD (tTru (eIsi .tuple (eName 0)))) (tNotD (tOf (eChain dLe dLe (eC (.int 1)) (eCall dLen (aCons (eName 0) aNil)) c_MOST_QUESTIONS)))) (sRet (eC (.bl false))) sNil)
    (sRet (eNot (eLst (aComp (aItems (eName 0)) [1] (gN 1) (tNotD (tTru (eCall d_is_question (aCons (eName 1) aNil)))) (eName 1))))))
def d_look_question : List D → R D := runD 1 1 (sIf (tNotD (tTru (eCall d_is_question (aCons (eName 0) aNil)))) (sRaise "BadQuestion") sNil)
def d_look_plan : List D → R D := runD 1 1 (sIf (tNotD (tTru (eCall d_is_plan (aCons (eName 0) aNil)))) (sRaise "BadPlan") sNil)
def d_sees : List D → R D := runD 2 2 (sRet (eAnd (eBin dIn (eBin dIx (eName 1) (eC (.int 0))) (eBin dIx (eName 0) (eC (.int 1)))) (eChain dLe dLe (eBin dIx (eName 0) (eC (.int 2))) (eBin dIx (eName 1) (eC (.int 1))) (eBin dIx (eName 0) (eC (.int 3))))))
def d_is_full : List D → R D := runD 1 1 (sRet (eBin dEq (eSl (eName 0) (oSome (eC (.int 1))) (oSome (eC (.int 4)))) (eTup (aCons c_KEYS (aCons (eNeg c_MOST) (aCons c_MOST aNil))))))
def d_full : List D → R D := runD 1 1 (sSeq (sExpr (eCall d_look_question (aCons (eName 0) aNil)))
    (sRet (eCall d_is_full (aCons (eName 0) aNil))))
def d_greater : List D → R D := runD 2 2 (sSeq (sIf (tOrD (tOf (eBin dIs (eName 0) (eC .non))) (tOf (eBin dIs (eName 1) (eC .non)))) (sRet (eIf (tOf (eBin dIs (eName 0) (eC .non))) (eName 1) (eName 0))) sNil)
    (sRet (eCall dMax2 (aCons (eName 0) (aCons (eName 1) aNil)))))
def d_lesser : List D → R D := runD 2 2 (sSeq (sIf (tOrD (tOf (eBin dIs (eName 0) (eC .non))) (tOf (eBin dIs (eName 1) (eC .non)))) (sRet (eIf (tOf (eBin dIs (eName 0) (eC .non))) (eName 1) (eName 0))) sNil)
    (sRet (eCall dMin2 (aCons (eName 0) (aCons (eName 1) aNil)))))
def d_part_of : List D → R D := runD 2 2 (sSeq (sIf (tNotD (tTru (eCall d_sees (aCons (eName 0) (aCons (eName 1) aNil))))) (sRet (eC (.int 0))) sNil)
    (sRet (eIf (tOf (eBin dEq (eBin dIx (eName 0) (eC (.int 0))) (eC (.str "many")))) (eC (.int 1)) (eBin dIx (eName 1) (eC (.int 1))))))
def d_joined : List D → R D := runD 4 3 (sSeq (sSet 3 (eBin dIx (eName 0) (eC (.int 0))))
    (sSeq (sIf (tOf (eBin dIn (eName 3) (eTup (aCons (eC (.str "many")) (aCons (eC (.str "sum")) aNil))))) (sRet (eBin dAdd (eName 1) (eCall d_part_of (aCons (eName 0) (aCons (eName 2) aNil))))) sNil)
    (sSeq (sIf (tNotD (tTru (eCall d_sees (aCons (eName 0) (aCons (eName 2) aNil))))) (sRet (eName 1)) sNil)
    (sSeq (sIf (tOf (eBin dEq (eName 3) (eC (.str "most")))) (sRet (eCall d_greater (aCons (eName 1) (aCons (eBin dIx (eName 2) (eC (.int 1))) aNil)))) sNil)
    (sRet (eIf (tOf (eBin dEq (eName 3) (eC (.str "least")))) (eCall d_lesser (aCons (eName 1) (aCons (eBin dIx (eName 2) (eC (.int 1))) aNil))) (eBin dIx (eName 2) (eC (.int 1)))))))))
def d_nothing : List D → R D := runD 1 1 (sRet (eIf (tOf (eBin dIn (eBin dIx (eName 0) (eC (.int 0))) (eTup (aCons (eC (.str "many")) (aCons (eC (.str "sum")) aNil))))) (eC (.int 0)) (eC .non)))
def d_start : List D → R D := runD 1 1 (sRet (eBin dMul (eTup (aCons (eCall d_nothing (aCons (eName 0) aNil)) aNil)) (eCall dMax2 (aCons (eC (.int 1)) (aCons (eBin dIx (eName 0) (eC (.int 4))) aNil)))))
def d_after : List D → R D := runD 5 3 (sSeq (sSet 3 (eIf (tOf (eBin dEq (eBin dIx (eName 0) (eC (.int 4))) (eC (.int 0)))) (eName 1) (eBin dAdd (eSl (eName 1) (oSome (eC (.int 1))) oNone) (eTup (aCons (eCall d_nothing (aCons (eName 0) aNil)) aNil)))))
    (sRet (eCall dTuple (aCons (eLst (aComp (aItems (eName 3)) [4] (gN 4) tYesD (eCall d_joined (aCons (eName 0) (aCons (eName 4) (aCons (eName 2) aNil)))))) aNil))))
def d_top_two : List D → R D := runD 4 2 (sSeq (sAsg (eName 0) (gT (gsCons (gN 2) (gsCons (gN 3) gsNil))))
    (sSeq (sIf (tOrD (tOf (eBin dIs (eName 2) (eC .non))) (tOf (eBin dGt (eName 1) (eName 2)))) (sRet (eTup (aCons (eName 1) (aCons (eName 2) aNil)))) sNil)
    (sRet (eTup (aCons (eName 2) (aCons (eCall d_greater (aCons (eName 3) (aCons (eName 1) aNil))) aNil))))))
def d_two_start : List D → R D := runD 1 1 (sSeq (sIf (tOf (eBin dEq (eBin dIx (eName 0) (eC (.int 4))) (eC (.int 0)))) (sRet (eTup (aCons (eC .non) (aCons (eC .non) aNil)))) sNil)
    (sRet (eTup (aCons (eC .non) (aCons (eBin dMul (eTup (aCons (eTup (aCons (eC .non) (aCons (eC .non) aNil))) aNil)) (eBin dSub (eBin dIx (eName 0) (eC (.int 4))) (eC (.int 1)))) aNil)))))
def d_two_after : List D → R D := runD 5 3 (sSeq (sIf (tOf (eBin dEq (eBin dIx (eName 0) (eC (.int 4))) (eC (.int 0)))) (sRet (eIf (tTru (eCall d_sees (aCons (eName 0) (aCons (eName 2) aNil)))) (eCall d_top_two (aCons (eName 1) (aCons (eBin dIx (eName 2) (eC (.int 1))) aNil))) (eName 1))) sNil)
    (sSeq (sOwn 3 aNil)
    (sSeq (sFor (aItems (eBin dAdd (eBin dIx (eName 1) (eC (.int 1))) (eTup (aCons (eTup (aCons (eC .non) (aCons (eC .non) aNil))) aNil)))) (gN 4)
    (sApp 3 (eIf (tTru (eCall d_sees (aCons (eName 0) (aCons (eName 2) aNil)))) (eCall d_top_two (aCons (eName 4) (aCons (eBin dIx (eName 2) (eC (.int 1))) aNil))) (eName 4))))
    (sRel 3 (sRet (eTup (aCons (eBin dIx (eBin dIx (eName 3) (eC (.int 0))) (eC (.int 1))) (aCons (eCall dTuple (aCons (eSl (eName 3) (oSome (eC (.int 1))) oNone) aNil)) aNil))))))))
def d_with_key : List D → R D := runD 3 2 (sRet (eM1 dJoin (eC (.str "")) (eLst (aComp (aItems c_KEYS) [2] (gN 2) (tOrD (tOf (eBin dIn (eName 2) (eName 0))) (tOf (eBin dEq (eName 2) (eName 1)))) (eName 2)))))
def d_kinds_start : List D → R D := runD 1 1 (sRet (eIf (tOf (eBin dEq (eBin dIx (eName 0) (eC (.int 4))) (eC (.int 0)))) (eC (.str "")) (eTup (aCons (eC (.int 0)) (aCons (eBin dMul (eTup (aCons (eC (.str "")) aNil)) (eBin dSub (eBin dIx (eName 0) (eC (.int 4))) (eC (.int 1)))) aNil)))))
def d_kinds_after : List D → R D := runD 6 3 (sSeq (sSet 3 (eCall d_sees (aCons (eName 0) (aCons (eName 2) aNil))))
    (sSeq (sIf (tOf (eBin dEq (eBin dIx (eName 0) (eC (.int 4))) (eC (.int 0)))) (sRet (eIf (tTru (eName 3)) (eCall d_with_key (aCons (eName 1) (aCons (eBin dIx (eName 2) (eC (.int 0))) aNil))) (eName 1))) sNil)
    (sSeq (sSet 4 (eLst (aComp (aItems (eBin dAdd (eBin dIx (eName 1) (eC (.int 1))) (eTup (aCons (eC (.str "")) aNil)))) [5] (gN 5) tYesD (eIf (tTru (eName 3)) (eCall d_with_key (aCons (eName 5) (aCons (eBin dIx (eName 2) (eC (.int 0))) aNil))) (eName 5)))))
    (sRet (eTup (aCons (eCall dLen (aCons (eBin dIx (eName 4) (eC (.int 0))) aNil)) (aCons (eCall dTuple (aCons (eSl (eName 4) (oSome (eC (.int 1))) oNone) aNil)) aNil)))))))
def d_run_start : List D → R D := runD 1 1 (sRet (eTup (aCons (eBin dMul (eTup (aCons (eC (.int 0)) aNil)) (eCall dMax2 (aCons (eC (.int 1)) (aCons (eBin dIx (eName 0) (eC (.int 4))) aNil)))) (aCons (eC (.str "")) (aCons (eC (.int 0)) aNil)))))
def d_run_after : List D → R D := runD 11 3 (sSeq (sAsg (eName 1) (gT (gsCons (gN 3) (gsCons (gN 4) (gsCons (gN 5) gsNil)))))
    (sSeq (sSet 6 (eBin dIx (eName 0) (eC (.int 4))))
    (sSeq (sSet 7 (eCall d_sees (aCons (eName 0) (aCons (eName 2) aNil))))
    (sSeq (sSet 5 (eIf (tNotD (tTru (eName 7))) (eC (.int 0)) (eIf (tOf (eBin dEq (eBin dIx (eName 2) (eC (.int 0))) (eName 4))) (eBin dAdd (eName 5) (eC (.int 1))) (eC (.int 1)))))
    (sSeq (sSet 4 (eIf (tTru (eName 7)) (eBin dIx (eName 2) (eC (.int 0))) (eC (.str ""))))
    (sSeq (sIf (tOf (eBin dEq (eName 6) (eC (.int 0)))) (sRet (eTup (aCons (eTup (aCons (eCall dMax2 (aCons (eBin dIx (eName 3) (eC (.int 0))) (aCons (eName 5) aNil))) aNil)) (aCons (eName 4) (aCons (eName 5) aNil))))) sNil)
    (sSeq (sOwn 8 aNil)
    (sSeq (sFor (aRng dEnum (aCons (eBin dAdd (eSl (eName 3) (oSome (eC (.int 1))) oNone) (eTup (aCons (eC (.int 0)) aNil))) aNil)) (gT (gsCons (gN 9) (gsCons (gN 10) gsNil)))
    (sApp 8 (eCall dMax2 (aCons (eName 10) (aCons (eCall dMin2 (aCons (eName 5) (aCons (eBin dSub (eName 6) (eName 9)) aNil))) aNil)))))
    (sSeq (sSet 5 (eCall dMin2 (aCons (eName 5) (aCons (eBin dSub (eName 6) (eC (.int 1))) aNil))))
    (sRel 8 (sRet (eTup (aCons (eCall dTuple (aCons (eName 8) aNil)) (aCons (eIf (tOf (eBin dGt (eName 5) (eC (.int 0)))) (eName 4) (eC (.str ""))) (aCons (eName 5) aNil)))))))))))))))
def d_start_of : List D → R D := runD 1 1 (sSeq (sIf (tOf (eBin dEq (eBin dIx (eName 0) (eC (.int 0))) (eC (.str "second")))) (sRet (eCall d_two_start (aCons (eName 0) aNil))) sNil)
    (sSeq (sIf (tOf (eBin dEq (eBin dIx (eName 0) (eC (.int 0))) (eC (.str "kinds")))) (sRet (eCall d_kinds_start (aCons (eName 0) aNil))) sNil)
    (sRet (eIf (tOf (eBin dEq (eBin dIx (eName 0) (eC (.int 0))) (eC (.str "run")))) (eCall d_run_start (aCons (eName 0) aNil)) (eCall d_start (aCons (eName 0) aNil))))))
def d_after_of : List D → R D := runD 3 3 (sSeq (sIf (tOf (eBin dEq (eBin dIx (eName 0) (eC (.int 0))) (eC (.str "second")))) (sRet (eCall d_two_after (aCons (eName 0) (aCons (eName 1) (aCons (eName 2) aNil))))) sNil)
    (sSeq (sIf (tOf (eBin dEq (eBin dIx (eName 0) (eC (.int 0))) (eC (.str "kinds")))) (sRet (eCall d_kinds_after (aCons (eName 0) (aCons (eName 1) (aCons (eName 2) aNil))))) sNil)
    (sRet (eIf (tOf (eBin dEq (eBin dIx (eName 0) (eC (.int 0))) (eC (.str "run")))) (eCall d_run_after (aCons (eName 0) (aCons (eName 1) (aCons (eName 2) aNil)))) (eCall d_after (aCons (eName 0) (aCons (eName 1) (aCons (eName 2) aNil))))))))
def d_told_by : List D → R D := runD 2 2 (sSeq (sIf (tOf (eBin dEq (eBin dIx (eName 0) (eC (.int 0))) (eC (.str "second")))) (sRet (eIf (tOf (eBin dEq (eBin dIx (eName 0) (eC (.int 4))) (eC (.int 0)))) (eBin dIx (eName 1) (eC (.int 1))) (eBin dIx (eName 1) (eC (.int 0))))) sNil)
    (sSeq (sIf (tOf (eBin dEq (eBin dIx (eName 0) (eC (.int 0))) (eC (.str "kinds")))) (sRet (eIf (tOf (eBin dEq (eBin dIx (eName 0) (eC (.int 4))) (eC (.int 0)))) (eCall dLen (aCons (eName 1) aNil)) (eBin dIx (eName 1) (eC (.int 0))))) sNil)
    (sRet (eIf (tOf (eBin dEq (eBin dIx (eName 0) (eC (.int 0))) (eC (.str "run")))) (eBin dIx (eBin dIx (eName 1) (eC (.int 0))) (eC (.int 0))) (eBin dIx (eName 1) (eC (.int 0)))))))
def d_starts_of : List D → R D := runD 2 1 (sRet (eCall dTuple (aCons (eLst (aComp (aItems (eName 0)) [1] (gN 1) tYesD (eCall d_start_of (aCons (eName 1) aNil)))) aNil)))
def d_behind : List D → R D := runD 5 3 (sRet (eCall dTuple (aCons (eLst (aComp (aRng dZip2 (aCons (eName 0) (aCons (eName 1) aNil))) [3, 4] (gT (gsCons (gN 3) (gsCons (gN 4) gsNil))) tYesD (eCall d_after_of (aCons (eName 3) (aCons (eName 4) (aCons (eName 2) aNil)))))) aNil)))
def d_kept_of : List D → R D := runD 4 2 (sSeq (sSet 2 (eCall d_starts_of (aCons (eName 0) aNil)))
    (sSeq (sFor (aItems (eName 1)) (gN 3)
    (sSet 2 (eCall d_behind (aCons (eName 0) (aCons (eName 2) (aCons (eName 3) aNil))))))
    (sRet (eName 2))))
def d_look_two : List D → R D := runD 2 2 (sSeq (sExpr (eCall d_look_plan (aCons (eName 0) aNil)))
    (sExpr (eCall d_look_stream (aCons (eName 1) aNil))))
def d_kept : List D → R D := runD 2 2 (sSeq (sExpr (eCall d_look_two (aCons (eName 0) (aCons (eName 1) aNil))))
    (sRet (eCall d_kept_of (aCons (eName 0) (aCons (eName 1) aNil)))))
def d_first_unlike : List D → R D := runD 6 2 (sSeq (sSet 2 (eLst (aComp (aRng dEnumZip (aCons (eName 0) (aCons (eName 1) aNil))) [3, 4, 5] (gT (gsCons (gN 3) (gsCons (gT (gsCons (gN 4) (gsCons (gN 5) gsNil))) gsNil))) (tOf (eBin dNe (eName 4) (eName 5))) (eName 3))))
    (sRet (eIf (tTru (eName 2)) (eBin dIx (eName 2) (eC (.int 0))) (eC .non))))
def d_run_end : List D → R D := runD 5 4 (sSeq (sSet 4 (eIf (tOf (eBin dEq (eBin dIx (eName 0) (eC (.int 1))) (eName 1))) (eBin dIx (eName 0) (eC (.int 2))) (eC (.int 0))))
    (sRet (eCall dMin2 (aCons (eBin dAdd (eName 4) (eName 2)) (aCons (eName 3) aNil)))))
def d_run_apart : List D → R D := runD 11 3 (sSeq (sSet 3 (eBin dIx (eName 0) (eC (.int 4))))
    (sSeq (sSet 4 (eCall d_first_unlike (aCons (eBin dIx (eName 1) (eC (.int 0))) (aCons (eBin dIx (eName 2) (eC (.int 0))) aNil))))
    (sSeq (sIf (tOrD (tOf (eBin dEq (eSl (eName 1) (oSome (eC (.int 1))) oNone) (eSl (eName 2) (oSome (eC (.int 1))) oNone))) (tOf (eBin dEq (eName 4) (eC (.int 0))))) (sRet (eName 4)) sNil)
    (sSeq (sSet 5 (eIf (tOf (eBin dGt (eName 3) (eC (.int 0)))) (eName 3) (eBin dAdd (eCall dMax2 (aCons (eBin dIx (eBin dIx (eName 1) (eC (.int 0))) (eC (.int 0))) (aCons (eBin dIx (eBin dIx (eName 2) (eC (.int 0))) (eC (.int 0))) aNil))) (eC (.int 1)))))
    (sSeq (sSet 6 (eC (.int 1)))
    (sSeq (sWhile 100000 (tOrD (tOf (eBin dIs (eName 4) (eC .non))) (tOf (eBin dLt (eName 6) (eName 4))))
    (sSeq (sSet 7 (eIf (tOf (eBin dGt (eName 3) (eC (.int 0)))) (eBin dIx (eBin dIx (eName 1) (eC (.int 0))) (eName 6)) (eBin dIx (eBin dIx (eName 1) (eC (.int 0))) (eC (.int 0)))))
    (sSeq (sFor (aItems (eTup (aCons (eBin dIx (eName 1) (eC (.int 1))) (aCons (eBin dIx (eName 2) (eC (.int 1))) aNil)))) (gN 8)
    (sIf (tOf (eBin dNe (eName 8) (eC (.str "")))) (sSeq (sSet 9 (eLst (aComp (aItems (eTup (aCons (eName 1) (aCons (eName 2) aNil)))) [10] (gN 10) tYesD (eCall dMax2 (aCons (eName 7) (aCons (eCall d_run_end (aCons (eName 10) (aCons (eName 8) (aCons (eName 6) (aCons (eName 5) aNil))))) aNil))))))
    (sIf (tOf (eBin dNe (eBin dIx (eName 9) (eC (.int 0))) (eBin dIx (eName 9) (eC (.int 1))))) (sRet (eName 6)) sNil)) sNil))
    (sAug (fun i j => i + j) 6 (eC (.int 1))))))
    (sRet (eName 4))))))))
def d_fewest_of : List D → R D := runD 5 3 (sSeq (sIf (tOf (eBin dEq (eName 1) (eName 2))) (sRet (eC .non)) sNil)
    (sSeq (sPar 3 4 (aCons (eBin dIx (eName 0) (eC (.int 0))) (aCons (eBin dIx (eName 0) (eC (.int 4))) aNil)))
    (sSeq (sIf (tOf (eBin dEq (eName 3) (eC (.str "run")))) (sRet (eCall d_run_apart (aCons (eName 0) (aCons (eName 1) (aCons (eName 2) aNil))))) sNil)
    (sSeq (sIf (tOrD (tAndD (tOf (eBin dEq (eName 3) (eC (.str "second")))) (tOf (eBin dGt (eName 4) (eC (.int 0))))) (tAndD (tOf (eBin dEq (eName 3) (eC (.str "kinds")))) (tOf (eBin dGt (eName 4) (eC (.int 0)))))) (sRet (eCall d_first_unlike (aCons (eBin dAdd (eTup (aCons (eBin dIx (eName 1) (eC (.int 0))) aNil)) (eBin dIx (eName 1) (eC (.int 1)))) (aCons (eBin dAdd (eTup (aCons (eBin dIx (eName 2) (eC (.int 0))) aNil)) (eBin dIx (eName 2) (eC (.int 1)))) aNil)))) sNil)
    (sSeq (sIf (tOf (eBin dEq (eName 3) (eC (.str "second")))) (sRet (eIf (tOf (eBin dNe (eBin dIx (eName 1) (eC (.int 1))) (eBin dIx (eName 2) (eC (.int 1))))) (eC (.int 0)) (eC (.int 1)))) sNil)
    (sSeq (sIf (tOf (eBin dEq (eName 3) (eC (.str "kinds")))) (sRet (eIf (tOf (eBin dNe (eCall dLen (aCons (eName 1) aNil)) (eCall dLen (aCons (eName 2) aNil)))) (eC (.int 0)) (eC (.int 1)))) sNil)
    (sRet (eCall d_first_unlike (aCons (eName 1) (aCons (eName 2) aNil))))))))))
def d_fewest_by : List D → R D := runD 8 3 (sSeq (sSet 3 (eLst (aComp (aRng dZip3 (aCons (eName 0) (aCons (eName 1) (aCons (eName 2) aNil)))) [4, 5, 6] (gT (gsCons (gN 4) (gsCons (gN 5) (gsCons (gN 6) gsNil)))) tYesD (eCall d_fewest_of (aCons (eName 4) (aCons (eName 5) (aCons (eName 6) aNil)))))))
    (sSeq (sSet 3 (eLst (aComp (aItems (eName 3)) [7] (gN 7) (tOf (eBin dIsNot (eName 7) (eC .non))) (eName 7))))
    (sRet (eIf (tTru (eName 3)) (eCall dMinL (aCons (eName 3) aNil)) (eC .non)))))
def d_next_row : List D → R D := runD 7 4 (sSeq (sFor (aItems (eCall d_all_rows aNil)) (gN 4)
    (sSeq (sPar 5 6 (aCons (eCall d_behind (aCons (eName 0) (aCons (eName 1) (aCons (eName 4) aNil)))) (aCons (eCall d_behind (aCons (eName 0) (aCons (eName 2) (aCons (eName 4) aNil)))) aNil)))
    (sIf (tOf (eBin dEq (eCall d_fewest_by (aCons (eName 0) (aCons (eName 5) (aCons (eName 6) aNil)))) (eName 3))) (sRet (eTup (aCons (eName 4) (aCons (eName 5) (aCons (eName 6) aNil))))) sNil)))
    (sRet (eC .non)))
def d_apart_of : List D → R D := runD 8 3 (sSeq (sSet 3 (eCall d_fewest_by (aCons (eName 0) (aCons (eName 1) (aCons (eName 2) aNil)))))
    (sSeq (sIf (tOf (eBin dIs (eName 3) (eC .non))) (sRet (eC .non)) sNil)
    (sSeq (sOwn 4 aNil)
    (sSeq (sWhile 100000 (tOf (eBin dGt (eName 3) (eC (.int 0))))
    (sSeq (sAug (fun i j => i - j) 3 (eC (.int 1)))
    (sSeq (sAsg (eCall d_next_row (aCons (eName 0) (aCons (eName 1) (aCons (eName 2) (aCons (eName 3) aNil))))) (gT (gsCons (gN 5) (gsCons (gN 1) (gsCons (gN 2) gsNil)))))
    (sApp 4 (eName 5)))))
    (sSeq (sFor (aRng dEnum (aCons (eName 0) aNil)) (gT (gsCons (gN 6) (gsCons (gN 7) gsNil)))
    (sIf (tOf (eBin dNe (eCall d_told_by (aCons (eName 7) (aCons (eBin dIx (eName 1) (eName 6)) aNil))) (eCall d_told_by (aCons (eName 7) (aCons (eBin dIx (eName 2) (eName 6)) aNil))))) (sRel 4 (sRet (eTup (aCons (eName 4) (aCons (eName 6) aNil))))) sNil))
    (sRet (eC .non)))))))
def d_apart : List D → R D := runD 4 3 (sSeq (sExpr (eCall d_look_two (aCons (eName 0) (aCons (eName 1) aNil))))
    (sSeq (sExpr (eCall d_look_stream (aCons (eName 2) aNil)))
    (sSeq (sSet 3 (eCall d_apart_of (aCons (eName 0) (aCons (eCall d_kept_of (aCons (eName 0) (aCons (eName 1) aNil))) (aCons (eCall d_kept_of (aCons (eName 0) (aCons (eName 2) aNil))) aNil)))))
    (sSeq (sIf (tOf (eBin dIs (eName 3) (eC .non))) (sRaise "Alike") sNil)
    (sRet (eName 3))))))
def d_law_cell : List D → R D := runD 2 2 (sSeq (sIf (tOf (eBin dLt (eName 1) (eCall dLen (aCons (eName 0) aNil)))) (sRet (eBin dIx (eName 0) (eName 1))) sNil)
    (sRet (eC (.int 0))))
def d_law_whole : List D → R D := runD 1 1 (sRet (eAnd (eIsi .int (eName 0)) (eNot (eIsi .bool (eName 0)))))
def d_law_row : List D → R D := runD 5 2 (sSeq (sSet 2 (eCall d_law_cell (aCons (eName 0) (aCons (eName 1) aNil))))
    (sSeq (sOwn 3 aNil)
    (sSeq (sFor (aRng dRng1 (aCons (eC (.int 60)) aNil)) (gN 4)
    (sIf (tOf (eBin dLt (eCall d_law_cell (aCons (eName 0) (aCons (eName 1) aNil))) (eBin dPow (eC (.int 10)) (eC (.int 18))))) (sSeq (sSet 2 (eBin dMod (eBin dAdd (eBin dAdd (eBin dAdd (eBin dMul (eName 2) (eC (.int 48271))) (eBin dMul (eC (.int 131)) (eName 4))) (eC (.int 7))) (eCall d_law_cell (aCons (eName 0) (aCons (eBin dMod (eBin dAdd (eBin dAdd (eName 1) (eC (.int 1))) (eName 4)) (eC (.int 20))) aNil)))) (eC (.int 2147483647))))
    (sApp 3 (eBin dMod (eBin dFdiv (eName 2) (eC (.int 11))) (eC (.int 1000))))) (sSeq (sApp 3 (eBin dMod (eName 2) (eC (.int 1000))))
    (sSet 2 (eBin dFdiv (eName 2) (eC (.int 1000)))))))
    (sRel 3 (sRet (eName 3))))))
def d_law_in : List D → R D := runD 3 3 (sRet (eAnd (eCall d_law_whole (aCons (eName 0) aNil)) (eChain dLe dLe (eName 1) (eName 0) (eName 2))))
def d_law_all : List D → R D := runD 3 0 (sSeq (sSet 0 (eLst aNil))
    (sSeq (sFor (aItems (eC (.str "abcd"))) (gN 1)
    (sSet 0 (eBin dAdd (eName 0) (eLst (aComp (aRng dRng2 (aCons (eNeg (eC (.int 3))) (aCons (eC (.int 4)) aNil))) [2] (gN 2) tYesD (eTup (aCons (eName 1) (aCons (eName 2) aNil))))))))
    (sRet (eName 0))))
theorem nx_law_all : NoEx (d_law_all []) := by intro x h; revert h; exact nofun
def d_law_line : List D → R D := runD 4 2 (sSeq (sSet 2 (eBin dMod (eBin dIx (eName 0) (eBin dMod (eBin dAdd (eName 1) (eC (.int 1))) (eC (.int 60)))) (eC (.int 4))))
    (sSeq (sSet 3 (eBin dIx (eName 0) (eBin dMod (eName 1) (eC (.int 60)))))
    (sSeq (sIf (tOf (eBin dEq (eName 2) (eC (.int 0)))) (sRet (eBin dIx (eCall d_law_all aNil) (eBin dMod (eName 3) (eC (.int 28))))) sNil)
    (sSeq (sIf (tOf (eBin dEq (eName 2) (eC (.int 1)))) (sRet (eTup (aCons (eBin dIx (eC (.str "ab")) (eBin dMod (eName 3) (eC (.int 2)))) (aCons (eBin dIx (eLst (aCons (eNeg (eC (.int 3))) (aCons (eC (.int 3)) (aCons (eC (.int 0)) (aCons (eNeg (eC (.int 3))) aNil))))) (eBin dMod (eBin dFdiv (eName 3) (eC (.int 2))) (eC (.int 4)))) aNil)))) sNil)
    (sSeq (sIf (tOf (eBin dEq (eName 2) (eC (.int 2)))) (sRet (eTup (aCons (eBin dIx (eC (.str "abcd")) (eBin dMod (eName 3) (eC (.int 4)))) (aCons (eBin dIx (eLst (aCons (eNeg (eC (.int 3))) (aCons (eNeg (eC (.int 2))) aNil))) (eBin dMod (eBin dFdiv (eName 3) (eC (.int 4))) (eC (.int 2)))) aNil)))) sNil)
    (sRet (eTup (aCons (eBin dIx (eC (.str "ac")) (eBin dMod (eName 3) (eC (.int 2)))) (aCons (eBin dAdd (eC (.int 1)) (eBin dMod (eBin dFdiv (eName 3) (eC (.int 2))) (eC (.int 3)))) aNil)))))))))
def d_law_stream : List D → R D := runD 5 2 (sSeq (sSet 2 (eCall d_law_row (aCons (eName 0) (aCons (eName 1) aNil))))
    (sSeq (sSet 3 (eLst (aComp (aRng dRng1 (aCons (eBin dMod (eBin dIx (eName 2) (eC (.int 0))) (eC (.int 10))) aNil)) [4] (gN 4) tYesD (eCall d_law_line (aCons (eName 2) (aCons (eBin dAdd (eC (.int 2)) (eBin dMul (eC (.int 3)) (eName 4))) aNil))))))
    (sSeq (sIf (tOf (eBin dEq (eBin dMod (eBin dIx (eName 2) (eC (.int 1))) (eC (.int 3))) (eC (.int 0)))) (sSet 3 (eLst (aComp (aRng dRng1 (aCons (eCall dLen (aCons (eName 3) aNil)) aNil)) [4] (gN 4) tYesD (eBin dIx (eName 3) (eBin dMod (eBin dMod (eBin dIx (eName 2) (eBin dAdd (eC (.int 30)) (eName 4))) (eC (.int 3))) (eCall dLen (aCons (eName 3) aNil))))))) sNil)
    (sRet (eName 3)))))
def d_law_words : List D → R D := runD 0 0 (sRet (eLst (aCons (eC (.str "many")) (aCons (eC (.str "sum")) (aCons (eC (.str "most")) (aCons (eC (.str "least")) (aCons (eC (.str "last")) (aCons (eC (.str "second")) (aCons (eC (.str "kinds")) (aCons (eC (.str "run")) aNil))))))))))
theorem nx_law_words : NoEx (d_law_words []) := by intro x h; revert h; exact nofun
def d_law_question : List D → R D := runD 6 2 (sSeq (sSet 2 (eBin dIx (eCall d_law_words aNil) (eBin dMod (eBin dIx (eName 0) (eBin dMod (eName 1) (eC (.int 60)))) (eC (.int 8)))))
    (sSeq (sSet 3 (eBin dMod (eBin dIx (eName 0) (eBin dMod (eBin dAdd (eName 1) (eC (.int 1))) (eC (.int 60)))) (eC (.int 7))))
    (sSeq (sIf (tOf (eBin dEq (eBin dMod (eBin dIx (eName 0) (eBin dMod (eBin dAdd (eName 1) (eC (.int 2))) (eC (.int 60)))) (eC (.int 2))) (eC (.int 0)))) (sRet (eTup (aCons (eName 2) (aCons (eC (.str "abcd")) (aCons (eNeg (eC (.int 3))) (aCons (eC (.int 3)) (aCons (eName 3) aNil))))))) sNil)
    (sSeq (sSet 4 (eBin dIx (eLst (aCons (eC (.str "abcd")) (aCons (eC (.str "a")) (aCons (eC (.str "ab")) (aCons (eC (.str "bd")) (aCons (eC (.str "abc")) (aCons (eC (.str "cd")) (aCons (eC (.str "abcd")) aNil)))))))) (eBin dMod (eBin dIx (eName 0) (eBin dMod (eBin dAdd (eName 1) (eC (.int 3))) (eC (.int 60)))) (eC (.int 7)))))
    (sSeq (sSet 5 (eBin dSub (eBin dMod (eBin dIx (eName 0) (eBin dMod (eBin dAdd (eName 1) (eC (.int 4))) (eC (.int 60)))) (eC (.int 7))) (eC (.int 3))))
    (sRet (eTup (aCons (eName 2) (aCons (eName 4) (aCons (eName 5) (aCons (eCall dMin2 (aCons (eC (.int 3)) (aCons (eBin dAdd (eName 5) (eBin dMod (eBin dIx (eName 0) (eBin dMod (eBin dAdd (eName 1) (eC (.int 5))) (eC (.int 60)))) (eC (.int 7)))) aNil))) (aCons (eName 3) aNil))))))))))))
def d_law_plan : List D → R D := runD 4 2 (sSeq (sSet 2 (eCall d_law_row (aCons (eName 0) (aCons (eName 1) aNil))))
    (sRet (eCall dTuple (aCons (eLst (aComp (aRng dRng1 (aCons (eBin dAdd (eC (.int 1)) (eBin dMod (eBin dIx (eName 2) (eC (.int 0))) (eC (.int 4)))) aNil)) [3] (gN 3) tYesD (eCall d_law_question (aCons (eName 2) (aCons (eBin dAdd (eC (.int 1)) (eBin dMul (eC (.int 6)) (eName 3))) aNil))))) aNil))))
def d_law_sees : List D → R D := runD 2 2 (sRet (eAnd (eBin dIn (eBin dIx (eName 1) (eC (.int 0))) (eBin dIx (eName 0) (eC (.int 1)))) (eChain dLe dLe (eBin dIx (eName 0) (eC (.int 2))) (eBin dIx (eName 1) (eC (.int 1))) (eBin dIx (eName 0) (eC (.int 3))))))
def d_law_is_line : List D → R D := runD 1 1 (sSeq (sIf (tOrD (tNotD (tTru (eIsi .tuple (eName 0)))) (tOrD (tOf (eBin dNe (eCall dLen (aCons (eName 0) aNil)) (eC (.int 2)))) (tNotD (tTru (eIsi .str (eBin dIx (eName 0) (eC (.int 0)))))))) (sRet (eC (.bl false))) sNil)
    (sRet (eAnd (eBin dIn (eBin dIx (eName 0) (eC (.int 0))) (eTup (aCons (eC (.str "a")) (aCons (eC (.str "b")) (aCons (eC (.str "c")) (aCons (eC (.str "d")) aNil)))))) (eCall d_law_in (aCons (eBin dIx (eName 0) (eC (.int 1))) (aCons (eNeg (eC (.int 3))) (aCons (eC (.int 3)) aNil)))))))
def d_law_is_stream : List D → R D := runD 2 1 (sRet (eAnd (eIsi .list (eName 0)) (eAnd (eBin dLe (eCall dLen (aCons (eName 0) aNil)) (eC (.int 60))) (eBin dEq (eLst (aComp (aItems (eName 0)) [1] (gN 1) (tNotD (tTru (eCall d_law_is_line (aCons (eName 1) aNil)))) (eName 1))) (eLst aNil)))))
def d_law_bent_question : List D → R D := runD 9 3 (sSeq (sAsg (eName 0) (gT (gsCons (gN 3) (gsCons (gN 4) (gsCons (gN 5) (gsCons (gN 6) (gsCons (gN 7) gsNil)))))))
    (sSeq (sSet 8 (eLst (aCons (eC .non) (aCons (eSl (eName 0) oNone (oSome (eC (.int 4)))) (aCons (eCall dList (aCons (eName 0) aNil)) (aCons (eTup (aCons (eC (.str "mean")) (aCons (eName 4) (aCons (eName 5) (aCons (eName 6) (aCons (eName 7) aNil)))))) (aCons (eTup (aCons (eC .non) (aCons (eName 4) (aCons (eName 5) (aCons (eName 6) (aCons (eName 7) aNil)))))) aNil)))))))
    (sSeq (sSet 8 (eBin dAdd (eName 8) (eLst (aCons (eTup (aCons (eName 3) (aCons (eC (.str "")) (aCons (eName 5) (aCons (eName 6) (aCons (eName 7) aNil)))))) (aCons (eTup (aCons (eName 3) (aCons (eC (.str "ba")) (aCons (eName 5) (aCons (eName 6) (aCons (eName 7) aNil)))))) (aCons (eTup (aCons (eName 3) (aCons (eC (.str "ae")) (aCons (eName 5) (aCons (eName 6) (aCons (eName 7) aNil)))))) aNil))))))
    (sSeq (sSet 8 (eBin dAdd (eName 8) (eLst (aCons (eTup (aCons (eName 3) (aCons (eC (.str "aa")) (aCons (eName 5) (aCons (eName 6) (aCons (eName 7) aNil)))))) (aCons (eTup (aCons (eName 3) (aCons (eC .non) (aCons (eName 5) (aCons (eName 6) (aCons (eName 7) aNil)))))) (aCons (eTup (aCons (eName 3) (aCons (eName 4) (aCons (eNeg (eC (.int 4))) (aCons (eName 6) (aCons (eName 7) aNil)))))) aNil))))))
    (sSeq (sSet 8 (eBin dAdd (eName 8) (eLst (aCons (eTup (aCons (eName 3) (aCons (eName 4) (aCons (eName 5) (aCons (eC (.int 4)) (aCons (eName 7) aNil)))))) (aCons (eTup (aCons (eName 3) (aCons (eName 4) (aCons (eC (.int 2)) (aCons (eC (.int 1)) (aCons (eName 7) aNil)))))) (aCons (eTup (aCons (eName 3) (aCons (eName 4) (aCons (eName 5) (aCons (eName 6) (aCons (eC (.int 7)) aNil)))))) (aCons (eName 0) aNil)))))))
    (sSeq (sSet 8 (eBin dAdd (eName 8) (eLst (aCons (eTup (aCons (eName 3) (aCons (eName 4) (aCons (eName 5) (aCons (eName 6) (aCons (eNeg (eC (.int 1))) aNil)))))) (aCons (eTup (aCons (eName 3) (aCons (eName 4) (aCons (eName 5) (aCons (eName 6) (aCons (eC (.bl true)) aNil)))))) (aCons (eTup (aCons (eName 3) (aCons (eName 4) (aCons (eName 5) (aCons (eC .non) (aCons (eName 7) aNil)))))) (aCons (eName 3) aNil)))))))
    (sRet (eBin dIx (eName 8) (eBin dMod (eBin dIx (eName 1) (eName 2)) (eC (.int 19)))))))))))
def d_longest_run : List D → R D := runD 6 2 (sSeq (sSet 2 (eC (.int 0)))
    (sSeq (sAsg (eTup (aCons (eC (.str "")) (aCons (eC (.int 0)) aNil))) (gT (gsCons (gN 3) (gsCons (gN 4) gsNil))))
    (sSeq (sFor (aItems (eName 1)) (gN 5)
    (sSeq (sIf (tNotD (tTru (eCall d_sees (aCons (eName 0) (aCons (eName 5) aNil))))) (sAsg (eTup (aCons (eC (.str "")) (aCons (eC (.int 0)) aNil))) (gT (gsCons (gN 3) (gsCons (gN 4) gsNil)))) (sIf (tOf (eBin dEq (eBin dIx (eName 5) (eC (.int 0))) (eName 3))) (sAug (fun i j => i + j) 4 (eC (.int 1))) (sPar 3 4 (aCons (eBin dIx (eName 5) (eC (.int 0))) (aCons (eC (.int 1)) aNil)))))
    (sSet 2 (eCall dMax2 (aCons (eName 2) (aCons (eName 4) aNil))))))
    (sRet (eName 2)))))
def d_law_answer : List D → R D := runD 14 2 (sSeq (sAsg (eName 0) (gT (gsCons (gN 2) (gsCons (gN 3) (gsCons (gN 4) (gsCons (gN 5) (gsCons (gN 6) gsNil)))))))
    (sSeq (sSet 7 (eIf (tOf (eChain dLt dLt (eC (.int 0)) (eName 6) (eCall dLen (aCons (eName 1) aNil)))) (eSl (eName 1) (oSome (eBin dSub (eCall dLen (aCons (eName 1) aNil)) (eName 6))) oNone) (eName 1)))
    (sSeq (sSet 8 (eLst (aComp (aItems (eName 7)) [9] (gN 9) (tTru (eCall d_law_sees (aCons (eName 0) (aCons (eName 9) aNil)))) (eName 9))))
    (sSeq (sSet 10 (eCall dSort (aCons (eLst (aComp (aItems (eName 8)) [9] (gN 9) tYesD (eBin dIx (eName 9) (eC (.int 1))))) aNil)))
    (sSeq (sIf (tOf (eBin dEq (eName 2) (eC (.str "many")))) (sRet (eCall dLen (aCons (eName 8) aNil))) sNil)
    (sSeq (sIf (tOf (eBin dEq (eName 2) (eC (.str "sum")))) (sRet (eCall dSum (aCons (eName 10) aNil))) sNil)
    (sSeq (sIf (tOf (eBin dEq (eName 2) (eC (.str "kinds")))) (sRet (eLenSet (eLst (aComp (aItems (eName 8)) [9] (gN 9) tYesD (eBin dIx (eName 9) (eC (.int 0))))))) sNil)
    (sSeq (sIf (tOf (eBin dEq (eName 2) (eC (.str "run")))) (sSeq (sSet 11 (eC (.int 0)))
    (sSeq (sFor (aRng dRng1 (aCons (eCall dLen (aCons (eName 7) aNil)) aNil)) (gN 12)
    (sSeq (sSet 13 (eC (.int 0)))
    (sSeq (sWhile 100000 (tAndD (tOf (eBin dLt (eBin dAdd (eName 12) (eName 13)) (eCall dLen (aCons (eName 7) aNil)))) (tAndD (tTru (eCall d_law_sees (aCons (eName 0) (aCons (eBin dIx (eName 7) (eBin dAdd (eName 12) (eName 13))) aNil)))) (tOf (eBin dEq (eBin dIx (eBin dIx (eName 7) (eBin dAdd (eName 12) (eName 13))) (eC (.int 0))) (eBin dIx (eBin dIx (eName 7) (eName 12)) (eC (.int 0)))))))
    (sSet 13 (eBin dAdd (eName 13) (eC (.int 1)))))
    (sSet 11 (eCall dMax2 (aCons (eName 11) (aCons (eName 13) aNil)))))))
    (sRet (eName 11)))) sNil)
    (sSeq (sIf (tOf (eBin dEq (eName 2) (eC (.str "second")))) (sRet (eIf (tOf (eBin dGt (eCall dLen (aCons (eName 10) aNil)) (eC (.int 1)))) (eBin dIx (eName 10) (eNeg (eC (.int 2)))) (eC .non))) sNil)
    (sSeq (sIf (tOf (eBin dEq (eName 10) (eLst aNil))) (sRet (eC .non)) sNil)
    (sRet (eDict3 "most" "least" "last" (eBin dIx (eName 10) (eNeg (eC (.int 1)))) (eBin dIx (eName 10) (eC (.int 0))) (eBin dIx (eBin dIx (eName 8) (eNeg (eC (.int 1)))) (eC (.int 1))) (eName 2)))))))))))))
def d_look_row : List D → R D := runD 1 1 (sIf (tNotD (tTru (eCall d_is_row (aCons (eName 0) aNil)))) (sRaise "BadRow") sNil)
def d_look_number : List D → R D := runD 2 2 (sIf (tNotD (tTru (eCall d_is_within (aCons (eName 1) (aCons (eC (.int 0)) (aCons (eBin dSub (eCall dLen (aCons (eName 0) aNil)) (eC (.int 1))) aNil)))))) (sRaise "BadNumber") sNil)
def d_told : List D → R D := runD 3 3 (sSeq (sExpr (eCall d_look_plan (aCons (eName 0) aNil)))
    (sSeq (sExpr (eCall d_look_number (aCons (eName 0) (aCons (eName 2) aNil))))
    (sRet (eCall d_told_by (aCons (eBin dIx (eName 0) (eName 2)) (aCons (eBin dIx (eName 1) (eName 2)) aNil))))))
def d_gone_on : List D → R D := runD 3 3 (sSeq (sExpr (eCall d_look_plan (aCons (eName 0) aNil)))
    (sSeq (sExpr (eCall d_look_row (aCons (eName 2) aNil)))
    (sRet (eCall d_behind (aCons (eName 0) (aCons (eName 1) (aCons (eName 2) aNil)))))))
def d_alike : List D → R D := runD 3 3 (sSeq (sExpr (eCall d_look_two (aCons (eName 0) (aCons (eName 1) aNil))))
    (sSeq (sExpr (eCall d_look_stream (aCons (eName 2) aNil)))
    (sRet (eBin dEq (eCall d_kept_of (aCons (eName 0) (aCons (eName 1) aNil))) (eCall d_kept_of (aCons (eName 0) (aCons (eName 2) aNil)))))))
def d_law_other : List D → R D := runD 8 3 (sSeq (sSet 3 (eCall d_law_row (aCons (eName 0) (aCons (eName 1) aNil))))
    (sSeq (sSet 4 (eBin dMod (eBin dIx (eName 3) (eC (.int 0))) (eBin dAdd (eCall dLen (aCons (eName 2) aNil)) (eC (.int 1)))))
    (sSeq (sSet 5 (eLst (aComp (aRng dRng1 (aCons (eBin dMod (eBin dIx (eName 3) (eC (.int 1))) (eC (.int 3))) aNil)) [6] (gN 6) tYesD (eCall d_law_line (aCons (eName 3) (aCons (eBin dAdd (eC (.int 3)) (eBin dMul (eC (.int 3)) (eName 6))) aNil))))))
    (sSeq (sSet 7 (eBin dMod (eBin dIx (eName 3) (eC (.int 2))) (eC (.int 5))))
    (sSeq (sIf (tOf (eBin dEq (eName 7) (eC (.int 0)))) (sRet (eBin dAdd (eName 5) (eSl (eName 2) (oSome (eName 4)) oNone))) sNil)
    (sSeq (sIf (tOf (eBin dEq (eName 7) (eC (.int 1)))) (sRet (eBin dAdd (eBin dAdd (eSl (eName 2) oNone (oSome (eName 4))) (eName 5)) (eSl (eName 2) (oSome (eBin dAdd (eName 4) (eBin dMod (eBin dIx (eName 3) (eC (.int 40))) (eC (.int 3))))) oNone))) sNil)
    (sSeq (sIf (tOf (eBin dEq (eName 7) (eC (.int 2)))) (sRet (eBin dAdd (eSl (eName 2) (oSome (eName 4)) oNone) (eSl (eName 2) oNone (oSome (eName 4))))) sNil)
    (sRet (eIf (tOf (eBin dEq (eName 7) (eC (.int 3)))) (eBin dAdd (eSl (eName 2) oNone (oSome (eName 4))) (eSl (eName 2) (oSome (eBin dAdd (eName 4) (eC (.int 1)))) oNone)) (eCall d_law_stream (aCons (eName 0) (aCons (eBin dAdd (eName 1) (eC (.int 1))) aNil))))))))))))
def d_law_few : List D → R D := runD 3 2 (sSeq (sSet 2 (eLst (aCons (eTup (aCons (eC (.str "a")) (aCons (eNeg (eC (.int 3))) aNil))) (aCons (eTup (aCons (eC (.str "b")) (aCons (eNeg (eC (.int 3))) aNil))) (aCons (eTup (aCons (eC (.str "a")) (aCons (eC (.int 3)) aNil))) (aCons (eTup (aCons (eC (.str "c")) (aCons (eC (.int 0)) aNil))) (aCons (eTup (aCons (eC (.str "d")) (aCons (eC (.int 3)) aNil))) (aCons (eBin dIx (eCall d_law_all aNil) (eBin dMod (eBin dIx (eName 0) (eBin dMod (eName 1) (eC (.int 60)))) (eC (.int 28)))) aNil))))))))
    (sRet (eName 2)))
def d_law_twins : List D → R D := runD 6 2 (sSeq (sSet 2 (eLst (aComp (aRng dRng1 (aCons (eBin dAdd (eC (.int 1)) (eBin dMod (eBin dIx (eName 0) (eC (.int 1))) (eC (.int 3)))) aNil)) [3] (gN 3) tYesD (eCall d_law_line (aCons (eName 0) (aCons (eBin dAdd (eC (.int 3)) (eBin dMul (eC (.int 3)) (eName 3))) aNil))))))
    (sSeq (sSet 4 (eLst (aComp (aRng dRng1 (aCons (eBin dAdd (eC (.int 1)) (eBin dMod (eBin dIx (eName 0) (eC (.int 2))) (eC (.int 3)))) aNil)) [3] (gN 3) tYesD (eCall d_law_line (aCons (eName 0) (aCons (eBin dAdd (eC (.int 13)) (eBin dMul (eC (.int 3)) (eName 3))) aNil))))))
    (sSeq (sIf (tOf (eBin dEq (eBin dMod (eBin dIx (eName 0) (eC (.int 3))) (eC (.int 2))) (eC (.int 0)))) (sRet (eTup (aCons (eBin dAdd (eName 2) (eName 1)) (aCons (eBin dAdd (eName 4) (eName 1)) aNil)))) sNil)
    (sSeq (sSet 5 (eBin dMod (eBin dIx (eName 0) (eC (.int 4))) (eBin dAdd (eCall dLen (aCons (eName 1) aNil)) (eC (.int 1)))))
    (sRet (eTup (aCons (eBin dAdd (eBin dAdd (eSl (eName 1) oNone (oSome (eName 5))) (eSl (eName 2) oNone (oSome (eC (.int 1))))) (eSl (eName 1) (oSome (eName 5)) oNone)) (aCons (eBin dAdd (eBin dAdd (eSl (eName 1) oNone (oSome (eName 5))) (eSl (eName 4) oNone (oSome (eC (.int 1))))) (eSl (eName 1) (oSome (eName 5)) oNone)) aNil))))))))
def d_fewest : List D → R D := runD 3 3 (sSeq (sExpr (eCall d_look_two (aCons (eName 0) (aCons (eName 1) aNil))))
    (sSeq (sExpr (eCall d_look_stream (aCons (eName 2) aNil)))
    (sRet (eCall d_fewest_by (aCons (eName 0) (aCons (eCall d_kept_of (aCons (eName 0) (aCons (eName 1) aNil))) (aCons (eCall d_kept_of (aCons (eName 0) (aCons (eName 2) aNil))) aNil)))))))
def d_law_told_apart : List D → R D := runD 5 4 (sSeq (sFor (aItems (eName 0)) (gN 4)
    (sIf (tOf (eBin dNe (eCall d_law_answer (aCons (eName 4) (aCons (eBin dAdd (eName 1) (eName 3)) aNil))) (eCall d_law_answer (aCons (eName 4) (aCons (eBin dAdd (eName 2) (eName 3)) aNil))))) (sRet (eC (.bl true))) sNil))
    (sRet (eC (.bl false))))
def d_is_idle : List D → R D := runD 5 4 (sSeq (sFor (aItems (eCall d_all_rows aNil)) (gN 4)
    (sIf (tOf (eBin dNe (eCall d_kept_of (aCons (eName 0) (aCons (eBin dAdd (eBin dAdd (eSl (eName 1) oNone (oSome (eName 3))) (eLst (aCons (eName 4) aNil))) (eSl (eName 1) (oSome (eBin dAdd (eName 3) (eC (.int 1)))) oNone)) aNil))) (eName 2))) (sRet (eC (.bl false))) sNil))
    (sRet (eC (.bl true))))
def d_idle : List D → R D := runD 4 2 (sSeq (sExpr (eCall d_look_two (aCons (eName 0) (aCons (eName 1) aNil))))
    (sSeq (sSet 2 (eCall d_kept_of (aCons (eName 0) (aCons (eName 1) aNil))))
    (sRet (eLst (aComp (aRng dRng1 (aCons (eCall dLen (aCons (eName 1) aNil)) aNil)) [3] (gN 3) (tTru (eCall d_is_idle (aCons (eName 0) (aCons (eName 1) (aCons (eName 2) (aCons (eName 3) aNil)))))) (eName 3))))))
def d_gathered_start : List D → R D := runD 2 1 (sSeq (sSet 1 (eBin dIx (eName 0) (eC (.int 0))))
    (sSeq (sIf (tOf (eBin dIn (eName 1) (eTup (aCons (eC (.str "many")) (aCons (eC (.str "sum")) aNil))))) (sRet (eC (.int 0))) sNil)
    (sSeq (sIf (tOf (eBin dEq (eName 1) (eC (.str "second")))) (sRet (eTup (aCons (eC .non) (aCons (eC .non) aNil)))) sNil)
    (sSeq (sIf (tOf (eBin dEq (eName 1) (eC (.str "kinds")))) (sRet (eC (.str ""))) sNil)
    (sRet (eIf (tOf (eBin dEq (eName 1) (eC (.str "run")))) (eTup (aCons (eC (.str "")) (aCons (eC (.int 0)) (aCons (eC (.int 0)) (aCons (eC (.str "")) (aCons (eC (.int 0)) (aCons (eC (.int 0)) aNil))))))) (eC .non)))))))
def d_run_with : List D → R D := runD 8 2 (sSeq (sAsg (eName 0) (gT (gsCons (gN 2) (gsCons (gN 3) (gsCons (gN 4) (gsCons (gN 5) (gsCons (gN 6) (gsCons (gN 7) gsNil))))))))
    (sSeq (sSet 6 (eIf (tOf (eBin dEq (eName 1) (eC (.str "")))) (eC (.int 0)) (eIf (tAndD (tOf (eBin dEq (eName 1) (eName 5))) (tOf (eBin dGt (eName 7) (eC (.int 0))))) (eBin dAdd (eName 6) (eC (.int 1))) (eC (.int 1)))))
    (sSeq (sIf (tOrD (tOf (eBin dEq (eName 7) (eC (.int 0)))) (tAndD (tOf (eBin dEq (eName 3) (eName 7))) (tAndD (tOf (eBin dEq (eName 1) (eName 2))) (tOf (eBin dNe (eName 1) (eC (.str ""))))))) (sPar 2 3 (aCons (eName 1) (aCons (eName 6) aNil))) sNil)
    (sRet (eTup (aCons (eName 2) (aCons (eName 3) (aCons (eCall dMax2 (aCons (eName 4) (aCons (eName 6) aNil))) (aCons (eName 1) (aCons (eName 6) (aCons (eBin dAdd (eName 7) (eC (.int 1))) aNil)))))))))))
def d_gathered_with : List D → R D := runD 5 3 (sSeq (sSet 3 (eBin dIx (eName 0) (eC (.int 0))))
    (sSeq (sSet 4 (eCall d_sees (aCons (eName 0) (aCons (eName 2) aNil))))
    (sSeq (sIf (tOf (eBin dEq (eName 3) (eC (.str "run")))) (sRet (eCall d_run_with (aCons (eName 1) (aCons (eIf (tTru (eName 4)) (eBin dIx (eName 2) (eC (.int 0))) (eC (.str ""))) aNil)))) sNil)
    (sSeq (sIf (tNotD (tTru (eName 4))) (sRet (eName 1)) sNil)
    (sSeq (sIf (tOf (eBin dEq (eName 3) (eC (.str "second")))) (sRet (eCall d_top_two (aCons (eName 1) (aCons (eBin dIx (eName 2) (eC (.int 1))) aNil)))) sNil)
    (sSeq (sIf (tOf (eBin dEq (eName 3) (eC (.str "kinds")))) (sRet (eCall d_with_key (aCons (eName 1) (aCons (eBin dIx (eName 2) (eC (.int 0))) aNil)))) sNil)
    (sSeq (sIf (tOf (eBin dIn (eName 3) (eTup (aCons (eC (.str "many")) (aCons (eC (.str "sum")) aNil))))) (sRet (eBin dAdd (eName 1) (eCall d_part_of (aCons (eName 0) (aCons (eName 2) aNil))))) sNil)
    (sSeq (sIf (tOf (eBin dEq (eName 3) (eC (.str "last")))) (sRet (eBin dIx (eName 2) (eC (.int 1)))) sNil)
    (sRet (eIf (tOf (eBin dEq (eName 3) (eC (.str "most")))) (eCall d_greater (aCons (eName 1) (aCons (eBin dIx (eName 2) (eC (.int 1))) aNil))) (eCall d_lesser (aCons (eName 1) (aCons (eBin dIx (eName 2) (eC (.int 1))) aNil)))))))))))))
def d_keep_by : List D → R D := runD 2 2 (sSeq (sIf (tOf (eBin dEq (eBin dIx (eName 0) (eC (.int 0))) (eC (.str "run")))) (sRet (eTup (aCons (eTup (aCons (eBin dIx (eName 1) (eC (.int 2))) aNil)) (aCons (eBin dIx (eName 1) (eC (.int 3))) (aCons (eBin dIx (eName 1) (eC (.int 4))) aNil))))) sNil)
    (sRet (eIf (tOf (eBin dIn (eBin dIx (eName 0) (eC (.int 0))) (eTup (aCons (eC (.str "second")) (aCons (eC (.str "kinds")) aNil))))) (eName 1) (eTup (aCons (eName 1) aNil)))))
def v_MOST_LETTERS : D := .int 4
abbrev c_MOST_LETTERS : Ex := eC v_MOST_LETTERS
def v_MOST_LENGTH : D := .int 6
abbrev c_MOST_LENGTH : Ex := eC v_MOST_LENGTH
def d_law_streams : List D → R D := runD 7 2 (sSeq (sSet 2 (eLst (aCons (eLst aNil) aNil)))
    (sSeq (sFor (aRng dRng1 (aCons (eName 1) aNil)) (gN 3)
    (sSeq (sSet 4 (eLst aNil))
    (sSeq (sFor (aItems (eName 2)) (gN 5)
    (sSet 4 (eBin dAdd (eName 4) (eLst (aComp (aItems (eName 0)) [6] (gN 6) tYesD (eBin dAdd (eName 5) (eLst (aCons (eName 6) aNil))))))))
    (sSet 2 (eName 4)))))
    (sRet (eName 2))))
def d_wall : List D → R D := runD 1 1 (sWhile 100000 (tTru (eC (.bl true)))
    sPass)
def d_law_deeds : List D → R D := runD 9 2 (sSeq (sSet 2 (eCall d_law_row (aCons (eName 0) (aCons (eName 1) aNil))))
    (sSeq (sOwn 3 aNil)
    (sSeq (sFor (aRng dRng1 (aCons (eBin dAdd (eC (.int 4)) (eBin dMod (eBin dIx (eName 2) (eC (.int 0))) (eC (.int 15)))) aNil)) (gN 4)
    (sSeq (sSet 5 (eBin dAdd (eC (.int 1)) (eBin dMul (eC (.int 3)) (eName 4))))
    (sSeq (sSet 6 (eBin dMod (eBin dIx (eName 2) (eBin dMod (eName 5) (eC (.int 60)))) (eC (.int 10))))
    (sSeq (sSet 7 (eBin dEq (eBin dMod (eBin dIx (eName 2) (eBin dMod (eBin dAdd (eName 5) (eC (.int 1))) (eC (.int 60)))) (eC (.int 8))) (eC (.int 0))))
    (sIf (tOf (eBin dLt (eName 6) (eC (.int 6)))) (sApp 3 (eTup (aCons (eC (.str "read")) (aCons (eIf (tTru (eName 7)) (eBin dIx (eLst (aCons (eC .non) (aCons (eTup (aCons (eC (.str "e")) (aCons (eC (.int 1)) aNil))) (aCons (eTup (aCons (eC (.str "a")) (aCons (eC (.int 4)) aNil))) aNil)))) (eBin dMod (eBin dIx (eName 2) (eBin dMod (eName 5) (eC (.int 60)))) (eC (.int 3)))) (eCall d_law_line (aCons (eName 2) (aCons (eBin dAdd (eName 5) (eC (.int 1))) aNil)))) aNil)))) (sIf (tOf (eBin dEq (eName 6) (eC (.int 6)))) (sSeq (sSet 8 (eCall d_law_question (aCons (eName 2) (aCons (eBin dAdd (eName 5) (eC (.int 1))) aNil))))
    (sApp 3 (eTup (aCons (eC (.str "add")) (aCons (eIf (tTru (eName 7)) (eSl (eName 8) oNone (oSome (eC (.int 4)))) (eName 8)) aNil))))) (sIf (tOf (eBin dEq (eName 6) (eC (.int 7)))) (sApp 3 (eTup (aCons (eC (.str "drop")) (aCons (eIf (tTru (eName 7)) (eBin dIx (eLst (aCons (eC (.int 4)) (aCons (eNeg (eC (.int 1))) (aCons (eC .non) (aCons (eC (.bl true)) aNil))))) (eBin dMod (eBin dIx (eName 2) (eBin dMod (eName 5) (eC (.int 60)))) (eC (.int 4)))) (eBin dMod (eBin dIx (eName 2) (eBin dMod (eBin dAdd (eName 5) (eC (.int 2))) (eC (.int 60)))) (eC (.int 4)))) aNil)))) (sApp 3 (eTup (aCons (eC (.str "back")) aNil))))))))))
    (sRel 3 (sRet (eName 3))))))
def d_law_old : List D → R D := runD 4 3 (sSeq (sSet 3 (eBin dIx (eName 0) (eC (.int 4))))
    (sSeq (sIf (tOf (eBin dEq (eName 3) (eC (.int 0)))) (sRet (eName 1)) sNil)
    (sRet (eIf (tOf (eBin dLt (eName 2) (eName 3))) (eSl (eName 1) (oSome (eCall dMax2 (aCons (eC (.int 0)) (aCons (eBin dAdd (eBin dSub (eCall dLen (aCons (eName 1) aNil)) (eName 3)) (eName 2)) aNil)))) oNone) (eLst aNil)))))
def d_law_ending : List D → R D := runD 3 2 (sSeq (sSet 2 (eC (.int 0)))
    (sSeq (sWhile 100000 (tAndD (tOf (eBin dLt (eName 2) (eCall dLen (aCons (eName 1) aNil)))) (tAndD (tTru (eCall d_law_sees (aCons (eName 0) (aCons (eBin dIx (eName 1) (eBin dSub (eNeg (eC (.int 1))) (eName 2))) aNil)))) (tOf (eBin dEq (eBin dIx (eBin dIx (eName 1) (eBin dSub (eNeg (eC (.int 1))) (eName 2))) (eC (.int 0))) (eBin dIx (eBin dIx (eName 1) (eNeg (eC (.int 1)))) (eC (.int 0)))))))
    (sSet 2 (eBin dAdd (eName 2) (eC (.int 1)))))
    (sSeq (sIf (tOf (eBin dGt (eBin dIx (eName 0) (eC (.int 4))) (eC (.int 0)))) (sSet 2 (eCall dMin2 (aCons (eName 2) (aCons (eBin dSub (eBin dIx (eName 0) (eC (.int 4))) (eC (.int 1))) aNil)))) sNil)
    (sRet (eLst (aCons (eIf (tOf (eBin dGt (eName 2) (eC (.int 0)))) (eBin dIx (eBin dIx (eName 1) (eNeg (eC (.int 1)))) (eC (.int 0))) (eC (.str ""))) (aCons (eName 2) aNil)))))))
end JK

/-! LayZ1 -/
set_option Elab.async false
set_option linter.all false
set_option maxRecDepth 100000
set_option autoImplicit false
/-! enumerate over whatever its inner iterator gives; zip, its own tuple free or not -/
namespace JK
open PySem PySem.Spec PyProof.Rows
section
variable {prog : Program} {w : World} {A : Around} {E : Value → Shared → Prop} {s : Shared}
set_option maxHeartbeats 4000000
/-- one turn of enumerate: what the inner next gives goes into a new tuple -/
theorem enumStep {e it : Addr} {c : Int} {old : Value} {Q : Value → Shared → Prop} (he : IsEnum s.heap e it c old)
    (inner : wpAny (model prog w) A (Builtin.SmallTypes.nextOf (.ref it)) (fun x s1 => IsEnum s1.heap e it c old ∧ ∀ h2 tk, IsEnumOut h2 e it (c + 1) x s1.heap.objs.size →
      IsTupOf2 h2 s1.heap.objs.size (.int c tk) x → (∀ b o, b ≠ e → s1.heap.get? b = some o → h2.get? b = some o) → Q (.ref s1.heap.objs.size) { s1 with heap := h2, toks := tk + 1 }) E s) :
    wpAny (model prog w) A (Builtin.«enumerate.__next__» ⟨[.ref e], []⟩) (fun fin s' => ∃ v, fin = .done (.ret v) ∧ Q v s') E s := by
  unfold Builtin.«enumerate.__next__»
  generalize nx : Builtin.SmallTypes.nextOf = NX at inner ⊢
  wp_walk
  refine wpAny_mono inner (fun x s1 got => ?_) fun _ _ z => z
  obtain ⟨he1, fin⟩ := got
  clear inner
  generalize ow : Builtin.SmallTypes.ownedTupleIsFree = OW
  wp_walk
  subst ow
  have size : ((s1.heap.update e (Obj.mapFields fun x => x.setIfInBounds 3 (rawInt (c + 1)))).update e (Obj.mapFields fun x => x.setIfInBounds 4 Value.none)).objs.size = s1.heap.objs.size := by
    rw [Heap.size_after_update, Heap.size_after_update]
  simp only [size]
  have small : e ≠ s1.heap.objs.size := Nat.ne_of_lt (Heap.lt_size he1)
  generalize hh : Heap.push _ _ = h2
  have at2 : IsEnum h2 e it (c + 1) old := by
    rw [← hh]
    refine Heap.get?_push_of_some _ ?_
    rw [Heap.get?_update_self _ (Heap.get?_update_self _ he1 rfl) rfl]
    simp [Obj.mapFields]
  have new2 : IsTupOf2 h2 s1.heap.objs.size (.int c s1.toks) x := by
    rw [← hh]; rw [← size]; exact Heap.get?_push_size _ rfl
  have rest2 : ∀ b o, b ≠ e → s1.heap.get? b = some o → h2.get? b = some o := fun b o ne q => by
    rw [← hh]
    refine Heap.get?_push_of_some _ ?_
    rw [Heap.get?_update_other _ _ ne.symm, Heap.get?_update_other _ _ ne.symm]
    exact q
  clear hh size
  wp_walk
  refine ⟨_, rfl, fin _ _ ?_ ?_ fun b o ne q => ?_⟩
  · rw [IsEnumOut, Heap.get?_update_self _ (Heap.get?_update_self _ (Heap.get?_update_self _ at2 rfl) rfl) rfl]
    simp [Obj.mapFields]
  · rw [IsTupOf2, Heap.get?_update_other _ _ small, Heap.get?_update_other _ _ small, Heap.get?_update_other _ _ small]
    exact new2
  · rw [Heap.get?_update_other _ _ ne.symm, Heap.get?_update_other _ _ ne.symm, Heap.get?_update_other _ _ ne.symm]
    exact rest2 b o ne q
/-- a zip, its own tuple out or not -/
abbrev zipO (f0 : Value) (f : Bool) (TI TO : Addr) : Obj := { cls := .type "zip", data := .fields #[f0, .bool f, .bool false, .ref TI, .ref TO] }
def F0 (f0 : Value) : Prop := f0 = .none ∨ ∃ T : Nat, f0 = rawInt T
theorem looked {a : Addr} {Q : Option Obj → Shared → Prop} (q : Q (s.heap.get? a) s) : wpAny (model prog w) A (Sem.loadIfAlive a Sem.pure) Q E s := fun _ _ _ => q
/-- both answers to whether its own tuple is free -/
theorem freeOr {z TI TO : Addr} {f0 : Value} {f : Bool} {Q : Bool → Shared → Prop} (hz : s.heap.get? z = some (zipO f0 f TI TO)) (hf : F0 f0)
    (fin : ∀ b f' h', h'.get? z = some (zipO f0 f' TI TO) → Heap.SameBut z s.heap h' → Q b { s with heap := h' }) : wpAny (model prog w) A (Builtin.SmallTypes.ownedTupleIsFree (.ref z)) Q E s := by
  rcases hf with rfl | ⟨T, rfl⟩
  · wp_walk
    exact fin true f s.heap hz (Heap.SameBut.refl _ _)
  · wp_walk
    refine looked ?_
    cases s.heap.get? (T : Int).toNat with
    | none =>
      wp_walk
      exact fin true f s.heap hz (Heap.SameBut.refl _ _)
    | some o =>
      cases f
      · wp_walk
        refine fin false true _ ?_ (Heap.SameBut.update ..)
        rw [Heap.get?_update_self _ hz rfl]
        simp [Obj.mapFields]
      · wp_walk
        exact fin false true s.heap hz (Heap.SameBut.refl _ _)
/-- what a zip of two is at -/
def ZipAt (h : Heap) (z TI TO i1 i2 : Addr) : Prop := ∃ f0 f a b, F0 f0 ∧ h.get? z = some (zipO f0 f TI TO) ∧ IsTupOf2 h TI (.ref i1) (.ref i2) ∧ IsTupOf2 h TO a b
theorem zipStep {z TI TO i1 i2 : Addr} {fp1 fp2 : List Addr} {n1 n2 i : Nat} {P1 P2 : Nat → Value → Prop} {St1 St2 : Nat → Heap → Prop} {Q : Value → Shared → Prop} (S : ZipSep2 z TI TO i1 i2 fp1 fp2)
    (D1 : Draws prog w A i1 fp1 n1 P1 St1) (D2 : Draws prog w A i2 fp2 n2 P2 St2) (hz : ZipAt s.heap z TI TO i1 i2) (st1 : St1 i s.heap) (st2 : St2 i s.heap) (l1 : i < n1) (l2 : i < n2)
    (fin : ∀ x y h' tk T, P1 i x → P2 i y → ZipAt h' z TI TO i1 i2 → St1 (i + 1) h' → St2 (i + 1) h' → s.heap.objs.size ≤ T → IsTupOf2 h' T x y →
      (∀ b o, b ∉ [z, TO, i1, i2] → s.heap.get? b = some o → h'.get? b = some o) → Q (.ref T) { s with heap := h', toks := tk }) :
    wpAny (model prog w) A (Builtin.«zip.__next__» ⟨[.ref z], []⟩) (fun fin s' => ∃ v, fin = .done (.ret v) ∧ Q v s') E s := by
  obtain ⟨f0, f, a, b, hf, hz, hI, hO⟩ := hz
  unfold Builtin.«zip.__next__»
  generalize ow : Builtin.SmallTypes.ownedTupleIsFree = OW
  wp_walk
  subst ow
  refine freeOr hz hf fun free f' h0 hz0 same0 => ?_
  have hI0 : IsTupOf2 h0 TI (.ref i1) (.ref i2) := same0.extBut _ _ S.TIz hI
  have hO0 : IsTupOf2 h0 TO a b := same0.extBut _ _ S.TOz hO
  have st10 : St1 i h0 := D1.over st1 same0 S.zf1
  have st20 : St2 i h0 := D2.over st2 same0 S.zf2
  cases free
  · simp only [Bool.false_eq_true, if_false]
    rw [← Array.forIn_toList]
    simp only [List.forIn_cons, List.forIn_nil]
    refine wpAny_bind (wpAny_bind (wpAny_bind (wpAny_holding ?_)))
    show wpAny _ _ (Builtin.SmallTypes.nextOf (.ref i1) >>= _) _ _ _
    refine wpAny_bind (D1.item i _ _ _ l1 st10 fun x h1 tk1 px st11 same1 => ?_)
    replace same1 : Heap.SameBut i1 h0 h1 := same1
    refine wpAny_pure (wpAny_pure ?_)
    refine wpAny_bind (wpAny_bind (wpAny_holding ?_))
    show wpAny _ _ (Builtin.SmallTypes.nextOf (.ref i2) >>= _) _ _ _
    refine wpAny_bind (D2.item i _ _ _ l2 (D2.over st20 same1 S.sep1_2) fun y h2 tk2 py st22 same2 => ?_)
    replace same2 : Heap.SameBut i2 h1 h2 := same2
    wp_walk
    have hz2 := same2.extBut _ _ S.zi2 (same1.extBut _ _ S.zi1 hz0)
    have hI2 : IsTupOf2 h2 TI (.ref i1) (.ref i2) := same2.extBut _ _ S.TIi2 (same1.extBut _ _ S.TIi1 hI0)
    have hO2 : IsTupOf2 h2 TO a b := same2.extBut _ _ S.Ti2 (same1.extBut _ _ S.Ti1 hO0)
    have up : ∀ c o, h2.get? c = some o → (h2.push { cls := .type "tuple", data := .seq #[x, y] }).get? c = some o := fun c o q => Heap.get?_push_of_some _ q
    refine ⟨_, rfl, fin x y _ tk2 _ px py ⟨f0, f', a, b, hf, up _ _ hz2, up _ _ hI2, up _ _ hO2⟩ (D1.frame _ _ _ (D1.over st11 same2 S.sep2_1) fun c _ o q => up c o q) (D2.frame _ _ _ st22 fun c _ o q => up c o q) ?_ (Heap.get?_push_size _ rfl) fun c o nc q => up c o ?_⟩
    · rw [same2.1, same1.1, same0.1]; exact Nat.le_refl _
    · simp only [List.mem_cons, List.not_mem_nil, or_false, not_or] at nc
      exact same2.extBut _ _ nc.2.2.2 (same1.extBut _ _ nc.2.2.1 (same0.extBut _ _ nc.1 q))
  · simp only [if_true]
    refine wpAny_bind (wpAny_rule (wpAny_bind (wpAny_field hz0 rfl (x := .ref TO) rfl ?_)))
    refine wpAny_bind (wpAny_setField_rec hz0 (by simp) fun h3 hz3 same3 => ?_)
    replace hz3 : h3.get? z = some (zipO .ellipsis f' TI TO) := hz3
    replace same3 : Heap.SameBut z h0 h3 := same3
    simp only [List.zipIdx, List.forIn_cons, List.forIn_nil]
    refine wpAny_bind (wpAny_bind (wpAny_bind (wpAny_onRaise ?_)))
    show wpAny _ _ (Builtin.SmallTypes.nextOf (.ref i1) >>= _) _ _ _
    refine wpAny_bind (D1.item i _ _ _ l1 (D1.over st10 same3 S.zf1) fun x h1 tk1 px st11 same1 => ?_)
    replace same1 : Heap.SameBut i1 h3 h1 := same1
    have hO1 : IsTupOf2 h1 TO a b := same1.extBut _ _ S.Ti1 (same3.extBut _ _ S.TOz hO0)
    refine wpAny_pure (wpAny_bind (wpAny_seqItems hO1 rfl ?_))
    refine wpAny_bind (updateSeq_IsTupOf2 hO1 fun h4 hO4 same4 => ?_)
    replace same4 : Heap.SameBut TO h1 h4 := same4
    replace hO4 : IsTupOf2 h4 TO x b := hO4
    refine wpAny_bind (wpAny_letGo (wpAny_pure ?_))
    refine wpAny_bind (wpAny_bind (wpAny_onRaise ?_))
    show wpAny _ _ (Builtin.SmallTypes.nextOf (.ref i2) >>= _) _ _ _
    have st24 : St2 i h4 := D2.over (D2.over (D2.over st20 same3 S.zf2) same1 S.sep1_2) same4 S.Tf2
    refine wpAny_bind (D2.item i _ _ _ l2 st24 fun y h5 tk5 py st25 same5 => ?_)
    replace same5 : Heap.SameBut i2 h4 h5 := same5
    have hO5 : IsTupOf2 h5 TO x b := same5.extBut _ _ S.Ti2 hO4
    refine wpAny_pure (wpAny_bind (wpAny_seqItems hO5 rfl ?_))
    refine wpAny_bind (updateSeq_IsTupOf2 hO5 fun h6 hO6 same6 => ?_)
    replace same6 : Heap.SameBut TO h5 h6 := same6
    replace hO6 : IsTupOf2 h6 TO x y := hO6
    refine wpAny_bind (wpAny_letGo (wpAny_pure (wpAny_pure ?_)))
    have hz6 := same6.extBut _ _ S.TOz.symm (same5.extBut _ _ S.zi2 (same4.extBut _ _ S.TOz.symm (same1.extBut _ _ S.zi1 hz3)))
    have old : ∀ c o, c ≠ z → c ≠ TO → c ≠ i1 → c ≠ i2 → s.heap.get? c = some o → h6.get? c = some o := fun c o e1 e2 e3 e4 q =>
      same6.extBut _ _ e2 (same5.extBut _ _ e4 (same4.extBut _ _ e2 (same1.extBut _ _ e3 (same3.extBut _ _ e1 (same0.extBut _ _ e1 q)))))
    have st16 : St1 (i + 1) h6 := D1.over (D1.over (D1.over st11 same4 S.Tf1) same5 S.sep2_1) same6 S.Tf1
    have st26 : St2 (i + 1) h6 := D2.over st25 same6 S.Tf2
    have size6 : h6.objs.size = s.heap.objs.size := by rw [same6.1, same5.1, same4.1, same1.1, same3.1, same0.1]
    clear same6 same5 same4 same1 same3 same0 hO5 hO4 hO1 hO0 st24 st25 st11 hz3 st10 st20 hI0 hz0
    wp_walk
    have nz : z ≠ h6.objs.size := Nat.ne_of_lt (Heap.lt_size hz6)
    generalize hh : h6.push _ = h7
    have up : ∀ c o, h6.get? c = some o → h7.get? c = some o := fun c o q => by rw [← hh]; exact Heap.get?_push_of_some _ q
    have new7 : IsTupOf2 h7 h6.objs.size x y := by rw [← hh]; exact Heap.get?_push_size _ rfl
    have hz7 := up _ _ hz6
    have by_ : ∀ c o, c ≠ z → h7.get? c = some o → ((h7.update z (Obj.mapFields fun x => x.setIfInBounds 0 (rawInt h6.objs.size))).update z (Obj.mapFields fun x => x.setIfInBounds 1 (Value.bool false))).get? c = some o := fun c o nc q => by
      rw [Heap.get?_update_other _ _ nc.symm, Heap.get?_update_other _ _ nc.symm]; exact q
    refine ⟨_, rfl, fin x y _ tk5 _ px py ⟨rawInt h6.objs.size, false, x, y, .inr ⟨_, rfl⟩, ?_, by_ _ _ S.TIz (up _ _ ?_), by_ _ _ S.TOz (up _ _ hO6)⟩ (D1.frame _ _ _ st16 fun c hc o q => by_ c o (fun e => S.zf1 (e ▸ hc)) (up c o q)) (D2.frame _ _ _ st26 fun c hc o q => by_ c o (fun e => S.zf2 (e ▸ hc)) (up c o q)) (Nat.le_of_eq size6.symm) (by_ _ _ nz.symm new7) fun c o nc q => ?_⟩
    · rw [Heap.get?_update_self _ (Heap.get?_update_self _ hz7 rfl) rfl]
      simp [Obj.mapFields]
    · exact old _ _ S.TIz S.TITO S.TIi1 S.TIi2 hI
    · simp only [List.mem_cons, List.not_mem_nil, or_false, not_or] at nc
      exact by_ c o nc.1 (up c o (old c o nc.1 nc.2.1 nc.2.2.1 nc.2.2.2 q))
/-- the end of a zip -/
theorem zipEnd {z TI TO i1 i2 : Addr} {fp1 fp2 : List Addr} {n1 n2 i : Nat} {P1 P2 : Nat → Value → Prop} {St1 St2 : Nat → Heap → Prop} {Q : PySem.Fin → Shared → Prop} (S : ZipSep2 z TI TO i1 i2 fp1 fp2)
    (D1 : Draws prog w A i1 fp1 n1 P1 St1) (D2 : Draws prog w A i2 fp2 n2 P2 St2) (hz : ZipAt s.heap z TI TO i1 i2) (st1 : St1 i s.heap) (st2 : St2 i s.heap) (at_ : i = min n1 n2)
    (fin : ∀ h' tk e, (∀ b o, b ∉ [z, TO, i1, i2] → s.heap.get? b = some o → h'.get? b = some o) → (∃ o, h'.get? e = some o ∧ o.cls = .type "StopIteration") → E (.ref e) { s with heap := h', toks := tk }) :
    wpAny (model prog w) A (Builtin.«zip.__next__» ⟨[.ref z], []⟩) Q E s := by
  obtain ⟨f0, f, a, b, hf, hz, hI, hO⟩ := hz
  unfold Builtin.«zip.__next__»
  generalize ow : Builtin.SmallTypes.ownedTupleIsFree = OW
  wp_walk
  subst ow
  refine freeOr hz hf fun free f' h0 hz0 same0 => ?_
  have hO0 : IsTupOf2 h0 TO a b := same0.extBut _ _ S.TOz hO
  have st10 : St1 i h0 := D1.over st1 same0 S.zf1
  have st20 : St2 i h0 := D2.over st2 same0 S.zf2
  cases free
  · simp only [Bool.false_eq_true, if_false]
    rw [← Array.forIn_toList]
    simp only [List.forIn_cons, List.forIn_nil]
    refine wpAny_bind (wpAny_bind (wpAny_bind (wpAny_holding ?_)))
    show wpAny _ _ (Builtin.SmallTypes.nextOf (.ref i1) >>= _) _ _ _
    by_cases l1 : i < n1
    · refine wpAny_bind (D1.item i _ _ _ l1 st10 fun x h1 tk1 px st11 same1 => ?_)
      replace same1 : Heap.SameBut i1 h0 h1 := same1
      refine wpAny_pure (wpAny_pure ?_)
      refine wpAny_bind (wpAny_bind (wpAny_holding ?_))
      show wpAny _ _ (Builtin.SmallTypes.nextOf (.ref i2) >>= _) _ _ _
      have e2 : i = n2 := by omega
      subst e2
      refine wpAny_bind (D2.done _ _ _ (D2.over st20 same1 S.sep1_2) fun h2 e ext2 stop => fin h2 tk1 e (fun c o nc q => ?_) stop)
      simp only [List.mem_cons, List.not_mem_nil, or_false, not_or] at nc
      exact ext2 _ _ nc.2.2.2 (same1.extBut _ _ nc.2.2.1 (same0.extBut _ _ nc.1 q))
    · have e1 : i = n1 := by omega
      subst e1
      refine wpAny_bind (D1.done _ _ _ st10 fun h1 e ext1 stop => fin h1 s.toks e (fun c o nc q => ?_) stop)
      simp only [List.mem_cons, List.not_mem_nil, or_false, not_or] at nc
      exact ext1 _ _ nc.2.2.1 (same0.extBut _ _ nc.1 q)
  · simp only [if_true]
    refine wpAny_bind (wpAny_rule (wpAny_bind (wpAny_field hz0 rfl (x := .ref TO) rfl ?_)))
    refine wpAny_bind (wpAny_setField_rec hz0 (by simp) fun h3 hz3 same3 => ?_)
    replace hz3 : h3.get? z = some (zipO .ellipsis f' TI TO) := hz3
    replace same3 : Heap.SameBut z h0 h3 := same3
    simp only [List.zipIdx, List.forIn_cons, List.forIn_nil]
    refine wpAny_bind (wpAny_bind (wpAny_bind (wpAny_onRaise ?_)))
    show wpAny _ _ (Builtin.SmallTypes.nextOf (.ref i1) >>= _) _ _ _
    have st13 : St1 i h3 := D1.over st10 same3 S.zf1
    by_cases l1 : i < n1
    · refine wpAny_bind (D1.item i _ _ _ l1 st13 fun x h1 tk1 px st11 same1 => ?_)
      replace same1 : Heap.SameBut i1 h3 h1 := same1
      have hO1 : IsTupOf2 h1 TO a b := same1.extBut _ _ S.Ti1 (same3.extBut _ _ S.TOz hO0)
      refine wpAny_pure (wpAny_bind (wpAny_seqItems hO1 rfl ?_))
      refine wpAny_bind (updateSeq_IsTupOf2 hO1 fun h4 hO4 same4 => ?_)
      replace same4 : Heap.SameBut TO h1 h4 := same4
      refine wpAny_bind (wpAny_letGo (wpAny_pure ?_))
      refine wpAny_bind (wpAny_bind (wpAny_onRaise ?_))
      show wpAny _ _ (Builtin.SmallTypes.nextOf (.ref i2) >>= _) _ _ _
      have e2 : i = n2 := by omega
      subst e2
      have st24 := D2.over (D2.over (D2.over st20 same3 S.zf2) same1 S.sep1_2) same4 S.Tf2
      refine wpAny_bind (D2.done _ _ _ st24 fun h5 e ext5 stop => ?_)
      have hz5 := ext5 _ _ S.zi2 (same4.extBut _ _ S.TOz.symm (same1.extBut _ _ S.zi1 hz3))
      refine wpAny_setField_rec hz5 (by simp) fun h6 _ same6 => ?_
      obtain ⟨o, ho, hc⟩ := stop
      have ne : e ≠ z := fun q => by
        rw [q] at ho
        rw [hz5] at ho
        cases ho
        injection hc with hc
        exact absurd hc (by decide)
      refine fin h6 tk1 e (fun c o nc q => ?_) ⟨o, same6.extBut _ _ ne ho, hc⟩
      simp only [List.mem_cons, List.not_mem_nil, or_false, not_or] at nc
      exact same6.extBut _ _ nc.1 (ext5 _ _ nc.2.2.2 (same4.extBut _ _ nc.2.1 (same1.extBut _ _ nc.2.2.1 (same3.extBut _ _ nc.1 (same0.extBut _ _ nc.1 q)))))
    · have e1 : i = n1 := by omega
      subst e1
      refine wpAny_bind (D1.done _ _ _ st13 fun h5 e ext5 stop => ?_)
      have hz5 := ext5 _ _ S.zi1 hz3
      refine wpAny_setField_rec hz5 (by simp) fun h6 _ same6 => ?_
      obtain ⟨o, ho, hc⟩ := stop
      have ne : e ≠ z := fun q => by
        rw [q] at ho
        rw [hz5] at ho
        cases ho
        injection hc with hc
        exact absurd hc (by decide)
      refine fin h6 s.toks e (fun c o nc q => ?_) ⟨o, same6.extBut _ _ ne ho, hc⟩
      simp only [List.mem_cons, List.not_mem_nil, or_false, not_or] at nc
      exact same6.extBut _ _ nc.1 (ext5 _ _ nc.2.2.1 (same3.extBut _ _ nc.1 (same0.extBut _ _ nc.1 q)))
end
end JK

/-! LayZ -/
set_option Elab.async false
set_option linter.all false
set_option maxRecDepth 100000
set_option autoImplicit false
/-! for at, (x, y) in enumerate(zip(a, b)) -/
namespace JK
open PySem PySem.Spec PyProof.Rows L2
def ItEZ (K : PySem.W.Frag) (t1 : Bool) (a1 : Addr) (t2 : Bool) (a2 : Addr) : It :=
  ⟨fun i H => ∃ (xs ys : List V) (x y : V), SqX K H t1 a1 xs ∧ SqX K H t2 a2 ys ∧ xs[i]? = some x ∧ ys[i]? = some y,
   fun i H v H' => ∃ T1 T2 x y, v = .ref T2 ∧ H T1 = none ∧ H T2 = none ∧ T2 ≠ T1 ∧ H' = upd (upd H T1 (.tup [x, y])) T2 (.tup [.int (i : Nat), .ref T1]) ∧ (∀ xs, SqX K H t1 a1 xs → xs[i]? = some x) ∧ ∀ ys, SqX K H t2 a2 ys → ys[i]? = some y,
   fun i H => ∃ xs ys : List V, SqX K H t1 a1 xs ∧ SqX K H t2 a2 ys ∧ i = min xs.length ys.length⟩
/-- enumerate of a zip -/
theorem enumZipMade {z TI TO : Addr} : Meets (Builtin.«enumerate.__new__» ⟨[.type "enumerate", .ref z], []⟩) (fun _ R s => IsZip s.heap z TI TO .none ∧ R (.ok (.ret (.ref s.heap.objs.size))) { s with heap := s.heap.push (enumNew z) }) := by
  refine .of_wp fun prog w A R s want => ?_
  obtain ⟨now, fin⟩ := want
  have below := sub_enumerate
  generalize pi : pyIter = PI
  wp_walk
  subst pi
  refine wpAny_stack_any fun frames => wpAny_pure ?_
  have iter : ∀ {Q : Value → Shared → Prop} {E : Value → Shared → Prop}, Q (.ref z) s → wpAny (model prog w) A.in1 (pyIter (.ref z)) Q E s := fun q => wpAny_pyIter_zip now q
  generalize pi : pyIter = PI at iter ⊢
  have way : ∀ (short : Bool) {X Y : Sem PySem.Fin} {Q : PySem.Fin → Shared → Prop} {E : Value → Shared → Prop}, wpAny (model prog w) A.in1 X Q E s → wpAny (model prog w) A.in1 Y Q E s → wpAny (model prog w) A.in1 (if short = true then X else Y) Q E s := fun short _ _ _ _ p q => by
    cases short
    · exact q
    · exact p
  refine way _ ?_ ?_
  all_goals
    wp_walk
    try (refine iter ?_)
    try wp_walk
  all_goals exact ⟨_, rfl, fin⟩
theorem ZipAt.at {h h' : Heap} {z TI TO i1 i2 : Addr} (a : ZipAt h z TI TO i1 i2) (k : ∀ b ∈ [z, TI, TO], ∀ o, h.get? b = some o → h'.get? b = some o) : ZipAt h' z TI TO i1 i2 := by
  obtain ⟨f0, f, x, y, hf, hz, hI, hO⟩ := a
  exact ⟨f0, f, x, y, hf, k z (by simp) _ hz, k TI (by simp) _ hI, k TO (by simp) _ hO⟩
theorem turn_enumzip {P : Program} {w : World} {K : PySem.W.Frag} {elts : List Expr} {kk : Nat} {tpos : Pos} {t1 t2 : Bool} {a1 a2 e z TI TO i1 i2 : Addr} (S : ZipSep2 z TI TO i1 i2 [i1, a1] [i2, a2]) (n1 : a1 ≠ i1) (n2 : a2 ≠ i2)
    (out : e ∉ [z, TO, i1, i2]) :
    Turn P w K (.Tuple elts kk tpos) (ItEZ K t1 a1 t2 a2) [e, z, TI, TO, i1, i2] e (fun i h => (∃ old, IsEnum h e z ((i : Nat) : Int) old) ∧ ZipAt h z TI TO i1 i2 ∧ ItX h t1 i1 a1 i ∧ ItX h t2 i2 a2 i) where
  mem := by simp
  obj := fun i h st b hb => by
    obtain ⟨⟨old, he⟩, ⟨f0, f, x, y, hf, hz, hI, hO⟩, h1, h2⟩ := st
    simp only [List.mem_cons, List.not_mem_nil, or_false] at hb
    rcases hb with q | q | q | q | q | q <;> rw [q]
    · exact ⟨_, he, fun v q => nomatch q⟩
    · exact ⟨_, hz, fun v q => nomatch q⟩
    · exact ⟨_, hI, fun v q => nomatch q⟩
    · exact ⟨_, hO, fun v q => nomatch q⟩
    · exact h1.obj
    · exact h2.obj
  keep := fun i h h' st k => by
    obtain ⟨⟨old, he⟩, hz, h1, h2⟩ := st
    refine ⟨⟨old, k e (by simp) _ he⟩, hz.at fun b hb => k b ?_, h1.at fun o q => k i1 (by simp) o q, h2.at fun o q => k i2 (by simp) o q⟩
    simp only [List.mem_cons, List.not_mem_nil, or_false] at hb ⊢
    rcases hb with q | q | q <;> simp [q]
  item := by
    intro X hP hw hK hc i pins s σ H E I hf st hg
    subst hP hw hK
    obtain ⟨⟨old, he⟩, hz, h1, h2⟩ := st
    obtain ⟨xs, ys, x, y, q1, q2, hx, hy⟩ := hg
    obtain ⟨its1, r1, s1, l1⟩ := sqX_get I q1
    obtain ⟨its2, r2, s2, l2⟩ := sqX_get I q2
    have hh := I.ok.hd hc
    have tyE : s.TypeIs (.ref e) "enumerate" := ⟨_, he, rfl⟩
    have tyZ : s.TypeIs (.ref z) "zip" := by obtain ⟨f0, f, _, _, _, hz, _⟩ := hz; exact ⟨_, hz, rfl⟩
    have low : ∀ b ∈ [e, z, TI, TO, i1, i2], b < s.heap.objs.size := fun b hb => by
      obtain ⟨f0, f, _, _, _, hz, hI, hO⟩ := hz
      simp only [List.mem_cons, List.not_mem_nil, or_false] at hb
      rcases hb with q | q | q | q | q | q <;> rw [q]
      · exact Heap.lt_size he
      · exact Heap.lt_size hz
      · exact Heap.lt_size hI
      · exact Heap.lt_size hO
      · obtain ⟨o, ho, _⟩ := h1.obj; exact Heap.lt_size ho
      · obtain ⟨o, ho, _⟩ := h2.obj; exact Heap.lt_size ho
    unfold pyNext
    refine wpAny_bind (wpAny_attempt (wpAny_callSpecial?_slot (name := Str.ofString "__next__") tyE F.slot_enumerate_next
      (wpAny_call_entry F.slot_enumerate_next tyE F.entry_enumerate_next (enumStep he ?_) (F.args_enumerate_next_1 _))))
    unfold Builtin.SmallTypes.nextOf
    refine wpAny_bind (wpAny_callSpecial?_slot (name := Str.ofString "__next__") tyZ F.slot_zip_next (wpAny_call_entry F.slot_zip_next tyZ F.entry_zip_next
      (zipStep S (drawsX (A := X.A.in1.in1) hh t1 i1 a1 n1 its1.toArray) (drawsX (A := X.A.in1.in1) hh t2 i2 a2 n2 its2.toArray) hz ⟨h1, s1⟩ ⟨h2, s2⟩ (get_len r1 hx) (get_len r2 hy) ?_) (F.args_zip_next_1 _)))
    intro u1 u2 ha tk U p1 p2 zat st1 st2 hU pair keep1
    have he1 : IsEnum ha e z ((i : Nat) : Int) old := keep1 e _ out he
    refine wpAny_pure ⟨he1, fun hb tk2 eo tup keep2 => ?_⟩
    replace keep2 : ∀ b o, b ≠ e → ha.get? b = some o → hb.get? b = some o := keep2
    refine wpAny_pure ⟨_, rfl, wpAny_letOwnedTupleGo_enum eo fun hd he' sb => ?_⟩
    replace sb : Heap.SameBut e hb hd := sb
    have zBig : ha.objs.size ≠ e := Nat.ne_of_gt (Heap.lt_size he1)
    have keep3 : ∀ b o, b ≠ e → ha.get? b = some o → hd.get? b = some o := fun b o nb q => (sb.2 b nb).trans (keep2 b o nb q)
    have tup3 : IsTupOf2 hd ha.objs.size (.int ((i : Nat) : Int) tk2) (.ref U) := (sb.2 _ zBig).trans tup
    have UT : U < ha.objs.size := Heap.lt_size pair
    have new1 : ObjOk X.prog X.w (upd H U (.tup [x, y])) ha U (.tup [x, y]) := ⟨by show 2 ≤ sizeLine; decide, [u1, u2], .cons (get_val r1 hx p1) (.cons (get_val r2 hy p2) .nil), ⟨_, pair, rfl, _, rfl⟩⟩
    have I1 : Inv X pins σ (upd H U (.tup [x, y])) { s with heap := ha, toks := tk } := I.turnedNew (ch := [z, TO, i1, i2]) keep1 (fun b hb => hf b (by
      simp only [List.mem_cons, List.not_mem_nil, or_false] at hb ⊢
      rcases hb with q | q | q | q <;> simp [q])) hU new1
    have ok2 : ∀ b ∈ [e], FpOk X pins (upd H U (.tup [x, y])) b := fun b hb => by
      obtain rfl : b = e := by simpa using hb
      obtain ⟨g0, g1⟩ := hf b (by simp)
      exact ⟨by rw [upd_ne (Nat.ne_of_lt (Nat.lt_of_lt_of_le (low b (by simp)) hU))]; exact g0, g1⟩
    have new2 : ObjOk X.prog X.w (upd (upd H U (.tup [x, y])) ha.objs.size (.tup [.int (i : Nat), .ref U])) hd ha.objs.size (.tup [.int (i : Nat), .ref U]) :=
      ⟨by show 2 ≤ sizeLine; decide, [.int ((i : Nat) : Int) tk2, .ref U], .cons ⟨_, rfl⟩ (.cons rfl .nil), ⟨_, tup3, rfl, _, rfl⟩⟩
    have I2 : Inv X pins σ (upd (upd H U (.tup [x, y])) ha.objs.size (.tup [.int (i : Nat), .ref U])) { s with heap := hd, toks := tk2 + 1 } :=
      I1.turnedNew (ch := [e]) (t' := tk2 + 1) (fun b o nb q => keep3 b o (fun z => nb (by simp [z])) q) ok2 (Nat.le_refl _) new2
    have big : s.heap.objs.size ≤ ha.objs.size := Nat.le_of_lt (Nat.lt_of_le_of_lt hU UT)
    simp only [List.mem_cons, List.not_mem_nil, or_false, not_or] at out
    have ee : e ≠ TI := fun q => by
      obtain ⟨f0, f, _, _, _, _, hI, _⟩ := hz
      rw [← q] at hI
      have z := he.symm.trans hI
      simp at z
    refine ⟨.ref ha.objs.size, _, I2, rfl, ⟨U, _, x, y, rfl, I.hok.fresh hU, I.hok.fresh big, Nat.ne_of_gt UT, rfl, fun l hl => by rw [sqX_inj I hl q1]; exact hx, fun l hl => by rw [sqX_inj I hl q2]; exact hy⟩, ⟨⟨.ref U, ?_⟩, zat.at fun b hb o q => keep3 b o ?_ q, st1.1.at fun o q => keep3 i1 o (Ne.symm out.2.2.1) q, st2.1.at fun o q => keep3 i2 o (Ne.symm out.2.2.2) q⟩, fun b hb => ?_⟩
    · have e1 : ((i + 1 : Nat) : Int) = (i : Int) + 1 := by omega
      rw [e1]; exact he'
    · simp only [List.mem_cons, List.not_mem_nil, or_false] at hb
      rcases hb with q | q | q <;> rw [q]
      · exact Ne.symm out.1
      · exact Ne.symm ee
      · exact Ne.symm out.2.1
    · have lb := low b hb
      rw [upd_ne (Nat.ne_of_lt (Nat.lt_of_lt_of_le lb big)), upd_ne (Nat.ne_of_lt (Nat.lt_of_lt_of_le lb hU))]
      exact (hf b hb).1
  done := by
    intro X hP hw hK hc i pins s σ H E I hf st hg
    subst hP hw hK
    obtain ⟨⟨old, he⟩, hz, h1, h2⟩ := st
    obtain ⟨xs, ys, q1, q2, hi⟩ := hg
    obtain ⟨its1, r1, s1, l1⟩ := sqX_get I q1
    obtain ⟨its2, r2, s2, l2⟩ := sqX_get I q2
    have hh := I.ok.hd hc
    have tyE : s.TypeIs (.ref e) "enumerate" := ⟨_, he, rfl⟩
    have tyZ : s.TypeIs (.ref z) "zip" := by obtain ⟨f0, f, _, _, _, hz, _⟩ := hz; exact ⟨_, hz, rfl⟩
    have lens : i = min its1.toArray.size its2.toArray.size := by
      rw [List.size_toArray, List.size_toArray, ← r1.length, ← r2.length]; exact hi
    unfold pyNext
    refine wpAny_bind (wpAny_attempt (wpAny_callSpecial?_slot (name := Str.ofString "__next__") tyE F.slot_enumerate_next
      (wpAny_call_entry F.slot_enumerate_next tyE F.entry_enumerate_next ?_ (F.args_enumerate_next_1 _))))
    unfold Builtin.«enumerate.__next__»
    generalize nx : Builtin.SmallTypes.nextOf = NX
    wp_walk
    subst nx
    show wpAny _ _ (Builtin.SmallTypes.nextOf (.ref z)) _ _ _
    unfold Builtin.SmallTypes.nextOf
    refine wpAny_bind (wpAny_callSpecial?_slot (name := Str.ofString "__next__") tyZ F.slot_zip_next (wpAny_call_entry F.slot_zip_next tyZ F.entry_zip_next
      (zipEnd S (drawsX (A := X.A.in1.in1) hh t1 i1 a1 n1 its1.toArray) (drawsX (A := X.A.in1.in1) hh t2 i2 a2 n2 its2.toArray) hz ⟨h1, s1⟩ ⟨h2, s2⟩ lens ?_) (F.args_zip_next_1 _)))
    intro h' tk x keep1 stop
    obtain ⟨o, ho, hcl⟩ := stop
    refine wpAny_bind (wpAny_isInstance (T := "StopIteration") (b := true) ⟨o, ho, hcl⟩ isSubtype_stop ?_)
    refine wpAny_pure ⟨rfl, I.turnedL (t' := tk) (ch := [z, TO, i1, i2]) keep1 fun b hb => hf b ?_⟩
    simp only [List.mem_cons, List.not_mem_nil, or_false] at hb ⊢
    rcases hb with q | q | q | q <;> simp [q]
  self := fun A i s Q E st h => let ⟨⟨_, he⟩, _⟩ := st; wpAny_pyIter_enum he h
theorem enumz_get {ds es : List D} {i : Nat} {x y : D} (h1 : ds[i]? = some x) (h2 : es[i]? = some y) : (enumL 0 (List.zipWith (fun x y => D.tup [x, y]) ds es))[i]? = some (.tup [.int (i : Nat), .tup [x, y]]) := by
  rw [enum_get (zip2_get h1 h2), show (0 + i : Nat) = i by omega]
theorem walk_enumzipD {K : PySem.W.Frag} {B : Hp} {t1 t2 : Bool} {a1 a2 : Addr} {xs ys : List V} {ds es : List D} (h1 : SqX K B t1 a1 xs) (r1 : RepL K B xs ds) (h2 : SqX K B t2 a2 ys) (r2 : RepL K B ys es) (hl : ds.length ≤ sizeLine) :
    WalkD K B (ItEZ K t1 a1 t2 a2) (enumL 0 (List.zipWith (fun x y => D.tup [x, y]) ds es)) := by
  have e1 := r1.length
  have e2 := r2.length
  have hz : (enumL 0 (List.zipWith (fun x y => D.tup [x, y]) ds es)).length = min ds.length es.length := by rw [enum_len]; simp
  refine ⟨by rw [hz]; omega, fun i H hi s => ?_, fun H s => ?_, fun i H v H' hi s y => ?_⟩
  · rw [hz] at hi
    have q1 : i < xs.length := by omega
    have q2 : i < ys.length := by omega
    exact ⟨xs, ys, xs[i], ys[i], h1.mono s, h2.mono s, by simp [q1], by simp [q2]⟩
  · exact ⟨xs, ys, h1.mono s, h2.mono s, by rw [hz, e1, e2]⟩
  · obtain ⟨T1, T2, x, u, rfl, hT1, hT2, ne, eH, hx, hu⟩ := y
    obtain ⟨d, d1, d2⟩ := r1.get' (hx xs (h1.mono s))
    obtain ⟨f, f1, f2⟩ := r2.get' (hu ys (h2.mono s))
    obtain ⟨w1, w2, w3, w4⟩ := yield_tup (.cons d2 (.cons f2 .nil)) s hT1 rfl
    have sB2 : Same (upd B T1 (.tup [x, u])) (upd H T1 (.tup [x, u])) := fun a o q => by
      rcases w4 a o q with z | ⟨_, z⟩
      · have na : a ≠ T1 := ne_of_none (s _ _ z) hT1
        rw [upd_ne na]; exact s _ _ z
      · exact z
    have hT2' : (upd H T1 (.tup [x, u])) T2 = none := by rw [upd_ne ne]; exact hT2
    obtain ⟨v1, v2, v3, v4⟩ := yield_tup (.cons (.int ((i : Nat) : Int)) (.cons w1 .nil)) sB2 hT2' eH
    refine ⟨_, _, enumz_get d1 f1, v1, w2.trans v2, w3.trans v3, fun a o q => ?_⟩
    rcases v4 a o q with z | ⟨z1, z2⟩
    · rcases w4 a o z with y | ⟨y1, y2⟩
      · exact .inl y
      · exact .inr ⟨y1, v3 _ _ y2⟩
    · refine .inr ⟨?_, z2⟩
      by_cases ha : a = T1
      · rw [ha]; exact hT1
      · rw [upd_ne ha] at z1; exact z1
section
variable {X : Cx} {W : WX}
theorem si_enumzip {e e2 : Expr} {f : Ax} {p p2 pos pos2 tpos : Pos} {elts : List Expr} {kk : Nat} (hg : Gl X "enumerate") (hm : X.mg "enumerate" = none) (hg2 : Gl X "zip") (hm2 : X.mg "zip" = none) (ha : SAs X W [e, e2] f)
    (hs : starEach [e, e2] X.env = (false, eval e X.env) :: starEach [e2] X.env := by rfl) (hpl : (backTo pos2 (starEach [e2] X.env)).any (·.1) = false := by rfl)
    (hs1 : starEach [.Call (.Name "zip" p2) [e, e2] [] pos2] X.env = (false, eval (.Call (.Name "zip" p2) [e, e2] [] pos2) X.env) :: starEach [] X.env := by rfl) :
    SI X W (.Tuple elts kk tpos) (.Call (.Name "enumerate" p) [.Call (.Name "zip" p2) [e, e2] [] pos2] [] pos) (aRng dEnumZip f) := by
  refine ⟨fun pins s σ H Rr I h => ?_⟩
  obtain ⟨fm, O, ρ, en, h⟩ := h
  refine Call_ (ld_blt I hg hm boot_enumerate (PyProof.Rows.callWith_type1 ?_ hs1 rfl))
  rw [hs1]
  show wpAny _ _ (spliced ((false, eval (.Call (.Name "zip" p2) [e, e2] [] pos2) X.env) :: backTo pos (starEach [] X.env))) _ _ s
  refine Calls.spliced_cons ?_
  refine Call_ (ld_blt I hg2 hm2 PyProof.Rows.boot_zip (PyProof.Rows.callWith_type1 (thn (ha.pa.run pos2 pins s σ H (fun vs H1 => ∃ ds, RepL X.K (hide O H1) vs ds ∧ PostI X.mg X.K O σ H1 W Rr (dEnumZip ds)) I ⟨fm, O, ρ, en, (PostI.ofA h).imp fun v H1 s1 ⟨_, d, r, q⟩ => ⟨d, r, q⟩⟩) fun us s1 ⟨vs, H1, I1, rv, ds, r, q⟩ => ?_) hs hpl))
  match ds, r, q with
  | [d1, d2], r, q =>
    obtain ⟨v1, v2, ev, r1, r2⟩ := r.two
    subst ev
    unfold dEnumZip at q
    dsimp only at q
    split at q
    · rename_i xs ys g1 g2
      obtain ⟨t1, a1, ws1, ea, q1, l1⟩ := src_of r1 g1
      obtain ⟨t2, a2, ws2, eb, q2, l2⟩ := src_of r2 g2
      subst ea eb
      obtain ⟨u, u', rfl, ru, ru'⟩ := vals2 rv
      cases ru; cases ru'
      obtain ⟨its1, rv1, s1', z1⟩ := sqX_get I1 (q1.mono same_hide)
      obtain ⟨its2, rv2, s2', z2⟩ := sqX_get I1 (q2.mono same_hide)
      refine zip_begins2 (beginsX t1 a1 its1.toArray) (beginsX t2 a2 its2.toArray) s1' s2' fun h' hz hTI hTO h1 h2 hsz hk => ?_
      refine Calls.spliced_nil ?_
      have self : (h'.push (enumNew (s1.heap.objs.size + 4))).get? h'.objs.size = some (enumNew (s1.heap.objs.size + 4)) := Heap.get?_push_size _ rfl
      refine callType_new F.called_enumerate (by decide) (F.typeCall_enumerate_1 _) (F.newCall_enumerate_1 _) (fun ob => F.args_object_init_2 ob _) F.entry_enumerate_new (enumZipMade (TI := s1.heap.objs.size + 2) (TO := s1.heap.objs.size + 3)) ⟨hz, ⟨_, self, rfl⟩, ?_⟩
      have he : IsEnum (h'.push (enumNew (s1.heap.objs.size + 4))) h'.objs.size (s1.heap.objs.size + 4) ((0 : Nat) : Int) .none := self
      refine wpAny_pyIter_enum he ?_
      have hk2 : ∀ b o, h'.get? b = some o → (h'.push (enumNew (s1.heap.objs.size + 4))).get? b = some o := fun b o q => Heap.get?_push_of_some _ q
      have hk' : ∀ b o, s1.heap.get? b = some o → (h'.push (enumNew (s1.heap.objs.size + 4))).get? b = some o := fun b o q => hk2 b o (hk b o q)
      have I2 : Inv X pins σ H1 { s1 with heap := h'.push (enumNew (s1.heap.objs.size + 4)) } := I1.kept (t' := s1.toks) hk'
      have S := zip_sep2 (N := s1.heap.objs.size) (fp1 := [a1]) (fp2 := [a2]) (fun b hb => by rw [List.mem_singleton.mp hb]; exact s1'.lt) (fun b hb => by rw [List.mem_singleton.mp hb]; exact s2'.lt)
      have hsz' : h'.objs.size = s1.heap.objs.size + 5 := hsz
      dsimp only
      rw [hsz'] at he ⊢
      refine ⟨s1.heap.objs.size + 5, [s1.heap.objs.size + 5, s1.heap.objs.size + 4, s1.heap.objs.size + 2, s1.heap.objs.size + 3, s1.heap.objs.size, s1.heap.objs.size + 1], _, _, H1, rfl, I2,
        turn_enumzip S (Nat.ne_of_lt s1'.lt) (Nat.ne_of_lt (Nat.lt_succ_of_lt s2'.lt)) (by simp only [List.mem_cons, List.not_mem_nil, or_false, not_or]; exact ⟨Nat.ne_of_gt (by omega), Nat.ne_of_gt (by omega), Nat.ne_of_gt (by omega), Nat.ne_of_gt (by omega)⟩),
        ⟨⟨.none, he⟩, ⟨_, _, _, _, .inl rfl, hk2 _ _ hz, hk2 _ _ hTI, hk2 _ _ hTO⟩, ItX.new (hk2 _ _ h1), ItX.new (hk2 _ _ h2)⟩, ?_, q _ H1 (Same.refl _) (walk_enumzipD q1 l1 q2 l2 (by rw [← l1.length]; exact z1))⟩
      refine zipX_fresh I1 fun b hb => ?_
      have e' : b = s1.heap.objs.size + 5 ∨ b = s1.heap.objs.size + 4 ∨ b = s1.heap.objs.size + 2 ∨ b = s1.heap.objs.size + 3 ∨ b = s1.heap.objs.size ∨ b = s1.heap.objs.size + 1 := by simpa using hb
      rcases e' with z | z | z | z | z | z <;> rw [z] <;> first | exact Nat.le_add_right _ _ | exact Nat.le_refl _
    · exact q.elim
  | [], r, q => exact q.elim
  | [_], r, q => exact q.elim
  | _ :: _ :: _ :: _, r, q => exact q.elim
end
end JK

/-! LayT -/
set_option Elab.async false
set_option linter.all false
set_option maxRecDepth 100000
set_option autoImplicit false
/-! try: .. except C: return text; one clause with a name, or several without, by the library's two rules -/
namespace JK
open PySem PySem.Spec PyProof.Rows L2
/-- what a suite does -/
def SuiteOk (X : Cx) (sts : List Stmt) (t : Addr → Value → Option Addr → TS) : Prop :=
  ∀ (a : Addr) (ob : Obj) (cls : Value) (dd : Option Addr) (pn : List (Addr × Obj)), Zc cls dd ob → (∃ vs, ob.data = .fields vs) → PSs (X.suite a ((a, ob) :: pn)) sts (t a cls dd)
/-- what a class of errors must say, as a check -/
def excCB (K : PySem.W.Frag) (C : Addr) : Bool :=
  He.eqO (PySem.W.findIn K (.ref C) "__getattribute__") (some (some (.builtin "BaseException.__getattribute__"))) && (He.eqO (PySem.W.findIn K (.ref C) "__getattr__") (some none) && (decide (PySem.W.subIn K (.ref C) (.type "BaseException") = some true) && (PySem.W.hasDictIn K C &&
    (He.eqO (PySem.W.findIn K (.ref C) "__class__") (some (some (.builtin "object.__class__"))) && (He.eqO (PySem.W.specialIn K (.builtin "object.__class__") "__get__") (some (some (.builtin "getset_descriptor.__get__"))) && (decide (PySem.W.takesIn K (.builtin "object.__class__") = some true) && decide (PySem.W.mroIn K C (.type "object") = some true)))))))
theorem excCB_ok {K : PySem.W.Frag} {C : Addr} (h : excCB K C = true) : ExcC K C := by
  unfold excCB at h
  simp only [Bool.and_eq_true, decide_eq_true_eq] at h
  obtain ⟨h1, h2, h3, h4, h5, h6, h7, h8⟩ := h
  exact ⟨He.eqO_ok h1, He.eqO_ok h2, h3, h4, He.eqO_ok h5, He.eqO_ok h6, h7, h8⟩
/-- C's errors are K1's, and no K2's -/
def isiB (K : PySem.W.Frag) (c k1 k2 : Str) : Bool := excCB K (He.ga K c) && (decide (PySem.W.kitOne K (.ref (He.ga K c)) (.ref (He.ga K k1)) = some true) && decide (PySem.W.kitOne K (.ref (He.ga K c)) (.ref (He.ga K k2)) = some false))
structure IsiC (K : PySem.W.Frag) (mg : Str → Option Value) (c k1 k2 : Str) : Prop where
  ex : ExcC K (He.ga K c)
  y1 : PySem.W.kitOne K (.ref (He.ga K c)) (.ref (He.ga K k1)) = some true
  y2 : PySem.W.kitOne K (.ref (He.ga K c)) (.ref (He.ga K k2)) = some false
  g1 : mg k1 = some (.ref (He.ga K k1))
  g2 : mg k2 = some (.ref (He.ga K k2))
theorem isiB_ok {K : PySem.W.Frag} {mg : Str → Option Value} {c k1 k2 : Str} (h : isiB K c k1 k2 = true) (g1 : mg k1 = some (.ref (He.ga K k1))) (g2 : mg k2 = some (.ref (He.ga K k2))) : IsiC K mg c k1 k2 := by
  unfold isiB at h
  simp only [Bool.and_eq_true, decide_eq_true_eq] at h
  exact ⟨excCB_ok h.1, h.2.1, h.2.2, g1, g2⟩
section
variable {X : Cx} {W : WX}
/-- return z if isinstance(e, K1) and not isinstance(e, K2) else .. -/
def tIs (c : Value) (i : Nat) (z : Str) : Addr → Value → Option Addr → TS := fun a cls dd Dn σ H => cls = c ∧ dd = none ∧ σ[i]? = some (some (.ref a)) ∧ Dn.rt (.str z) H
theorem suite_is {c k1 k2 n z z2 : Str} {i j1 j2 : Nat} {p1 p2 p3 p4 p5 p6 q1 q2 q3 q4 q5 q6 q7 q8 : Pos} (C : IsiC X.K X.mg c k1 k2) (hN : X.N[i]? = some n) (hv : Vis X.env.scope n) (gi : Gl X "isinstance") (mi : X.mg "isinstance" = none) (gk1 : Gl X k1) (gk2 : Gl X k2)
    (hd : (n == ("__debug__" : Str)) = false := by decide) (hcd : (n == ("__classdict__" : Str)) = false := by decide) (hd1 : (k1 == ("__debug__" : Str)) = false := by decide) (hd2 : (k2 == ("__debug__" : Str)) = false := by decide)
    (bi : bootBuiltins "isinstance" = some (.builtin "isinstance") := by decide +kernel)
    (s1 : starEach [.Name n p2, .Name k1 p3] X.env = (false, eval (.Name n p2) X.env) :: starEach [.Name k1 p3] X.env := by rfl) (s2 : starEach [.Name n p5, .Name k2 p6] X.env = (false, eval (.Name n p5) X.env) :: starEach [.Name k2 p6] X.env := by rfl)
    (e1 : ∀ whole, isTrue (.Call (.Name "isinstance" p1) [.Name n p2, .Name k1 p3] [] q1) X.env whole = (do let v ← whole; standAt (Expr.pos (.Call (.Name "isinstance" p1) [.Name n p2, .Name k1 p3] [] q1)); holding [v] (truthy v)) := by intro _; rfl)
    (e2 : ∀ whole, isTrue (.Call (.Name "isinstance" p4) [.Name n p5, .Name k2 p6] [] q2) X.env whole = (do let v ← whole; standAt (Expr.pos (.Call (.Name "isinstance" p4) [.Name n p5, .Name k2 p6] [] q2)); holding [v] (truthy v)) := by intro _; rfl)
    (t1 : starEach [.Name k1 p3] X.env = (false, eval (.Name k1 p3) X.env) :: starEach [] X.env := by rfl) (t2 : starEach [.Name k2 p6] X.env = (false, eval (.Name k2 p6) X.env) :: starEach [] X.env := by rfl) :
    SuiteOk X [.Return (some (.IfExp (.BoolOp .And [.Call (.Name "isinstance" p1) [.Name n p2, .Name k1 p3] [] q1, .UnaryOp .Not (.Call (.Name "isinstance" p4) [.Name n p5, .Name k2 p6] [] q2) q3] q4) (.Constant (.str z) j1 q5) (.Constant (.str z2) j2 q6) q7)) q8]
      (tIs (.ref (He.ga X.K c)) i z) := by
  intro a ob cls dd pn hz hf
  refine ⟨fun pins s σ H Dn I h => ?_⟩
  obtain ⟨rfl, rfl, hs, hr⟩ := h
  have ce := call_isE (X := X) (a := a) (pn := pn) C.ex hz hf
  have pe : ∀ {p : Pos}, PE (X.suite a ((a, ob) :: pn)) (.Name n p) (tVar i) := fun {p} => pe_var hN hv hd hcd
  have c1 : PE (X.suite a ((a, ob) :: pn)) (.Name k1 p3) (tC (.ref (He.ga X.K k1))) := pe_glob gk1 C.g1 rfl hd1
  have c2 : PE (X.suite a ((a, ob) :: pn)) (.Name k2 p6) (tC (.ref (He.ga X.K k2))) := pe_glob gk2 C.g2 rfl hd2
  have i1 := pe_callB (p := p1) (pos := q1) ce gi mi bi (pa_cons (pe (p := p2)) (pa_cons c1 pa_nil t1) s1) (by decide) (by decide) s1 rfl
  have i2 := pe_callB (p := p4) (pos := q2) ce gi mi bi (pa_cons (pe (p := p5)) (pa_cons c2 pa_nil t2) s2) (by decide) (by decide) s2 rfl
  have hh := ps_ret (pos := q8) (pe_ifExp (pos := q7) (PW.pt (pw_and (pos := q4) (pt_val i1 e1) (pw_and1 (pt_not (pos := q3) (pt_val i2 e2))))) (pe_str (x := z) (j := j1) (pos := q5)) (pe_str (x := z2) (j := j2) (pos := q6)))
  refine (pss_one hh).run pins s σ H Dn I ?_
  refine ⟨_, hs, _, .ref (He.ga X.K k1), true, rfl, fun _ e => e, C.y1, true, rfl, ?_⟩
  refine ⟨_, hs, _, .ref (He.ga X.K k2), false, rfl, fun _ e => e, C.y2, false, rfl, ?_⟩
  exact hr
/-- return z -/
theorem suite_ret {z : Str} {j : Nat} {q1 q2 : Pos} : SuiteOk X [.Return (some (.Constant (.str z) j q1)) q2] (fun _ _ _ Dn _ H => Dn.rt (.str z) H) := by
  intro a ob cls dd pn hz hf
  exact pss_one (ps_ret pe_str)
def tryX (n : Nat) (l : List (Str × Str)) (x : Exc) (ρ : Env) : Out := match x.fld, l.lookup x.cls with
  | none, some z => if ρ.length = n then .rt (.str z) else .no
  | _, _ => .no
def sTry (n : Nat) (F : Sx) (l : List (Str × Str)) : Sx := fun ρ => match F ρ with
  | .ex x ρ' => tryX n l x ρ'
  | o => o
/-- the classes told apart -/
def Exms (K : PySem.W.Frag) (mg : Str → Option Value) (cs : List Str) : Prop := (∀ c ∈ cs, mg c = some (.ref (He.ga K c))) ∧ ∀ c ∈ cs, ∀ d ∈ cs, PySem.W.exmOne K (.ref (He.ga K c)) (.ref (He.ga K d)) = some (decide (c = d))
theorem set_some {σ : L2.St} {i : Nat} {v : V} (h : i < σ.length) : (σ.set i (some v))[i]? = some (some v) := List.getElem?_set_self h
theorem lookup_mem {l : List (Str × Str)} {c z : Str} (h : l.lookup c = some z) : ∃ p ∈ l, p.1 = c := by
  induction l with
  | nil => cases h
  | cons p l ih =>
    obtain ⟨a, b⟩ := p
    rw [List.lookup_cons] at h
    by_cases e : c = a
    · exact ⟨(a, b), by simp, e.symm⟩
    · rw [show (c == a) = false from beq_false_of_ne e] at h
      obtain ⟨p, hp, e2⟩ := ih h
      exact ⟨p, by simp [hp], e2⟩
/-- what is asked of the clauses, for each exception of the body -/
theorem try_read {n : Nat} {F : Sx} {l : List (Str × Str)} {cs : List Str} {Wc : Ends → WX} {mg : Str → Option Value} {K : PySem.W.Frag} (E : Exms K mg cs) (hcs : ∀ p ∈ l, p.1 ∈ cs)
    (caught : ∀ (c z : Str), c ∈ cs → l.lookup c = some z → ∀ (Dn : Ends) (σ : L2.St) (H : Hp), σ.length = n → Dn.rt (.str z) H → Wc Dn (.ref (He.ga K c)) none σ H) {Dn : Ends} {σ : L2.St} {H : Hp} (h : tS mg K W (sTry n F l) Dn σ H) : tS mg K (Wc Dn) F Dn σ H := by
  obtain ⟨fm, O, ρ, en, h⟩ := h
  refine ⟨fm, O, ρ, en, ?_⟩
  unfold sTry at h
  cases e : F ρ with
  | no => rw [e] at h; exact h
  | nx ρ' => rw [e] at h; exact h
  | rt d => rw [e] at h; exact h
  | rm d ρ' => rw [e] at h; exact h
  | rr i ρ' => rw [e] at h; exact h
  | bk ρ' => rw [e] at h; exact h
  | ct ρ' => rw [e] at h; exact h
  | ex x ρ' =>
    rw [e] at h
    simp only at h
    intro O' σ' H' cls dd en' s' hx
    unfold tryX at h
    obtain ⟨C, gC, rfl, hf⟩ := hx
    cases ef : x.fld with
    | some y => rw [ef] at h; exact h.elim
    | none =>
      rw [ef] at h hf
      cases el : l.lookup x.cls with
      | none => rw [el] at h; exact h.elim
      | some z =>
        rw [el] at h
        simp only at h
        by_cases hl : ρ'.length = n
        · rw [if_pos hl] at h
          obtain ⟨p, hp, ep⟩ := lookup_mem el
          have hm : x.cls ∈ cs := by rw [← ep]; exact hcs p hp
          have eC := E.1 _ hm
          rw [gC] at eC
          injection eC with eC
          injection eC with eC
          subst eC
          have hf : dd = none := hf
          subst hf
          exact caught _ z hm el Dn σ' H' (by rw [en'.len, hl]) (h (.str z) H' en'.same (.str z))
        · rw [if_neg hl] at h; exact h.elim
/-- one clause with a name -/
theorem ss_try1 {n i : Nat} {body : List Stmt} {F : Sx} {c z x : Str} {s0 : Stmt} {cs : List Str} {np pos pos' : Pos} (hstk : X.stack = X.env :: X.outer) (hfrm : X.env.frame = some X.env.locals) (nd : X.N.Nodup) (hn : X.N.length = n) (tk : Takes X W)
    (E : Exms X.K X.mg cs) (hcs : ∀ p ∈ [(c, z)], p.1 ∈ cs) (hi : X.N[i]? = some x) (hln : X.env.kindOf x = some .local) (hc : Names X c (.ref (He.ga X.K c))) (hsu : SuiteOk X [s0] (tIs (.ref (He.ga X.K c)) i z))
    (hbody : ∀ (W : WX) (pn : List (Addr × Obj)) (xe : Value → Shared → Prop), Takes (X.tr pn xe) W → PassesOwn (model X.prog X.w) X.A X.env xe → SSs (X.tr pn xe) W body F) :
    SS X W (.Try body [.ExceptHandler (some (.Name c np)) (some x) [s0] pos'] [] [] pos) (sTry n F [(c, z)]) := by
  refine PS.weak (L2.ps_try_as (tb := fun W => tS X.mg X.K W F) hstk hfrm nd hi hln hc tk hbody hsu) fun Dn σ H h => try_read E hcs (fun c' z' m e Dn σ H hl hr => ?_) h
  rw [List.lookup_cons] at e
  by_cases eq : c' = c
  · subst eq
    simp only [beq_self_eq_true] at e
    injection e with e
    subst e
    have me := E.2 c' m c' m
    rw [decide_eq_true rfl] at me
    exact ⟨true, me, fun _ a _ => ⟨rfl, rfl, set_some (by rw [hl, ← hn]; exact (List.getElem?_eq_some_iff.mp hi).1), hr⟩, fun z => by cases z⟩
  · rw [show (c' == c) = false from beq_false_of_ne eq] at e
    cases e
/-- several clauses without names -/
inductive ClR (X : Cx) : List ExceptHandler → List (Str × Str) → List (Value × (Addr → Value → Option Addr → TS)) → Prop
  | nil : ClR X [] [] []
  | cons {c z : Str} {j : Nat} {p1 p2 q1 q2 : Pos} {hs : List ExceptHandler} {l : List (Str × Str)} {k : List (Value × (Addr → Value → Option Addr → TS))} (hc : Names X c (.ref (He.ga X.K c))) (r : ClR X hs l k) :
      ClR X (.ExceptHandler (some (.Name c p1)) none [.Return (some (.Constant (.str z) j q1)) q2] p2 :: hs) ((c, z) :: l) ((.ref (He.ga X.K c), fun _ _ _ Dn _ H => Dn.rt (.str z) H) :: k)
theorem ClR.ok {hs : List ExceptHandler} {l : List (Str × Str)} {k : List (Value × (Addr → Value → Option Addr → TS))} (h : ClR X hs l k) : HdsOk X hs k := by
  induction h with
  | nil => exact .nil
  | cons hc r ih => exact .cons hc suite_ret ih
theorem ClR.many {hs : List ExceptHandler} {l : List (Str × Str)} {k : List (Value × (Addr → Value → Option Addr → TS))} (h : ClR X hs l k) {cs : List Str} (E : Exms X.K X.mg cs) (hcs : ∀ p ∈ l, p.1 ∈ cs) {c z : Str} (hc : c ∈ cs) (hz : l.lookup c = some z) {Dn : Ends} {σ : L2.St} {H : Hp} (hr : Dn.rt (.str z) H) :
    wMany X.K W Dn k (.ref (He.ga X.K c)) none σ H := by
  induction h with
  | nil => cases hz
  | @cons c' z' j p1 p2 q1 q2 hs l k hn r ih =>
    refine ⟨decide (c = c'), E.2 c hc c' (hcs (c', z') (by simp)), fun hb a _ => ?_, fun hb => ?_⟩
    · have hb : c = c' := of_decide_eq_true hb
      subst hb
      rw [List.lookup_cons_self] at hz
      injection hz with hz
      subst hz
      exact hr
    · have hb : ¬ c = c' := of_decide_eq_false hb
      rw [List.lookup_cons, show (c == c') = false from beq_false_of_ne hb] at hz
      exact ih (fun p hp => hcs p (by simp [hp])) hz
theorem ss_tryM {n : Nat} {body : List Stmt} {F : Sx} {h0 : ExceptHandler} {hds : List ExceptHandler} {l : List (Str × Str)} {k : List (Value × (Addr → Value → Option Addr → TS))} {cs : List Str} {pos : Pos} (hstk : X.stack = X.env :: X.outer) (hfrm : X.env.frame = some X.env.locals) (tk : Takes X W)
    (E : Exms X.K X.mg cs) (hcs : ∀ p ∈ l, p.1 ∈ cs) (hc : ClR X (h0 :: hds) l k)
    (hbody : ∀ (W : WX) (pn : List (Addr × Obj)) (xe : Value → Shared → Prop), Takes (X.tr pn xe) W → PassesOwn (model X.prog X.w) X.A X.env xe → SSs (X.tr pn xe) W body F) :
    SS X W (.Try body (h0 :: hds) [] [] pos) (sTry n F l) :=
  PS.weak (L2.ps_try_many (tb := fun W => tS X.mg X.K W F) hstk hfrm tk hbody hc.ok) fun Dn σ H h => try_read E hcs (fun c z m e Dn σ H hl hr => hc.many E hcs m e hr) h
end
def exmsB (K : PySem.W.Frag) (cs : List Str) : Bool := (cs.all fun c => (He.Fa.glo c).ok K) && cs.all fun c => cs.all fun d => decide (PySem.W.exmOne K (.ref (He.ga K c)) (.ref (He.ga K d)) = some (decide (c = d)))
theorem exmsB_ok {K : PySem.W.Frag} {mg : Str → Option Value} {h : Heap} (X : K.In h) (G : h.Ns mainGlobals mg) {cs : List Str} (e : exmsB K cs = true) : Exms K mg cs := by
  unfold exmsB at e
  rw [Bool.and_eq_true, List.all_eq_true, List.all_eq_true] at e
  refine ⟨fun c hc => He.glo_ok X G (e.1 c hc), fun c hc d hd => ?_⟩
  have := e.2 c hc
  rw [List.all_eq_true] at this
  exact of_decide_eq_true (this d hd)
end JK

/-! LayR -/
set_option Elab.async false
set_option linter.all false
set_option maxRecDepth 100000
set_option autoImplicit false
/-! xs[::-1] of a list, a tuple -/
namespace JK
open PySem PySem.Spec PyProof.Rows L2
theorem picked (xs : List Value) : ∀ n ≤ xs.length, (List.range n).filterMap (fun (k : Nat) => xs[((n : Int) - 1 + (k : Int) * -1).toNat]?) = (xs.take n).reverse
  | 0, _ => rfl
  | n + 1, h => by
    rw [List.range_succ_eq_map, List.filterMap_cons, List.filterMap_map]
    have e0 : (((n + 1 : Nat) : Int) - 1 + ((0 : Nat) : Int) * -1).toNat = n := by omega
    rw [e0, List.getElem?_eq_getElem (by omega)]
    simp only
    have e1 : ((fun (k : Nat) => xs[(((n + 1 : Nat) : Int) - 1 + (k : Int) * -1).toNat]?) ∘ Nat.succ) = fun (k : Nat) => xs[((n : Int) - 1 + (k : Int) * -1).toNat]? := by
      funext k
      show xs[(((n + 1 : Nat) : Int) - 1 + ((k + 1 : Nat) : Int) * -1).toNat]? = _
      congr 2
      omega
    rw [e1, picked xs n (by omega), List.take_succ_eq_append_getElem (by omega), List.reverse_append]
    rfl
/-- t[::-1]: a new tuple -/
theorem backMade {t sl : Addr} {xs : Array Value} {u : Tok} :
    Meets (Builtin.«tuple.__getitem__» ⟨[.ref t, .ref sl], []⟩) (fun _ R s => IsTup s.heap t xs ∧ s.heap.IsSliceOf sl .none .none (.int (-1) u) ∧ xs.size ≤ 1000 ∧
      R (.ok (.ret (.ref s.heap.objs.size))) { s with heap := s.heap.push { cls := .type "tuple", data := .seq xs.reverse } }) := by
  refine .of_wp fun prog w A R s want => ?_
  obtain ⟨it, is, few, fin⟩ := want
  obtain ⟨ob, at_, cl, m, da⟩ := id it
  obtain ⟨os, ats, cls, das⟩ := id is
  obtain ⟨c1, c2, c3, c4⟩ := os
  simp only at cls das
  subst cls das
  obtain ⟨b1, b2, b3, b4⟩ := ob
  simp only at cl da
  subst cl da
  have tyS : s.TypeIs (.ref sl) "slice" := ⟨_, ats, rfl⟩
  have ix := AutoSeq1.idx_int
  have ix2 := F.slot_int_index.lookup
  generalize ex : Builtin.Tuple.tupleExact = EX
  wp_walk
  have e0 : Builtin.Slice.sliceAdjust none none (-1) (xs.size : Int) = ((xs.size : Int) - 1, -1) := rfl
  have e1 : Builtin.Slice.slicePlaces ((xs.size : Int) - 1) (-1) (-1) = xs.size := by
    unfold Builtin.Slice.slicePlaces
    simp only [show ¬ ((-1 : Int) > 0) by decide, if_false]
    rw [show (-(-1) : Int) = 1 from rfl, Int.ediv_one]
    split <;> omega
  have pick : (List.filterMap (fun (k : Nat) => xs[((xs.size : Int) - 1 + (k : Int) * -1).toNat]?) (List.range xs.size)).toArray = xs.reverse := by
    have p := picked xs.toList xs.size (by simp)
    have q : (fun (k : Nat) => xs[((xs.size : Int) - 1 + (k : Int) * -1).toNat]?) = fun (k : Nat) => xs.toList[((xs.size : Int) - 1 + (k : Int) * -1).toNat]? := by
      funext k; rw [Array.getElem?_toList]
    rw [q, p, List.take_of_length_le (by simp)]
    apply Array.ext'
    rw [Array.toList_reverse]
  simp only [Option.getD_some, e0, e1, pick, Array.size_reverse]
  have fits : ¬ (xs.size > sizeLine) := by unfold sizeLine; omega
  rw [if_neg fits]
  wp_walk
  exact ⟨_, rfl, fin⟩
def dBack : D → R D
  | .lst xs => .ok (.lst xs.reverse)
  | .tup xs => if xs.length ≤ 1000 then .ok (.tup xs.reverse) else .no
  | _ => .no
def eRev (a : Ex) : Ex := fun ρ => (a ρ).bnd dBack
section
variable {X : Cx} {W : WX}
theorem RepL.back {K : PySem.W.Frag} {H : Hp} : ∀ {ds : List D} {vs : List V}, RepL K H vs ds → RepL K H vs.reverse ds.reverse
  | [], _, .nil => .nil
  | _ :: _, _, .cons a b => by
    rw [List.reverse_cons, List.reverse_cons]
    exact (RepL.back b).append (.cons a .nil)
/-- t[::-1], t a tuple -/
theorem pe_revT {e : Expr} {te : TE} {k : Nat} {p1 p2 p3 pos : Pos} (he : PE X e te) : PE X (.Subscript e (.Slice none none (some (.UnaryOp .USub (.Constant (.int 1) k p1) p2)) p3) pos)
    (fun σ H Q => te σ H fun x H1 => ∃ a xs, x = .ref a ∧ SqT X.K H1 a xs ∧ xs.length ≤ 1000 ∧ ∀ p, H1 p = none → Q (.ref p) (upd H1 p (.tup xs.reverse))) := by
  have step : PO X (some (.UnaryOp .USub (.Constant (.int 1) k p1) p2)) (tPart (tUn (rU fun i => .int (-i)) (tC (.int 1)))) := po_some (pe_un un_neg pe_int)
  constructor
  intro pins s σ H Q I want
  refine Subscript_ (thn (he.run pins s σ H _ I want) ?_)
  rintro v s1 ⟨x, H1, I1, rx, a, xs, rfl, hx, few, q⟩
  obtain rfl : v = Value.ref a := rx
  refine wpAny_Slice (thn (po_none.run pins s1 σ H1 (fun o G => o = none ∧ G = H1) I1 ⟨rfl, rfl⟩) ?_)
  rintro vl s2 ⟨o1, G2, I2, pl, e1, g2⟩
  subst e1 g2
  refine thn (po_none.run pins s2 σ _ (fun o G => o = none ∧ G = G2) I2 ⟨rfl, rfl⟩) ?_
  rintro vu s3 ⟨o2, G3, I3, pu, e2, g3⟩
  subst e2 g3
  refine thn (step.run pins s3 σ _ (fun o G => o = some (-1) ∧ G = G3) I3 ⟨1, rfl, -1, rfl, rfl, rfl⟩) ?_
  rintro vs s4 ⟨o3, G4, I4, ps, e3, g4⟩
  subst e3 g4
  cases pl
  cases pu
  cases ps with
  | int _ t =>
    have I5 : Inv X pins σ G4 { s4 with heap := s4.heap.push { cls := .type "slice", data := .fields #[.none, .none, .int (-1) t] } } := I4.kept (t' := s4.toks) fun b o q => Heap.get?_push_of_some _ q
    obtain ⟨its, r, isT, z⟩ := I5.tuple hx
    refine tail_any (ops := [.ref a, .ref s4.heap.objs.size]) isT.typeIs PyProof.Rows.slot_tuple_getitem.lookup ?_ (by with_unfolding_all rfl)
    refine getItem_meets isT.typeIs (by decide) PyProof.Rows.slot_tuple_getitem entry_tuple_getitem (args_tuple_getitem _ _) (backMade (xs := its.toArray) (u := t)) ⟨isT, Heap.IsSliceOf.new _ _ _ _, ?_, ?_⟩
    · rw [List.size_toArray, ← r.length]; exact few
    · refine ⟨.ref _, _, I5.laid (t' := s4.toks) (o := .tup xs.reverse) (fun b o q => Heap.get?_push_of_some _ q) (Nat.le_refl _) ?_, rfl, q _ (I5.hok.fresh (Nat.le_refl _))⟩
      refine ⟨by rw [List.length_reverse]; exact z, its.reverse, r.reverse, ⟨_, Heap.get?_push_size _ rfl, rfl, 0, ?_⟩⟩
      simp
/-- xs[::-1] -/
theorem se_back {e : Expr} {fa : Ex} {k : Nat} {p1 p2 p3 pos : Pos} (he : SE X W e fa) : SE X W (.Subscript e (.Slice none none (some (.UnaryOp .USub (.Constant (.int 1) k p1) p2)) p3) pos) (eRev fa) := by
  constructor
  intro pins s σ H Q I want
  obtain ⟨fm, O, ρ, en, h⟩ := want
  unfold eRev at h
  cases ef : fa ρ with
  | no => rw [ef] at h; exact h.elim
  | ex x =>
    rw [ef] at h
    refine (pe_revT (k := k) (p1 := p1) (p2 := p2) (p3 := p3) (pos := pos) he).run pins s σ H Q I ⟨fm, O, ρ, en, ?_⟩
    rw [ef]; exact h
  | ok d =>
    rw [ef, R.bnd_ok] at h
    have none : ∀ {v : V} {H1 : Hp}, Same H H1 → Rep X.K (hide O H1) v d → (match d with | .lst _ => False | .tup _ => False | _ => True) → False := fun {v H1} _ _ m => by
      cases d <;> first | exact m | exact h
    cases d with
    | lst ds =>
      refine (pe_revL (k := k) (p1 := p1) (p2 := p2) (p3 := p3) (pos := pos) he).run pins s σ H Q I ⟨fm, O, ρ, en, ?_⟩
      rw [ef]
      intro v H1 s1 r
      cases r with
      | lst e1 l =>
        refine ⟨_, _, rfl, SqL.of (same_hide _ _ e1), fun p hp => ?_⟩
        have th := (en.mono s1).there
        exact h _ _ (s1.trans (same_new hp)) (.lst (hide_of upd_same (new_out th hp)) ((RepL.back l).mono (Same.hide (same_new hp))))
    | tup ds =>
      unfold dBack at h
      dsimp only at h
      split at h
      · rename_i few
        refine (pe_revT (k := k) (p1 := p1) (p2 := p2) (p3 := p3) (pos := pos) he).run pins s σ H Q I ⟨fm, O, ρ, en, ?_⟩
        rw [ef]
        intro v H1 s1 r
        cases r with
        | tup e1 l =>
          refine ⟨_, _, rfl, SqT.out e1, by rw [l.length]; exact few, fun p hp => ?_⟩
          have th := (en.mono s1).there
          exact h _ _ (s1.trans (same_new hp)) (.tup (SqT.of (hide_of upd_same (new_out th hp))) ((RepL.back l).mono (Same.hide (same_new hp))))
      · exact h.elim
    | non => exact h.elim
    | bl _ => exact h.elim
    | int _ => exact h.elim
    | str _ => exact h.elim
    | scr _ => exact h.elim
    | box _ _ => exact h.elim
end
end JK

/-! LayV -/
set_option Elab.async false
set_option linter.all false
set_option maxRecDepth 100000
set_option autoImplicit false
/-! len({k for k, n in xs}): xs a list of pairs, each first one a text -/
namespace JK
open PySem PySem.Spec PyProof.Rows L2
/-- pairs that begin with texts -/
inductive PairsV (K : PySem.W.Frag) (H : Hp) : List V → List Str → Prop
  | nil : PairsV K H [] []
  | cons {t : Addr} {z : Str} {v : V} {vs : List V} {zs : List Str} : SqT K H t [.str z, v] → PairsV K H vs zs → PairsV K H (.ref t :: vs) (z :: zs)
theorem PairsV.len {K : PySem.W.Frag} {H : Hp} {vs : List V} {zs : List Str} (p : PairsV K H vs zs) : vs.length = zs.length := by
  induction p with
  | nil => rfl
  | cons _ _ ih => rw [List.length_cons, List.length_cons, ih]
theorem PairsV.get {K : PySem.W.Frag} {H : Hp} {vs : List V} {zs : List Str} (p : PairsV K H vs zs) : ∀ {i : Nat} {x : V}, vs[i]? = some x → ∃ t z v, x = .ref t ∧ zs[i]? = some z ∧ SqT K H t [.str z, v] := by
  induction p with
  | nil => intro i x e; simp at e
  | cons a _ ih =>
    intro i x e
    cases i with
    | zero => simp at e; subst e; exact ⟨_, _, _, rfl, rfl, a⟩
    | succ i => simp only [List.getElem?_cons_succ] at e ⊢; exact ih e
theorem holds_next {κ : Type} [DecidableEq κ] {prog : Program} {w : World} {knd : PySem.KeyKind prog w κ} {z : Addr} {ks : List κ} {i : Nat} {k : κ} {h : Heap} (hk : ks[i]? = some k)
    (got : h.SetOf knd z (fun j => decide (j ∈ onces (ks.take i)) || decide (j = k)) (if decide (k ∈ onces (ks.take i)) = true then (onces (ks.take i)).length else (onces (ks.take i)).length + 1)) : Holds' knd z (ks.take (i + 1)) h := by
  have em : (fun j => decide (j ∈ once1 (onces (ks.take i)) k)) = fun j => decide (j ∈ onces (ks.take i)) || decide (j = k) := funext fun j => by
    rw [Bool.eq_iff_iff, decide_eq_true_iff, once1_mem, Bool.or_eq_true, decide_eq_true_iff, decide_eq_true_iff]
  have el : (once1 (onces (ks.take i)) k).length = if decide (k ∈ onces (ks.take i)) = true then (onces (ks.take i)).length else (onces (ks.take i)).length + 1 := by
    rw [once1_len]; simp only [decide_eq_true_eq]
  unfold Holds'
  rw [onces_next hk, em, el]
  exact got
section
variable {X : Cx} {W : WX}
def tScK (K : PySem.W.Frag) (ta : TE) : TE := fun σ H Q => ta σ H fun x H1 => ∃ l ps zs, x = .ref l ∧ SqL K H1 l ps ∧ PairsV K H1 ps zs ∧ zs.length ≤ 1000 ∧ ∀ p, H1 p = none → Q (.ref p) (upd H1 p (SetX p (onces zs).length))
/-- the names of a block that closes over nothing -/
structure PlainBlk (scope : Scope) (k n : Str) : Prop where
  kind : scope.kind = .function
  loc : ∀ y ∈ scope.names, y.2 = .local
  look : ∀ y ∈ scope.names, scope.names.lookup y.1 = some .local
  fst : scope.names.lookup k = some .local
  snd : scope.names.lookup n = some .local
  ne : k ≠ n
  dbg : (k == ("__debug__" : Str)) = false
theorem pe_scK {k n : Str} {iter : Expr} {scope : Scope} {pos tp pk pn pe : Pos} {kt : Nat} {ta : TE} (hc : X.calm = true) (ha : PE X iter ta) (ok : PlainBlk scope k n) (hs : ∀ x, foldedSetIterable iter X.env x = pure x := by intro _; rfl)
    (each : ∀ env : PySem.Env, assignEach [.Name k pk, .Name n pn] env = [(false, assign (.Name k pk) env), (false, assign (.Name n pn) env)] := by intro _; rfl) :
    PE X (.SetComp (.Name k pe) [⟨.Tuple [.Name k pk, .Name n pn] kt tp, iter, [], 0⟩] scope pos) (tScK X.K ta) := by
  constructor
  intro pins s σ H Q I want
  have calm := I.ok.hd hc
  refine SetComp_goes (closure_ok fun y hy e => by rw [ok.loc y hy] at e; cases e) (fun y hy e => by rw [ok.loc y hy] at e; cases e) ok.kind (fun y hy _ => ok.look y hy) (thn (ha.run pins s σ H _ I want) ?_) hs
  rintro v s1 ⟨x, H1, I1, rx, l, ps, zs, rfl, hl, hp, few, q⟩
  obtain rfl : v = Value.ref l := rx
  obtain ⟨its, r, p, z⟩ := I1.list hl
  refine wpAny_pyIter_list p.isList ?_
  have lt : l < s1.heap.objs.size := by obtain ⟨o, e, _⟩ := id p.isList; exact Heap.lt_size e
  have ne : l ≠ s1.heap.objs.size := Nat.ne_of_lt lt
  have up : ∀ b o, s1.heap.get? b = some o → (s1.heap.push { cls := .type "list_iterator", data := .fields #[.ref l, .int 0 0] }).get? b = some o := fun b o e => Heap.get?_push_of_some _ e
  refine ⟨s1.heap.objs.size, _, _, _, _, _, rfl, Goes.list calm s1.heap.objs.size l ne its.toArray, ⟨⟨_, Heap.get?_push_size _ rfl, rfl, rfl⟩, p.isList.at fun o e => up l o e⟩, ?_⟩
  intro D C s3 begins newSet
  obtain ⟨⟨h3, tk3, rfl⟩, old, newD, newC, neDC, names⟩ := begins
  have sizeUp : (s1.heap.push { cls := .type "list_iterator", data := .fields #[.ref l, .int 0 0] }).objs.size = s1.heap.objs.size + 1 := Heap.size_push ..
  have bigD : s1.heap.objs.size < D := by have z : (s1.heap.push { cls := .type "list_iterator", data := .fields #[.ref l, .int 0 0] }).objs.size ≤ D := newD; rw [sizeUp] at z; exact z
  have bigC : s1.heap.objs.size < C := by have z : (s1.heap.push { cls := .type "list_iterator", data := .fields #[.ref l, .int 0 0] }).objs.size ≤ C := newC; rw [sizeUp] at z; exact z
  have lens : its.toArray.size = zs.length := by rw [List.size_toArray, ← r.length, hp.len]
  refine ⟨fun i t => (∃ h tk, t = { s1 with heap := h, toks := tk }) ∧ (∀ b o, s1.heap.get? b = some o → t.heap.get? b = some o) ∧ Holds' (PySem.strKind X.prog X.w) D (zs.take i) t.heap ∧ ∃ m, t.heap.Ns C m, ?_, ?_, ?_, ?_⟩
  · refine ⟨⟨h3, tk3, rfl⟩, fun b o e => old b o (up b o e), ?_, _, names⟩
    exact (setObjOf_fresh (knd := PySem.strKind X.prog X.w) _).setOf newSet (by unfold scanBound; omega)
  · rintro i t h' tk ⟨⟨h, tk0, rfl⟩, k1, k2, m, k3⟩ keep _
    refine ⟨⟨h', tk, rfl⟩, fun b o e => keep b o (by simp only [List.mem_singleton]; exact Nat.ne_of_lt (Heap.lt_size e)) (k1 b o e), ?_, m, ?_⟩
    · obtain ⟨o, es, ep, tb, e, more⟩ := k2
      exact ⟨o, es, ep, tb, keep D o (by simp only [List.mem_singleton]; exact Nat.ne_of_gt bigD) e, more⟩
    · obtain ⟨o, es, ep, e, more⟩ := k3
      exact ⟨o, es, ep, keep C o (by simp only [List.mem_singleton]; exact Nat.ne_of_gt bigC) e, more⟩
  · rintro i v t hi hv st ⟨⟨h, tk0, rfl⟩, k1, k2, m, k3⟩
    have hi' : i < ps.length := by rw [hp.len, ← lens]; exact hi
    obtain ⟨t, z0, w0, e0, e1, e2⟩ := hp.get (List.getElem?_eq_getElem hi')
    obtain ⟨u, eu, ru⟩ := r.get (List.getElem?_eq_getElem hi')
    have hv : its.toArray[i]? = some v := hv
    rw [List.getElem?_toArray, eu] at hv
    injection hv with hv
    rw [e0] at ru
    obtain rfl : u = Value.ref t := ru
    subst hv
    obtain ⟨us, rt, isT, _⟩ := I1.tuple e2
    cases rt with
    | cons ra rb =>
    cases rb with
    | cons rb rc =>
    cases rc
    obtain ⟨tok, rfl⟩ := ra
    rename_i u2
    have isT2 : h.IsTuple t #[.str z0 tok, u2] := by
      obtain ⟨o, e, more⟩ := isT
      exact ⟨o, k1 t o e, more⟩
    have locK : (compEnvC scope (cloFrom X.env.cells scope.names []) C X.env).kindOf k = some .local := lookup_relabel_local ok.fst
    have locN : (compEnvC scope (cloFrom X.env.cells scope.names []) C X.env).kindOf n = some .local := lookup_relabel_local ok.snd
    have kindF : (compEnvC scope (cloFrom X.env.cells scope.names []) C X.env).scope.kind = .function := ok.kind
    have notC : ((compEnvC scope (cloFrom X.env.cells scope.names []) C X.env).scope.kind == .class || ((compEnvC scope (cloFrom X.env.cells scope.names []) C X.env).scope.kind == .module && (compEnvC scope (cloFrom X.env.cells scope.names []) C X.env).locals != (compEnvC scope (cloFrom X.env.cells scope.names []) C X.env).globals)) = false := by rw [kindF]; rfl
    generalize hce : compEnvC scope (cloFrom X.env.cells scope.names []) C X.env = ce at locK locN kindF notC ⊢
    have cL : ce.locals = C := by rw [← hce]; rfl
    have k3' : h.Ns ce.locals m := by rw [cL]; exact k3
    have sees : ∀ {b : Addr} {o : Obj}, h.get? b = some o → b < h.objs.size := fun e => Heap.lt_size e
    refine wpAny_assign_Tuple calm isT2 (by rw [each]; rfl) (by rw [each]; rfl) fun h4 ext4 => ?_
    replace ext4 : Heap.ExtBut h.objs.size h h4 := ext4
    rw [each]
    have k4 : h4.Ns ce.locals m := by
      obtain ⟨o, es, ep, e, more⟩ := k3'
      exact ⟨o, es, ep, ext4 _ _ (Nat.ne_of_lt (sees e)) e, more⟩
    refine assignInOrder_cons (wpAny_assign_Name (wpAny_storeName_local locK k4 (fun h5 k5 same5 => ?_) notC))
    replace same5 : Heap.SameBut ce.locals h4 h5 := same5
    refine assignInOrder_cons (wpAny_assign_Name (wpAny_storeName_local locN k5 (fun h6 k6 same6 => ?_) notC))
    replace same6 : Heap.SameBut ce.locals h5 h6 := same6
    refine assignInOrder_nil (wpAny_pure ?_)
    rw [if_pos rfl]
    have keep6 : ∀ b o, b ≠ C → h.get? b = some o → h6.get? b = some o := fun b o nb e => by
      rw [← cL] at nb
      exact (same6.2 b nb).trans ((same5.2 b nb).trans (ext4 b o (Nat.ne_of_lt (sees e)) e))
    have set6 : Holds' (PySem.strKind X.prog X.w) D (zs.take i) h6 := by
      obtain ⟨o, es, ep, tb, e, more⟩ := k2
      exact ⟨o, es, ep, tb, keep6 D o neDC e, more⟩
    have val6 : (fun x => if x = n then some u2 else if x = k then some (Value.str z0 tok) else m x) k = some (.str z0 tok) := by simp [ok.ne]
    refine wpAny_Name (wpAny_loadName_local kindF locK k6 val6 ?_) ok.dbg
    have room : (onces (zs.take i)).length + 1 < scanBound := by
      have a := onces_le (zs.take i)
      have b : (zs.take i).length ≤ zs.length := by simp; omega
      unfold scanBound; omega
    refine call_set_add (knd := PySem.strKind X.prog X.w) (k := z0) (key := .str z0 tok) (PySem.strKind_is _ _ z0 tok) rfl set6 room fun h7 same7 more => ?_
    replace same7 : Heap.SameBut D h6 h7 := same7
    have keep7 : ∀ b o, b ≠ C → b ≠ D → h.get? b = some o → h7.get? b = some o := fun b o nc nd e => (same7.2 b nd).trans (keep6 b o nc e)
    refine ⟨⟨⟨h7, _, rfl⟩, fun b o e => keep7 b o (Nat.ne_of_lt (Nat.lt_trans (Heap.lt_size e) bigC)) (Nat.ne_of_lt (Nat.lt_trans (Heap.lt_size e) bigD)) (k1 b o e), holds_next e1 more, ?_⟩, ?_, ?_⟩
    · rw [cL] at k6
      obtain ⟨o, es, ep, e, more⟩ := k6
      exact ⟨_, o, es, ep, (same7.2 C neDC.symm).trans e, more⟩
    · exact st.1.at fun o e => keep7 _ o (Nat.ne_of_lt bigC) (Nat.ne_of_lt bigD) e
    · exact st.2.at fun o e => keep7 _ o (Nat.ne_of_lt (Nat.lt_trans lt bigC)) (Nat.ne_of_lt (Nat.lt_trans lt bigD)) e
  · rintro t ⟨⟨h, tk0, rfl⟩, k1, k2, m, k3⟩
    refine ⟨m, k3, fun h' sb => ?_⟩
    have full : zs.take its.toArray.size = zs := by rw [List.take_of_length_le]; rw [lens]; exact Nat.le_refl _
    rw [full] at k2
    have k2' : Holds' (PySem.strKind X.prog X.w) D zs h' := by
      obtain ⟨o, es, ep, tb, e, more⟩ := k2
      exact ⟨o, es, ep, tb, (sb.2 D neDC).trans e, more⟩
    refine ⟨.ref D, _, I1.laid (t' := tk0) (a := D) (o := SetX D (onces zs).length) (fun b o e => (sb.2 b ?_).trans (k1 b o e)) (Nat.le_of_lt bigD) (setX_new k2'), rfl, q D (I1.hok.fresh (Nat.le_of_lt bigD))⟩
    exact Nat.ne_of_lt (Nat.lt_trans (Heap.lt_size e) bigC)
/-- the first texts of pairs -/
def firsts : List D → Option (List Str)
  | [] => some []
  | .tup [.str z, _] :: r => (firsts r).map fun zs => z :: zs
  | _ => none
theorem firsts_rep {K : PySem.W.Frag} {H : Hp} : ∀ {ds : List D} {vs : List V} {zs : List Str}, RepL K H vs ds → firsts ds = some zs → PairsV K H vs zs
  | [], _, _, .nil, e => by cases e; exact .nil
  | d :: ds, _, zs, .cons a b, e => by
    unfold firsts at e
    split at e
    · rename_i h
      cases h
    · rename_i z x r h
      injection h with h1 h2
      subst h1 h2
      cases ef : firsts ds with
      | none => rw [ef] at e; cases e
      | some ys =>
        rw [ef] at e
        injection e with e
        subst e
        cases a with
        | tup h l =>
          obtain ⟨v, u, rfl, r1, _⟩ := l.two
          cases r1
          exact .cons h (firsts_rep b ef)
    · cases e
def dLenSc : D → R D
  | .lst xs => match firsts xs with
    | some zs => if zs.length ≤ 1000 then .ok (.int (onces zs).length) else .no
    | none => .no
  | _ => .no
def eLenSc (a : Ex) : Ex := fun ρ => (a ρ).bnd dLenSc
theorem se_lenSc {k n : Str} {iter : Expr} {fa : Ex} {scope : Scope} {pos tp pk pn pe p lpos : Pos} {kt : Nat} (hc : X.calm = true) (hg : Gl X "len") (hm : X.mg "len" = none) (ha : SE X W iter fa) (ok : PlainBlk scope k n) (hs : ∀ x, foldedSetIterable iter X.env x = pure x := by intro _; rfl)
    (each : ∀ env : PySem.Env, assignEach [.Name k pk, .Name n pn] env = [(false, assign (.Name k pk) env), (false, assign (.Name n pn) env)] := by intro _; rfl)
    (nb : starEach [.SetComp (.Name k pe) [⟨.Tuple [.Name k pk, .Name n pn] kt tp, iter, [], 0⟩] scope pos] X.env = (false, eval (.SetComp (.Name k pe) [⟨.Tuple [.Name k pk, .Name n pn] kt tp, iter, [], 0⟩] scope pos) X.env) :: starEach [] X.env := by rfl) :
    SE X W (.Call (.Name "len" p) [.SetComp (.Name k pe) [⟨.Tuple [.Name k pk, .Name n pn] kt tp, iter, [], 0⟩] scope pos] [] lpos) (eLenSc fa) := by
  refine PE.weak (pe_callB cr_lenX hg hm PySem.boot_len (pa_cons (pe_scK hc ha ok hs each) pa_nil nb) (by decide) (by decide) nb rfl) fun σ H Q ⟨fm, O, ρ, en, h⟩ => ?_
  refine ⟨fm, O, ρ, en, (Post.bnd h).imp fun v H1 s1 ⟨_, d, r, h1⟩ => ?_⟩
  unfold dLenSc at h1
  split at h1
  · rename_i xs
    cases r with
    | lst e l =>
      split at h1
      · rename_i zs hz
        split at h1
        · rename_i few
          refine ⟨_, _, _, rfl, SqL.of (same_hide _ _ e), firsts_rep (l.mono same_hide) hz, few, fun q hq => ?_⟩
          exact ⟨_, _, rfl, upd_same, h1 _ _ (same_new hq) (.int _)⟩
        · exact h1.elim
      · exact h1.elim
  · exact h1.elim
end
end JK

/-! LayX -/
set_option Elab.async false
set_option linter.all false
set_option maxRecDepth 100000
set_option autoImplicit false
set_option maxHeartbeats 1000000
/-! sorted(set(texts)) -/
namespace JK
open PySem PySem.Spec PyProof.Rows L2
/-- a set of texts that can be walked: the texts ks, each once -/
def TxS (prog : Program) (w : World) (z : Addr) (ks : List Str) (h : Heap) : Prop :=
  ∃ (T : Froz.SD) (l : List Str), h.get? z = some (Froz.sObj "set" T) ∧ Froz.TxOk prog w T l ∧ l.Nodup ∧ (∀ k, k ∈ l ↔ k ∈ ks) ∧ l.length ≤ ks.length ∧ Ris T.2.2.place.toList ∧ (w.params.followText "set-order" = true ∨ T.2.2.led = true)
theorem TxS.at {prog : Program} {w : World} {z : Addr} {ks : List Str} {h h' : Heap} (t : TxS prog w z ks h) (k : ∀ o, h.get? z = some o → h'.get? z = some o) : TxS prog w z ks h' := by
  obtain ⟨T, l, a, more⟩ := t
  exact ⟨T, l, k _ a, more⟩
theorem ris_add {h : Int} {v : Value} {T : Froz.SD} (r : Ris T.2.2.place.toList) : Ris (Froz.addTx h v T).2.2.place.toList ∧ (Froz.addTx h v T).2.2.led = T.2.2.led := by
  have a := layNew_ris T.2.2 T.1 h v r
  have b := layNew_led T.2.2 T.1 h v
  unfold Froz.addTx
  generalize layNew T.2.2 T.1 h v = N at a b ⊢
  have plainR : ∀ t : SetTable, Ris t.place.toList → t.led = T.2.2.led → Ris (if t.plain = true then { t with plain := false } else t).place.toList ∧ (if t.plain = true then { t with plain := false } else t).led = T.2.2.led := fun t p q => by
    split
    · exact ⟨p, q⟩
    · exact ⟨p, q⟩
  obtain ⟨c, d⟩ := plainR N.2.1 a b
  generalize (if N.2.1.plain = true then { N.2.1 with plain := false } else N.2.1) = t2 at c d ⊢
  unfold Froz.tailTx
  split
  · exact ⟨relayAll_ris _ _ _, (relayAll_led _ _ _).trans d⟩
  · exact ⟨c, d⟩
section
variable {prog : Program} {w : World} {A : Around} {E : Value → Shared → Prop} {s : Shared}
/-- a text that is there already changes nothing -/
theorem putOld {z : Addr} {T : Froz.SD} {l : List Str} {k : Str} {u : Tok} {Q : Bool → Shared → Prop} (at_ : s.heap.get? z = some (Froz.sObj "set" T)) (F : Froz.TxOk prog w T l) (hk : k ∈ l) (few : l.length < scanBound) (q : Q false s) :
    wpAny (model prog w) A (setAddHashed z (.str k u) (hashStr w k)) Q E s := by
  obtain ⟨es, ep, t⟩ := T
  have fit : t.fits es.size = true := F.fit
  have el : ElemsOf (PySem.strKind prog w) es.toList := F.el
  have size : es.size < scanBound := by have z : es.size = l.length := F.sz; omega
  have key : (PySem.strKind prog w).is k (.str k u) = true := PySem.strKind_is _ _ k u
  obtain ⟨j, hj⟩ : ∃ j, es.toList.findIdx? (fun e => (PySem.strKind prog w).is k e.2) = some j := by
    obtain ⟨e, he, ye⟩ := (F.mem k).mp hk
    cases hf : es.toList.findIdx? (fun e => (PySem.strKind prog w).is k e.2) with
    | some j => exact ⟨j, rfl⟩
    | none => exact absurd ye (by have := List.findIdx?_eq_none_iff.mp hf e he; rw [this]; exact Bool.false_ne_true)
  unfold setAddHashed setAddHashedIn
  refine wpAny_holding (wpAny_bind (wpAny_setState_of at_ rfl fit ?_))
  have scan := byScan_of (x := Value.str k u) rfl size el
  simp only [scan, ↓reduceIte]
  unfold setAddByScan
  refine wpAny_bind (wpAny_bind (wpAny_rule (wpAny_bind (wpAny_setScan_of key at_ rfl fit el ?_))))
  rw [hj]
  exact wpAny_pure (wpAny_pure q)
theorem txPut {z : Addr} {ks : List Str} {k : Str} {u : Tok} {Q : Bool → Shared → Prop} (now : TxS prog w z ks s.heap) (few : ks.length + 1 < scanBound)
    (then_ : ∀ b h', Heap.SameBut z s.heap h' → TxS prog w z (ks ++ [k]) h' → Q b { s with heap := h', toks := s.toks + 1 }) : wpAny (model prog w) A (setAdd z (.str k u)) Q E s := by
  obtain ⟨T, l, at_, F, nd, mem, len, ris, led⟩ := now
  have key : (PySem.strKind prog w).is k (.str k u) = true := PySem.strKind_is _ _ k u
  unfold setAdd
  refine wpAny_holding (wpAny_bind ((PySem.strKind prog w).pyHash key ?_))
  by_cases hk : k ∈ l
  · refine putOld (s := { s with toks := s.toks + 1 }) at_ F hk (by omega) (then_ false s.heap (Heap.SameBut.refl _ _) ⟨T, l, at_, F, nd, fun j => ?_, by simp; omega, ris, led⟩)
    rw [List.mem_append, List.mem_singleton, ← mem j]
    exact ⟨.inl, fun q => q.elim id fun e => e ▸ hk⟩
  · refine Froz.add_x (s := { s with toks := s.toks + 1 }) at_ F hk (by omega) (then_ true _ (Heap.SameBut.update ..) ⟨_, k :: l, Heap.get?_update_self _ at_ rfl, Froz.add_ok u F, List.nodup_cons.mpr ⟨hk, nd⟩, fun j => ?_, by simp; omega, (ris_add ris).1, ?_⟩)
    · rw [List.mem_cons, List.mem_append, List.mem_singleton, mem j]
      exact ⟨fun q => q.elim .inr .inl, fun q => q.elim .inr .inl⟩
    · rw [(ris_add ris).2]; exact led
/-- a walk over texts, put into a set -/
theorem fillX {I : Addr} {fp wr : List Addr} {G : Array GenState → Array GenState → Prop} {n : Nat} {P : Nat → Value → Prop} {St : Nat → Shared → Prop} {R : Result → Shared → Prop} (W : WalksS prog w A.in1 I fp wr G n P St) {z : Addr} (zf : z ∉ fp) (ks : List Str) (len : ks.length = n) (few : n + 1 < scanBound)
    (val : ∀ i v, i < n → P i v → ∃ k u, ks[i]? = some k ∧ v = .str k u) {s : Shared} (st : St 0 s) (now : TxS prog w z [] s.heap)
    (fin : ∀ s', Moved (z :: wr) G s s' → TxS prog w z ks s'.heap → R (.ok (.ret .none)) s') :
    codeAny (model prog w) A (.builtin "set.update.loop" ⟨[.ref z, .ref I], []⟩) R s := by
  have zw : z ∉ wr := fun q => zf (W.sub _ q)
  have on : ∀ {a b : Shared}, Moved wr G a b → Moved (z :: wr) G a b := fun q => ⟨fun c o hc e => q.heap c o (fun y => hc (List.mem_cons_of_mem _ y)) e, q.gens, q.drawn, q.os, q.toks⟩
  have two : ∀ {a b c : Shared}, Moved (z :: wr) G a b → Moved (z :: wr) G b c → Moved (z :: wr) G a c := fun p q => ⟨fun d o hd e => q.heap d o hd (p.heap d o hd e), W.gtrans _ _ _ p.gens q.gens, q.drawn.trans p.drawn, q.os.trans p.os, Nat.le_trans p.toks q.toks⟩
  have all : ∀ (left i : Nat) (t : Shared), i + left = n → St i t → TxS prog w z (ks.take i) t.heap → Moved (z :: wr) G s t → codeAny (model prog w) A (.builtin "set.update.loop" ⟨[.ref z, .ref I], []⟩) R t := by
    intro left
    induction left with
    | zero =>
      intro i t im sti hol mv
      obtain rfl : i = n := by omega
      refine codeAny_builtin F.entry_set_update_loop ?_
      rw [Around.under_plainId F.plain_set_update_loop]
      refine wpAny_bind (W.done t _ _ sti fun t' q => wpAny_pure (fin t' (two mv (on q)) ?_))
      have got := hol.at fun o e => q.heap z o zw e
      rwa [List.take_of_length_le (by omega)] at got
    | succ left ih =>
      intro i t im sti hol mv
      refine codeAny_builtin F.entry_set_update_loop ?_
      rw [Around.under_plainId F.plain_set_update_loop]
      refine wpAny_bind (W.item i t _ _ (by omega) sti fun v t' pv st' q => ?_)
      obtain ⟨k, u, hk, rfl⟩ := val i v (by omega) pv
      have one : ks.take (i + 1) = ks.take i ++ [k] := by rw [List.take_succ, hk]; rfl
      have short : (ks.take i).length + 1 < scanBound := by have : (ks.take i).length ≤ ks.length := by simp; omega
                                                            omega
      refine wpAny_bind (wpAny_holding (txPut (hol.at fun o e => q.heap z o zw e) short fun b h' sb more => wpAny_pure ⟨plainId_quiet F.plain_set_update_loop _, ?_⟩))
      refine ih (i + 1) _ (by omega) (W.frame _ t' _ _ st' (Nat.le_succ _) fun c hc o e => ?_) (by rw [one]; exact more) (two (two mv (on q)) ⟨fun c o hc e => ?_, W.grefl _, rfl, rfl, Nat.le_succ _⟩)
      · exact (sb.2 c fun y => zf (y ▸ hc)).trans e
      · exact (sb.2 c fun y => hc (by rw [y]; exact List.mem_cons_self)).trans e
  exact all n 0 s (by omega) st (by simpa using now) ⟨fun _ _ _ e => e, W.grefl _, rfl, rfl, Nat.le_refl _⟩
/-- all of a list of texts, into a set -/
theorem intoX {l z : Addr} {its : Array Value} {ys : List Str} {Q : Unit → Shared → Prop} (calm : A.handled = none) (il : s.heap.IsList l its) (lz : l ≠ z) (zs : z < s.heap.objs.size) (tx : PyProof.Rows.StrsAre its.toList ys) (few : ys.length + 1 < scanBound) (now : TxS prog w z [] s.heap)
    (fin : ∀ (h2 : Heap) (tk : Nat), TxS prog w z ys h2 → (∀ b o, b ≠ z → s.heap.get? b = some o → h2.get? b = some o) → Q () { s with heap := h2, toks := tk }) :
    wpAny (model prog w) A (Builtin.Frozenset.updateFrom "set.__init__" z (.ref l)) Q E s := by
  obtain ⟨lo, at_, cl, m, da⟩ := id il
  have isL : s.TypeIs (.ref l) "list" := ⟨lo, at_, cl⟩
  have nI : l ≠ s.heap.objs.size := Nat.ne_of_lt (Heap.lt_size at_)
  have W := (Walks.list (prog := prog) (w := w) (A := A.in1) (by simp [calm]) s.heap.objs.size l nI its).toS
  have many : ys.length = its.size := by rw [← StrsAre.len_eq tx, Array.length_toList]
  unfold Builtin.Frozenset.updateFrom
  refine wpAny_bind (noSet at_ cl ?_)
  simp only [Bool.false_eq_true, if_false]
  refine wpAny_bind (wpAny_typeOf isL ?_)
  rw [if_neg (by decide)]
  refine wpAny_bind (wpAny_pyIter_list il (wpAny_bind (wpAny_runValue (fillX W (z := z) ?_ ys many (by rw [← many]; exact few) (fun i v hi hv => ?_) ⟨⟨_, Heap.get?_push_size _ rfl, rfl, rfl⟩, il.push _⟩ (now.at fun o e => Heap.get?_push_of_some _ e) fun t mv got => ?_))))
  · simp only [List.mem_cons, List.not_mem_nil, or_false, not_or]
    exact ⟨Nat.ne_of_lt zs, fun e => lz e.symm⟩
  · obtain ⟨u, rfl⟩ := SS.strs_at tx i v (by rw [Array.getElem?_toList]; exact hv)
    have lt : i < ys.length := by omega
    refine ⟨ys[i], u, List.getElem?_eq_getElem lt, ?_⟩
    rw [List.getD_eq_getElem?_getD, List.getElem?_eq_getElem lt]
    rfl
  · refine wpAny_pure ?_
    have same : t = { s with heap := t.heap, toks := t.toks } := by
      have g := mv.gens; have d := mv.drawn; have o := mv.os
      cases t; simp only at g d o; rw [g, d, o]
    rw [same]
    refine fin _ _ got fun b o bz e => mv.heap b o ?_ (Heap.get?_push_of_some _ e)
    simp only [List.mem_cons, List.not_mem_nil, or_false, not_or]
    exact ⟨bz, Nat.ne_of_lt (Heap.lt_size e)⟩
theorem txFresh {z : Addr} {h : Heap} (new : h.get? z = some { cls := .type "set", dict := none, data := .set #[] 0 (.fresh 0 0 (!w.params.followText "set-order")) }) : TxS prog w z [] h := by
  refine ⟨(#[], 0, .fresh 0 0 (!w.params.followText "set-order")), [], new, Froz.TxOk.nil rfl, List.nodup_nil, by simp, Nat.le_refl _, List.Pairwise.nil, ?_⟩
  cases w.params.followText "set-order"
  · exact .inr rfl
  · exact .inl rfl
/-- set(a list of texts), to be walked -/
theorem setOfX {l : Addr} {its : Array Value} {ys : List Str} {Q : Value → Shared → Prop} (calm : A.handled = none) (il : s.heap.IsList l its) (tx : PyProof.Rows.StrsAre its.toList ys) (few : ys.length + 1 < scanBound)
    (fin : ∀ (h2 : Heap) (tk : Nat), TxS prog w s.heap.objs.size ys h2 → (∀ b o, s.heap.get? b = some o → h2.get? b = some o) → Q (.ref s.heap.objs.size) { s with heap := h2, toks := tk }) :
    wpAny (model prog w) A (call (.type "set") [.ref l]) Q E s := by
  obtain ⟨c0, tl, mro⟩ := F.called_set.mro
  have made := F.called_set.made
  have below := F.called_set.sub
  have noT := F.called_set.notType
  have can := F.called_set.canCreate
  have chk := F.typeCall_set_1 (.ref l)
  refine wpAny_call (codeAny_of_tree ?_)
  wp_walk
  refine ⟨Code.quiet_builtin _ (by decide +kernel), codeAny_builtin F.entry_type_call ?_⟩
  rw [Around.under_plain (weight_type_call_type "set" [.ref l] []) rfl]
  unfold Builtin.«type.__call__»
  simp only [noT, Bool.false_eq_true, if_false, can, chk, mro, made, pure_bind, List.isEmpty_cons]
  refine wpAny_bind (wpAny_holding (wpAny_call (codeAny_mono (code_set_led1 (.ref l) (E := E) (Q₁ := fun ob t => ob = .ref s.heap.objs.size ∧ t = { s with heap := s.heap.push { cls := .type "set", dict := none, data := .set #[] 0 (.fresh 0 0 (!w.params.followText "set-order")) } }) ⟨rfl, rfl⟩) fun r t hr => ?_)))
  cases r with
  | error e => exact hr
  | ok fl =>
    cases fl with
    | ret ob =>
      obtain ⟨rfl, rfl⟩ := hr
      have new : (s.heap.push { cls := .type "set", dict := none, data := .set #[] 0 (.fresh 0 0 (!w.params.followText "set-order")) }).get? s.heap.objs.size = some { cls := .type "set", dict := none, data := .set #[] 0 (.fresh 0 0 (!w.params.followText "set-order")) } := Heap.get?_push_size _ rfl
      have isS : Shared.TypeIs { s with heap := s.heap.push { cls := .type "set", dict := none, data := .set #[] 0 (.fresh 0 0 (!w.params.followText "set-order")) } } (.ref s.heap.objs.size) "set" := ⟨_, new, rfl⟩
      refine wpAny_bind (wpAny_isInstance isS below ?_)
      simp only [Bool.not_true, Bool.false_eq_true, if_false]
      refine wpAny_bind (wpAny_holding (wpAny_callSpecial?_slot isS F.called_set.init (wpAny_call (initCode isS ?_))))
      obtain ⟨lo, at_, _⟩ := id il
      have ls := Heap.lt_size at_
      unfold Builtin.«set.__init__» noKeywords
      generalize up : Builtin.Frozenset.updateFrom = UP
      wp_walk
      subst up
      refine intoX (by simp [calm]) (il.push _) (Nat.ne_of_lt ls) (by rw [Heap.size_push]; exact Nat.lt_succ_self _) tx few (txFresh new) fun h2 tk got keep => wpAny_pure ?_
      exact wpAny_pure (fin h2 tk got fun b o e => keep b o (Nat.ne_of_lt (Heap.lt_size e)) (Heap.get?_push_of_some _ e))
    | _ => exact hr.elim
end
end JK

/-! LayY -/
set_option Elab.async false
set_option linter.all false
set_option maxRecDepth 100000
set_option autoImplicit false
set_option maxHeartbeats 1000000
/-! sorted(set(texts)), the call and its reading -/
namespace JK
open PySem PySem.Spec PyProof.Rows L2
theorem perm_few {l : List Str} (nd : l.Nodup) : ∀ {ss : List Str}, (∀ k ∈ l, k ∈ ss) → ss.length ≤ l.length → ss.Perm l := by
  induction l with
  | nil => intro ss _ h; rw [List.eq_nil_of_length_eq_zero (Nat.le_zero.mp h)]
  | cons x l ih =>
    intro ss sub h
    obtain ⟨n1, n2⟩ := List.nodup_cons.mp nd
    have hx : x ∈ ss := sub x List.mem_cons_self
    have p := List.perm_cons_erase hx
    have le : (ss.erase x).length ≤ l.length := by rw [List.length_erase_of_mem hx]; simp at h; omega
    have q := ih n2 (ss := ss.erase x) (fun k hk => by
      have ne : k ≠ x := fun e => n1 (e ▸ hk)
      exact (List.mem_erase_of_ne ne).mpr (sub k (List.mem_cons_of_mem _ hk))) le
    exact p.trans (q.cons x)
theorem strs_mem {vs : List Value} {ss : List Str} (r : StrsAre vs ss) : ∀ k, k ∈ ss ↔ ∃ t, Value.str k t ∈ vs := by
  induction r with
  | nil => simp
  | cons y t _ ih =>
    intro k
    simp only [List.mem_cons, ih, Value.str.injEq]
    constructor
    · rintro (rfl | ⟨u, h⟩)
      · exact ⟨t, .inl ⟨rfl, rfl⟩⟩
      · exact ⟨u, .inr h⟩
    · rintro ⟨u, ⟨rfl, _⟩ | h⟩
      · exact .inl rfl
      · exact .inr ⟨u, h⟩
/-- texts rise by their signs -/
def leS (a b : Str) : Bool := decide (a.cps.toList ≤ b.cps.toList)
def sortS (ys : List Str) : List Str := ys.mergeSort leS
theorem leS_trans (a b c : Str) (h1 : leS a b = true) (h2 : leS b c = true) : leS a c = true := by
  unfold leS at *
  simp only [decide_eq_true_eq] at *
  exact List.le_trans h1 h2
theorem leS_total (a b : Str) : (leS a b || leS b a) = true := by
  unfold leS
  simp only [Bool.or_eq_true, decide_eq_true_eq]
  exact List.le_total _ _
theorem leS_anti {a b : Str} (h1 : leS a b = true) (h2 : leS b a = true) : a = b := by
  unfold leS at *
  simp only [decide_eq_true_eq] at *
  have e := List.le_antisymm h1 h2
  cases a; cases b
  simp only at e
  congr
  exact Array.ext' e
theorem sortS_perm (ys : List Str) : (sortS ys).Perm ys := List.mergeSort_perm _ _
theorem sortS_le (ys : List Str) : (sortS ys).Pairwise (fun a b => leS a b = true) := List.pairwise_mergeSort leS_trans leS_total ys
theorem sortS_one {ys zs : List Str} (p : zs.Perm ys) (h : zs.Pairwise fun a b => leS a b = true) : zs = sortS ys :=
  List.Perm.eq_of_pairwise (le := fun a b => leS a b = true) (fun a b _ _ h1 h2 => leS_anti h1 h2) h (sortS_le ys) (p.trans (sortS_perm ys).symm)
theorem rising_le : ∀ (l : List Str) (p : Str), risingS p l = true → (p :: l).Pairwise fun a b => leS a b = true
  | [], p, _ => List.pairwise_cons.mpr ⟨by simp, List.Pairwise.nil⟩
  | x :: l, p, h => by
    unfold risingS at h
    rw [Bool.and_eq_true, Bool.not_eq_true', ltCps_eq, decide_eq_false_iff_not] at h
    have r := rising_le l x h.2
    have px : leS p x = true := by unfold leS; exact decide_eq_true (List.not_lt.mp h.1)
    refine List.pairwise_cons.mpr ⟨fun y hy => ?_, r⟩
    rcases List.mem_cons.mp hy with rfl | hy
    · exact px
    · exact leS_trans _ _ _ px ((List.pairwise_cons.mp r).1 y hy)
theorem sorted_le {l : List Str} (h : sortedS l = true) : l.Pairwise fun a b => leS a b = true := by
  cases l with
  | nil => exact List.Pairwise.nil
  | cons x l => exact rising_le l x h
section
variable {prog : Program} {w : World} {A : Around} {E : Value → Shared → Prop} {s : Shared}
theorem strs_all : ∀ (l : List Value), (∀ v ∈ l, ∃ k t, v = Value.str k t) → ∃ ss, StrsAre l ss
  | [], _ => ⟨[], .nil⟩
  | v :: l, h => by
    obtain ⟨k, t, rfl⟩ := h v List.mem_cons_self
    obtain ⟨ss, r⟩ := strs_all l fun u hu => h u (List.mem_cons_of_mem _ hu)
    exact ⟨k :: ss, .cons k t r⟩
/-- which texts a set that can be walked has -/
theorem txs_vals {T : Froz.SD} {l : List Str} (F : Froz.TxOk prog w T l) {out : List Value} (pm : out.Perm (T.1.toList.map (·.2))) : ∃ ss, StrsAre out ss ∧ (∀ k, k ∈ ss ↔ k ∈ l) ∧ ss.length = l.length := by
  have each : ∀ v ∈ out, ∃ k t, v = Value.str k t := fun v hv => by
    obtain ⟨e, he, q⟩ := List.mem_map.mp (pm.mem_iff.mp hv)
    obtain ⟨⟨k, hk, _⟩, _⟩ := F.el e he
    obtain ⟨t, e2⟩ := Value.isStrOf_shape hk
    exact ⟨k, t, by rw [← q]; exact e2⟩
  obtain ⟨ss, r⟩ := strs_all out each
  refine ⟨ss, r, fun k => ?_, ?_⟩
  · rw [strs_mem r, F.mem k]
    constructor
    · rintro ⟨t, ht⟩
      obtain ⟨e, he, q⟩ := List.mem_map.mp (pm.mem_iff.mp ht)
      exact ⟨e, he, by rw [q]; exact PySem.strKind_is _ _ k t⟩
    · rintro ⟨e, he, q⟩
      obtain ⟨t, e2⟩ := Value.isStrOf_shape q
      exact ⟨t, pm.mem_iff.mpr (List.mem_map.mpr ⟨e, he, e2⟩)⟩
  · rw [← r.len_eq, pm.length_eq, List.length_map, Array.length_toList]
    exact F.sz
theorem onces_nodup (ks : List Str) : (onces ks).Nodup ∧ ∀ k, k ∈ onces ks ↔ k ∈ ks := by
  unfold onces
  suffices ∀ acc : List Str, acc.Nodup → (ks.foldl once1 acc).Nodup ∧ ∀ k, k ∈ ks.foldl once1 acc ↔ k ∈ acc ∨ k ∈ ks by
    obtain ⟨a, b⟩ := this [] List.nodup_nil
    exact ⟨a, fun k => by rw [b]; simp⟩
  induction ks with
  | nil => intro acc h; exact ⟨h, by simp⟩
  | cons x ks ih =>
    intro acc h
    have nd : (once1 acc x).Nodup := by
      unfold once1
      split
      · exact h
      · rename_i hx
        exact List.nodup_append.mpr ⟨h, by simp, fun a ha b hb => by simp at hb; subst hb; exact fun e => hx (e ▸ ha)⟩
    obtain ⟨a, b⟩ := ih (once1 acc x) nd
    refine ⟨a, fun k => ?_⟩
    rw [List.foldl_cons, b, once1_mem, List.mem_cons]
    exact ⟨fun q => q.elim (fun q => q.elim .inl fun e => .inr (.inl e)) fun q => .inr (.inr q), fun q => q.elim (fun q => .inl (.inl q)) fun q => q.elim (fun q => .inl (.inr q)) .inr⟩
/-- sorted of such a set: its texts, rising, in a new list -/
theorem sortedX {a : Addr} {ks : List Str} {Q : Value → Shared → Prop} (calm : A.handled = none) (t : TxS prog w a ks s.heap) (few : ks.length ≤ 1000)
    (fin : ∀ s' p (out : Array Value) (c : Nat), (∀ b o, s.heap.get? b = some o → s'.heap.get? b = some o) → s'.gens = s.gens → s'.os = s.os → s.heap.objs.size ≤ p →
      s'.heap.get? p = some (seqObj "list" out c) → StrsAre out.toList (sortS (onces ks)) → Q (.ref p) s') :
    wpAny (model prog w) A (call (.builtin "sorted") [.ref a]) Q E s := by
  obtain ⟨T, l, at_, F, nd, mem, len, ris, led⟩ := t
  have size : T.1.size < scanBound := by rw [F.sz]; unfold scanBound; omega
  refine Calls.call_function_entry kind_sorted plain_sorted entry_sorted (args_sorted1 _) ?_
  unfold Builtin.«sorted»
  refine wpAny_bind (m := checkCount "sorted" 1 1 _) (wpAny_pure (wpAny_bind (collect_set (A := A.in1) calm ⟨_, at_, rfl, rfl⟩ F.fit size ris led ?_)))
  intro s1 out k1 z1 g1 o1 pm
  obtain ⟨ss, r, sm, sl⟩ := txs_vals F pm
  have lo : out.length = ss.length := r.len_eq
  have bound : out.length ≤ sizeLine := by rw [lo, sl, sizeLine_eq]; omega
  refine wpAny_bind (wpAny_newList ?_ bound)
  have new : (s1.heap.push (seqObj "list" out.toArray 0)).get? s1.heap.objs.size = some (seqObj "list" out.toArray 0) := Heap.get?_push_size _ rfl
  refine wpAny_bind (wpAny_holding (wpAny_call_entry slot_list_sort ⟨_, new, rfl⟩ entry_list_sort
    (list_sort_treeKAny strKind_oneLt new r.keysOf (fun v₁ v₂ rest e => keyKind_strs (by rw [← e]; exact r)) bound fun st' hp hs => ⟨_, rfl, ?_⟩) (args_list_sort _)))
  obtain ⟨ss', r2, p2, up2⟩ := sorted_out_str r hp hs
  obtain ⟨c, hc⟩ := sortedHeap_at (vs := out) (out := (arrOf st').map (·.2)) new
  refine wpAny_pure ⟨_, rfl, fin _ s1.heap.objs.size _ c (fun b o e => ?_) g1 o1 z1 hc ?_⟩
  · have q := k1 b o e
    have lt := Heap.lt_size q
    show (sortedHeap (s1.heap.push (seqObj "list" out.toArray 0)) s1.heap.objs.size out _).get? b = some o
    rw [sortedHeap_old (Nat.ne_of_lt lt) (by rw [size_push']; exact Nat.lt_succ_of_lt lt)]
    exact Heap.get?_push_of_some _ q
  · have pl : ss.Perm l := perm_few nd (fun k hk => (sm k).mpr hk) (Nat.le_of_eq sl)
    have po : l.Perm (onces ks) := (List.perm_ext_iff_of_nodup nd (onces_nodup ks).1).mpr fun k => (mem k).trans ((onces_nodup ks).2 k).symm
    rw [← sortS_one (p2.trans (pl.trans po)) (sorted_le up2)]
    exact r2
end
/-! the reading -/
def TxX (P : Program) (w : World) (a : Addr) (ks : List Str) : HO := .ext fun h => TxS P w a ks h
theorem txX_new {P : Program} {w : World} {H : Hp} {h : Heap} {a : Addr} {ks : List Str} (t : TxS P w a ks h) : ObjOk P w H h a (TxX P w a ks) := by
  obtain ⟨T, l, at_, _⟩ := id t
  exact ⟨t, ⟨_, at_⟩, fun h1 h2 p k => TxS.at p k⟩
section
variable {X : Cx} {W : WX}
def rSetT (X : Cx) : List V → Hp → VK → Prop := fun xs H Q => ∃ l ys, xs = [.ref l] ∧ SqL X.K H l (ys.map V.str) ∧ ys.length ≤ 1000 ∧ ∀ p, H p = none → Q (.ref p) (upd H p (TxX X.prog X.w p ys))
theorem cr_setT (hc : X.calm = true) : CallR X (.type "set") (rSetT X) := by
  intro pins s σ H xs us Q I r h
  obtain ⟨l, ys, rfl, hl, few, q⟩ := h
  obtain ⟨u, rfl, ru⟩ := vals1 r
  obtain rfl : u = Value.ref l := ru
  obtain ⟨its, rv, p, _⟩ := I.list hl
  refine setOfX (ys := ys) (I.ok.hd hc) p.isList (by rw [List.toList_toArray]; exact strs_of_vals rv) (by unfold scanBound; omega) fun h2 tk t keep => ?_
  exact ⟨.ref s.heap.objs.size, _, I.laid (t' := tk) keep (Nat.le_refl _) (txX_new t), rfl, q _ (I.hok.fresh (Nat.le_refl _))⟩
def rSortT (X : Cx) : List V → Hp → VK → Prop := fun xs H Q => ∃ a ks, xs = [.ref a] ∧ H a = some (TxX X.prog X.w a ks) ∧ ks.length ≤ 1000 ∧ ∀ p, H p = none → Q (.ref p) (upd H p (.lst ((sortS (onces ks)).map V.str)))
theorem vals_of_strs : ∀ {us : List Value} {ys : List Str}, StrsAre us ys → Vals (ys.map V.str) us
  | _, _, .nil => .nil
  | _, _, .cons y t r => .cons ⟨t, rfl⟩ (vals_of_strs r)
theorem cr_sortT (hc : X.calm = true) : CallR X (.builtin "sorted") (rSortT X) := by
  intro pins s σ H xs us Q I r h
  obtain ⟨a, ks, rfl, ha, few, q⟩ := h
  obtain ⟨u, rfl, ru⟩ := vals1 r
  obtain rfl : u = Value.ref a := ru
  have t : TxS X.prog X.w a ks s.heap := (I.hok a _ ha).1
  refine sortedX (I.ok.hd hc) t few fun s' p out c keep g o hp at_ st => ?_
  have fresh : H p = none := I.hok.fresh hp
  have len : ((sortS (onces ks)).map V.str).length ≤ sizeLine := by
    rw [List.length_map, (sortS_perm _).length_eq]
    have := onces_le ks
    rw [sizeLine_eq]; omega
  have J : Inv X pins σ (upd H p (.lst ((sortS (onces ks)).map V.str))) { s with heap := s'.heap, gens := s'.gens, drawn := s'.drawn, toks := s'.toks } :=
    I.call (ch := []) (Un.laid keep hp fresh) (I.hok.laid keep hp ⟨len, out.toList, c, vals_of_strs st, at_⟩) (by rw [g]; exact I.bare) (fun _ z => nomatch z)
  have same : s' = { s with heap := s'.heap, gens := s'.gens, drawn := s'.drawn, toks := s'.toks } := by
    cases s'; cases s; cases o; rfl
  rw [same]
  exact ⟨.ref p, _, J, rfl, q p fresh⟩
/-- sorted(set(a)), a list of texts -/
def dSortSet : D → R D
  | .lst xs => match strsOf xs with
    | some ys => if ys.length ≤ 1000 then .ok (.lst ((sortS (onces ys)).map .str)) else .no
    | none => .no
  | _ => .no
def eSortSet (a : Ex) : Ex := fun ρ => (a ρ).bnd dSortSet
theorem rep_texts {K : PySem.W.Frag} {H : Hp} : ∀ zs : List Str, RepL K H (zs.map V.str) (zs.map D.str)
  | [] => .nil
  | _ :: r => .cons (.str _) (rep_texts r)
theorem se_sortSet {a : Expr} {fa : Ex} {p p2 pos pos2 : Pos} (hc : X.calm = true) (hg : Gl X "sorted") (hm : X.mg "sorted" = none) (hg2 : Gl X "set") (hm2 : X.mg "set" = none) (ha : SE X W a fa) (na : starEach [a] X.env = (false, eval a X.env) :: starEach [] X.env := by rfl)
    (nb : starEach [.Call (.Name "set" p2) [a] [] pos2] X.env = (false, eval (.Call (.Name "set" p2) [a] [] pos2) X.env) :: starEach [] X.env := by rfl) (hv : bootBuiltins "set" = some (.type "set") := by decide +kernel) (hv2 : bootBuiltins "sorted" = some (.builtin "sorted") := by decide +kernel) :
    SE X W (.Call (.Name "sorted" p) [.Call (.Name "set" p2) [a] [] pos2] [] pos) (eSortSet fa) := by
  refine PE.weak (pe_callB (cr_sortT hc) hg hm hv2 (pa_cons (pe_callTy (cr_setT hc) hg2 hm2 hv (pa_cons ha pa_nil na) (by decide) (by decide) na rfl) pa_nil nb) (by decide) (by decide) nb rfl) fun σ H Q ⟨fm, O, ρ, en, h⟩ => ?_
  refine ⟨fm, O, ρ, en, (Post.bnd h).imp fun v H1 s1 ⟨_, d, r, h1⟩ => ?_⟩
  have th := (en.mono s1).there
  unfold dSortSet at h1
  split at h1
  · rename_i xs
    cases r with
    | lst e l =>
      split at h1
      · rename_i ys hy
        split at h1
        · rename_i few
          refine ⟨_, ys, rfl, ?_, few, fun q hq => ?_⟩
          · rw [← strsOf_rep l hy]; exact SqL.of (same_hide _ _ e)
          · refine ⟨_, ys, rfl, upd_same, few, fun p hp => ?_⟩
            have s2 : Same H1 (upd H1 q (TxX X.prog X.w q ys)) := same_new hq
            have s3 := same_new (o := HO.lst ((sortS (onces ys)).map V.str)) hp
            refine h1 _ _ (s2.trans s3) (.lst (hide_of upd_same ?_) (rep_texts _))
            exact fun z => th p z (s2.free hp)
        · exact h1.elim
      · exact h1.elim
  · exact h1.elim
end
end JK

/-! LayW -/
set_option Elab.async false
set_option linter.all false
set_option maxRecDepth 100000
set_option autoImplicit false
set_option maxHeartbeats 1000000
/-! list(text), sorted(set(text)) -/
namespace JK
open PySem PySem.Spec PyProof.Rows L2
/-- the texts of one sign of a text -/
def ones (x : Str) : List Str := x.cps.toList.map fun c => ⟨#[c]⟩
theorem ones_at {x : Str} {i : Nat} {c : Nat} (h : x.cps[i]? = some c) : (ones x)[i]? = some ⟨#[c]⟩ := by
  unfold ones
  rw [List.getElem?_map, Array.getElem?_toList, h]; rfl
theorem ones_len (x : Str) : (ones x).length = x.cps.size := by unfold ones; simp
section
variable {prog : Program} {w : World} {A : Around} {E : Value → Shared → Prop} {s : Shared}
/-- all signs of a text, into a set -/
theorem intoT {z : Addr} {x : Str} {u : Tok} {Q : Unit → Shared → Prop} (calm : A.handled = none) (zs : z < s.heap.objs.size) (few : x.cps.size + 1 < scanBound) (now : TxS prog w z [] s.heap)
    (fin : ∀ (h2 : Heap) (tk : Nat), TxS prog w z (ones x) h2 → (∀ b o, b ≠ z → s.heap.get? b = some o → h2.get? b = some o) → Q () { s with heap := h2, toks := tk }) :
    wpAny (model prog w) A (Builtin.Frozenset.updateFrom "set.__init__" z (.str x u)) Q E s := by
  unfold Builtin.Frozenset.updateFrom
  refine wpAny_bind (Fz.anySet ?_)
  simp only [Bool.false_eq_true, if_false]
  refine wpAny_bind (wpAny_typeOf (typeIs_str _ _ _) ?_)
  rw [if_neg (by decide)]
  refine wpAny_bind (wpAny_pyIter_str fun o St W st => wpAny_bind (wpAny_runValue (fillX (W A.in1 (by simp [calm])).toS (z := z) ?_ (ones x) (ones_len x) few (fun i v hi hv => ?_) st (now.at fun o e => Heap.get?_push_of_some _ e) fun t mv got => ?_)))
  · rw [List.mem_singleton]; exact Nat.ne_of_lt zs
  · obtain ⟨c, v', hc, rfl⟩ := hv
    exact ⟨_, v', ones_at hc, rfl⟩
  · refine wpAny_pure ?_
    have same : t = { s with heap := t.heap, toks := t.toks } := by
      have g := mv.gens; have d := mv.drawn; have o := mv.os
      cases t; simp only at g d o; rw [g, d, o]
    rw [same]
    refine fin _ _ got fun b o bz e => mv.heap b o ?_ (Heap.get?_push_of_some _ e)
    simp only [List.mem_cons, List.not_mem_nil, or_false, not_or]
    exact ⟨bz, Nat.ne_of_lt (Heap.lt_size e)⟩
/-- set(text), to be walked -/
theorem setOfT {x : Str} {u : Tok} {Q : Value → Shared → Prop} (calm : A.handled = none) (few : x.cps.size + 1 < scanBound)
    (fin : ∀ (h2 : Heap) (tk : Nat), TxS prog w s.heap.objs.size (ones x) h2 → (∀ b o, s.heap.get? b = some o → h2.get? b = some o) → Q (.ref s.heap.objs.size) { s with heap := h2, toks := tk }) :
    wpAny (model prog w) A (call (.type "set") [.str x u]) Q E s := by
  obtain ⟨c0, tl, mro⟩ := F.called_set.mro
  have made := F.called_set.made
  have below := F.called_set.sub
  have noT := F.called_set.notType
  have can := F.called_set.canCreate
  have chk := F.typeCall_set_1 (.str x u)
  refine wpAny_call (codeAny_of_tree ?_)
  wp_walk
  refine ⟨Code.quiet_builtin _ (by decide +kernel), codeAny_builtin F.entry_type_call ?_⟩
  rw [Around.under_plain (weight_type_call_type "set" [.str x u] []) rfl]
  unfold Builtin.«type.__call__»
  simp only [noT, Bool.false_eq_true, if_false, can, chk, mro, made, pure_bind, List.isEmpty_cons]
  refine wpAny_bind (wpAny_holding (wpAny_call (codeAny_mono (code_set_led1 (.str x u) (E := E) (Q₁ := fun ob t => ob = .ref s.heap.objs.size ∧ t = { s with heap := s.heap.push { cls := .type "set", dict := none, data := .set #[] 0 (.fresh 0 0 (!w.params.followText "set-order")) } }) ⟨rfl, rfl⟩) fun r t hr => ?_)))
  cases r with
  | error e => exact hr
  | ok fl =>
    cases fl with
    | ret ob =>
      obtain ⟨rfl, rfl⟩ := hr
      have new : (s.heap.push { cls := .type "set", dict := none, data := .set #[] 0 (.fresh 0 0 (!w.params.followText "set-order")) }).get? s.heap.objs.size = some { cls := .type "set", dict := none, data := .set #[] 0 (.fresh 0 0 (!w.params.followText "set-order")) } := Heap.get?_push_size _ rfl
      have isS : Shared.TypeIs { s with heap := s.heap.push { cls := .type "set", dict := none, data := .set #[] 0 (.fresh 0 0 (!w.params.followText "set-order")) } } (.ref s.heap.objs.size) "set" := ⟨_, new, rfl⟩
      refine wpAny_bind (wpAny_isInstance isS below ?_)
      simp only [Bool.not_true, Bool.false_eq_true, if_false]
      refine wpAny_bind (wpAny_holding (wpAny_callSpecial?_slot isS F.called_set.init (wpAny_call ?_)))
      refine codeAny_call_builtin F.called_set.init.plain F.entry_set_init (check_set_init_1 isS ?_)
      unfold Builtin.«set.__init__» noKeywords
      generalize up : Builtin.Frozenset.updateFrom = UP
      wp_walk
      subst up
      refine intoT (by simp [calm]) (by rw [Heap.size_push]; exact Nat.lt_succ_self _) few (txFresh new) fun h2 tk got keep => wpAny_pure ?_
      exact wpAny_pure (fin h2 tk got fun b o e => keep b o (Nat.ne_of_lt (Heap.lt_size e)) (Heap.get?_push_of_some _ e))
    | _ => exact hr.elim
end
section
variable {X : Cx} {W : WX}
theorem items_vals {x : Str} {acc : Array Value} (h : ItemsOf (SignAt x) acc x.cps.size) : Vals ((ones x).map V.str) acc.toList := by
  refine vals_of_idx _ _ (by simp [ones_len, h.1]) fun j u e => ?_
  rw [Array.getElem?_toList] at e
  obtain ⟨c, t, hc, rfl⟩ := h.2 j u e
  exact ⟨V.str ⟨#[c]⟩, by rw [List.getElem?_map, ones_at hc]; rfl, t, rfl⟩
/-- list(x), x a list, a tuple or a text -/
def dListX : List D → R D
  | [.str x] => if x.cps.size ≤ 1000 then .ok (.lst ((ones x).map .str)) else .no
  | ds => dList ds
theorem dListX_nx (ds : List D) : NoEx (dListX ds) := fun x h => by
  unfold dListX at h
  split at h
  · split at h <;> cases h
  · exact dList_nx _ x h
theorem cD_listX (hc : X.calm = true) : CallR X (.type "list") (rDs X.K dListX) := by
  intro pins s σ H vs us Q I rv h
  obtain ⟨O, ds, th, r, h⟩ := h
  unfold dListX at h
  split at h
  · rename_i x
    obtain ⟨v, rfl, r1⟩ := r.one
    cases r1
    obtain ⟨u, rfl, ru⟩ := vals1 rv
    obtain ⟨t, rfl⟩ := ru
    split at h
    · rename_i few
      refine call_list_str (I.ok.hd hc) x t (fun h2 tk acc c keep at_ its => ?_) (by rw [sizeLine_eq]; omega)
      have fresh : H s.heap.objs.size = none := I.hok.fresh (Nat.le_refl _)
      have len : ((ones x).map V.str).length ≤ sizeLine := by rw [List.length_map, ones_len, sizeLine_eq]; omega
      exact ⟨.ref s.heap.objs.size, _, I.laid (t' := tk) keep (Nat.le_refl _) (o := .lst ((ones x).map V.str)) ⟨len, acc.toList, c, items_vals its, at_⟩, rfl, h.lst th (rep_texts _) fresh⟩
    · exact h.elim
  · exact cD_list pins s σ H vs us Q I rv ⟨O, ds, th, r, h⟩
theorem se_listX {a : Expr} {f : Ax} {p pos : Pos} (hc : X.calm = true) (hg : Gl X "list") (hm : X.mg "list" = none) (ha : SAs X W [a] f) (hv : bootBuiltins "list" = some (.type "list") := by decide +kernel)
    (he : starEach [a] X.env = (false, eval a X.env) :: starEach [] X.env := by rfl) :
    SE X W (.Call (.Name "list" p) [a] [] pos) (eCall dListX f) := se_ty (cD_listX hc) dListX_nx hg hm hv ha (by decide) (by decide) he rfl
/-- sorted(set(x)), x a text -/
def rSetS (X : Cx) : List V → Hp → VK → Prop := fun xs H Q => ∃ x, xs = [.str x] ∧ x.cps.size ≤ 1000 ∧ ∀ p, H p = none → Q (.ref p) (upd H p (TxX X.prog X.w p (ones x)))
theorem cr_setS (hc : X.calm = true) : CallR X (.type "set") (rSetS X) := by
  intro pins s σ H xs us Q I r h
  obtain ⟨x, rfl, few, q⟩ := h
  obtain ⟨u, rfl, ru⟩ := vals1 r
  obtain ⟨t, rfl⟩ := ru
  refine setOfT (I.ok.hd hc) (by unfold scanBound; omega) fun h2 tk t keep => ?_
  exact ⟨.ref s.heap.objs.size, _, I.laid (t' := tk) keep (Nat.le_refl _) (txX_new t), rfl, q _ (I.hok.fresh (Nat.le_refl _))⟩
def dSortSigns : D → R D
  | .str x => if x.cps.size ≤ 1000 then .ok (.lst ((sortS (onces (ones x))).map .str)) else .no
  | _ => .no
def eSortSigns (a : Ex) : Ex := fun ρ => (a ρ).bnd dSortSigns
theorem se_sortSigns {a : Expr} {fa : Ex} {p p2 pos pos2 : Pos} (hc : X.calm = true) (hg : Gl X "sorted") (hm : X.mg "sorted" = none) (hg2 : Gl X "set") (hm2 : X.mg "set" = none) (ha : SE X W a fa) (na : starEach [a] X.env = (false, eval a X.env) :: starEach [] X.env := by rfl)
    (nb : starEach [.Call (.Name "set" p2) [a] [] pos2] X.env = (false, eval (.Call (.Name "set" p2) [a] [] pos2) X.env) :: starEach [] X.env := by rfl) (hv : bootBuiltins "set" = some (.type "set") := by decide +kernel) (hv2 : bootBuiltins "sorted" = some (.builtin "sorted") := by decide +kernel) :
    SE X W (.Call (.Name "sorted" p) [.Call (.Name "set" p2) [a] [] pos2] [] pos) (eSortSigns fa) := by
  refine PE.weak (pe_callB (cr_sortT hc) hg hm hv2 (pa_cons (pe_callTy (cr_setS hc) hg2 hm2 hv (pa_cons ha pa_nil na) (by decide) (by decide) na rfl) pa_nil nb) (by decide) (by decide) nb rfl) fun σ H Q ⟨fm, O, ρ, en, h⟩ => ?_
  refine ⟨fm, O, ρ, en, (Post.bnd h).imp fun v H1 s1 ⟨_, d, r, h1⟩ => ?_⟩
  have th := (en.mono s1).there
  unfold dSortSigns at h1
  split at h1
  · rename_i x
    cases r
    split at h1
    · rename_i few
      refine ⟨x, rfl, few, fun q hq => ⟨_, ones x, rfl, upd_same, by rw [ones_len]; exact few, fun p hp => ?_⟩⟩
      have s2 : Same H1 (upd H1 q (TxX X.prog X.w q (ones x))) := same_new hq
      have s3 := same_new (o := HO.lst ((sortS (onces (ones x))).map V.str)) hp
      exact h1 _ _ (s2.trans s3) (.lst (hide_of upd_same fun z => th p z (s2.free hp)) (rep_texts _))
    · exact h1.elim
  · exact h1.elim
end
end JK

/-! LayQ -/
set_option Elab.async false
set_option linter.all false
set_option maxRecDepth 100000
set_option autoImplicit false
/-! xs.count(True), xs.index(True), xs truth values -/
namespace JK
open PySem PySem.Spec PyProof.Rows L2
def blsOf : List D → Option (List Bool)
  | [] => some []
  | .bl b :: r => (blsOf r).map (b :: ·)
  | _ :: _ => none
theorem blsOf_map (bs : List Bool) : blsOf (bs.map D.bl) = some bs := by
  induction bs with
  | nil => rfl
  | cons b r ih => rw [List.map_cons, blsOf, ih]; rfl
theorem blsOf_rep {K : PySem.W.Frag} {H : Hp} : ∀ {ds : List D} {vs : List V} {bs : List Bool}, RepL K H vs ds → blsOf ds = some bs → vs = bs.map V.bl
  | [], _, _, .nil, e => by cases e; rfl
  | .bl b :: r, _, _, .cons a l, e => by
    unfold blsOf at e
    cases q : blsOf r with
    | none => rw [q] at e; cases e
    | some ms =>
      rw [q] at e
      cases e
      cases a
      rw [List.map_cons, blsOf_rep l q]
section
variable {X : Cx} {W : WX}
theorem bls_flat (bs : List Bool) : (bs.map V.bl).all flatV = true := by rw [List.all_eq_true]; intro v hv; obtain ⟨b, _, rfl⟩ := List.mem_map.mp hv; rfl
def rCntT (K : PySem.W.Frag) : V → List V → Hp → VK → Prop := fun x xs H Q => ∃ (a : Addr) (bs : List Bool), x = .ref a ∧ xs = [.bl true] ∧ SqL K H a (bs.map V.bl) ∧ Q (.int (bs.count true : Nat)) H
theorem cnt_bls {bs : List Bool} : ∀ {us : List Value}, Vals (bs.map V.bl) us → us.countP (eqU (.bl true)) = bs.count true := by
  induction bs with
  | nil => intro us r; cases r; rfl
  | cons b r ih =>
    intro us rv
    cases rv with
    | cons r1 r2 =>
      rw [List.countP_cons, ih r2, List.count_cons, eqU_of r1 rfl]
      cases b <;> rfl
theorem mt_cntT : MtR X "list.count" (rCntT X.K) := by
  intro pins s σ H x xs v us Q I rx rxs h
  obtain ⟨a, bs, rfl, rfl, hs, q⟩ := h
  obtain ⟨u, rfl, ru⟩ := vals1 rxs
  obtain ⟨its, rv, p, _⟩ := I.list hs
  obtain rfl : v = Value.ref a := rx
  obtain ⟨⟨c, dd, da, sl⟩, m, at_, cl, dn, dt⟩ := p
  simp only at cl dt
  subst cl dt
  refine call_meets F.slot_list_count ⟨_, at_, rfl⟩ F.entry_list_count (F.args_list_count_2 _ _) (SeqAt.list_countAt a its.toArray m dd sl u (eqU (.bl true))) ⟨at_, fun y hy => mem_eqAt ru rfl rv (bls_flat bs) y (by simpa using hy), ?_⟩
  refine ⟨.int (bs.count true : Nat), H, I.tok _, ⟨s.toks, ?_⟩, q⟩
  rw [show its.toArray.toList = its from rfl, cnt_bls rv]
/-- o.m(e), o a list -/
def eML (g : List D → D → R D) (fo fe : Ex) : Ex := fun ρ => (fo ρ).bnd fun x => match x with
  | .lst xs => (fe ρ).bnd fun y => g xs y
  | _ => .no
theorem ml_read {g : List D → D → R D} {r : V → List V → Hp → VK → Prop} {mg : Str → Option Value} {K : PySem.W.Frag} {fo fe : Ex} {σ : L2.St} {H : Hp} {Q : VK} (h : tD mg K W (eML g fo fe) σ H Q) (hn : ∀ xs d, NoEx (g xs d))
    (hr : ∀ O H a vs xs y d, (∀ a ∈ O, H a ≠ none) → SqL K H a vs → RepL K (hide O H) vs xs → Rep K (hide O H) y d → PostV K O H Q (g xs d) → r (.ref a) [y] H Q) : tBM K "list" r (tD mg K W fo) (tCons (tD mg K W fe) tNil) σ H Q := by
  obtain ⟨fm, O, ρ, en, h⟩ := h
  refine ⟨fm, O, ρ, en, (Post.bnd h).imp fun v H1 s1 ⟨_, d, r1, h1⟩ => ?_⟩
  cases r1 with
  | lst e l =>
    refine ⟨.inl ⟨rfl, _, SqL.of (same_hide _ _ e)⟩, fm, O, ρ, en.mono s1, (Post.bnd h1).imp fun u H2 s2 ⟨_, d2, r2, h2⟩ => ?_⟩
    have r3 := (Rep.lst e l).mono (Same.hide (O := O) s2)
    cases r3 with
    | lst e' l' => exact hr O H2 _ _ _ u d2 ((en.mono s1).mono s2).there (SqL.of (same_hide _ _ e')) l' r2 (PostV.of (hn _ _) h2)
  | _ => exact h1.elim
def dCntT (xs : List D) : D → R D
  | .bl true => match blsOf xs with
    | some bs => .ok (.int (bs.count true : Nat))
    | none => .no
  | _ => .no
def dIdxT (xs : List D) : D → R D
  | .bl true => match blsOf xs with
    | some bs => if true ∈ bs then .ok (.int (bs.idxOf true : Nat)) else .no
    | none => .no
  | _ => .no
theorem dCntT_nx (xs : List D) (d : D) : NoEx (dCntT xs d) := fun x h => by
  unfold dCntT at h
  split at h
  · split at h <;> cases h
  · cases h
theorem dIdxT_nx (xs : List D) (d : D) : NoEx (dIdxT xs d) := fun x h => by
  unfold dIdxT at h
  split at h
  · split at h
    · split at h <;> cases h
    · cases h
  · cases h
theorem se_cntT {o e : Expr} {fo fe : Ex} {apos pos : Pos} (ho : SE X W o fo) (he : SE X W e fe) (hs : starEach [e] X.env = (false, eval e X.env) :: starEach [] X.env := by rfl)
    (hbase : attributeBase o "count" X.env (eval o X.env) = eval o X.env := by rfl) (hline : (apos.endLine == pos.line) = true := by rfl)
    (hfew : ((backTo pos (starEach [e] X.env)).all (fun x => !x.1) && (backToKw pos (keywordEach [] X.env)).all (fun x => x.1.isSome)
      && decide (([e] : List Expr).length + ([] : List Keyword).length + (if ([] : List Keyword).isEmpty then 0 else 1) < 30)) = true := by rfl) (hplain : (backTo pos (starEach [] X.env)).any (·.1) = false := by rfl) :
    SE X W (.Call (.Attribute o "count" apos) [e] [] pos) (eML dCntT fo fe) := by
  refine PE.weak (pe_bm F.plainAttrs_list F.slot_list_count F.type_list_count mt_cntT ho (pa_cons he pa_nil hs) hbase hfew hline hs hplain) fun σ H Q h => ml_read h dCntT_nx fun O H a vs xs y d th sq l r q => ?_
  unfold dCntT at q
  split at q
  · split at q
    · rename_i bs hb
      cases r
      exact ⟨a, bs, rfl, rfl, by rw [← blsOf_rep l hb]; exact sq, q.now (.int _)⟩
    · exact q.elim
  · exact q.elim
theorem se_idxT {o e : Expr} {fo fe : Ex} {apos pos : Pos} (ho : SE X W o fo) (he : SE X W e fe) (hs : starEach [e] X.env = (false, eval e X.env) :: starEach [] X.env := by rfl)
    (hbase : attributeBase o "index" X.env (eval o X.env) = eval o X.env := by rfl) (hline : (apos.endLine == pos.line) = true := by rfl)
    (hfew : ((backTo pos (starEach [e] X.env)).all (fun x => !x.1) && (backToKw pos (keywordEach [] X.env)).all (fun x => x.1.isSome)
      && decide (([e] : List Expr).length + ([] : List Keyword).length + (if ([] : List Keyword).isEmpty then 0 else 1) < 30)) = true := by rfl) (hplain : (backTo pos (starEach [] X.env)).any (·.1) = false := by rfl) :
    SE X W (.Call (.Attribute o "index" apos) [e] [] pos) (eML dIdxT fo fe) := by
  refine PE.weak (pe_bm F.plainAttrs_list F.slot_list_index F.type_list_index mt_index ho (pa_cons he pa_nil hs) hbase hfew hline hs hplain) fun σ H Q h => ml_read h dIdxT_nx fun O H a vs xs y d th sq l r q => ?_
  unfold dIdxT at q
  split at q
  · split at q
    · rename_i bs hb
      split at q
      · rename_i hm
        cases r
        obtain rfl := blsOf_rep l hb
        have lt := List.idxOf_lt_length_iff.mpr hm
        refine ⟨a, bs.map V.bl, .bl true, bs.idxOf true, .bl true, rfl, rfl, sq, rfl, bls_flat bs, ?_, rfl, fun m z hm hz => ?_, q.now (.int _)⟩
        · rw [List.getElem?_map, List.getElem?_eq_getElem lt, List.getElem_idxOf]; rfl
        · rw [List.getElem?_map] at hz
          obtain ⟨b, hb, rfl⟩ := Option.map_eq_some_iff.mp hz
          cases b
          · rfl
          · exfalso
            have hml : m < bs.length := (List.getElem?_eq_some_iff.mp hb).1
            have := List.not_of_lt_findIdx (p := (· == true)) (xs := bs) hm
            rw [(List.getElem?_eq_some_iff.mp hb).2] at this
            exact absurd this (by decide)
      · exact q.elim
    · exact q.elim
  · exact q.elim
end
end JK

/-! LayP -/
set_option Elab.async false
set_option linter.all false
set_option maxRecDepth 100000
set_option autoImplicit false
/-! try: .. except C as e: x = [isinstance(e, K1), isinstance(e, K2), isinstance(e, K3)] -/
namespace JK
open PySem PySem.Spec PyProof.Rows L2
/-- what is known of the classes cs: each is a c0; each is of those of ks that it is itself -/
structure IsiA (K : PySem.W.Frag) (mg : Str → Option Value) (c0 : Str) (cs ks : List Str) : Prop where
  ex : ∀ c ∈ cs, ExcC K (He.ga K c)
  up : ∀ c ∈ cs, PySem.W.exmOne K (.ref (He.ga K c)) (.ref (He.ga K c0)) = some true
  at' : ∀ c ∈ cs, ∀ k ∈ ks, PySem.W.kitOne K (.ref (He.ga K c)) (.ref (He.ga K k)) = some (decide (c = k))
  gc : ∀ c ∈ cs, mg c = some (.ref (He.ga K c))
  gk : ∀ k ∈ ks, mg k = some (.ref (He.ga K k))
def isiAB (K : PySem.W.Frag) (c0 : Str) (cs ks : List Str) : Bool := (cs.all fun c => excCB K (He.ga K c)) && ((cs.all fun c => decide (PySem.W.exmOne K (.ref (He.ga K c)) (.ref (He.ga K c0)) = some true)) &&
  ((cs.all fun c => ks.all fun k => decide (PySem.W.kitOne K (.ref (He.ga K c)) (.ref (He.ga K k)) = some (decide (c = k)))) && ((cs.all fun c => (He.Fa.glo c).ok K) && ks.all fun c => (He.Fa.glo c).ok K)))
theorem isiAB_ok {K : PySem.W.Frag} {mg : Str → Option Value} {h : Heap} (X : K.In h) (G : h.Ns mainGlobals mg) {c0 : Str} {cs ks : List Str} (e : isiAB K c0 cs ks = true) : IsiA K mg c0 cs ks := by
  unfold isiAB at e
  simp only [Bool.and_eq_true, List.all_eq_true, decide_eq_true_eq] at e
  obtain ⟨h1, h2, h3, h4, h5⟩ := e
  exact ⟨fun c hc => excCB_ok (h1 c hc), h2, h3, fun c hc => He.glo_ok X G (h4 c hc), fun c hc => He.glo_ok X G (h5 c hc)⟩
section
variable {X : Cx} {W : WX}
def tIsA (K : PySem.W.Frag) (cs ks : List Str) (i j : Nat) : Addr → Value → Option Addr → TS := fun a cls dd Dn σ H => ∃ c ∈ cs, cls = .ref (He.ga K c) ∧ dd = none ∧ σ[i]? = some (some (.ref a)) ∧ ∀ p, H p = none → Dn.nx (σ.set j (some (.ref p))) (upd H p (.lst (ks.map fun k => V.bl (decide (c = k)))))
theorem suite_isA {c0 k1 k2 k3 n x : Str} {cs : List Str} {i j : Nat} {p1 p2 p3 p4 p5 p6 p7 p8 p9 q1 q2 q3 q4 q5 q6 : Pos} (C : IsiA X.K X.mg c0 cs [k1, k2, k3]) (hN : X.N[i]? = some n) (hv : Vis X.env.scope n) (nd : X.N.Nodup) (hj : X.N[j]? = some x) (hx : Loc X.env.scope x)
    (gi : Gl X "isinstance") (mi : X.mg "isinstance" = none) (gk1 : Gl X k1) (gk2 : Gl X k2) (gk3 : Gl X k3)
    (hs : swapsWith (.List [.Call (.Name "isinstance" p1) [.Name n p2, .Name k1 p3] [] q1, .Call (.Name "isinstance" p4) [.Name n p5, .Name k2 p6] [] q2, .Call (.Name "isinstance" p7) [.Name n p8, .Name k3 p9] [] q3] q4) (some (.Name x q5)) q6.line X.env = pure false := by rfl)
    (hd : (n == ("__debug__" : Str)) = false := by decide) (hcd : (n == ("__classdict__" : Str)) = false := by decide) (hd1 : (k1 == ("__debug__" : Str)) = false := by decide) (hd2 : (k2 == ("__debug__" : Str)) = false := by decide) (hd3 : (k3 == ("__debug__" : Str)) = false := by decide)
    (bi : bootBuiltins "isinstance" = some (.builtin "isinstance") := by decide +kernel)
    (s1 : starEach [.Name n p2, .Name k1 p3] X.env = (false, eval (.Name n p2) X.env) :: starEach [.Name k1 p3] X.env := by rfl) (s2 : starEach [.Name n p5, .Name k2 p6] X.env = (false, eval (.Name n p5) X.env) :: starEach [.Name k2 p6] X.env := by rfl) (s3 : starEach [.Name n p8, .Name k3 p9] X.env = (false, eval (.Name n p8) X.env) :: starEach [.Name k3 p9] X.env := by rfl)
    (t1 : starEach [.Name k1 p3] X.env = (false, eval (.Name k1 p3) X.env) :: starEach [] X.env := by rfl) (t2 : starEach [.Name k2 p6] X.env = (false, eval (.Name k2 p6) X.env) :: starEach [] X.env := by rfl) (t3 : starEach [.Name k3 p9] X.env = (false, eval (.Name k3 p9) X.env) :: starEach [] X.env := by rfl)
    (hf : X.fn x = true ∨ X.env.scope.names.lookup x = some .local := by first | exact .inl rfl | exact .inr rfl | assumption) :
    SuiteOk X [.Assign [.Name x q5] (.List [.Call (.Name "isinstance" p1) [.Name n p2, .Name k1 p3] [] q1, .Call (.Name "isinstance" p4) [.Name n p5, .Name k2 p6] [] q2, .Call (.Name "isinstance" p7) [.Name n p8, .Name k3 p9] [] q3] q4) q6] (tIsA X.K cs [k1, k2, k3] i j) := by
  intro a ob cls dd pn hz hfl
  refine ⟨fun pins s σ H Dn I h => ?_⟩
  obtain ⟨c, hc, rfl, rfl, hsi, hr⟩ := h
  have ce := call_isE (X := X) (a := a) (pn := pn) (C.ex c hc) hz hfl
  have pe : ∀ {p : Pos}, PE (X.suite a ((a, ob) :: pn)) (.Name n p) (tVar i) := fun {p} => pe_var hN hv hd hcd
  have c1 : PE (X.suite a ((a, ob) :: pn)) (.Name k1 p3) (tC (.ref (He.ga X.K k1))) := pe_glob gk1 (C.gk k1 (by simp)) rfl hd1
  have c2 : PE (X.suite a ((a, ob) :: pn)) (.Name k2 p6) (tC (.ref (He.ga X.K k2))) := pe_glob gk2 (C.gk k2 (by simp)) rfl hd2
  have c3 : PE (X.suite a ((a, ob) :: pn)) (.Name k3 p9) (tC (.ref (He.ga X.K k3))) := pe_glob gk3 (C.gk k3 (by simp)) rfl hd3
  have i1 := pe_callB (p := p1) (pos := q1) ce gi mi bi (pa_cons (pe (p := p2)) (pa_cons c1 pa_nil t1) s1) (by decide) (by decide) s1 rfl
  have i2 := pe_callB (p := p4) (pos := q2) ce gi mi bi (pa_cons (pe (p := p5)) (pa_cons c2 pa_nil t2) s2) (by decide) (by decide) s2 rfl
  have i3 := pe_callB (p := p7) (pos := q3) ce gi mi bi (pa_cons (pe (p := p8)) (pa_cons c3 pa_nil t3) s3) (by decide) (by decide) s3 rfl
  have hh := ps_set (X := X.suite a ((a, ob) :: pn)) (pos := q6) nd hj hx (pe_lst (pos := q4) (pa_cons i1 (pa_cons i2 (pa_cons i3 pa_nil)))) hs hf
  refine (pss_one hh).run pins s σ H Dn I ?_
  refine ⟨_, hsi, _, .ref (He.ga X.K k1), decide (c = k1), rfl, fun _ e => e, C.at' c hc k1 (by simp), ?_⟩
  refine ⟨_, hsi, _, .ref (He.ga X.K k2), decide (c = k2), rfl, fun _ e => e, C.at' c hc k2 (by simp), ?_⟩
  refine ⟨_, hsi, _, .ref (He.ga X.K k3), decide (c = k3), rfl, fun _ e => e, C.at' c hc k3 (by simp), ?_⟩
  refine ⟨by rw [sizeLine_eq]; simp, fun p hp => ?_⟩
  exact hr p hp
def tryA (n i j : Nat) (cs ks : List Str) (x : Exc) (ρ : Env) : Out := match x.fld with
  | none => if x.cls ∈ cs ∧ ρ.length = n ∧ i < n then .nx ((ρ.set j (.val (.lst (ks.map fun k => .bl (decide (x.cls = k)))))).set i .emp) else .no
  | _ => .no
def sTryA (n i j : Nat) (F : Sx) (cs ks : List Str) : Sx := fun ρ => match F ρ with
  | .ex x ρ' => tryA n i j cs ks x ρ'
  | o => o
theorem rep_bls {K : PySem.W.Frag} {H : Hp} {c : Str} : ∀ ks : List Str, RepL K H (ks.map fun k => V.bl (decide (c = k))) (ks.map fun k => D.bl (decide (c = k)))
  | [] => .nil
  | _ :: r => .cons (.bl _) (rep_bls r)
theorem ss_tryA {n i j : Nat} {body : List Stmt} {F : Sx} {c0 x : Str} {s0 : Stmt} {cs ks : List Str} {np pos pos' : Pos} (hstk : X.stack = X.env :: X.outer) (hfrm : X.env.frame = some X.env.locals) (nd : X.N.Nodup) (tk : Takes X W)
    (C : IsiA X.K X.mg c0 cs ks) (hi : X.N[i]? = some x) (hln : X.env.kindOf x = some .local) (hc : Names X c0 (.ref (He.ga X.K c0))) (hij : i ≠ j) (hsu : SuiteOk X [s0] (tIsA X.K cs ks i j))
    (hbody : ∀ (W : WX) (pn : List (Addr × Obj)) (xe : Value → Shared → Prop), Takes (X.tr pn xe) W → PassesOwn (model X.prog X.w) X.A X.env xe → SSs (X.tr pn xe) W body F) :
    SS X W (.Try body [.ExceptHandler (some (.Name c0 np)) (some x) [s0] pos'] [] [] pos) (sTryA n i j F cs ks) := by
  refine PS.weak (L2.ps_try_as (tb := fun W => tS X.mg X.K W F) hstk hfrm nd hi hln hc tk hbody hsu) fun Dn σ H h => ?_
  obtain ⟨fm, O, ρ, en, h⟩ := h
  refine ⟨fm, O, ρ, en, ?_⟩
  unfold sTryA at h
  cases e : F ρ with
  | no => rw [e] at h; exact h
  | nx ρ' => rw [e] at h; exact h
  | rt d => rw [e] at h; exact h
  | rm d ρ' => rw [e] at h; exact h
  | rr i ρ' => rw [e] at h; exact h
  | bk ρ' => rw [e] at h; exact h
  | ct ρ' => rw [e] at h; exact h
  | ex x ρ' =>
    rw [e] at h
    simp only at h
    intro O' σ' H' cls dd en' s' hx
    unfold tryA at h
    obtain ⟨C', gC, rfl, hf⟩ := hx
    cases ef : x.fld with
    | some y => rw [ef] at h; exact h.elim
    | none =>
      rw [ef] at h hf
      simp only at h
      by_cases hl : x.cls ∈ cs ∧ ρ'.length = n ∧ i < n
      · rw [if_pos hl] at h
        have eC := C.gc _ hl.1
        rw [gC] at eC
        injection eC with eC
        injection eC with eC
        subst eC
        have hf : dd = none := hf
        subst hf
        refine ⟨true, C.up _ hl.1, fun _ a _ => ⟨x.cls, hl.1, rfl, rfl, set_some (by rw [en'.len]; omega), fun p hp => ?_⟩, fun z => by cases z⟩
        have s2 := same_new (o := HO.lst (ks.map fun k => V.bl (decide (x.cls = k)))) hp
        have e2 := (en'.mono s2).set (i := j) (x := .ref p) (d := .lst (ks.map fun k => .bl (decide (x.cls = k)))) (.lst (hide_of upd_same fun z => en'.there p z hp) (rep_bls ks))
        have e3 := e2.setEmp (i := i)
        show Dn.nx (((σ'.set i (some (.ref a))).set j (some (.ref p))).set i none) _
        rw [List.set_comm _ _ hij, List.set_set]
        exact h O' _ _ e3 (s'.trans (Same.hide s2))
      · rw [if_neg hl] at h; exact h.elim
end
end JK

/-! DenV -/
set_option Elab.async false
set_option linter.all false
set_option maxRecDepth 100000
set_option autoImplicit false
namespace JK
open PySem PySem.Spec PyProof.Rows L2
def d_law_is_question : List D → R D := runD 2 1 (sSeq (sIf (tOrD (tNotD (tTru (eIsi .tuple (eName 0)))) (tOrD (tOf (eBin dNe (eCall dLen (aCons (eName 0) aNil)) (eC (.int 5)))) (tOrD (tNotD (tTru (eIsi .str (eBin dIx (eName 0) (eC (.int 0)))))) (tOf (eBin dNotIn (eBin dIx (eName 0) (eC (.int 0))) (eCall d_law_words aNil)))))) (sRet (eC (.bl false))) sNil)
    (sSeq (sIf (tOrD (tNotD (tTru (eIsi .str (eBin dIx (eName 0) (eC (.int 1)))))) (tOrD (tOf (eBin dEq (eBin dIx (eName 0) (eC (.int 1))) (eC (.str "")))) (tOf (eBin dNe (eCall dListX (aCons (eBin dIx (eName 0) (eC (.int 1))) aNil)) (eSortSigns (eBin dIx (eName 0) (eC (.int 1)))))))) (sRet (eC (.bl false))) sNil)
    (sSeq (sIf (tOf (eBin dNe (eLst (aComp (aItems (eBin dIx (eName 0) (eC (.int 1)))) [1] (gN 1) (tOf (eBin dNotIn (eName 1) (eC (.str "abcd")))) (eName 1))) (eLst aNil))) (sRet (eC (.bl false))) sNil)
    (sSeq (sIf (tOrD (tNotD (tTru (eCall d_law_in (aCons (eBin dIx (eName 0) (eC (.int 2))) (aCons (eNeg (eC (.int 3))) (aCons (eC (.int 3)) aNil)))))) (tNotD (tTru (eCall d_law_in (aCons (eBin dIx (eName 0) (eC (.int 3))) (aCons (eBin dIx (eName 0) (eC (.int 2))) (aCons (eC (.int 3)) aNil))))))) (sRet (eC (.bl false))) sNil)
    (sRet (eCall d_law_in (aCons (eBin dIx (eName 0) (eC (.int 4))) (aCons (eC (.int 0)) (aCons (eC (.int 6)) aNil)))))))))
def d_law_is_plan : List D → R D := runD 2 1 (sSeq (sIf (tOrD (tNotD (tTru (eIsi .tuple (eName 0)))) (tNotD (tOf (eChain dLe dLe (eC (.int 1)) (eCall dLen (aCons (eName 0) aNil)) (eC (.int 4)))))) (sRet (eC (.bl false))) sNil)
    (sRet (eBin dEq (eLst (aComp (aItems (eName 0)) [1] (gN 1) (tNotD (tTru (eCall d_law_is_question (aCons (eName 1) aNil)))) (eName 1))) (eLst aNil))))
def d_law_refused_word : List D → R D := runD 5 3 (sSeq (sSet 3 (eLst aNil))
    (sSeq (sTryA 5 4 3 (sIf (tOf (eBin dEq (eName 0) (eC (.int 0)))) (sExpr (eCall d_full (aCons (eName 1) aNil))) (sIf (tOf (eBin dEq (eName 0) (eC (.int 1)))) (sExpr (eCall d_kept (aCons (eName 1) (aCons (eName 2) aNil)))) (sExpr (eCall d_apart (aCons (eName 1) (aCons (eName 2) (aCons (eName 2) aNil))))))) ["BadQuestion", "BadPlan", "BadStream"] ["BadQuestion", "BadPlan", "BadStream"])
    (sSeq (sIf (tOf (eBin dNe (eML dCntT (eName 3) (eC (.bl true))) (eC (.int 1)))) (sRet (eC (.str "other"))) sNil)
    (sRet (eBin dIx (eLst (aCons (eC (.str "question")) (aCons (eC (.str "plan")) (aCons (eC (.str "stream")) aNil)))) (eML dIdxT (eName 3) (eC (.bl true))))))))
def d_answer_of : List D → R D := runD 10 2 (sSeq (sPar 2 3 (aCons (eBin dIx (eName 0) (eC (.int 0))) (aCons (eBin dIx (eName 0) (eC (.int 4))) aNil)))
    (sSeq (sSet 4 (eIf (tOf (eBin dEq (eName 3) (eC (.int 0)))) (eName 1) (eSl (eName 1) (oSome (eNeg (eName 3))) oNone)))
    (sSeq (sIf (tOf (eBin dEq (eName 2) (eC (.str "run")))) (sRet (eCall d_longest_run (aCons (eName 0) (aCons (eName 4) aNil)))) sNil)
    (sSeq (sSet 5 (eLst (aComp (aItems (eName 4)) [6] (gN 6) (tTru (eCall d_sees (aCons (eName 0) (aCons (eName 6) aNil)))) (eName 6))))
    (sSeq (sIf (tOf (eBin dEq (eName 2) (eC (.str "many")))) (sRet (eCall dLen (aCons (eName 5) aNil))) sNil)
    (sSeq (sIf (tOf (eBin dEq (eName 2) (eC (.str "sum")))) (sRet (eCall dSum (aCons (eLst (aComp (aItems (eName 5)) [7, 8] (gT (gsCons (gN 7) (gsCons (gN 8) gsNil))) tYesD (eName 8))) aNil))) sNil)
    (sSeq (sIf (tOf (eBin dEq (eName 2) (eC (.str "kinds")))) (sRet (eLenSc (eName 5))) sNil)
    (sSeq (sIf (tOf (eBin dEq (eName 2) (eC (.str "last")))) (sRet (eIf (tTru (eName 5)) (eBin dIx (eBin dIx (eName 5) (eNeg (eC (.int 1)))) (eC (.int 1))) (eC .non))) sNil)
    (sSeq (sSet 9 (eCall dSort (aCons (eLst (aComp (aItems (eName 5)) [7, 8] (gT (gsCons (gN 7) (gsCons (gN 8) gsNil))) tYesD (eName 8))) aNil)))
    (sSeq (sIf (tOf (eBin dEq (eName 2) (eC (.str "second")))) (sRet (eIf (tOf (eBin dGt (eCall dLen (aCons (eName 9) aNil)) (eC (.int 1)))) (eBin dIx (eName 9) (eNeg (eC (.int 2)))) (eC .non))) sNil)
    (sSeq (sIf (tNotD (tTru (eName 9))) (sRet (eC .non)) sNil)
    (sRet (eIf (tOf (eBin dEq (eName 2) (eC (.str "most")))) (eBin dIx (eName 9) (eNeg (eC (.int 1)))) (eBin dIx (eName 9) (eC (.int 0))))))))))))))))
def d_answer : List D → R D := runD 2 2 (sSeq (sExpr (eCall d_look_question (aCons (eName 0) aNil)))
    (sSeq (sExpr (eCall d_look_stream (aCons (eName 1) aNil)))
    (sRet (eCall d_answer_of (aCons (eName 0) (aCons (eName 1) aNil))))))
def d_law_keep_refused : List D → R D := runD 5 4 (sSeq (sTry 5 (sIf (tOf (eBin dEq (eName 0) (eC (.int 0)))) (sExpr (eCall d_told (aCons (eName 1) (aCons (eName 2) (aCons (eName 3) aNil))))) (sExpr (eCall d_gone_on (aCons (eName 1) (aCons (eName 2) (aCons (eName 3) aNil)))))) [("BadNumber", "number"), ("BadRow", "row")])
    (sRet (eC (.str "none"))))
def d_law_apart_told : List D → R D := runD 4 3 (sTry 4 (sRet (eCall d_apart (aCons (eName 0) (aCons (eName 1) (aCons (eName 2) aNil))))) [("Alike", "alike")])
def d_shows : List D → R D := runD 5 5 (sSeq (sExpr (eCall d_look_two (aCons (eName 0) (aCons (eName 1) aNil))))
    (sSeq (sExpr (eCall d_look_stream (aCons (eName 2) aNil)))
    (sSeq (sExpr (eCall d_look_stream (aCons (eName 3) aNil)))
    (sSeq (sExpr (eCall d_look_number (aCons (eName 0) (aCons (eName 4) aNil))))
    (sRet (eBin dNe (eCall d_answer_of (aCons (eBin dIx (eName 0) (eName 4)) (aCons (eBin dAdd (eName 1) (eName 3)) aNil))) (eCall d_answer_of (aCons (eBin dIx (eName 0) (eName 4)) (aCons (eBin dAdd (eName 2) (eName 3)) aNil)))))))))
def d_law_shows_word : List D → R D := runD 5 5 (sSeq (sTry 5 (sExpr (eCall d_shows (aCons (eName 0) (aCons (eName 1) (aCons (eName 2) (aCons (eName 3) (aCons (eName 4) aNil))))))) [("BadPlan", "plan"), ("BadStream", "stream"), ("BadNumber", "number")])
    (sRet (eC (.str "none"))))
def d_law_seen : List D → R D := runD 8 3 (sSeq (sSet 3 (eCall d_law_old (aCons (eName 0) (aCons (eName 1) (aCons (eName 2) aNil)))))
    (sSeq (sSet 4 (eLst (aComp (aItems (eName 3)) [5] (gN 5) (tTru (eCall d_law_sees (aCons (eName 0) (aCons (eName 5) aNil)))) (eName 5))))
    (sSeq (sIf (tOf (eBin dEq (eBin dIx (eName 0) (eC (.int 0))) (eC (.str "second")))) (sSeq (sSet 6 (eSl (eBin dAdd (eLst (aCons (eC .non) (aCons (eC .non) aNil))) (eCall dSort (aCons (eLst (aComp (aItems (eName 4)) [5] (gN 5) tYesD (eBin dIx (eName 5) (eC (.int 1))))) aNil))) (oSome (eNeg (eC (.int 2)))) oNone))
    (sRet (eIf (tAndD (tOf (eBin dEq (eName 2) (eC (.int 0)))) (tOf (eBin dGt (eBin dIx (eName 0) (eC (.int 4))) (eC (.int 0))))) (eSl (eName 6) oNone (oSome (eC (.int 1)))) (eName 6)))) sNil)
    (sSeq (sIf (tOf (eBin dEq (eBin dIx (eName 0) (eC (.int 0))) (eC (.str "kinds")))) (sSeq (sSet 7 (eSortSet (eLst (aComp (aItems (eName 4)) [5] (gN 5) tYesD (eBin dIx (eName 5) (eC (.int 0)))))))
    (sRet (eIf (tAndD (tOf (eBin dEq (eName 2) (eC (.int 0)))) (tOf (eBin dGt (eBin dIx (eName 0) (eC (.int 4))) (eC (.int 0))))) (eCall dLen (aCons (eName 7) aNil)) (eName 7)))) sNil)
    (sRet (eCall d_law_answer (aCons (eBin dAdd (eSl (eName 0) oNone (oSome (eC (.int 4)))) (eTup (aCons (eC (.int 0)) aNil))) (aCons (eName 3) aNil))))))))
def d_law_marks : List D → R D := runD 3 2 (sRet (eLst (aComp (aRng dRng1 (aCons (eCall dMax2 (aCons (eC (.int 1)) (aCons (eBin dIx (eName 0) (eC (.int 4))) aNil))) aNil)) [2] (gN 2) tYesD (eCall d_law_seen (aCons (eName 0) (aCons (eName 1) (aCons (eName 2) aNil)))))))
def d_law_fewest : List D → R D := runD 16 3 (sSeq (sAsg (eTup (aCons (eCall d_law_marks (aCons (eName 0) (aCons (eName 1) aNil))) (aCons (eCall d_law_marks (aCons (eName 0) (aCons (eName 2) aNil))) aNil))) (gT (gsCons (gN 3) (gsCons (gN 4) gsNil))))
    (sSeq (sSet 5 (eLst (aComp (aRng dRng1 (aCons (eCall dLen (aCons (eName 3) aNil)) aNil)) [6] (gN 6) (tOf (eBin dNe (eBin dIx (eName 3) (eName 6)) (eBin dIx (eName 4) (eName 6)))) (eName 6))))
    (sSeq (sSet 7 (eIf (tOf (eBin dNe (eName 5) (eLst aNil))) (eBin dIx (eName 5) (eC (.int 0))) (eC .non)))
    (sSeq (sPar 8 9 (aCons (eBin dIx (eName 0) (eC (.int 0))) (aCons (eBin dIx (eName 0) (eC (.int 4))) aNil)))
    (sSeq (sIf (tAndD (tOf (eBin dEq (eName 9) (eC (.int 0)))) (tAndD (tOf (eBin dIn (eName 8) (eTup (aCons (eC (.str "second")) (aCons (eC (.str "kinds")) aNil))))) (tOf (eBin dIsNot (eName 7) (eC .non))))) (sRet (eIf (tOf (eBin dNe (eCall d_law_answer (aCons (eName 0) (aCons (eName 1) aNil))) (eCall d_law_answer (aCons (eName 0) (aCons (eName 2) aNil))))) (eC (.int 0)) (eC (.int 1)))) sNil)
    (sSeq (sIf (tOrD (tOf (eBin dNe (eName 8) (eC (.str "run")))) (tOf (eBin dEq (eCall d_law_ending (aCons (eName 0) (aCons (eName 1) aNil))) (eCall d_law_ending (aCons (eName 0) (aCons (eName 2) aNil)))))) (sRet (eName 7)) sNil)
    (sSeq (sFor (aRng dRng2 (aCons (eC (.int 1)) (aCons (eC (.int 14)) aNil))) (gN 10)
    (sSeq (sIf (tAndD (tOf (eBin dIsNot (eName 7) (eC .non))) (tOf (eBin dGe (eName 10) (eName 7)))) (sRet (eName 7)) sNil)
    (sFor (aItems (eTup (aCons (eCall d_law_ending (aCons (eName 0) (aCons (eName 1) aNil))) (aCons (eCall d_law_ending (aCons (eName 0) (aCons (eName 2) aNil))) aNil)))) (gT (gsCons (gN 11) (gsCons (gN 12) gsNil)))
    (sSeq (sOwn 13 aNil)
    (sSeq (sFor (aItems (eTup (aCons (eName 1) (aCons (eName 2) aNil)))) (gN 14)
    (sSeq (sSet 15 (eBin dMul (eLst (aCons (eTup (aCons (eName 11) (aCons (eBin dIx (eName 0) (eC (.int 2))) aNil))) aNil)) (eName 10)))
    (sApp 13 (eCall d_law_answer (aCons (eName 0) (aCons (eBin dAdd (eName 14) (eName 15)) aNil))))))
    (sRel 13 (sIf (tAndD (tOf (eBin dGt (eName 12) (eC (.int 0)))) (tOf (eBin dNe (eBin dIx (eName 13) (eC (.int 0))) (eBin dIx (eName 13) (eC (.int 1)))))) (sRet (eName 10)) sNil)))))))
    (sRet (eName 7)))))))))
end JK

/-! LayRs -/
set_option Elab.async false
set_option linter.all false
set_option maxRecDepth 100000
set_option autoImplicit false
set_option maxHeartbeats 1000000
/-! sets of rows: tuples of a text and a whole number -/
namespace JK
open PySem PySem.Spec PyProof.Rows L2
abbrev Rt := Str × Int
/-- the row as a key -/
def rk (r : Rt) : NestedKey := .tup [.text r.1, .num r.2]
theorem rk_inj {a b : Rt} (h : rk a = rk b) : a = b := by
  unfold rk at h
  injection h with h
  injection h with h1 h2
  injection h1 with h1
  injection h2 with h2 _
  injection h2 with h2
  exact Prod.ext h1 h2
/-- the row stands at a -/
def Rk (h : Heap) (r : Rt) (a : Addr) : Prop := ∃ (o : Obj) (vs : Array Value) (m : Nat) (t u : Tok), h.get? a = some o ∧ o.cls = .type "tuple" ∧ o.data = .seq vs m ∧ vs = #[.str r.1 t, .int r.2 u]
theorem Rk.nest {h : Heap} {r : Rt} {a : Addr} (k : Rk h r a) : NestedIs h (rk r) (.ref a) := by
  obtain ⟨o, vs, m, t, u, g, c, d, e⟩ := k
  refine .tup g c d ?_
  rw [e]
  exact .cons (.text _ _) (.cons (.int _ _) .nil)
theorem Rk.at {h h' : Heap} {r : Rt} {a : Addr} (k : Rk h r a) (keep : ∀ o, h.get? a = some o → h'.get? a = some o) : Rk h' r a := by
  obtain ⟨o, vs, m, t, u, g, more⟩ := k
  exact ⟨o, vs, m, t, u, keep o g, more⟩
section
variable {prog : Program} {w : World} {A : Around} {E : Value → Shared → Prop} {s : Shared}
theorem rkKind {h : Heap} {r : Rt} {a : Addr} (k : Rk h r a) : (nestedKind prog w).is h (rk r) a := ⟨k.nest, by show NestedKey.depthAll [.text r.1, .num r.2] + 1 ≤ 8; simp [NestedKey.depthAll, NestedKey.depth]⟩
/-- a row is of no class statement -/
theorem rkCls {r : Rt} {a : Addr} {Q : Bool → Shared → Prop} (k : Rk s.heap r a) (q : Q false s) : wpAny (model prog w) A (ofAClassStatement 8 (.ref a)) Q E s := by
  obtain ⟨o, vs, m, t, u, g, c, d, rfl⟩ := k
  have e1 : ofAClassStatement 7 (.str r.1 t) = pure false := by unfold ofAClassStatement; rfl
  have e2 : ofAClassStatement 7 (.int r.2 u) = pure false := by unfold ofAClassStatement; rfl
  unfold ofAClassStatement
  refine wpAny_bind (wpAny_typeOf ⟨o, g, c⟩ ?_)
  wp_walk
  rw [d]
  refine wpAny_pure ?_
  simp only [← Array.forIn_toList, List.forIn_cons, List.forIn_nil, e1, e2, pure_bind, Bool.false_eq_true, if_false]
  exact wpAny_pure q
theorem rkBy {r : Rt} {a : Addr} {Q : Bool → Shared → Prop} (k : Rk s.heap r a) (q : Q false s) : wpAny (model prog w) A (hashByValue 8 (.ref a)) Q E s := by
  obtain ⟨o, vs, m, t, u, g, c, d, rfl⟩ := k
  have e1 : hashByValue 7 (.str r.1 t) = pure false := by unfold hashByValue; rfl
  unfold hashByValue
  refine wpAny_bind (wpAny_specialOf ⟨o, g, c⟩ F.slot_tuple_hash.lookup ?_)
  wp_walk
  rw [d]
  refine wpAny_pure ?_
  simp only [Option.getD_some, ← Array.forIn_toList, List.forIn_cons, List.forIn_nil, e1, pure_bind, Bool.not_false, if_true]
  exact wpAny_pure q
/-- whoever looks on sees nothing of a search among rows -/
theorem rkUnseen {r : Rt} {x : Addr} {Q : Bool → Shared → Prop} (k : Rk s.heap r x) {ys : List Value} (all : ∀ y ∈ ys, ∃ r' c, y = Value.ref c ∧ Rk s.heap r' c) (q : Q false s) : wpAny (model prog w) A (searchCouldBeSeen (.ref x) ys) Q E s := by
  unfold searchCouldBeSeen
  refine wpAny_bind (wpAny_forIn_list _ (fun rest b t => b.1 = none ∧ t = s ∧ ∀ y ∈ rest, ∃ r' c, y = Value.ref c ∧ Rk s.heap r' c) _ (fun y rest b t h => ?_) (fun b t h => ?_) _ _ ⟨rfl, rfl, all⟩)
  · obtain ⟨_, rfl, al⟩ := h
    obtain ⟨r', c, rfl, kc⟩ := al y List.mem_cons_self
    have go : ∀ z ∈ rest, ∃ r' c, z = Value.ref c ∧ Rk t.heap r' c := fun z hz => al z (List.mem_cons_of_mem _ hz)
    have fin : (none : Option Bool) = none ∧ t = t ∧ ∀ y ∈ rest, ∃ r' c, y = Value.ref c ∧ Rk t.heap r' c := ⟨rfl, rfl, go⟩
    simp only []
    split
    · exact wpAny_pure fin
    · refine wpAny_bind ((nestedKind prog w).quiet (rkKind k) ?_)
      simp only [Bool.not_true, Bool.false_eq_true, if_false]
      refine wpAny_bind ((nestedKind prog w).quiet (rkKind kc) ?_)
      simp only [Bool.not_true, Bool.false_eq_true, if_false]
      refine wpAny_bind (rkCls k ?_)
      simp only [Bool.false_eq_true, if_false]
      refine wpAny_bind (rkCls kc ?_)
      simp only [Bool.false_eq_true, if_false]
      exact wpAny_pure fin
  · obtain ⟨b1, b2⟩ := b
    obtain ⟨e, rfl, _⟩ := h
    simp only at e
    subst e
    exact wpAny_pure q
/-- a set of rows: which, and where they stand -/
structure Bg (w : World) (h : Heap) (z : Addr) (L : List (Rt × Addr)) (es : Array (Int × Value)) (ep : Nat) (t : SetTable) : Prop where
  ob : ∃ o, h.get? z = some o ∧ o.ExactSet ∧ o.data = .set es ep t
  list : es.toList = L.map fun p => ((rk p.1).hash w, Value.ref p.2)
  tab : TabOk t (L.map fun p => (rk p.1).hash w)
  once : (L.map (·.1)).Nodup
  here : ∀ p ∈ L, Rk h p.1 p.2
  led : w.params.followText "set-order" = true ∨ t.led = true
  room : L.length ≤ t.mask
variable {z : Addr} {L : List (Rt × Addr)} {es : Array (Int × Value)} {ep : Nat} {t : SetTable}
theorem Bg.many (B : Bg w s.heap z L es ep t) : es.size = L.length := by
  rw [← Array.length_toList, B.list, List.length_map]
theorem Bg.spots (B : Bg w s.heap z L es ep t) : t.place.size = L.length := by rw [B.tab.sz, List.length_map]
theorem Bg.fit (B : Bg w s.heap z L es ep t) : t.fits es.size = true := by
  have r := B.room
  unfold SetTable.fits SetTable.fill
  rw [B.tab.dm, B.spots, B.many]
  simp
  omega
theorem Bg.get (B : Bg w s.heap z L es ep t) (i : Nat) : es[i]? = L[i]?.map fun p => ((rk p.1).hash w, Value.ref p.2) := by
  rw [← Array.getElem?_toList, B.list, List.getElem?_map]
theorem nth_dummy (m : Nat) : ∀ (k : Nat) (p : SetTable.Probe), p.dummy = none → (nth m p k).dummy = none
  | 0, _, h => h
  | k + 1, p, h => by
    rw [nth_succ]
    unfold adv
    split
    · exact nth_dummy m k p h
    · exact nth_dummy m k p h
/-- the search for a row, from any step of its way on -/
theorem hunt (B : Bg w s.heap z L es ep t) {r : Rt} {x : Addr} (hx : Rk s.heap r x) (hu : A.units + 8 < cLine) {K : Nat} (bound : K < 10 * SetTable.turns t.mask) (free : way t.mask ((rk r).hash w) K ∉ t.place.toList) (full : ∀ k, k < K → way t.mask ((rk r).hash w) k ∈ t.place.toList)
    {Q : SetFound → Shared → Prop} (yes : r ∈ L.map (·.1) → Q (.there none) s) (no : r ∉ L.map (·.1) → Q (.free (way t.mask ((rk r).hash w) K) false) s) :
    ∀ (n c f : Nat) (stand : Option SetTable.Probe), c + n = K → n < f → stand.getD (t.probeStart ((rk r).hash w)) = nth t.mask (runAt t.mask (SetTable.bits ((rk r).hash w) % (t.mask + 1)) (SetTable.bits ((rk r).hash w))) c →
      (∀ (k i : Nat) (p : Rt × Addr), k < c → t.place.toList[i]? = some (way t.mask ((rk r).hash w) k) → L[i]? = some p → p.1 ≠ r) → wpAny (model prog w) A (setSearchFrom z (.ref x) ((rk r).hash w) true f stand) Q E s := by
  intro n
  induction n using Nat.strongRecOn with
  | ind n ih =>
    intro c f stand cn nf st old
    obtain ⟨o, at_, ex, da⟩ := B.ob
    obtain ⟨f, rfl⟩ : ∃ g, f = g + 1 := ⟨f - 1, by omega⟩
    rw [setSearchFrom_succ]
    refine wpAny_bind (wpAny_setState_of at_ da B.fit ?_)
    have odd : t.gaveWay = false := by unfold SetTable.gaveWay; rw [mask_odd B.tab.mok]; rfl
    simp only [odd, Bool.false_eq_true, if_false, st]
    generalize hP : nth t.mask (runAt t.mask (SetTable.bits ((rk r).hash w) % (t.mask + 1)) (SetTable.bits ((rk r).hash w))) c = p
    have step : ∀ k, (nth t.mask p k).j = way t.mask ((rk r).hash w) (c + k) := fun k => by rw [← hP, ← nth_add]
    have spec := go_spec t B.tab.ris B.tab.dm (fun i => (es[i]?.map (·.1)).getD 0) ((rk r).hash w) (10 * SetTable.turns t.mask) n p (by rw [← hP]; exact nth_dummy _ _ _ rfl) (by omega) (fun k hk => by rw [step]; exact full _ (by omega)) (by rw [step, cn]; exact free)
    have code : ∀ {i : Nat} {q : Rt × Addr}, L[i]? = some q → (es[i]?.map (·.1)).getD 0 = (rk q.1).hash w := fun e => by rw [B.get, e, Option.map_some, Option.map_some, Option.getD_some]
    rcases spec with ⟨k, i, kn, pl, hh, before, go⟩ | ⟨nowhere, go⟩
    · rw [show t.probe _ _ p = _ from go]
      have il : i < L.length := by
        have := (List.getElem?_eq_some_iff.mp pl).1
        rwa [Array.length_toList, B.spots] at this
      have Li : L[i]? = some L[i] := List.getElem?_eq_getElem il
      have hy := B.here L[i] (List.getElem_mem il)
      have rest : wpAny (model prog w) A (searchRest z (.ref x) ((rk r).hash w) true f es t (nth t.mask p k).j i (nth t.mask p (k + 1))) Q E s := by
        unfold searchRest
        rw [B.get, Li]
        simp only [Option.map_some]
        refine wpAny_bind (wpAny_holding ((nestedKind prog w).eqBool hu (rkKind hy) (rkKind hx) ?_))
        refine wpAny_bind (wpAny_setState_of at_ da B.fit ?_)
        by_cases eq : L[i].1 = r
        · rw [decide_eq_true (congrArg rk eq)]
          exact wpAny_pure (yes (List.mem_map.mpr ⟨_, List.getElem_mem il, eq⟩))
        · rw [decide_eq_false fun e => eq (rk_inj e)]
          simp only [Bool.and_false, Bool.false_eq_true, if_false, sameMem, if_true, slot_live B.tab.ris pl, B.get, Li, Option.map_some]
          refine wpAny_bind (wpAny_isSame_ref_self (wpAny_bind (wpAny_pure ?_)))
          simp only [if_true]
          refine ih (n - (k + 1)) (by omega) (c + (k + 1)) f (some _) (by omega) (by omega) (by rw [Option.getD_some, ← hP, ← nth_add]) fun k' i' q hk' pl' Lq => ?_
          rcases Nat.lt_trichotomy k' (c + k) with lt | rfl | gt
          · by_cases lc : k' < c
            · exact old k' i' q lc pl' Lq
            · have ne := before (k' - c) i' (by omega) (by rw [step, show c + (k' - c) = k' by omega]; exact pl')
              rw [code Lq] at ne
              exact fun e => ne (by rw [e])
          · have same := slot_live B.tab.ris pl
            rw [step, slot_live B.tab.ris pl'] at same
            injection same with same
            rw [same, Li] at Lq
            injection Lq with Lq
            rw [← Lq]; exact eq
          · omega
      simp only []
      split
      · refine wpAny_bind (rkUnseen hx (fun y hy => ?_) ?_)
        · obtain ⟨e, he, rfl⟩ := List.mem_map.mp hy
          have he : e ∈ es.toList := by
            have := (Array.mem_toList_iff.mp he)
            exact Array.mem_toList_iff.mpr (Array.mem_filter.mp this).1
          rw [B.list] at he
          obtain ⟨q, hq, rfl⟩ := List.mem_map.mp he
          exact ⟨q.1, q.2, rfl, B.here q hq⟩
        · simp only [Bool.false_eq_true, if_false]
          exact rest
      · exact rest
    · rw [show t.probe _ _ p = _ from go, step, cn]
      refine wpAny_pure (no fun hr => ?_)
      obtain ⟨q, hq, rfl⟩ := List.mem_map.mp hr
      obtain ⟨i, hi⟩ := List.mem_iff_getElem?.mp hq
      have il : i < t.place.toList.length := by
        rw [Array.length_toList, B.spots]
        exact (List.getElem?_eq_some_iff.mp hi).1
      have pl := List.getElem?_eq_getElem il
      obtain ⟨k, kK, e⟩ := B.tab.before free (by rw [List.getElem?_map, hi, Option.map_some]) pl
      by_cases lc : k < c
      · exact old k i q lc (by rw [e]; exact pl) hi rfl
      · exact nowhere (k - c) i (by omega) (by rw [step, show c + (k - c) = k by omega, e]; exact pl) (code hi)
/-- what the set has, written anew -/
theorem Bg.put (B : Bg w s.heap z L es ep t) {L2 : List (Rt × Addr)} {es2 : Array (Int × Value)} {t2 : SetTable} (l : es2.toList = L2.map fun p => ((rk p.1).hash w, Value.ref p.2)) (tab : TabOk t2 (L2.map fun p => (rk p.1).hash w)) (once : (L2.map (·.1)).Nodup) (here : ∀ p ∈ L2, Rk s.heap p.1 p.2) (led : t2.led = t.led) (room : L2.length ≤ t2.mask) :
    Bg w (s.heap.update z (Obj.putSet es2 t2)) z L2 es2 (ep + 1) t2 := by
  obtain ⟨o, at_, ex, da⟩ := B.ob
  have g := Heap.get?_update_self (Obj.putSet es2 t2) at_ (by rw [putSet_of es2 t2 da]; rfl)
  rw [putSet_of es2 t2 da] at g
  refine ⟨⟨_, g, ex, rfl⟩, l, tab, once, fun p hp => (here p hp).at fun o' e => ?_, by rw [led]; exact B.led, room⟩
  have ne : p.2 ≠ z := fun q => by
    obtain ⟨o2, vs, m, _, _, g2, _, d2, _⟩ := here p hp
    rw [q, at_] at g2
    injection g2 with g2
    rw [← g2, da] at d2
    cases d2
  rw [(Heap.SameBut.update s.heap z (Obj.putSet es2 t2)).2 p.2 ne]
  exact e
theorem tab_plain {t : SetTable} {hs : List Int} (T : TabOk t hs) (b : Bool) : TabOk (if b = true then t else { t with plain := false }) hs := by
  cases b
  · exact ⟨T.ris, T.dm, T.sz, T.mok, T.bd, T.reach⟩
  · exact T
theorem mem_seam {α : Type} (l : List α) (p : Nat) (x : α) : (l.take p ++ x :: l.drop p).Perm (x :: l) := by
  have := List.perm_middle (a := x) (l₁ := l.take p) (l₂ := l.drop p)
  rwa [List.take_append_drop] at this
theorem range_get {α : Type} : ∀ L : List α, (List.range L.length).filterMap (fun i => L[i]?) = L
  | [] => rfl
  | x :: L => by
    rw [List.length_cons, List.range_succ_eq_map, List.filterMap_cons, List.filterMap_map]
    simp only [List.getElem?_cons_zero]
    congr 1
    exact range_get L
/-- the table laid anew -/
theorem bgLay (B : Bg w s.heap z L es ep t) (five : L.length = 5) {Q : Unit → Shared → Prop} (then_ : ∀ h2 L2 es2 ep2 t2, Heap.SameBut z s.heap h2 → Bg w h2 z L2 es2 ep2 t2 → L2.Perm L → t2.mask = 31 → Q () { s with heap := h2 }) :
    wpAny (model prog w) A (setRelay z (SetTable.grown 5)) Q E s := by
  obtain ⟨o, at_, ex, da⟩ := B.ob
  have es5 : es.size = 5 := B.many.trans five
  obtain ⟨t2, order, e, pm, tab, mk, ld, _, _⟩ := relaid_ok t (hs := es.map (·.1)) (wanted := SetTable.grown 5) (M := 31) (by rw [size_20]) (.inr (.inl rfl)) (by rw [Array.size_map]; omega)
  rw [Array.size_map, es5] at pm
  have low : ∀ i ∈ order.toList, i < L.length := fun i hi => by rw [five]; exact List.mem_range.mp (pm.mem_iff.mp hi)
  have p2 : (order.toList.filterMap fun i => L[i]?).Perm L := by
    have := pm.filterMap (fun i => L[i]?)
    rwa [← five, range_get] at this
  have list : (order.filterMap (es[·]?)).toList = (order.toList.filterMap fun i => L[i]?).map fun p => ((rk p.1).hash w, Value.ref p.2) := by
    rw [Array.toList_filterMap, List.map_filterMap]
    congr 1
    funext i
    exact B.get i
  have codes : ∀ l : List Nat, (∀ i ∈ l, i < L.length) → (l.map fun i => (es.map (·.1)).getD i 0) = (l.filterMap fun i => L[i]?).map fun p => (rk p.1).hash w := by
    intro l
    induction l with
    | nil => intro _; simp
    | cons i l ih =>
      intro h
      have il := h i List.mem_cons_self
      have g := B.get i
      rw [List.getElem?_eq_getElem il, Option.map_some] at g
      rw [List.map_cons, List.filterMap_cons, List.getElem?_eq_getElem il, ih fun j hj => h j (List.mem_cons_of_mem _ hj)]
      simp only [List.map_cons]
      congr 1
      rw [Array.getD_eq_getD_getElem?, Array.getElem?_map, g, Option.map_some, Option.getD_some]
  have many : (order.filterMap (es[·]?)).size = es.size := by
    rw [← Array.length_toList, list, List.length_map, p2.length_eq, B.many]
  rw [setRelay_eq]
  refine wpAny_bind (wpAny_setState_of at_ da B.fit ?_)
  simp only []
  rw [if_neg (by rw [size_20, sizeLine_eq]; decide)]
  simp only [e]
  rw [if_neg (by rw [many]; simp)]
  refine wpAny_bind (wpAny_pure (wpAny_storeSet_of at_ da ?_ (by rw [many, es5, sizeLine_eq]; decide)))
  refine then_ _ (order.toList.filterMap fun i => L[i]?) _ _ _ (Heap.SameBut.update ..) (B.put list (by rw [← codes _ low]; exact tab) ((p2.map (·.1)).nodup_iff.mpr B.once) (fun p hp => B.here p (p2.mem_iff.mp hp)) ld (by rw [p2.length_eq, mk]; omega)) p2 mk
/-- a row more -/
theorem bgAdd (B : Bg w s.heap z L es ep t) {r : Rt} {x : Addr} (hx : Rk s.heap r x) (hu : A.units + 8 < cLine) (few : L.length < 18) (slack : L.length * 5 < t.mask * 3) {Q : Bool → Shared → Prop} (old : r ∈ L.map (·.1) → Q false s)
    (new : r ∉ L.map (·.1) → ∀ h2 L2 es2 ep2 t2, Heap.SameBut z s.heap h2 → Bg w h2 z L2 es2 ep2 t2 → L2.Perm ((r, x) :: L) → L2.length * 5 < t2.mask * 3 → Q true { s with heap := h2 }) :
    wpAny (model prog w) A (setAddHashed z (.ref x) ((rk r).hash w)) Q E s := by
  obtain ⟨o, at_, ex, da⟩ := B.ob
  have len := B.room
  obtain ⟨K, bound, free, full⟩ := B.tab.first (by rw [List.length_map]; omega) ((rk r).hash w)
  have short : K < 100000 := by
    have : SetTable.turns t.mask ≤ 142 := by unfold SetTable.turns; rcases B.tab.mok with e | e | e <;> omega
    omega
  unfold setAddHashed
  refine wpAny_holding ?_
  rw [show (100000 : Nat) = 99999 + 1 from rfl, setAddHashedIn_succ]
  refine wpAny_bind (wpAny_setState_of at_ da B.fit ?_)
  have scan : byScan (.ref x) es = false := by unfold byScan Value.scannable; rfl
  simp only [scan, Bool.false_eq_true, if_false]
  refine wpAny_bind ?_
  unfold setSearch
  refine hunt B hx hu bound free full (fun y => wpAny_pure (old y)) (fun n => ?_) K 0 100000 none (by omega) short (start_run t _) (fun k i p hk => by omega)
  obtain ⟨pe, ple, T, mk, ld, pln, mv, fg, fl⟩ := B.tab.put free full
  rw [List.length_map] at fl ple
  refine wpAny_bind (wpAny_setState_of at_ da B.fit ?_)
  simp only []
  generalize hP : t.put (way t.mask ((rk r).hash w) K) = P at pe T mk ld fl
  generalize hp : SetTable.below t.place (way t.mask ((rk r).hash w) K) = p at pe ple T
  have tail : ∀ b : Bool, wpAny (model prog w) A (do
      storeSet z (SetTable.insertAt es P.2 ((rk r).hash w, Value.ref x)) (if b = true then P.1 else { P.1 with plain := false })
      if (!false && (if b = true then P.1 else { P.1 with plain := false }).tooFull) = true then do
        setRelay z (SetTable.grown (es.size + 1))
        pure true
      else pure true) Q E s := fun b => by
    have T2 := tab_plain T b
    have same : (if b = true then P.1 else { P.1 with plain := false }).mask = t.mask ∧ (if b = true then P.1 else { P.1 with plain := false }).led = t.led ∧ (if b = true then P.1 else { P.1 with plain := false }).fill = L.length + 1 := by
      cases b
      · exact ⟨mk, ld, fl⟩
      · exact ⟨mk, ld, fl⟩
    generalize (if b = true then P.1 else { P.1 with plain := false }) = t2 at T2 same ⊢
    obtain ⟨m2, l2, f2⟩ := same
    have list : (SetTable.insertAt es P.2 ((rk r).hash w, Value.ref x)).toList = (L.take p ++ (r, x) :: L.drop p).map fun p => ((rk p.1).hash w, Value.ref p.2) := by
      rw [SetTable.toList_insertAt, pe, B.list, List.map_append, List.map_cons, List.map_take, List.map_drop]
    have p2 := mem_seam L p (r, x)
    have tab : TabOk t2 ((L.take p ++ (r, x) :: L.drop p).map fun p => (rk p.1).hash w) := by
      rw [List.map_append, List.map_cons, List.map_take, List.map_drop]
      exact T2
    have len2 := p2.length_eq
    rw [List.length_cons] at len2
    have B2 := B.put (s := s) list tab ((p2.map (·.1)).nodup_iff.mpr (List.nodup_cons.mpr ⟨n, B.once⟩)) (fun q hq => by
      rcases List.mem_cons.mp (p2.mem_iff.mp hq) with rfl | hq
      · exact hx
      · exact B.here q hq) l2 (by rw [len2, m2]; omega)
    refine wpAny_bind (wpAny_storeSet_of at_ da ?_ (by rw [← Array.length_toList, list, List.length_map, len2, sizeLine_eq]; omega))
    by_cases hf : t2.tooFull = true
    · rw [if_pos (by rw [hf]; rfl)]
      have five : L.length = 4 := by
        unfold SetTable.tooFull at hf
        rw [f2, m2] at hf
        have := of_decide_eq_true hf
        rcases B.tab.mok with q | q | q <;> omega
      rw [B.many, five]
      refine wpAny_bind (bgLay B2 (by rw [len2, five]) fun h3 L3 es3 ep3 t3 sb B3 p3 m3 => wpAny_pure ?_)
      exact new n h3 L3 es3 ep3 t3 ((Heap.SameBut.update ..).trans sb) B3 (p3.trans p2) (by rw [p3.length_eq, len2, m3]; omega)
    · rw [if_neg (by simpa using hf)]
      refine wpAny_pure (new n _ _ _ _ _ (Heap.SameBut.update ..) B2 p2 ?_)
      unfold SetTable.tooFull at hf
      rw [f2, m2] at hf
      have := of_decide_eq_false (Bool.eq_false_iff.mpr hf)
      rw [len2, m2]; omega
  split
  · exact wpAny_bind (rkBy hx (tail false))
  · exact wpAny_bind (wpAny_pure (tail true))
end
end JK

/-! LayRt -/
set_option Elab.async false
set_option linter.all false
set_option maxRecDepth 100000
set_option autoImplicit false
set_option maxHeartbeats 1000000
/-! sorted(set(rows)) -/
namespace JK
open PySem PySem.Spec PyProof.Rows L2
section
variable {prog : Program} {w : World} {A : Around} {E : Value → Shared → Prop} {s : Shared} {z : Addr}
theorem Bg.move {h h2 : Heap} {L : List (Rt × Addr)} {es : Array (Int × Value)} {ep : Nat} {t : SetTable} (B : Bg w h z L es ep t) (same : ∀ o, h.get? z = some o → h2.get? z = some o) (here : ∀ p ∈ L, Rk h2 p.1 p.2) : Bg w h2 z L es ep t := by
  obtain ⟨o, at_, more⟩ := B.ob
  exact ⟨⟨o, same o at_, more⟩, B.list, B.tab, B.once, here, B.led, B.room⟩
/-- the rows ys, that stand in the heap g, are in the set -/
def Bag (w : World) (g : Heap) (S : Rt × Addr → Prop) (z : Addr) (ys : List Rt) (h : Heap) : Prop :=
  (∀ b o, g.get? b = some o → h.get? b = some o) ∧ g.get? z = none ∧ ∃ L es ep t, Bg w h z L es ep t ∧ L.length * 5 < t.mask * 3 ∧ (∀ r, r ∈ L.map (·.1) ↔ r ∈ ys) ∧ L.length ≤ ys.length ∧ ∀ p ∈ L, Rk g p.1 p.2 ∧ S p
theorem Bag.move {g h h2 : Heap} {S : Rt × Addr → Prop} {ys : List Rt} (B : Bag w g S z ys h) (same : ∀ o, h.get? z = some o → h2.get? z = some o) (ext : ∀ b o, g.get? b = some o → h2.get? b = some o) : Bag w g S z ys h2 := by
  obtain ⟨_, n, L, es, ep, t, b, sl, m, l, k⟩ := B
  exact ⟨ext, n, L, es, ep, t, b.move same fun p hp => (k p hp).1.at fun o e => ext _ _ e, sl, m, l, k⟩
theorem Bag.put {g : Heap} {S : Rt × Addr → Prop} {ys : List Rt} {r : Rt} {x : Addr} {Q : Bool → Shared → Prop} (B : Bag w g S z ys s.heap) (k : Rk g r x) (sx : S (r, x)) (hu : A.units + 8 < cLine) (few : ys.length < 18)
    (then_ : ∀ b h2 n, Heap.SameBut z s.heap h2 → s.toks ≤ n → Bag w g S z (ys ++ [r]) h2 → Q b { s with heap := h2, toks := n }) : wpAny (model prog w) A (setAdd z (.ref x)) Q E s := by
  obtain ⟨ext, n, L, es, ep, t, b, sl, m, l, kk⟩ := B
  have kx : Rk s.heap r x := k.at fun o e => ext _ _ e
  unfold setAdd
  refine wpAny_holding (wpAny_bind ((nestedKind prog w).pyHash hu (rkKind kx) ?_))
  have up : s.toks ≤ s.toks + (rk r).draws := Nat.le_add_right ..
  refine bgAdd (s := { s with toks := s.toks + (rk r).draws }) b kx hu (by omega) sl (fun y => ?_) fun no h2 L2 es2 ep2 t2 sb b2 p2 sl2 => ?_
  · refine then_ _ _ _ (Heap.SameBut.refl _ _) up ⟨ext, n, L, es, ep, t, b, sl, fun q => ?_, by simp; omega, kk⟩
    rw [List.mem_append, List.mem_singleton, m]
    exact ⟨.inl, fun h => h.elim id fun e => e ▸ (m r).mp y⟩
  · have ext2 : ∀ b o, g.get? b = some o → h2.get? b = some o := fun b o e => by
      rw [sb.2 b fun q => by rw [q, n] at e; cases e]
      exact ext b o e
    have len := p2.length_eq
    rw [List.length_cons] at len
    refine then_ _ _ _ sb up ⟨ext2, n, L2, es2, ep2, t2, b2, sl2, fun q => ?_, by simp; omega, fun p hp => ?_⟩
    · rw [(p2.map (·.1)).mem_iff, List.map_cons, List.mem_cons, List.mem_append, List.mem_singleton, m]
      exact ⟨fun h => h.elim .inr .inl, fun h => h.elim .inr .inl⟩
    · rcases List.mem_cons.mp (p2.mem_iff.mp hp) with rfl | hp
      · exact ⟨k, sx⟩
      · exact kk p hp
/-- whatever is put into a set turn by turn -/
theorem fillG {I : Addr} {fp wr : List Addr} {G : Array GenState → Array GenState → Prop} {n : Nat} {P : Nat → Value → Prop} {St : Nat → Shared → Prop} {R : Result → Shared → Prop} (W : WalksS prog w A.in1 I fp wr G n P St) (zf : z ∉ fp) (B : Nat → Heap → Prop)
    (move : ∀ i h h2, B i h → (∀ c o, c ∉ wr → h.get? c = some o → h2.get? c = some o) → B i h2)
    (put : ∀ i v (t : Shared) (E : Value → Shared → Prop) (Q : Bool → Shared → Prop), i < n → P i v → B i t.heap → (∀ b h2 m, Heap.SameBut z t.heap h2 → t.toks ≤ m → B (i + 1) h2 → Q b { t with heap := h2, toks := m }) → wpAny (model prog w) A.in1 (setAdd z v) Q E t)
    {s : Shared} (st : St 0 s) (now : B 0 s.heap) (fin : ∀ s', Moved (z :: wr) G s s' → B n s'.heap → R (.ok (.ret .none)) s') :
    codeAny (model prog w) A (.builtin "set.update.loop" ⟨[.ref z, .ref I], []⟩) R s := by
  have wide : ∀ {a b : Shared}, Moved wr G a b → Moved (z :: wr) G a b := fun q => ⟨fun c o hc e => q.heap c o (fun y => hc (List.mem_cons_of_mem _ y)) e, q.gens, q.drawn, q.os, q.toks⟩
  have join : ∀ {a b c : Shared}, Moved (z :: wr) G a b → Moved (z :: wr) G b c → Moved (z :: wr) G a c := fun p q => ⟨fun d o hd e => q.heap d o hd (p.heap d o hd e), W.gtrans _ _ _ p.gens q.gens, q.drawn.trans p.drawn, q.os.trans p.os, Nat.le_trans p.toks q.toks⟩
  suffices all : ∀ (left i : Nat) (t : Shared), i + left = n → St i t → B i t.heap → Moved (z :: wr) G s t → codeAny (model prog w) A (.builtin "set.update.loop" ⟨[.ref z, .ref I], []⟩) R t from
    all n 0 s (by omega) st now ⟨fun _ _ _ e => e, W.grefl _, rfl, rfl, Nat.le_refl _⟩
  intro left
  induction left with
  | zero =>
    intro i t im sti hol mv
    obtain rfl : i = n := by omega
    refine codeAny_builtin F.entry_set_update_loop ?_
    rw [Around.under_plainId F.plain_set_update_loop]
    exact wpAny_bind (W.done t _ _ sti fun t' q => wpAny_pure (fin t' (join mv (wide q)) (move _ _ _ hol fun c o hc e => q.heap c o hc e)))
  | succ left ih =>
    intro i t im sti hol mv
    refine codeAny_builtin F.entry_set_update_loop ?_
    rw [Around.under_plainId F.plain_set_update_loop]
    refine wpAny_bind (W.item i t _ _ (by omega) sti fun v t' pv st' q => ?_)
    refine wpAny_bind (wpAny_holding (put i v t' _ _ (by omega) pv (move _ _ _ hol fun c o hc e => q.heap c o hc e) fun b h2 m sb le more => wpAny_pure ⟨plainId_quiet F.plain_set_update_loop _, ?_⟩))
    refine ih (i + 1) _ (by omega) (W.frame _ t' _ _ st' le fun c hc o e => (sb.2 c fun y => zf (y ▸ hc)).trans e) more (join (join mv (wide q)) ⟨fun c o hc e => (sb.2 c fun y => hc (by rw [y]; exact List.mem_cons_self)).trans e, W.grefl _, rfl, rfl, le⟩)
/-- a new set -/
def bare0 (w : World) : Obj := { cls := .type "set", dict := none, data := .set #[] 0 (.fresh 0 0 (!w.params.followText "set-order")) }
/-- set(x), up to what fills it -/
theorem setFront {l : Addr} {Q : Value → Shared → Prop} (body : ∀ (A2 : Around) (E2 : Value → Shared → Prop), A2.handled = A.handled → A2.units ≤ A.units + 8 →
      wpAny (model prog w) A2 (Builtin.Frozenset.updateFrom "set.__init__" s.heap.objs.size (.ref l)) (fun _ t => Q (.ref s.heap.objs.size) t) E2 { s with heap := s.heap.push (bare0 w) }) :
    wpAny (model prog w) A (call (.type "set") [.ref l]) Q E s := by
  obtain ⟨c0, tl, mro⟩ := F.called_set.mro
  have made := F.called_set.made
  have below := F.called_set.sub
  have noT := F.called_set.notType
  have can := F.called_set.canCreate
  have chk := F.typeCall_set_1 (.ref l)
  refine wpAny_call (codeAny_of_tree ?_)
  wp_walk
  refine ⟨Code.quiet_builtin _ (by decide +kernel), codeAny_builtin F.entry_type_call ?_⟩
  rw [Around.under_plain (weight_type_call_type "set" [.ref l] []) rfl]
  unfold Builtin.«type.__call__»
  simp only [noT, Bool.false_eq_true, if_false, can, chk, mro, made, pure_bind, List.isEmpty_cons]
  refine wpAny_bind (wpAny_holding (wpAny_call (codeAny_mono (code_set_led1 (.ref l) (E := E) (Q₁ := fun ob t => ob = .ref s.heap.objs.size ∧ t = { s with heap := s.heap.push (bare0 w) }) ⟨rfl, rfl⟩) fun r t hr => ?_)))
  cases r with
  | error e => exact hr
  | ok fl =>
    cases fl with
    | ret ob =>
      obtain ⟨rfl, rfl⟩ := hr
      have isS : Shared.TypeIs { s with heap := s.heap.push (bare0 w) } (.ref s.heap.objs.size) "set" := ⟨_, Heap.get?_push_size _ rfl, rfl⟩
      refine wpAny_bind (wpAny_isInstance isS below ?_)
      simp only [Bool.not_true, Bool.false_eq_true, if_false]
      refine wpAny_bind (wpAny_holding (wpAny_callSpecial?_slot isS F.called_set.init (wpAny_call (initCode isS ?_))))
      unfold Builtin.«set.__init__» noKeywords
      generalize up : Builtin.Frozenset.updateFrom = UP
      wp_walk
      subst up
      refine wpAny_mono (body _ _ ?_ ?_) (fun _ t h => wpAny_pure (wpAny_pure h)) fun _ _ h => h
      · simp
      · simp [Around.in1_units]
    | _ => exact hr.elim
/-- all rows of a list, into a new set -/
theorem intoR {l : Addr} {its : Array Value} {ks : List (Rt × Addr)} {g : Heap} {S : Rt × Addr → Prop} {Q : Unit → Shared → Prop} (calm : A.handled = none) (hu : A.units + 16 < cLine) (il : s.heap.IsList l its) (lz : l ≠ z) (zs : z < s.heap.objs.size) (eq : its.toList = ks.map fun p => Value.ref p.2) (rows : ∀ p ∈ ks, Rk g p.1 p.2 ∧ S p) (few : ks.length ≤ 18) (old : ∀ b o, g.get? b = some o → b < s.heap.objs.size) (now : Bag w g S z [] s.heap)
    (fin : ∀ (h2 : Heap) (tk : Nat), Bag w g S z (ks.map (·.1)) h2 → (∀ b o, b ≠ z → s.heap.get? b = some o → h2.get? b = some o) → Q () { s with heap := h2, toks := tk }) :
    wpAny (model prog w) A (Builtin.Frozenset.updateFrom "set.__init__" z (.ref l)) Q E s := by
  obtain ⟨lo, at_, cl, m, da⟩ := id il
  have isL : s.TypeIs (.ref l) "list" := ⟨lo, at_, cl⟩
  have nI : l ≠ s.heap.objs.size := Nat.ne_of_lt (Heap.lt_size at_)
  have W := (Walks.list (prog := prog) (w := w) (A := A.in1) (by simp [calm]) s.heap.objs.size l nI its).toS
  have many : ks.length = its.size := by rw [← Array.length_toList, eq, List.length_map]
  have up : ∀ b o, s.heap.get? b = some o → (s.heap.push { cls := Value.type "list_iterator", data := .fields #[.ref l, .int 0 0] }).get? b = some o := fun b o e => Heap.get?_push_of_some _ e
  unfold Builtin.Frozenset.updateFrom
  refine wpAny_bind (noSet at_ cl ?_)
  simp only [Bool.false_eq_true, if_false]
  refine wpAny_bind (wpAny_typeOf isL ?_)
  rw [if_neg (by decide)]
  refine wpAny_bind (wpAny_pyIter_list il (wpAny_bind (wpAny_runValue (fillG W (z := z) ?_ (fun i h => Bag w g S z ((ks.map (·.1)).take i) h) (fun i h h2 b keep => ?_) (fun i v t E2 Q2 hi hv b then_ => ?_) ⟨⟨_, Heap.get?_push_size _ rfl, rfl, rfl⟩, il.push _⟩ (now.move (fun o e => up _ _ e) fun b o e => up _ _ (now.1 b o e)) fun t mv got => ?_))))
  · simp only [List.mem_cons, List.not_mem_nil, or_false, not_or]
    exact ⟨Nat.ne_of_lt zs, fun e => lz e.symm⟩
  · refine b.move (fun o e => keep z o ?_ e) fun c o e => keep c o ?_ (b.1 c o e)
    · simpa using Nat.ne_of_lt zs
    · simpa using Nat.ne_of_lt (old c o e)
  · have lt : i < ks.length := by omega
    have e : v = Value.ref ks[i].2 := by
      have hv : its[i]? = some v := hv
      rw [← Array.getElem?_toList, eq, List.getElem?_map, List.getElem?_eq_getElem lt] at hv
      exact (Option.some.inj hv).symm
    subst e
    have next : (ks.map (·.1)).take (i + 1) = (ks.map (·.1)).take i ++ [ks[i].1] := by
      rw [List.take_succ, List.getElem?_map, List.getElem?_eq_getElem lt]; rfl
    refine b.put (rows _ (List.getElem_mem lt)).1 (rows _ (List.getElem_mem lt)).2 (by simp [Around.in1_units]; omega) (by simp; omega) fun c h2 n sb le more => then_ c h2 n sb le ?_
    rw [next]; exact more
  · refine wpAny_pure ?_
    have same : t = { s with heap := t.heap, toks := t.toks } := by
      have g := mv.gens; have d := mv.drawn; have o := mv.os
      cases t; simp only at g d o; rw [g, d, o]
    rw [same]
    refine fin _ _ (by rwa [List.take_of_length_le (by rw [List.length_map]; omega)] at got) fun b o bz e => mv.heap b o ?_ (up _ _ e)
    simp only [List.mem_cons, List.not_mem_nil, or_false, not_or]
    exact ⟨bz, Nat.ne_of_lt (Heap.lt_size e)⟩
theorem bag0 {g : Heap} {S : Rt × Addr → Prop} (hz : s.heap.get? z = some (bare0 w)) (ext : ∀ b o, g.get? b = some o → s.heap.get? b = some o) (n : g.get? z = none) : Bag w g S z [] s.heap := by
  refine ⟨ext, n, [], #[], 0, _, ⟨⟨_, hz, ⟨rfl, rfl, rfl⟩, rfl⟩, rfl, ⟨List.Pairwise.nil, rfl, rfl, .inl rfl, fun x h => (by cases h), fun i h j e => (by simp at e)⟩, List.nodup_nil, fun p h => (by cases h), ?_, Nat.zero_le _⟩, (show 0 * 5 < 7 * 3 by decide), by simp, Nat.le_refl _, fun p h => (by cases h)⟩
  cases w.params.followText "set-order"
  · exact .inr rfl
  · exact .inl rfl
/-- set(a list of rows) -/
theorem setOfR {l : Addr} {its : Array Value} {ks : List (Rt × Addr)} {Q : Value → Shared → Prop} (calm : A.handled = none) (hu : A.units + 64 < cLine) (il : s.heap.IsList l its) (eq : its.toList = ks.map fun p => Value.ref p.2) (rows : ∀ p ∈ ks, Rk s.heap p.1 p.2) (few : ks.length ≤ 18)
    (fin : ∀ (h2 : Heap) (tk : Nat), Bag w s.heap (· ∈ ks) s.heap.objs.size (ks.map (·.1)) h2 → (∀ b o, s.heap.get? b = some o → h2.get? b = some o) → Q (.ref s.heap.objs.size) { s with heap := h2, toks := tk }) :
    wpAny (model prog w) A (call (.type "set") [.ref l]) Q E s := by
  refine setFront fun A2 E2 hh hu2 => ?_
  obtain ⟨lo, at_, _⟩ := id il
  have ls := Heap.lt_size at_
  have none_ : s.heap.get? s.heap.objs.size = none := by
    cases e : s.heap.get? s.heap.objs.size with
    | none => rfl
    | some o => exact absurd (Heap.lt_size e) (Nat.lt_irrefl _)
  refine intoR (g := s.heap) (by rw [hh, calm]) (by omega) (il.push _) (Nat.ne_of_lt ls) (by rw [Heap.size_push]; exact Nat.lt_succ_self _) eq (fun p hp => ⟨rows p hp, hp⟩) few (fun b o e => by rw [Heap.size_push]; exact Nat.lt_succ_of_lt (Heap.lt_size e))
    (bag0 (Heap.get?_push_size _ rfl) (fun b o e => Heap.get?_push_of_some _ e) none_) fun h2 tk got keep => ?_
  exact fin h2 tk got got.1
end
end JK

/-! LayRu -/
set_option Elab.async false
set_option linter.all false
set_option maxRecDepth 100000
set_option autoImplicit false
set_option maxHeartbeats 1000000
/-! sorted(set(rows)), the call and its reading -/
namespace JK
open PySem PySem.Spec PyProof.Rows L2
def encR (r : Rt) : PyData := .tuple [.str r.1, .int r.2]
theorem Rk.reads {h : Heap} {r : Rt} {a : Addr} (k : Rk h r a) : Reads h (.ref a) (encR r) [] := by
  obtain ⟨o, vs, m, t, u, g, c, d, rfl⟩ := k
  exact .tuple g c d (.cons (.str _ _) (.cons (.int _ _) .nil))
/-- rows rise by key, then by number -/
def leR (a b : Rt) : Bool := if a.1 = b.1 then decide (a.2 ≤ b.2) else leS a.1 b.1
theorem leR_data (a b : Rt × Addr) : PySem.W.dataLe false (fun p : Rt × Addr => encR p.1) a b = leR a.1 b.1 := by
  rw [PySem.W.dataLe_eq]
  have s := congrFun (congrFun (PySem.W.dataLe_str (fun r : Rt => r.1)) a.1) b.1
  have i := congrFun (congrFun (PySem.W.dataLe_int (fun r : Rt => r.2)) a.1) b.1
  rw [PySem.W.dataLe_eq] at s i
  simp only [cond_false] at s i ⊢
  unfold encR leR leS
  rw [PySem.W.dataLt_pair rfl rfl, ← s, ← i]
  simp only [PyData.eqv, beq_iff_eq]
  by_cases h : a.1.1 = b.1.1
  · rw [if_pos h, if_pos h.symm]
    by_cases h2 : b.1.2 = a.1.2
    · rw [if_pos h2, i, h2]; simp
    · rw [if_neg h2]
  · rw [if_neg h, if_neg fun e => h e.symm]
def sortR (ys : List Rt) : List Rt := ys.mergeSort leR
theorem leR_trans (a b c : Rt) (h1 : leR a b = true) (h2 : leR b c = true) : leR a c = true := by
  unfold leR at *
  by_cases e1 : a.1 = b.1
  · rw [if_pos e1] at h1
    by_cases e2 : b.1 = c.1
    · rw [if_pos e2] at h2
      rw [if_pos (e1.trans e2)]
      simp only [decide_eq_true_eq] at *
      omega
    · rw [if_neg e2] at h2
      rw [if_neg fun e => e2 (e1.symm.trans e), e1]
      exact h2
  · rw [if_neg e1] at h1
    by_cases e2 : b.1 = c.1
    · rw [if_neg fun e => e1 (e.trans e2.symm), ← e2]
      exact h1
    · rw [if_neg e2] at h2
      by_cases e3 : a.1 = c.1
      · rw [← e3] at h2
        exact absurd (leS_anti h1 h2) e1
      · rw [if_neg e3]
        exact leS_trans _ _ _ h1 h2
theorem leR_total (a b : Rt) : (leR a b || leR b a) = true := by
  unfold leR
  by_cases e : a.1 = b.1
  · rw [if_pos e, if_pos e.symm]
    simp only [Bool.or_eq_true, decide_eq_true_eq]
    omega
  · rw [if_neg e, if_neg fun q => e q.symm]
    exact leS_total _ _
theorem leR_anti {a b : Rt} (h1 : leR a b = true) (h2 : leR b a = true) : a = b := by
  unfold leR at *
  by_cases e : a.1 = b.1
  · rw [if_pos e] at h1
    rw [if_pos e.symm] at h2
    simp only [decide_eq_true_eq] at *
    exact Prod.ext e (by omega)
  · rw [if_neg e] at h1
    rw [if_neg fun q => e q.symm] at h2
    exact absurd (leS_anti h1 h2) e
theorem sortR_perm (ys : List Rt) : (sortR ys).Perm ys := List.mergeSort_perm _ _
theorem sortR_le (ys : List Rt) : (sortR ys).Pairwise (fun a b => leR a b = true) := List.pairwise_mergeSort leR_trans leR_total ys
theorem sortR_one {ys zs : List Rt} (p : zs.Perm ys) (h : zs.Pairwise fun a b => leR a b = true) : zs = sortR ys :=
  List.Perm.eq_of_pairwise (le := fun a b => leR a b = true) (fun a b _ _ h1 h2 => leR_anti h1 h2) h (sortR_le ys) (p.trans (sortR_perm ys).symm)
theorem perm_of_map {α β : Type} {f : α → β} {l m : List β} (p : l.Perm m) : ∀ {L : List α}, m = L.map f → ∃ bs : List α, bs.Perm L ∧ l = bs.map f := by
  induction p with
  | nil => intro L e; exact ⟨[], by rw [List.map_eq_nil_iff.mp e.symm], rfl⟩
  | cons x p ih =>
    intro L e
    obtain ⟨a, L, rfl⟩ : ∃ a t, L = a :: t := by cases L with | nil => cases e | cons a t => exact ⟨a, t, rfl⟩
    rw [List.map_cons] at e
    injection e with e1 e2
    obtain ⟨bs, q, r⟩ := ih e2
    exact ⟨a :: bs, q.cons a, by rw [List.map_cons, e1, r]⟩
  | swap x y l =>
    intro L e
    obtain ⟨a, b, L, rfl⟩ : ∃ a b t, L = a :: b :: t := by
      cases L with
      | nil => cases e
      | cons a t => cases t with | nil => cases e | cons b t => exact ⟨a, b, t, rfl⟩
    rw [List.map_cons, List.map_cons] at e
    injection e with e1 e2
    injection e2 with e2 e3
    exact ⟨b :: a :: L, .swap _ _ _, by rw [List.map_cons, List.map_cons, e1, e2, e3]⟩
  | trans _ _ ih1 ih2 =>
    intro L e
    obtain ⟨bs, q, r⟩ := ih2 e
    obtain ⟨cs, q2, r2⟩ := ih1 r
    exact ⟨cs, q2.trans q, r2⟩
theorem each_refs : ∀ {vs : List Value} {bs : List (Rt × Addr)}, PySem.W.EachIs (fun v (b : Rt × Addr) => v = Value.ref b.2) vs bs → vs = bs.map fun p => Value.ref p.2
  | _, _, .nil => rfl
  | _, _, .cons e r => by rw [List.map_cons, ← each_refs r, e]
theorem refs_each {R : Value → Rt × Addr → Prop} : ∀ {bs : List (Rt × Addr)}, (∀ p ∈ bs, R (.ref p.2) p) → PySem.W.EachIs R (bs.map fun p => Value.ref p.2) bs
  | [], _ => .nil
  | b :: bs, h => .cons (h b List.mem_cons_self) (refs_each fun p hp => h p (List.mem_cons_of_mem _ hp))
theorem onceR (ks : List Rt) : (onces ks).Nodup ∧ ∀ k, k ∈ onces ks ↔ k ∈ ks := by
  unfold onces
  suffices ∀ acc : List Rt, acc.Nodup → (ks.foldl once1 acc).Nodup ∧ ∀ k, k ∈ ks.foldl once1 acc ↔ k ∈ acc ∨ k ∈ ks by
    obtain ⟨a, b⟩ := this [] List.nodup_nil
    exact ⟨a, fun k => by rw [b]; simp⟩
  induction ks with
  | nil => intro acc h; exact ⟨h, by simp⟩
  | cons x ks ih =>
    intro acc h
    have nd : (once1 acc x).Nodup := by
      unfold once1
      split
      · exact h
      · rename_i hx
        exact List.nodup_append.mpr ⟨h, by simp, fun a ha b hb => by simp at hb; subst hb; exact fun e => hx (e ▸ ha)⟩
    obtain ⟨a, b⟩ := ih (once1 acc x) nd
    refine ⟨a, fun k => ?_⟩
    rw [List.foldl_cons, b, once1_mem, List.mem_cons]
    exact ⟨fun q => q.elim (fun q => q.elim .inl fun e => .inr (.inl e)) fun q => .inr (.inr q), fun q => q.elim (fun q => .inl (.inl q)) fun q => q.elim (fun q => .inl (.inr q)) .inr⟩
section
variable {prog : Program} {w : World} {A : Around} {E : Value → Shared → Prop} {s : Shared} {z : Addr}
/-- sorted of a set of rows: a new list of them, rising -/
theorem sortedR {L : List (Rt × Addr)} {es : Array (Int × Value)} {ep : Nat} {t : SetTable} {ys : List Rt} {Q : Value → Shared → Prop} (calm : A.handled = none) (hu : A.units + 64 < cLine) (B : Bg w s.heap z L es ep t) (mem : ∀ r, r ∈ L.map (·.1) ↔ r ∈ ys) (few : L.length ≤ 18)
    (fin : ∀ s' p (out : List (Rt × Addr)) (c : Nat), (∀ b o, s.heap.get? b = some o → s'.heap.get? b = some o) → s'.gens = s.gens → s'.os = s.os → s.heap.objs.size ≤ p →
      s'.heap.get? p = some (seqObj "list" (out.map fun q => Value.ref q.2).toArray c) → out.map (·.1) = sortR (onces ys) → (∀ q ∈ out, q ∈ L) → Q (.ref p) s') :
    wpAny (model prog w) A (call (.builtin "sorted") [.ref z]) Q E s := by
  obtain ⟨o, at_, ex, da⟩ := B.ob
  have size : es.size < scanBound := by rw [B.many]; unfold scanBound; omega
  refine Calls.call_function_entry kind_sorted plain_sorted entry_sorted (args_sorted1 _) ?_
  unfold Builtin.«sorted»
  refine wpAny_bind (m := checkCount "sorted" 1 1 _) (wpAny_pure (wpAny_bind (collect_set (A := A.in1) calm ⟨_, at_, ex.1, da⟩ B.fit size B.tab.ris B.led ?_)))
  intro s1 out k1 z1 g1 o1 pm
  rw [B.list, List.map_map] at pm
  obtain ⟨bs, pb, rfl⟩ := perm_of_map pm (L := L) rfl
  have lo : bs.length ≤ sizeLine := by rw [pb.length_eq, sizeLine_eq]; omega
  refine wpAny_bind (wpAny_newList ?_ (by rw [List.length_map]; exact lo))
  have rows : ∀ p ∈ bs, Rk s.heap p.1 p.2 := fun p hp => B.here p (pb.mem_iff.mp hp)
  have new : (s1.heap.push (seqObj "list" (bs.map fun p => Value.ref p.2).toArray 0)).get? s1.heap.objs.size = some (seqObj "list" (bs.map fun p => Value.ref p.2).toArray 0) := Heap.get?_push_size _ rfl
  have keep : ∀ b o, s.heap.get? b = some o → (s1.heap.push (seqObj "list" (bs.map fun p => Value.ref p.2).toArray 0)).get? b = some o := fun b o e => Heap.get?_push_of_some _ (k1 b o e)
  refine wpAny_bind (wpAny_holding (PySem.W.list_sort_data (R := fun v (b : Rt × Addr) => v = Value.ref b.2) (enc := fun p : Rt × Addr => encR p.1) (bs := bs) new (refs_each fun _ _ => rfl) (refs_each fun p hp => ⟨[], ((rows p hp).at fun o e => keep _ _ e).reads, by simp⟩) ?_ ?_ lo ?_ ?_))
  · exact PySem.W.AllAlike.of fun _ _ => rfl
  · exact PySem.W.Sortable.tuples fun b => ⟨_, _, rfl⟩
  · intro b hb
    have : (encR b.1).depth ≤ 2 := by simp [encR, PyData.depth, PyData.depthAll]
    have : A.in1.units = A.units + 1 := Around.in1_units _
    omega
  · intro res lres each
    have e := each_refs each
    subst e
    have srt := List.mergeSort_perm bs (PySem.W.dataLe false fun p : Rt × Addr => encR p.1)
    obtain ⟨c, hc⟩ := sortedHeap_at (vs := bs.map fun p => Value.ref p.2) (out := ((bs.mergeSort (PySem.W.dataLe false fun p : Rt × Addr => encR p.1)).map fun p => Value.ref p.2).toArray) new
    refine wpAny_pure ⟨_, rfl, fin _ s1.heap.objs.size _ c (fun b o e => ?_) g1 o1 z1 hc ?_ fun q hq => pb.mem_iff.mp (srt.mem_iff.mp hq)⟩
    · have q := k1 b o e
      have lt := Heap.lt_size q
      show (sortedHeap (s1.heap.push (seqObj "list" (bs.map fun p => Value.ref p.2).toArray 0)) s1.heap.objs.size _ _).get? b = some o
      rw [sortedHeap_old (Nat.ne_of_lt lt) (by rw [size_push']; exact Nat.lt_succ_of_lt lt)]
      exact Heap.get?_push_of_some _ q
    · refine sortR_one ((srt.map (·.1)).trans ((pb.map (·.1)).trans ((List.perm_ext_iff_of_nodup B.once (onceR ys).1).mpr fun k => (mem k).trans ((onceR ys).2 k).symm))) ?_
      refine List.pairwise_map.mpr ((List.pairwise_mergeSort ?_ ?_ bs).imp fun h => by rw [← leR_data]; exact h)
      · intro a b c h1 h2
        rw [leR_data] at *
        exact leR_trans _ _ _ h1 h2
      · intro a b
        rw [leR_data, leR_data]
        exact leR_total _ _
end
/-! the reading -/
def BagP (w : World) (a : Addr) (ks : List (Rt × Addr)) (h : Heap) : Prop :=
  ∃ (L : List (Rt × Addr)) (es : Array (Int × Value)) (ep : Nat) (t : SetTable), (∃ o, h.get? a = some o ∧ o.ExactSet ∧ o.data = .set es ep t) ∧ es.toList = (L.map fun p : Rt × Addr => ((rk p.1).hash w, Value.ref p.2)) ∧ TabOk t (L.map fun p => (rk p.1).hash w) ∧ (L.map (·.1)).Nodup ∧ (w.params.followText "set-order" = true ∨ t.led = true) ∧ L.length ≤ t.mask ∧
    (∀ r, r ∈ L.map (·.1) ↔ r ∈ ks.map (·.1)) ∧ L.length ≤ ks.length ∧ ∀ p ∈ L, p ∈ ks
def BagX (w : World) (a : Addr) (ks : List (Rt × Addr)) : HO := .ext fun h => BagP w a ks h
theorem bagX_new {P : Program} {w : World} {H : Hp} {h g : Heap} {a : Addr} {ks : List (Rt × Addr)} (B : Bag w g (· ∈ ks) a (ks.map (·.1)) h) : ObjOk P w H h a (BagX w a ks) := by
  obtain ⟨_, _, L, es, ep, t, b, _, mem, len, sub⟩ := B
  obtain ⟨o, at_, more⟩ := b.ob
  refine ⟨⟨L, es, ep, t, b.ob, b.list, b.tab, b.once, b.led, b.room, mem, by rwa [List.length_map] at len, fun p hp => (sub p hp).2⟩, ⟨o, at_⟩, fun h1 h2 p k => ?_⟩
  obtain ⟨L, es, ep, t, ⟨o, q, m⟩, more⟩ := p
  exact ⟨L, es, ep, t, ⟨o, k _ q, m⟩, more⟩
section
variable {X : Cx} {W : WX}
theorem refs_vals : ∀ {ks : List (Rt × Addr)} {us : List Value}, Vals (ks.map fun p => V.ref p.2) us → us = ks.map fun p => Value.ref p.2
  | [], _, .nil => rfl
  | _ :: _, _, .cons e r => by rw [List.map_cons, ← refs_vals r]; exact congrArg (· :: _) e
theorem vals_refs : ∀ ks : List (Rt × Addr), Vals (ks.map fun p => V.ref p.2) (ks.map fun p => Value.ref p.2)
  | [] => .nil
  | _ :: ks => .cons rfl (vals_refs ks)
theorem rowAt {pins : List (Addr × Obj)} {σ : L2.St} {H : Hp} {s : Shared} {b : Addr} {r : Rt} (I : L2.Inv X pins σ H s) (h : SqT X.K H b [V.str r.1, V.int r.2]) : Rk s.heap r b := by
  obtain ⟨its, v, ⟨o, ho, hc, n, hd⟩, _⟩ := I.tuple h
  cases v with
  | cons a v =>
    cases v with
    | cons b v =>
      cases v
      obtain ⟨t, rfl⟩ := a
      obtain ⟨u, rfl⟩ := b
      exact ⟨o, _, n, t, u, ho, hc, hd, rfl⟩
def rSetR (X : Cx) : List V → Hp → VK → Prop := fun xs H Q => ∃ l ks, xs = [.ref l] ∧ SqL X.K H l (ks.map fun p : Rt × Addr => V.ref p.2) ∧ (∀ p ∈ ks, SqT X.K H p.2 [V.str p.1.1, V.int p.1.2]) ∧ ks.length ≤ 18 ∧ ∀ p, H p = none → Q (.ref p) (upd H p (BagX X.w p ks))
theorem cr_setR (hc : X.calm = true) (hu : X.A.units + 64 < cLine) : CallR X (.type "set") (rSetR X) := by
  intro pins s σ H xs us Q I r h
  obtain ⟨l, ks, rfl, hl, rows, few, q⟩ := h
  obtain ⟨u, rfl, ru⟩ := vals1 r
  obtain rfl : u = Value.ref l := ru
  obtain ⟨its, rv, p, _⟩ := I.list hl
  refine setOfR (ks := ks) (I.ok.hd hc) hu p.isList (by rw [List.toList_toArray]; exact refs_vals rv) (fun p hp => rowAt I (rows p hp)) few fun h2 tk t keep => ?_
  exact ⟨.ref s.heap.objs.size, _, I.laid (t' := tk) keep (Nat.le_refl _) (bagX_new t), rfl, q _ (I.hok.fresh (Nat.le_refl _))⟩
def rSortR (X : Cx) : List V → Hp → VK → Prop := fun xs H Q => ∃ a ks, xs = [.ref a] ∧ H a = some (BagX X.w a ks) ∧ (∀ p ∈ ks, SqT X.K H p.2 [V.str p.1.1, V.int p.1.2]) ∧ ks.length ≤ 18 ∧ ∀ (p : Addr) (out : List (Rt × Addr)), H p = none → out.map (·.1) = sortR (onces (ks.map (·.1))) → (∀ q ∈ out, q ∈ ks) → Q (.ref p) (upd H p (.lst (out.map fun q : Rt × Addr => V.ref q.2)))
theorem cr_sortR (hc : X.calm = true) (hu : X.A.units + 64 < cLine) : CallR X (.builtin "sorted") (rSortR X) := by
  intro pins s σ H xs us Q I r h
  obtain ⟨a, ks, rfl, ha, rows, few, q⟩ := h
  obtain ⟨u, rfl, ru⟩ := vals1 r
  obtain rfl : u = Value.ref a := ru
  obtain ⟨L, es, ep, t, ob, li, tab, on, led, room, mem, len, sub⟩ := (I.hok a _ ha).1
  refine sortedR (L := L) (es := es) (ep := ep) (t := t) (I.ok.hd hc) hu ⟨ob, li, tab, on, fun p hp => rowAt I (rows p (sub p hp)), led, room⟩ mem (by omega) fun s' p out c keep g o hp at_ st inL => ?_
  have fresh : H p = none := I.hok.fresh hp
  have size : (out.map fun q : Rt × Addr => V.ref q.2).length ≤ sizeLine := by
    have := congrArg List.length st
    rw [List.length_map, (sortR_perm _).length_eq] at this
    have := onces_le (ks.map (·.1))
    rw [List.length_map] at this ⊢
    rw [sizeLine_eq]; omega
  have J : Inv X pins σ (upd H p (.lst (out.map fun q : Rt × Addr => V.ref q.2))) { s with heap := s'.heap, gens := s'.gens, drawn := s'.drawn, toks := s'.toks } :=
    I.call (ch := []) (Un.laid keep hp fresh) (I.hok.laid keep hp ⟨size, _, c, vals_refs out, at_⟩) (by rw [g]; exact I.bare) (fun _ z => nomatch z)
  have same : s' = { s with heap := s'.heap, gens := s'.gens, drawn := s'.drawn, toks := s'.toks } := by
    cases s'; cases s; cases o; rfl
  rw [same]
  exact ⟨.ref p, _, J, rfl, q p out fresh st fun x hx => sub x (inL x hx)⟩
/-- rows of a list -/
def rtOf : List D → Option (List Rt)
  | [] => some []
  | .tup [.str k, .int n] :: ds => (rtOf ds).map ((k, n) :: ·)
  | _ => none
def rtD (r : Rt) : D := .tup [.str r.1, .int r.2]
/-- sorted(set(a)), a list of rows -/
def dSortRows : D → R D
  | .lst xs => match rtOf xs with
    | some ys => if ys.length ≤ 18 then .ok (.lst ((sortR (onces ys)).map rtD)) else .no
    | none => .no
  | _ => .no
def eSortRows (a : Ex) : Ex := fun ρ => (a ρ).bnd dSortRows
theorem rtOf_rep {K : PySem.W.Frag} {H : Hp} : ∀ {ds : List D} {vs : List V} {ys : List Rt}, RepL K H vs ds → rtOf ds = some ys → ∃ ks : List (Rt × Addr), vs = ks.map (fun p => V.ref p.2) ∧ ks.map (·.1) = ys ∧ ∀ p ∈ ks, SqT K H p.2 [V.str p.1.1, V.int p.1.2]
  | [], _, ys, .nil, e => by
    simp only [rtOf, Option.some.injEq] at e
    subst e
    exact ⟨[], rfl, rfl, by simp⟩
  | d :: ds, _, ys, .cons r l, e => by
    unfold rtOf at e
    split at e
    · rename_i e0; cases e0
    · rename_i k n ds2 e0
      injection e0 with e1 e2
      subst e1 e2
      cases hr : rtOf ds with
      | none => rw [hr] at e; cases e
      | some zs =>
        rw [hr] at e
        simp only [Option.map_some, Option.some.injEq] at e
        subst e
        obtain ⟨ks, a, b, c⟩ := rtOf_rep l hr
        cases r with
        | tup sq rl =>
          cases rl with
          | cons r1 rl =>
            cases rl with
            | cons r2 rl =>
              cases rl
              cases r1
              cases r2
              refine ⟨((k, n), _) :: ks, by rw [a, List.map_cons], by rw [List.map_cons, b], fun p hp => ?_⟩
              rcases List.mem_cons.mp hp with rfl | hp
              · exact sq
              · exact c p hp
    · cases e
theorem rep_rows {K : PySem.W.Frag} {H : Hp} : ∀ out : List (Rt × Addr), (∀ q ∈ out, SqT K H q.2 [V.str q.1.1, V.int q.1.2]) → RepL K H (out.map fun q => V.ref q.2) ((out.map (·.1)).map rtD)
  | [], _ => .nil
  | q :: r, h => .cons (.tup (h q List.mem_cons_self) (.cons (.str _) (.cons (.int _) .nil))) (rep_rows r fun p hp => h p (List.mem_cons_of_mem _ hp))
theorem se_sortRows {a : Expr} {fa : Ex} {p p2 pos pos2 : Pos} (hc : X.calm = true) (hu : X.A.units + 64 < cLine) (hg : Gl X "sorted") (hm : X.mg "sorted" = none) (hg2 : Gl X "set") (hm2 : X.mg "set" = none) (ha : SE X W a fa) (na : starEach [a] X.env = (false, eval a X.env) :: starEach [] X.env := by rfl)
    (nb : starEach [.Call (.Name "set" p2) [a] [] pos2] X.env = (false, eval (.Call (.Name "set" p2) [a] [] pos2) X.env) :: starEach [] X.env := by rfl) (hv : bootBuiltins "set" = some (.type "set") := by decide +kernel) (hv2 : bootBuiltins "sorted" = some (.builtin "sorted") := by decide +kernel) :
    SE X W (.Call (.Name "sorted" p) [.Call (.Name "set" p2) [a] [] pos2] [] pos) (eSortRows fa) := by
  refine PE.weak (pe_callB (cr_sortR hc hu) hg hm hv2 (pa_cons (pe_callTy (cr_setR hc hu) hg2 hm2 hv (pa_cons ha pa_nil na) (by decide) (by decide) na rfl) pa_nil nb) (by decide) (by decide) nb rfl) fun σ H Q ⟨fm, O, ρ, en, h⟩ => ?_
  refine ⟨fm, O, ρ, en, (Post.bnd h).imp fun v H1 s1 ⟨_, d, r, h1⟩ => ?_⟩
  have th := (en.mono s1).there
  unfold dSortRows at h1
  split at h1
  · rename_i xs
    cases r with
    | lst e l =>
      split at h1
      · rename_i ys hy
        split at h1
        · rename_i few
          obtain ⟨ks, ev, ek, sq⟩ := rtOf_rep l hy
          have len : ks.length ≤ 18 := by rw [← ek, List.length_map] at few; exact few
          refine ⟨_, ks, rfl, ?_, fun p hp => SqT.out (sq p hp), len, fun q hq => ?_⟩
          · rw [← ev]; exact SqL.of (same_hide _ _ e)
          · have s2 : Same H1 (upd H1 q (BagX X.w q ks)) := same_new hq
            refine ⟨_, ks, rfl, upd_same, fun p hp => Same.tupS s2 (SqT.out (sq p hp)), len, fun p out hp eo sub => ?_⟩
            have s3 := same_new (o := HO.lst (out.map fun q : Rt × Addr => V.ref q.2)) hp
            refine h1 _ _ (s2.trans s3) (.lst (hide_of upd_same fun z => th p z (s2.free hp)) ?_)
            rw [← ek, ← eo]
            exact (rep_rows out fun q hq => sq q (sub q hq)).mono (Same.hide (s2.trans s3))
        · exact h1.elim
      · exact h1.elim
  · exact h1.elim
end
end JK

/-! LayCmp -/
set_option Elab.async false
set_option linter.all false
set_option maxRecDepth 100000
set_option autoImplicit false
set_option maxHeartbeats 1000000
/-! nested data compared by <= and >= -/
namespace JK
open PySem PySem.Spec PyProof.Rows L2
def isSq : D → Bool
  | .lst _ | .tup _ => true
  | _ => false
theorem isSq_py {d : D} (h : isSq d = true) : d.py ≠ .none := by
  unfold isSq at h
  split at h
  · intro e; simp [D.py] at e
  · intro e; simp [D.py] at e
  · cases h
/-- d <= e, of data alike in shape -/
def dLeD (d e : D) : R D := if (min d.dep e.dep < 60 ∧ d.flat = true ∧ e.flat = true) ∧ PySem.W.alike d.py e.py = true ∧ isSq d = true then .ok (.bl (!PySem.W.dataLt e.py d.py)) else .no
def dGeD (d e : D) : R D := if (min d.dep e.dep < 60 ∧ d.flat = true ∧ e.flat = true) ∧ PySem.W.alike d.py e.py = true ∧ isSq d = true then .ok (.bl (!PySem.W.dataLt d.py e.py)) else .no
section
variable {X : Cx}
theorem noex_leD (d e : D) : NoEx (dLeD d e) := by
  intro c h
  unfold dLeD at h
  split at h <;> cases h
theorem noex_geD (d e : D) : NoEx (dGeD d e) := by
  intro c h
  unfold dGeD at h
  split at h <;> cases h
theorem opD_leD (hu : X.A.units + 64 < cLine) : OpR X (compareOp .LtE) (rD X.K dLeD) := by
  intro pins s σ H x y v u Q I rx ry h
  obtain ⟨O, d, e, th, r1, r2, h⟩ := h
  unfold dLeD at h
  split at h
  · rename_i hz
    obtain ⟨as, q1⟩ := Dp.reads I d.py x v (r1.up.dp hz.1.2.1) rx
    obtain ⟨bs, q2⟩ := Dp.reads I e.py y u (r2.up.dp hz.1.2.2) ry
    exact PySem.W.le_data q1 q2 hz.2.1 (isSq_py hz.2.2) (by rw [d.dep_py, e.dep_py]; omega) ⟨.bl _, H, I, rfl, h.now (.bl _)⟩
  · exact h.elim
theorem opD_geD (hu : X.A.units + 64 < cLine) : OpR X (compareOp .GtE) (rD X.K dGeD) := by
  intro pins s σ H x y v u Q I rx ry h
  obtain ⟨O, d, e, th, r1, r2, h⟩ := h
  unfold dGeD at h
  split at h
  · rename_i hz
    obtain ⟨as, q1⟩ := Dp.reads I d.py x v (r1.up.dp hz.1.2.1) rx
    obtain ⟨bs, q2⟩ := Dp.reads I e.py y u (r2.up.dp hz.1.2.2) ry
    exact PySem.W.ge_data q1 q2 hz.2.1 (isSq_py hz.2.2) (by rw [d.dep_py, e.dep_py]; omega) ⟨.bl _, H, I, rfl, h.now (.bl _)⟩
  · exact h.elim
end
end JK

/-! Den_k06 -/
set_option Elab.async false
set_option linter.all false
set_option maxRecDepth 100000
set_option autoImplicit false
namespace JK
open PySem PySem.Spec PyProof.Rows L2
def d_law : List D → R D := runD 14 1 (sSeq (sSet 1 (eCall d_law_row (aCons (eName 0) (aCons (eC (.int 6)) aNil))))
    (sSeq (sSet 2 (eCall d_law_plan (aCons (eName 0) (aCons (eC (.int 3)) aNil))))
    (sSeq (sSet 3 (eCall d_law_stream (aCons (eName 0) (aCons (eC (.int 2)) aNil))))
    (sSeq (sSet 4 (eCall d_law_other (aCons (eName 0) (aCons (eC (.int 4)) (aCons (eName 3) aNil)))))
    (sSeq (sIf (tOf (eBin dGt (eBin dMod (eBin dIx (eName 1) (eC (.int 0))) (eC (.int 3))) (eC (.int 0)))) (sAsg (eCall d_law_twins (aCons (eName 1) (aCons (eName 3) aNil))) (gT (gsCons (gN 3) (gsCons (gN 4) gsNil)))) sNil)
    (sSeq (sSet 5 (eCall d_fewest (aCons (eName 2) (aCons (eName 3) (aCons (eName 4) aNil)))))
    (sSeq (sIf (tOf (eBin dNe (eCall d_law_told_apart (aCons (eName 2) (aCons (eName 3) (aCons (eName 4) (aCons (eLst aNil) aNil))))) (eBin dEq (eName 5) (eC (.int 0))))) (sRet (eC (.bl false))) sNil)
    (sSeq (sIf (tOf (eBin dEq (eName 5) (eC (.int 0)))) (sRet (eBin dEq (eBin dIx (eCall d_apart (aCons (eName 2) (aCons (eName 3) (aCons (eName 4) aNil)))) (eC (.int 0))) (eLst aNil))) sNil)
    (sSeq (sSet 6 (eLst (aComp (aItems (eCall d_law_all aNil)) [7] (gN 7) (tTru (eCall d_law_told_apart (aCons (eName 2) (aCons (eName 3) (aCons (eName 4) (aCons (eLst (aCons (eName 7) aNil)) aNil)))))) (eLst (aCons (eName 7) aNil)))))
    (sSeq (sIf (tOf (eBin dNe (eBin dEq (eName 5) (eC (.int 1))) (eBin dNe (eName 6) (eLst aNil)))) (sRet (eC (.bl false))) sNil)
    (sSeq (sIf (tOf (eBin dEq (eName 5) (eC (.int 1)))) (sRet (eBin dEq (eBin dIx (eCall d_apart (aCons (eName 2) (aCons (eName 3) (aCons (eName 4) aNil)))) (eC (.int 0))) (eBin dIx (eName 6) (eC (.int 0))))) sNil)
    (sSeq (sSet 8 (eAnd (eBin dEq (eName 5) (eC (.int 2))) (eBin dEq (eBin dMod (eBin dIx (eName 1) (eC (.int 1))) (eC (.int 4))) (eC (.int 0)))))
    (sSeq (sSet 9 (eIf (tTru (eName 8)) (eCall d_law_all aNil) (eSortRows (eCall d_law_few (aCons (eName 1) (aCons (eC (.int 9)) aNil))))))
    (sSeq (sSet 10 (eLst aNil))
    (sSeq (sFor (aItems (eName 9)) (gN 11)
    (sSet 10 (eBin dAdd (eName 10) (eLst (aComp (aItems (eName 9)) [12] (gN 12) (tTru (eCall d_law_told_apart (aCons (eName 2) (aCons (eName 3) (aCons (eName 4) (aCons (eLst (aCons (eName 11) (aCons (eName 12) aNil))) aNil)))))) (eLst (aCons (eName 11) (aCons (eName 12) aNil))))))))
    (sSeq (sIf (tOf (eBin dNe (eName 5) (eC (.int 2)))) (sRet (eBin dEq (eName 10) (eLst aNil))) sNil)
    (sSeq (sSet 13 (eBin dIx (eCall d_apart (aCons (eName 2) (aCons (eName 3) (aCons (eName 4) aNil)))) (eC (.int 0))))
    (sRet (eIf (tTru (eName 8)) (eBin dEq (eName 13) (eBin dIx (eName 10) (eC (.int 0)))) (eOr (eBin dEq (eName 10) (eLst aNil)) (eBin dLeD (eName 13) (eBin dIx (eName 10) (eC (.int 0))))))))))))))))))))))))
end JK

/-! Der_k06 -/
set_option Elab.async false
set_option linter.all false
set_option maxRecDepth 100000
set_option autoImplicit false
set_option maxHeartbeats 4000000
namespace JK
open PySem PySem.Spec PyProof.Rows L2
theorem sc_is_within : FnScope ["thing", "low", "high"] ["thing", "low", "high"] (defScope st_is_within) := ⟨rfl, rfl, rfl, by decide +kernel, rfl, by decide +kernel, by decide +kernel⟩
theorem sc_is_row : FnScope ["thing"] ["thing"] (defScope st_is_row) := ⟨rfl, rfl, rfl, by decide +kernel, rfl, by decide +kernel, by decide +kernel⟩
theorem sc_is_stream : FnScope ["thing", "one"] ["thing"] (defScope st_is_stream) := ⟨rfl, rfl, rfl, by decide +kernel, rfl, by decide +kernel, by decide +kernel⟩
theorem sc_look_stream : FnScope ["rows"] ["rows"] (defScope st_look_stream) := ⟨rfl, rfl, rfl, by decide +kernel, rfl, by decide +kernel, by decide +kernel⟩
theorem sc_all_rows : FnScope ["key", "number"] [] (defScope st_all_rows) := ⟨rfl, rfl, rfl, by decide +kernel, rfl, by decide +kernel, by decide +kernel⟩
theorem sc_are_keys : FnScope ["thing", "key"] ["thing"] (defScope st_are_keys) := ⟨rfl, rfl, rfl, by decide +kernel, rfl, by decide +kernel, by decide +kernel⟩
theorem sc_is_question : FnScope ["thing"] ["thing"] (defScope st_is_question) := ⟨rfl, rfl, rfl, by decide +kernel, rfl, by decide +kernel, by decide +kernel⟩
theorem sc_is_plan : FnScope ["thing", "one"] ["thing"] (defScope st_is_plan) := ⟨rfl, rfl, rfl, by decide +kernel, rfl, by decide +kernel, by decide +kernel⟩
theorem sc_look_plan : FnScope ["plan"] ["plan"] (defScope st_look_plan) := ⟨rfl, rfl, rfl, by decide +kernel, rfl, by decide +kernel, by decide +kernel⟩
theorem sc_sees : FnScope ["question", "row"] ["question", "row"] (defScope st_sees) := ⟨rfl, rfl, rfl, by decide +kernel, rfl, by decide +kernel, by decide +kernel⟩
theorem sc_greater : FnScope ["one", "other"] ["one", "other"] (defScope st_greater) := ⟨rfl, rfl, rfl, by decide +kernel, rfl, by decide +kernel, by decide +kernel⟩
theorem sc_lesser : FnScope ["one", "other"] ["one", "other"] (defScope st_lesser) := ⟨rfl, rfl, rfl, by decide +kernel, rfl, by decide +kernel, by decide +kernel⟩
theorem sc_part_of : FnScope ["question", "row"] ["question", "row"] (defScope st_part_of) := ⟨rfl, rfl, rfl, by decide +kernel, rfl, by decide +kernel, by decide +kernel⟩
theorem sc_joined : FnScope ["question", "old", "row", "word"] ["question", "old", "row"] (defScope st_joined) := ⟨rfl, rfl, rfl, by decide +kernel, rfl, by decide +kernel, by decide +kernel⟩
theorem sc_nothing : FnScope ["question"] ["question"] (defScope st_nothing) := ⟨rfl, rfl, rfl, by decide +kernel, rfl, by decide +kernel, by decide +kernel⟩
theorem sc_start : FnScope ["question"] ["question"] (defScope st_start) := ⟨rfl, rfl, rfl, by decide +kernel, rfl, by decide +kernel, by decide +kernel⟩
theorem sc_after : FnScope ["question", "keep", "row", "old", "one"] ["question", "keep", "row"] (defScope st_after) := ⟨rfl, rfl, rfl, by decide +kernel, rfl, by decide +kernel, by decide +kernel⟩
theorem sc_top_two : FnScope ["pair", "number", "first", "second"] ["pair", "number"] (defScope st_top_two) := ⟨rfl, rfl, rfl, by decide +kernel, rfl, by decide +kernel, by decide +kernel⟩
theorem sc_two_start : FnScope ["question"] ["question"] (defScope st_two_start) := ⟨rfl, rfl, rfl, by decide +kernel, rfl, by decide +kernel, by decide +kernel⟩
theorem sc_two_after : FnScope ["question", "keep", "row", "pairs", "pair"] ["question", "keep", "row"] (defScope st_two_after) := ⟨rfl, rfl, rfl, by decide +kernel, rfl, by decide +kernel, by decide +kernel⟩
theorem sc_with_key : FnScope ["keys", "key", "one"] ["keys", "key"] (defScope st_with_key) := ⟨rfl, rfl, rfl, by decide +kernel, rfl, by decide +kernel, by decide +kernel⟩
theorem sc_kinds_start : FnScope ["question"] ["question"] (defScope st_kinds_start) := ⟨rfl, rfl, rfl, by decide +kernel, rfl, by decide +kernel, by decide +kernel⟩
theorem sc_kinds_after : FnScope ["question", "keep", "row", "is_seen", "sets", "one"] ["question", "keep", "row"] (defScope st_kinds_after) := ⟨rfl, rfl, rfl, by decide +kernel, rfl, by decide +kernel, by decide +kernel⟩
theorem sc_run_start : FnScope ["question"] ["question"] (defScope st_run_start) := ⟨rfl, rfl, rfl, by decide +kernel, rfl, by decide +kernel, by decide +kernel⟩
theorem sc_run_after : FnScope ["question", "keep", "row", "runs", "key", "many", "span", "is_seen", "found", "beat", "old"] ["question", "keep", "row"] (defScope st_run_after) := ⟨rfl, rfl, rfl, by decide +kernel, rfl, by decide +kernel, by decide +kernel⟩
theorem sc_start_of : FnScope ["question"] ["question"] (defScope st_start_of) := ⟨rfl, rfl, rfl, by decide +kernel, rfl, by decide +kernel, by decide +kernel⟩
theorem sc_after_of : FnScope ["question", "keep", "row"] ["question", "keep", "row"] (defScope st_after_of) := ⟨rfl, rfl, rfl, by decide +kernel, rfl, by decide +kernel, by decide +kernel⟩
theorem sc_told_by : FnScope ["question", "keep"] ["question", "keep"] (defScope st_told_by) := ⟨rfl, rfl, rfl, by decide +kernel, rfl, by decide +kernel, by decide +kernel⟩
theorem sc_starts_of : FnScope ["plan", "question"] ["plan"] (defScope st_starts_of) := ⟨rfl, rfl, rfl, by decide +kernel, rfl, by decide +kernel, by decide +kernel⟩
theorem sc_behind : FnScope ["plan", "keeps", "row", "question", "keep"] ["plan", "keeps", "row"] (defScope st_behind) := ⟨rfl, rfl, rfl, by decide +kernel, rfl, by decide +kernel, by decide +kernel⟩
theorem sc_kept_of : FnScope ["plan", "rows", "found", "row"] ["plan", "rows"] (defScope st_kept_of) := ⟨rfl, rfl, rfl, by decide +kernel, rfl, by decide +kernel, by decide +kernel⟩
theorem sc_look_two : FnScope ["plan", "rows"] ["plan", "rows"] (defScope st_look_two) := ⟨rfl, rfl, rfl, by decide +kernel, rfl, by decide +kernel, by decide +kernel⟩
theorem sc_first_unlike : FnScope ["one", "other", "found", "at", "mine", "theirs"] ["one", "other"] (defScope st_first_unlike) := ⟨rfl, rfl, rfl, by decide +kernel, rfl, by decide +kernel, by decide +kernel⟩
theorem sc_run_end : FnScope ["keep", "key", "many", "most", "mine"] ["keep", "key", "many", "most"] (defScope st_run_end) := ⟨rfl, rfl, rfl, by decide +kernel, rfl, by decide +kernel, by decide +kernel⟩
theorem sc_run_apart : FnScope ["question", "one", "other", "span", "at", "most", "many", "old", "key", "ends", "keep"] ["question", "one", "other"] (defScope st_run_apart) := ⟨rfl, rfl, rfl, by decide +kernel, rfl, by decide +kernel, by decide +kernel⟩
theorem sc_fewest_of : FnScope ["question", "one", "other", "word", "span"] ["question", "one", "other"] (defScope st_fewest_of) := ⟨rfl, rfl, rfl, by decide +kernel, rfl, by decide +kernel, by decide +kernel⟩
theorem sc_fewest_by : FnScope ["plan", "keeps", "others", "some", "question", "one", "other", "many"] ["plan", "keeps", "others"] (defScope st_fewest_by) := ⟨rfl, rfl, rfl, by decide +kernel, rfl, by decide +kernel, by decide +kernel⟩
theorem sc_fewest : FnScope ["plan", "one", "other"] ["plan", "one", "other"] (defScope st_fewest) := ⟨rfl, rfl, rfl, by decide +kernel, rfl, by decide +kernel, by decide +kernel⟩
theorem sc_next_row : FnScope ["plan", "keeps", "others", "many", "row", "one", "other"] ["plan", "keeps", "others", "many"] (defScope st_next_row) := ⟨rfl, rfl, rfl, by decide +kernel, rfl, by decide +kernel, by decide +kernel⟩
theorem sc_apart_of : FnScope ["plan", "keeps", "others", "many", "rows", "row", "number", "question"] ["plan", "keeps", "others"] (defScope st_apart_of) := ⟨rfl, rfl, rfl, by decide +kernel, rfl, by decide +kernel, by decide +kernel⟩
theorem sc_apart : FnScope ["plan", "one", "other", "found"] ["plan", "one", "other"] (defScope st_apart) := ⟨rfl, rfl, rfl, by decide +kernel, rfl, by decide +kernel, by decide +kernel⟩
theorem sc_law_cell : FnScope ["script", "k"] ["script", "k"] (defScope st_law_cell) := ⟨rfl, rfl, rfl, by decide +kernel, rfl, by decide +kernel, by decide +kernel⟩
theorem sc_law_row : FnScope ["script", "at", "cell", "found", "time"] ["script", "at"] (defScope st_law_row) := ⟨rfl, rfl, rfl, by decide +kernel, rfl, by decide +kernel, by decide +kernel⟩
theorem sc_law_all : FnScope ["found", "key", "number"] [] (defScope st_law_all) := ⟨rfl, rfl, rfl, by decide +kernel, rfl, by decide +kernel, by decide +kernel⟩
theorem sc_law_line : FnScope ["row", "at", "way", "one"] ["row", "at"] (defScope st_law_line) := ⟨rfl, rfl, rfl, by decide +kernel, rfl, by decide +kernel, by decide +kernel⟩
theorem sc_law_stream : FnScope ["script", "at", "row", "found", "time"] ["script", "at"] (defScope st_law_stream) := ⟨rfl, rfl, rfl, by decide +kernel, rfl, by decide +kernel, by decide +kernel⟩
theorem sc_law_other : FnScope ["script", "at", "rows", "row", "spot", "new", "time", "way"] ["script", "at", "rows"] (defScope st_law_other) := ⟨rfl, rfl, rfl, by decide +kernel, rfl, by decide +kernel, by decide +kernel⟩
theorem sc_law_words : FnScope [] [] (defScope st_law_words) := ⟨rfl, rfl, rfl, by decide +kernel, rfl, by decide +kernel, by decide +kernel⟩
theorem sc_law_question : FnScope ["row", "at", "word", "span", "keys", "low"] ["row", "at"] (defScope st_law_question) := ⟨rfl, rfl, rfl, by decide +kernel, rfl, by decide +kernel, by decide +kernel⟩
theorem sc_law_plan : FnScope ["script", "at", "row", "time"] ["script", "at"] (defScope st_law_plan) := ⟨rfl, rfl, rfl, by decide +kernel, rfl, by decide +kernel, by decide +kernel⟩
theorem sc_law_sees : FnScope ["question", "one"] ["question", "one"] (defScope st_law_sees) := ⟨rfl, rfl, rfl, by decide +kernel, rfl, by decide +kernel, by decide +kernel⟩
theorem sc_law_answer : FnScope ["question", "rows", "word", "keys", "low", "high", "span", "here", "seen", "one", "numbers", "best", "at", "many"] ["question", "rows"] (defScope st_law_answer) := ⟨rfl, rfl, rfl, by decide +kernel, rfl, by decide +kernel, by decide +kernel⟩
theorem sc_law_few : FnScope ["row", "at", "found"] ["row", "at"] (defScope st_law_few) := ⟨rfl, rfl, rfl, by decide +kernel, rfl, by decide +kernel, by decide +kernel⟩
theorem sc_law_twins : FnScope ["row", "rows", "front", "time", "back", "spot"] ["row", "rows"] (defScope st_law_twins) := ⟨rfl, rfl, rfl, by decide +kernel, rfl, by decide +kernel, by decide +kernel⟩
theorem sc_law_told_apart : FnScope ["plan", "one", "other", "rows", "question"] ["plan", "one", "other", "rows"] (defScope st_law_told_apart) := ⟨rfl, rfl, rfl, by decide +kernel, rfl, by decide +kernel, by decide +kernel⟩
theorem sc_law : FnScope ["script", "row", "plan", "one", "other", "few", "singles", "line", "wide", "lines_here", "pairs", "first", "then", "found"] ["script"] (defScope st_law) := ⟨rfl, rfl, rfl, by decide +kernel, rfl, by decide +kernel, by decide +kernel⟩
/-- what the top has left -/
structure All (w : World) (K : PySem.W.Frag) (mg : Str → Option Value) : Prop where
  b_bool : mg "bool" = none
  b_enumerate : mg "enumerate" = none
  b_int : mg "int" = none
  b_isinstance : mg "isinstance" = none
  b_len : mg "len" = none
  b_list : mg "list" = none
  b_max : mg "max" = none
  b_min : mg "min" = none
  b_range : mg "range" = none
  b_set : mg "set" = none
  b_sorted : mg "sorted" = none
  b_str : mg "str" = none
  b_sum : mg "sum" = none
  b_tuple : mg "tuple" = none
  b_zip : mg "zip" = none
  c_KEYS : ConstD K mg "KEYS" v_KEYS
  c_MOST : ConstD K mg "MOST" v_MOST
  c_MOST_QUESTIONS : ConstD K mg "MOST_QUESTIONS" v_MOST_QUESTIONS
  c_MOST_ROWS : ConstD K mg "MOST_ROWS" v_MOST_ROWS
  c_MOST_SPAN : ConstD K mg "MOST_SPAN" v_MOST_SPAN
  c_WORDS : ConstD K mg "WORDS" v_WORDS
  x_Alike : ExcCls K mg "Alike"
  x_BadPlan : ExcCls K mg "BadPlan"
  x_BadStream : ExcCls K mg "BadStream"
  f_is_within : ∃ f fd, Fun K "is_within" "is_within" st_is_within f fd ∧ mg "is_within" = some (.ref f)
  f_is_row : ∃ f fd, Fun K "is_row" "is_row" st_is_row f fd ∧ mg "is_row" = some (.ref f)
  f_is_stream : ∃ f fd, Fun K "is_stream" "is_stream" st_is_stream f fd ∧ mg "is_stream" = some (.ref f)
  f_look_stream : ∃ f fd, Fun K "look_stream" "look_stream" st_look_stream f fd ∧ mg "look_stream" = some (.ref f)
  f_all_rows : ∃ f fd, Fun K "all_rows" "all_rows" st_all_rows f fd ∧ mg "all_rows" = some (.ref f)
  f_are_keys : ∃ f fd, Fun K "are_keys" "are_keys" st_are_keys f fd ∧ mg "are_keys" = some (.ref f)
  f_is_question : ∃ f fd, Fun K "is_question" "is_question" st_is_question f fd ∧ mg "is_question" = some (.ref f)
  f_is_plan : ∃ f fd, Fun K "is_plan" "is_plan" st_is_plan f fd ∧ mg "is_plan" = some (.ref f)
  f_look_plan : ∃ f fd, Fun K "look_plan" "look_plan" st_look_plan f fd ∧ mg "look_plan" = some (.ref f)
  f_sees : ∃ f fd, Fun K "sees" "sees" st_sees f fd ∧ mg "sees" = some (.ref f)
  f_greater : ∃ f fd, Fun K "greater" "greater" st_greater f fd ∧ mg "greater" = some (.ref f)
  f_lesser : ∃ f fd, Fun K "lesser" "lesser" st_lesser f fd ∧ mg "lesser" = some (.ref f)
  f_part_of : ∃ f fd, Fun K "part_of" "part_of" st_part_of f fd ∧ mg "part_of" = some (.ref f)
  f_joined : ∃ f fd, Fun K "joined" "joined" st_joined f fd ∧ mg "joined" = some (.ref f)
  f_nothing : ∃ f fd, Fun K "nothing" "nothing" st_nothing f fd ∧ mg "nothing" = some (.ref f)
  f_start : ∃ f fd, Fun K "start" "start" st_start f fd ∧ mg "start" = some (.ref f)
  f_after : ∃ f fd, Fun K "after" "after" st_after f fd ∧ mg "after" = some (.ref f)
  f_top_two : ∃ f fd, Fun K "top_two" "top_two" st_top_two f fd ∧ mg "top_two" = some (.ref f)
  f_two_start : ∃ f fd, Fun K "two_start" "two_start" st_two_start f fd ∧ mg "two_start" = some (.ref f)
  f_two_after : ∃ f fd, Fun K "two_after" "two_after" st_two_after f fd ∧ mg "two_after" = some (.ref f)
  f_with_key : ∃ f fd, Fun K "with_key" "with_key" st_with_key f fd ∧ mg "with_key" = some (.ref f)
  f_kinds_start : ∃ f fd, Fun K "kinds_start" "kinds_start" st_kinds_start f fd ∧ mg "kinds_start" = some (.ref f)
  f_kinds_after : ∃ f fd, Fun K "kinds_after" "kinds_after" st_kinds_after f fd ∧ mg "kinds_after" = some (.ref f)
  f_run_start : ∃ f fd, Fun K "run_start" "run_start" st_run_start f fd ∧ mg "run_start" = some (.ref f)
  f_run_after : ∃ f fd, Fun K "run_after" "run_after" st_run_after f fd ∧ mg "run_after" = some (.ref f)
  f_start_of : ∃ f fd, Fun K "start_of" "start_of" st_start_of f fd ∧ mg "start_of" = some (.ref f)
  f_after_of : ∃ f fd, Fun K "after_of" "after_of" st_after_of f fd ∧ mg "after_of" = some (.ref f)
  f_told_by : ∃ f fd, Fun K "told_by" "told_by" st_told_by f fd ∧ mg "told_by" = some (.ref f)
  f_starts_of : ∃ f fd, Fun K "starts_of" "starts_of" st_starts_of f fd ∧ mg "starts_of" = some (.ref f)
  f_behind : ∃ f fd, Fun K "behind" "behind" st_behind f fd ∧ mg "behind" = some (.ref f)
  f_kept_of : ∃ f fd, Fun K "kept_of" "kept_of" st_kept_of f fd ∧ mg "kept_of" = some (.ref f)
  f_look_two : ∃ f fd, Fun K "look_two" "look_two" st_look_two f fd ∧ mg "look_two" = some (.ref f)
  f_first_unlike : ∃ f fd, Fun K "first_unlike" "first_unlike" st_first_unlike f fd ∧ mg "first_unlike" = some (.ref f)
  f_run_end : ∃ f fd, Fun K "run_end" "run_end" st_run_end f fd ∧ mg "run_end" = some (.ref f)
  f_run_apart : ∃ f fd, Fun K "run_apart" "run_apart" st_run_apart f fd ∧ mg "run_apart" = some (.ref f)
  f_fewest_of : ∃ f fd, Fun K "fewest_of" "fewest_of" st_fewest_of f fd ∧ mg "fewest_of" = some (.ref f)
  f_fewest_by : ∃ f fd, Fun K "fewest_by" "fewest_by" st_fewest_by f fd ∧ mg "fewest_by" = some (.ref f)
  f_fewest : ∃ f fd, Fun K "fewest" "fewest" st_fewest f fd ∧ mg "fewest" = some (.ref f)
  f_next_row : ∃ f fd, Fun K "next_row" "next_row" st_next_row f fd ∧ mg "next_row" = some (.ref f)
  f_apart_of : ∃ f fd, Fun K "apart_of" "apart_of" st_apart_of f fd ∧ mg "apart_of" = some (.ref f)
  f_apart : ∃ f fd, Fun K "apart" "apart" st_apart f fd ∧ mg "apart" = some (.ref f)
  f_law_cell : ∃ f fd, Fun K "_law_cell" "_law_cell" st_law_cell f fd ∧ mg "_law_cell" = some (.ref f)
  f_law_row : ∃ f fd, Fun K "_law_row" "_law_row" st_law_row f fd ∧ mg "_law_row" = some (.ref f)
  f_law_all : ∃ f fd, Fun K "_law_all" "_law_all" st_law_all f fd ∧ mg "_law_all" = some (.ref f)
  f_law_line : ∃ f fd, Fun K "_law_line" "_law_line" st_law_line f fd ∧ mg "_law_line" = some (.ref f)
  f_law_stream : ∃ f fd, Fun K "_law_stream" "_law_stream" st_law_stream f fd ∧ mg "_law_stream" = some (.ref f)
  f_law_other : ∃ f fd, Fun K "_law_other" "_law_other" st_law_other f fd ∧ mg "_law_other" = some (.ref f)
  f_law_words : ∃ f fd, Fun K "_law_words" "_law_words" st_law_words f fd ∧ mg "_law_words" = some (.ref f)
  f_law_question : ∃ f fd, Fun K "_law_question" "_law_question" st_law_question f fd ∧ mg "_law_question" = some (.ref f)
  f_law_plan : ∃ f fd, Fun K "_law_plan" "_law_plan" st_law_plan f fd ∧ mg "_law_plan" = some (.ref f)
  f_law_sees : ∃ f fd, Fun K "_law_sees" "_law_sees" st_law_sees f fd ∧ mg "_law_sees" = some (.ref f)
  f_law_answer : ∃ f fd, Fun K "_law_answer" "_law_answer" st_law_answer f fd ∧ mg "_law_answer" = some (.ref f)
  f_law_few : ∃ f fd, Fun K "_law_few" "_law_few" st_law_few f fd ∧ mg "_law_few" = some (.ref f)
  f_law_twins : ∃ f fd, Fun K "_law_twins" "_law_twins" st_law_twins f fd ∧ mg "_law_twins" = some (.ref f)
  f_law_told_apart : ∃ f fd, Fun K "_law_told_apart" "_law_told_apart" st_law_told_apart f fd ∧ mg "_law_told_apart" = some (.ref f)
  f_law : ∃ f fd, Fun K "law" "law" st_law f fd ∧ mg "law" = some (.ref f)
section
variable {P : Program} {w : World} {K : PySem.W.Frag} {mg : Str → Option Value} {base : Heap}
theorem F_is_within (T : All w K mg) : FnS P w K mg base 1 "is_within" 3 d_is_within := by
  obtain ⟨f, fd, Fu, hm⟩ := T.f_is_within
  refine fn_mk (k := 0) Fu sc_is_within rfl rfl hm (Fu.binds fun _ _ _ _ _ _ us hl => match us, hl with | [_, _, _], _ => rfl) fun cdv A outer s H E hr tk hp => ?_
  have nd := sc_is_within.nd
  exact (ss_one (ss_ret (se_and (se_isi (T := .int) rfl T.b_isinstance rfl T.b_int boot_int (sn 0) boot_isi) (se_and (se_not (se_isi (T := .bool) rfl T.b_isinstance rfl T.b_bool boot_bool (sn 0) boot_isi)) (se_one (se_chain opD_le opD_le (dCmpI_nx _) (dCmpI_nx _) (sn 1) (sn 0) (sn 2)))))))
theorem F_is_row (T : All w K mg) : FnS P w K mg base 2 "is_row" 1 d_is_row := by
  obtain ⟨f, fd, Fu, hm⟩ := T.f_is_row
  refine fn_mk (k := 1) Fu sc_is_row rfl rfl hm (Fu.binds fun _ _ _ _ _ _ us hl => match us, hl with | [_], _ => rfl) fun cdv A outer s H E hr tk hp => ?_
  have nd := sc_is_row.nd
  exact (ss_cons (ss_if (st_w (sw_or (st_not (st_val (se_isi (T := .tuple) rfl T.b_isinstance rfl T.b_tuple boot_tuple (sn 0) boot_isi))) (sw_or (st_cmp (opD_ne hr.units) dNe_nx (se_len rfl T.b_len (sa_cons (sn 0) sa_nil)) se_int (nomark _)) (sw_or1 (st_not (st_val (se_isi (T := .str) rfl T.b_isinstance rfl T.b_str boot_str (se_ix (sn 0) se_int) boot_isi))))))) (ss_one (ss_ret se_bl)) ss_nil)
    (ss_one (ss_ret (se_and (se_cmp (opD_eq hr.units) dEq_nx (se_len rfl T.b_len (sa_cons (se_ix (sn 0) se_int) sa_nil)) se_int (nomark _)) (se_and (se_cmp (opD_in hr.units) dIn_nx (se_ix (sn 0) se_int) (T.c_KEYS.se rfl) rfl) (se_one (se_call (F_is_within T) (hr.mono (by decide)) rfl tk (sa_cons (se_ix (sn 0) se_int) (sa_cons (se_neg (T.c_MOST.se rfl)) (sa_cons (T.c_MOST.se rfl) sa_nil))))))))))
theorem F_is_stream (T : All w K mg) : FnS P w K mg base 3 "is_stream" 1 d_is_stream := by
  obtain ⟨f, fd, Fu, hm⟩ := T.f_is_stream
  refine fn_mk (k := 2) Fu sc_is_stream rfl rfl hm (Fu.binds fun _ _ _ _ _ _ us hl => match us, hl with | [_], _ => rfl) fun cdv A outer s H E hr tk hp => ?_
  have nd := sc_is_stream.nd
  exact (ss_one (ss_ret (se_and (se_isi (T := .list) rfl T.b_isinstance rfl T.b_list boot_list (sn 0) boot_isi) (se_and (se_cmp opD_le (dCmpI_nx _) (se_len rfl T.b_len (sa_cons (sn 0) sa_nil)) (T.c_MOST_ROWS.se rfl) (nomark _)) (se_one (se_not (SF.se (sf_lc (own := [("one", 1)]) rfl nd (si_seq (sn 0)) (blkOk_by (N := ["thing", "one"]) (sc := defScope st_is_stream) (own := [("one", 1)]) (by decide +kernel)) (fun _ _ _ _ _ => (sgn 1)) (fun _ _ _ _ _ => (spt_one (st_not (st_val (se_call (F_is_row T) (hr.mono (by decide)) rfl takes0 (sa_cons (sn 1) sa_nil)))))) (fun _ _ _ _ _ => (sn 1))))))))))
theorem F_look_stream (T : All w K mg) : FnS P w K mg base 4 "look_stream" 1 d_look_stream := by
  obtain ⟨f, fd, Fu, hm⟩ := T.f_look_stream
  refine fn_mk (k := 3) Fu sc_look_stream rfl rfl hm (Fu.binds fun _ _ _ _ _ _ us hl => match us, hl with | [_], _ => rfl) fun cdv A outer s H E hr tk hp => ?_
  have nd := sc_look_stream.nd
  exact (ss_one (ss_if (st_not (st_val (se_call (F_is_stream T) (hr.mono (by decide)) rfl tk (sa_cons (sn 0) sa_nil)))) (ss_one (ss_raise T.x_BadStream rfl tk rfl)) ss_nil))
theorem F_all_rows (T : All w K mg) : FnS P w K mg base 1 "all_rows" 0 d_all_rows := by
  obtain ⟨f, fd, Fu, hm⟩ := T.f_all_rows
  refine fn_mk (k := 0) Fu sc_all_rows rfl rfl hm (Fu.binds fun _ _ _ _ _ _ us hl => match us, hl with | [], _ => rfl) fun cdv A outer s H E hr tk hp => ?_
  have nd := sc_all_rows.nd
  exact (ss_one (ss_ret (SF.se (sf_lc2 (own := [("key", 0), ("number", 1)]) (vs1 := [1]) rfl nd (si_seq (T.c_KEYS.se rfl)) (blkOk_by (N := ["key", "number"]) (sc := defScope st_all_rows) (own := [("key", 0), ("number", 1)]) (by decide +kernel)) (by decide) (fun _ _ _ _ _ => (sgn 0)) (fun _ _ _ _ _ => (si_range2 rfl T.b_range (sa_cons (se_neg (T.c_MOST.se rfl)) (sa_cons (se_bin opD_add dAdd_nx (T.c_MOST.se rfl) se_int) sa_nil)))) (fun _ _ _ _ _ => (sgn 1)) (fun _ _ _ _ _ => (se_tup (sa_cons (sn 0) (sa_cons (sn 1) sa_nil))))))))
theorem F_are_keys (T : All w K mg) : FnS P w K mg base 1 "are_keys" 1 d_are_keys := by
  obtain ⟨f, fd, Fu, hm⟩ := T.f_are_keys
  refine fn_mk (k := 0) Fu sc_are_keys rfl rfl hm (Fu.binds fun _ _ _ _ _ _ us hl => match us, hl with | [_], _ => rfl) fun cdv A outer s H E hr tk hp => ?_
  have nd := sc_are_keys.nd
  exact (ss_cons (ss_if (st_w (sw_or (st_not (st_val (se_isi (T := .str) rfl T.b_isinstance rfl T.b_str boot_str (sn 0) boot_isi))) (sw_or1 (st_not (st_val (sn 0)))))) (ss_one (ss_ret se_bl)) ss_nil)
    (ss_one (ss_ret (se_cmp (opD_eq hr.units) dEq_nx (sn 0) (se_join se_str (SF.se (sf_lc (own := [("key", 1)]) rfl nd (si_seq (T.c_KEYS.se rfl)) (blkOk_by (N := ["thing", "key"]) (sc := defScope st_are_keys) (own := [("key", 1)]) (by decide +kernel)) (fun _ _ _ _ _ => (sgn 1)) (fun _ _ _ _ _ => (spt_one (st_cmp (opD_in hr.units) dIn_nx (sn 1) (sn 0) rfl))) (fun _ _ _ _ _ => (sn 1))))) (nomark _)))))
theorem F_is_question (T : All w K mg) : FnS P w K mg base 2 "is_question" 1 d_is_question := by
  obtain ⟨f, fd, Fu, hm⟩ := T.f_is_question
  refine fn_mk (k := 1) Fu sc_is_question rfl rfl hm (Fu.binds fun _ _ _ _ _ _ us hl => match us, hl with | [_], _ => rfl) fun cdv A outer s H E hr tk hp => ?_
  have nd := sc_is_question.nd
  exact (ss_cons (ss_if (st_w (sw_or (st_not (st_val (se_isi (T := .tuple) rfl T.b_isinstance rfl T.b_tuple boot_tuple (sn 0) boot_isi))) (sw_or (st_cmp (opD_ne hr.units) dNe_nx (se_len rfl T.b_len (sa_cons (sn 0) sa_nil)) se_int (nomark _)) (sw_or (st_not (st_val (se_isi (T := .str) rfl T.b_isinstance rfl T.b_str boot_str (se_ix (sn 0) se_int) boot_isi))) (sw_or1 (st_cmp (opD_notIn hr.units) dNotIn_nx (se_ix (sn 0) se_int) (T.c_WORDS.se rfl) rfl)))))) (ss_one (ss_ret se_bl)) ss_nil)
    (ss_cons (ss_if (st_w (sw_or (st_not (st_val (se_call (F_are_keys T) (hr.mono (by decide)) rfl tk (sa_cons (se_ix (sn 0) se_int) sa_nil)))) (sw_or (st_not (st_val (se_call (F_is_within T) (hr.mono (by decide)) rfl tk (sa_cons (se_ix (sn 0) se_int) (sa_cons (se_neg (T.c_MOST.se rfl)) (sa_cons (T.c_MOST.se rfl) sa_nil)))))) (sw_or1 (st_not (st_val (se_call (F_is_within T) (hr.mono (by decide)) rfl tk (sa_cons (se_ix (sn 0) se_int) (sa_cons (se_ix (sn 0) se_int) (sa_cons (T.c_MOST.se rfl) sa_nil)))))))))) (ss_one (ss_ret se_bl)) ss_nil)
    (ss_one (ss_ret (se_call (F_is_within T) (hr.mono (by decide)) rfl tk (sa_cons (se_ix (sn 0) se_int) (sa_cons se_int (sa_cons (T.c_MOST_SPAN.se rfl) sa_nil))))))))
theorem F_is_plan (T : All w K mg) : FnS P w K mg base 3 "is_plan" 1 d_is_plan := by
  obtain ⟨f, fd, Fu, hm⟩ := T.f_is_plan
  refine fn_mk (k := 2) Fu sc_is_plan rfl rfl hm (Fu.binds fun _ _ _ _ _ _ us hl => match us, hl with | [_], _ => rfl) fun cdv A outer s H E hr tk hp => ?_
  have nd := sc_is_plan.nd
  exact (ss_cons (ss_if (st_w (sw_or (st_not (st_val (se_isi (T := .tuple) rfl T.b_isinstance rfl T.b_tuple boot_tuple (sn 0) boot_isi))) (sw_or1 (st_not (st_chain opD_le opD_le (dCmpI_nx _) (dCmpI_nx _) se_int (se_len rfl T.b_len (sa_cons (sn 0) sa_nil)) (T.c_MOST_QUESTIONS.se rfl)))))) (ss_one (ss_ret se_bl)) ss_nil)
    (ss_one (ss_ret (se_not (SF.se (sf_lc (own := [("one", 1)]) rfl nd (si_seq (sn 0)) (blkOk_by (N := ["thing", "one"]) (sc := defScope st_is_plan) (own := [("one", 1)]) (by decide +kernel)) (fun _ _ _ _ _ => (sgn 1)) (fun _ _ _ _ _ => (spt_one (st_not (st_val (se_call (F_is_question T) (hr.mono (by decide)) rfl takes0 (sa_cons (sn 1) sa_nil)))))) (fun _ _ _ _ _ => (sn 1))))))))
theorem F_look_plan (T : All w K mg) : FnS P w K mg base 4 "look_plan" 1 d_look_plan := by
  obtain ⟨f, fd, Fu, hm⟩ := T.f_look_plan
  refine fn_mk (k := 3) Fu sc_look_plan rfl rfl hm (Fu.binds fun _ _ _ _ _ _ us hl => match us, hl with | [_], _ => rfl) fun cdv A outer s H E hr tk hp => ?_
  have nd := sc_look_plan.nd
  exact (ss_one (ss_if (st_not (st_val (se_call (F_is_plan T) (hr.mono (by decide)) rfl tk (sa_cons (sn 0) sa_nil)))) (ss_one (ss_raise T.x_BadPlan rfl tk rfl)) ss_nil))
theorem F_sees (T : All w K mg) : FnS P w K mg base 1 "sees" 2 d_sees := by
  obtain ⟨f, fd, Fu, hm⟩ := T.f_sees
  refine fn_mk (k := 0) Fu sc_sees rfl rfl hm (Fu.binds fun _ _ _ _ _ _ us hl => match us, hl with | [_, _], _ => rfl) fun cdv A outer s H E hr tk hp => ?_
  have nd := sc_sees.nd
  exact (ss_one (ss_ret (se_and (se_cmp (opD_in hr.units) dIn_nx (se_ix (sn 1) se_int) (se_ix (sn 0) se_int) rfl) (se_one (se_chain opD_le opD_le (dCmpI_nx _) (dCmpI_nx _) (se_ix (sn 0) se_int) (se_ix (sn 1) se_int) (se_ix (sn 0) se_int))))))
theorem F_greater (T : All w K mg) : FnS P w K mg base 1 "greater" 2 d_greater := by
  obtain ⟨f, fd, Fu, hm⟩ := T.f_greater
  refine fn_mk (k := 0) Fu sc_greater rfl rfl hm (Fu.binds fun _ _ _ _ _ _ us hl => match us, hl with | [_, _], _ => rfl) fun cdv A outer s H E hr tk hp => ?_
  have nd := sc_greater.nd
  exact (ss_cons (ss_if (st_w (sw_or (st_cmp opD_is dIs_nx (sn 0) se_non (nomark _)) (sw_or1 (st_cmp opD_is dIs_nx (sn 1) se_non (nomark _))))) (ss_one (ss_ret (se_if (st_cmp opD_is dIs_nx (sn 0) se_non (nomark _)) (sn 1) (sn 0)))) ss_nil)
    (ss_one (ss_ret (se_max2 rfl rfl T.b_max (sa_cons (sn 0) (sa_cons (sn 1) sa_nil)) boot_max))))
theorem F_lesser (T : All w K mg) : FnS P w K mg base 1 "lesser" 2 d_lesser := by
  obtain ⟨f, fd, Fu, hm⟩ := T.f_lesser
  refine fn_mk (k := 0) Fu sc_lesser rfl rfl hm (Fu.binds fun _ _ _ _ _ _ us hl => match us, hl with | [_, _], _ => rfl) fun cdv A outer s H E hr tk hp => ?_
  have nd := sc_lesser.nd
  exact (ss_cons (ss_if (st_w (sw_or (st_cmp opD_is dIs_nx (sn 0) se_non (nomark _)) (sw_or1 (st_cmp opD_is dIs_nx (sn 1) se_non (nomark _))))) (ss_one (ss_ret (se_if (st_cmp opD_is dIs_nx (sn 0) se_non (nomark _)) (sn 1) (sn 0)))) ss_nil)
    (ss_one (ss_ret (se_min2 rfl rfl T.b_min (sa_cons (sn 0) (sa_cons (sn 1) sa_nil)) boot_min))))
theorem F_part_of (T : All w K mg) : FnS P w K mg base 2 "part_of" 2 d_part_of := by
  obtain ⟨f, fd, Fu, hm⟩ := T.f_part_of
  refine fn_mk (k := 1) Fu sc_part_of rfl rfl hm (Fu.binds fun _ _ _ _ _ _ us hl => match us, hl with | [_, _], _ => rfl) fun cdv A outer s H E hr tk hp => ?_
  have nd := sc_part_of.nd
  exact (ss_cons (ss_if (st_not (st_val (se_call (F_sees T) (hr.mono (by decide)) rfl tk (sa_cons (sn 0) (sa_cons (sn 1) sa_nil))))) (ss_one (ss_ret se_int)) ss_nil)
    (ss_one (ss_ret (se_if (st_cmp (opD_eq hr.units) dEq_nx (se_ix (sn 0) se_int) se_str (nomark _)) se_int (se_ix (sn 1) se_int)))))
theorem F_joined (T : All w K mg) : FnS P w K mg base 3 "joined" 3 d_joined := by
  obtain ⟨f, fd, Fu, hm⟩ := T.f_joined
  refine fn_mk (k := 2) Fu sc_joined rfl rfl hm (Fu.binds fun _ _ _ _ _ _ us hl => match us, hl with | [_, _, _], _ => rfl) fun cdv A outer s H E hr tk hp => ?_
  have nd := sc_joined.nd
  exact (ss_cons (ss_set (i := 3) nd rfl (.inl rfl) (se_ix (sn 0) se_int))
    (ss_cons (ss_if (st_cmp (opD_in hr.units) dIn_nx (sn 3) (se_tup (sa_cons se_str (sa_cons se_str sa_nil))) rfl) (ss_one (ss_ret (se_bin opD_add dAdd_nx (sn 1) (se_call (F_part_of T) (hr.mono (by decide)) rfl tk (sa_cons (sn 0) (sa_cons (sn 2) sa_nil)))))) ss_nil)
    (ss_cons (ss_if (st_not (st_val (se_call (F_sees T) (hr.mono (by decide)) rfl tk (sa_cons (sn 0) (sa_cons (sn 2) sa_nil))))) (ss_one (ss_ret (sn 1))) ss_nil)
    (ss_cons (ss_if (st_cmp (opD_eq hr.units) dEq_nx (sn 3) se_str (nomark _)) (ss_one (ss_ret (se_call (F_greater T) (hr.mono (by decide)) rfl tk (sa_cons (sn 1) (sa_cons (se_ix (sn 2) se_int) sa_nil))))) ss_nil)
    (ss_one (ss_ret (se_if (st_cmp (opD_eq hr.units) dEq_nx (sn 3) se_str (nomark _)) (se_call (F_lesser T) (hr.mono (by decide)) rfl tk (sa_cons (sn 1) (sa_cons (se_ix (sn 2) se_int) sa_nil))) (se_ix (sn 2) se_int))))))))
theorem F_nothing (T : All w K mg) : FnS P w K mg base 1 "nothing" 1 d_nothing := by
  obtain ⟨f, fd, Fu, hm⟩ := T.f_nothing
  refine fn_mk (k := 0) Fu sc_nothing rfl rfl hm (Fu.binds fun _ _ _ _ _ _ us hl => match us, hl with | [_], _ => rfl) fun cdv A outer s H E hr tk hp => ?_
  have nd := sc_nothing.nd
  exact (ss_one (ss_ret (se_if (st_cmp (opD_in hr.units) dIn_nx (se_ix (sn 0) se_int) (se_tup (sa_cons se_str (sa_cons se_str sa_nil))) rfl) se_int se_non)))
theorem F_start (T : All w K mg) : FnS P w K mg base 2 "start" 1 d_start := by
  obtain ⟨f, fd, Fu, hm⟩ := T.f_start
  refine fn_mk (k := 1) Fu sc_start rfl rfl hm (Fu.binds fun _ _ _ _ _ _ us hl => match us, hl with | [_], _ => rfl) fun cdv A outer s H E hr tk hp => ?_
  have nd := sc_start.nd
  exact (ss_one (ss_ret (se_bin opD_mul dMul_nx (se_tup (sa_cons (se_call (F_nothing T) (hr.mono (by decide)) rfl tk (sa_cons (sn 0) sa_nil)) sa_nil)) (se_max2 rfl rfl T.b_max (sa_cons se_int (sa_cons (se_ix (sn 0) se_int) sa_nil)) boot_max))))
theorem F_after (T : All w K mg) : FnS P w K mg base 4 "after" 3 d_after := by
  obtain ⟨f, fd, Fu, hm⟩ := T.f_after
  refine fn_mk (k := 3) Fu sc_after rfl rfl hm (Fu.binds fun _ _ _ _ _ _ us hl => match us, hl with | [_, _, _], _ => rfl) fun cdv A outer s H E hr tk hp => ?_
  have nd := sc_after.nd
  exact (ss_cons (ss_set (i := 3) nd rfl (.inl rfl) (se_if (st_cmp (opD_eq hr.units) dEq_nx (se_ix (sn 0) se_int) se_int (nomark _)) (sn 1) (se_bin opD_add dAdd_nx (se_sl (sn 1) (so_some se_int) so_none) (se_tup (sa_cons (se_call (F_nothing T) (hr.mono (by decide)) rfl tk (sa_cons (sn 0) sa_nil)) sa_nil)))))
    (ss_one (ss_ret (se_tuple rfl T.b_tuple (sa_cons (SF.se (sf_lc (own := [("one", 4)]) rfl nd (si_seq (sn 3)) (blkOk_by (N := ["question", "keep", "row", "old", "one"]) (sc := defScope st_after) (own := [("one", 4)]) (by decide +kernel)) (fun _ _ _ _ _ => (sgn 4)) (fun _ _ _ _ _ => spt_nil) (fun _ _ _ _ _ => (se_call (F_joined T) (hr.mono (by decide)) rfl takes0 (sa_cons (sn 0) (sa_cons (sn 4) (sa_cons (sn 2) sa_nil))))))) sa_nil) boot_tuple))))
theorem F_top_two (T : All w K mg) : FnS P w K mg base 2 "top_two" 2 d_top_two := by
  obtain ⟨f, fd, Fu, hm⟩ := T.f_top_two
  refine fn_mk (k := 1) Fu sc_top_two rfl rfl hm (Fu.binds fun _ _ _ _ _ _ us hl => match us, hl with | [_, _], _ => rfl) fun cdv A outer s H E hr tk hp => ?_
  have nd := sc_top_two.nd
  exact (ss_cons (ss_asg (vs := [2, 3]) (sn 0) (sg_tup rfl (sgs_cons (sgn 2) (sgs_cons (sgn 3) sgs_nil)) (gl_cons (gl_cons gl_nil))))
    (ss_cons (ss_if (st_w (sw_or (st_cmp opD_is dIs_nx (sn 2) se_non (nomark _)) (sw_or1 (st_cmp opD_gt (dCmpI_nx _) (sn 1) (sn 2) (nomark _))))) (ss_one (ss_ret (se_tup (sa_cons (sn 1) (sa_cons (sn 2) sa_nil))))) ss_nil)
    (ss_one (ss_ret (se_tup (sa_cons (sn 2) (sa_cons (se_call (F_greater T) (hr.mono (by decide)) rfl tk (sa_cons (sn 3) (sa_cons (sn 1) sa_nil))) sa_nil)))))))
theorem F_two_start (T : All w K mg) : FnS P w K mg base 1 "two_start" 1 d_two_start := by
  obtain ⟨f, fd, Fu, hm⟩ := T.f_two_start
  refine fn_mk (k := 0) Fu sc_two_start rfl rfl hm (Fu.binds fun _ _ _ _ _ _ us hl => match us, hl with | [_], _ => rfl) fun cdv A outer s H E hr tk hp => ?_
  have nd := sc_two_start.nd
  exact (ss_cons (ss_if (st_cmp (opD_eq hr.units) dEq_nx (se_ix (sn 0) se_int) se_int (nomark _)) (ss_one (ss_ret (se_tup (sa_cons se_non (sa_cons se_non sa_nil))))) ss_nil)
    (ss_one (ss_ret (se_tup (sa_cons se_non (sa_cons (se_bin opD_mul dMul_nx (se_tup (sa_cons (se_tup (sa_cons se_non (sa_cons se_non sa_nil))) sa_nil)) (se_bin opD_sub dSub_nx (se_ix (sn 0) se_int) se_int)) sa_nil))))))
theorem F_two_after (T : All w K mg) : FnS P w K mg base 3 "two_after" 3 d_two_after := by
  obtain ⟨f, fd, Fu, hm⟩ := T.f_two_after
  refine fn_mk (k := 2) Fu sc_two_after rfl rfl hm (Fu.binds fun _ _ _ _ _ _ us hl => match us, hl with | [_, _, _], _ => rfl) fun cdv A outer s H E hr tk hp => ?_
  have nd := sc_two_after.nd
  exact (ss_cons (ss_if (st_cmp (opD_eq hr.units) dEq_nx (se_ix (sn 0) se_int) se_int (nomark _)) (ss_one (ss_ret (se_if (st_val (se_call (F_sees T) (hr.mono (by decide)) rfl tk (sa_cons (sn 0) (sa_cons (sn 2) sa_nil)))) (se_call (F_top_two T) (hr.mono (by decide)) rfl tk (sa_cons (sn 1) (sa_cons (se_ix (sn 2) se_int) sa_nil))) (sn 1)))) ss_nil)
    (ss_cons (ss_own (i := 3) nd rfl (.inl rfl) (sf_lst sa_nil))
    (ss_cons (ss_for (vs := [4]) hp rfl (si_seq (se_bin opD_add dAdd_nx (se_ix (sn 1) se_int) (se_tup (sa_cons (se_tup (sa_cons se_non (sa_cons se_non sa_nil))) sa_nil)))) (sgn 4)
    (ss_one (sapp 3 nd (se_if (st_val (se_call (F_sees T) (hr.mono (by decide)) rfl tk (sa_cons (sn 0) (sa_cons (sn 2) sa_nil)))) (se_call (F_top_two T) (hr.mono (by decide)) rfl tk (sa_cons (sn 4) (sa_cons (se_ix (sn 2) se_int) sa_nil))) (sn 4)))))
    (ss_rel (i := 3) (ss_one (ss_ret (se_tup (sa_cons (se_ix (se_ix (sn 3) se_int) se_int) (sa_cons (se_tuple rfl T.b_tuple (sa_cons (se_sl (sn 3) (so_some se_int) so_none) sa_nil) boot_tuple) sa_nil)))))))))
theorem F_with_key (T : All w K mg) : FnS P w K mg base 1 "with_key" 2 d_with_key := by
  obtain ⟨f, fd, Fu, hm⟩ := T.f_with_key
  refine fn_mk (k := 0) Fu sc_with_key rfl rfl hm (Fu.binds fun _ _ _ _ _ _ us hl => match us, hl with | [_, _], _ => rfl) fun cdv A outer s H E hr tk hp => ?_
  have nd := sc_with_key.nd
  exact (ss_one (ss_ret (se_join se_str (SF.se (sf_lc (own := [("one", 2)]) rfl nd (si_seq (T.c_KEYS.se rfl)) (blkOk_by (N := ["keys", "key", "one"]) (sc := defScope st_with_key) (own := [("one", 2)]) (by decide +kernel)) (fun _ _ _ _ _ => (sgn 2)) (fun _ _ _ _ _ => (spt_one (st_w (sw_or (st_cmp (opD_in hr.units) dIn_nx (sn 2) (sn 0) rfl) (sw_or1 (st_cmp (opD_eq hr.units) dEq_nx (sn 2) (sn 1) (nomark _))))))) (fun _ _ _ _ _ => (sn 2)))))))
theorem F_kinds_start (T : All w K mg) : FnS P w K mg base 1 "kinds_start" 1 d_kinds_start := by
  obtain ⟨f, fd, Fu, hm⟩ := T.f_kinds_start
  refine fn_mk (k := 0) Fu sc_kinds_start rfl rfl hm (Fu.binds fun _ _ _ _ _ _ us hl => match us, hl with | [_], _ => rfl) fun cdv A outer s H E hr tk hp => ?_
  have nd := sc_kinds_start.nd
  exact (ss_one (ss_ret (se_if (st_cmp (opD_eq hr.units) dEq_nx (se_ix (sn 0) se_int) se_int (nomark _)) se_str (se_tup (sa_cons se_int (sa_cons (se_bin opD_mul dMul_nx (se_tup (sa_cons se_str sa_nil)) (se_bin opD_sub dSub_nx (se_ix (sn 0) se_int) se_int)) sa_nil))))))
theorem F_kinds_after (T : All w K mg) : FnS P w K mg base 2 "kinds_after" 3 d_kinds_after := by
  obtain ⟨f, fd, Fu, hm⟩ := T.f_kinds_after
  refine fn_mk (k := 1) Fu sc_kinds_after rfl rfl hm (Fu.binds fun _ _ _ _ _ _ us hl => match us, hl with | [_, _, _], _ => rfl) fun cdv A outer s H E hr tk hp => ?_
  have nd := sc_kinds_after.nd
  exact (ss_cons (ss_set (i := 3) nd rfl (.inr rfl) (se_call (F_sees T) (hr.mono (by decide)) rfl tk (sa_cons (sn 0) (sa_cons (sn 2) sa_nil))))
    (ss_cons (ss_if (st_cmp (opD_eq hr.units) dEq_nx (se_ix (sn 0) se_int) se_int (nomark _)) (ss_one (ss_ret (se_if (st_val (sn 3)) (se_call (F_with_key T) (hr.mono (by decide)) rfl tk (sa_cons (sn 1) (sa_cons (se_ix (sn 2) se_int) sa_nil))) (sn 1)))) ss_nil)
    (ss_cons (ss_setLc (i := 4) (own := [("one", 5)]) rfl nd rfl rfl (sw_true rfl rfl rfl (by decide +kernel)) (si_seq (se_bin opD_add dAdd_nx (se_ix (sn 1) se_int) (se_tup (sa_cons se_str sa_nil)))) (blkOk_by (N := ["question", "keep", "row", "is_seen", "sets", "one"]) (sc := defScope st_kinds_after) (own := [("one", 5)]) (by decide +kernel)) (fun _ _ _ _ _ => (sgn 5)) (fun _ _ _ _ _ => spt_nil) (fun _ _ _ _ _ => (se_if (st_val (sn 3)) (se_call (F_with_key T) (hr.mono (by decide)) rfl takes0 (sa_cons (sn 5) (sa_cons (se_ix (sn 2) se_int) sa_nil))) (sn 5))))
    (ss_one (ss_ret (se_tup (sa_cons (se_len rfl T.b_len (sa_cons (se_ix (sn 4) se_int) sa_nil)) (sa_cons (se_tuple rfl T.b_tuple (sa_cons (se_sl (sn 4) (so_some se_int) so_none) sa_nil) boot_tuple) sa_nil))))))))
theorem F_run_start (T : All w K mg) : FnS P w K mg base 1 "run_start" 1 d_run_start := by
  obtain ⟨f, fd, Fu, hm⟩ := T.f_run_start
  refine fn_mk (k := 0) Fu sc_run_start rfl rfl hm (Fu.binds fun _ _ _ _ _ _ us hl => match us, hl with | [_], _ => rfl) fun cdv A outer s H E hr tk hp => ?_
  have nd := sc_run_start.nd
  exact (ss_one (ss_ret (se_tup (sa_cons (se_bin opD_mul dMul_nx (se_tup (sa_cons se_int sa_nil)) (se_max2 rfl rfl T.b_max (sa_cons se_int (sa_cons (se_ix (sn 0) se_int) sa_nil)) boot_max)) (sa_cons se_str (sa_cons se_int sa_nil))))))
theorem F_run_after (T : All w K mg) : FnS P w K mg base 2 "run_after" 3 d_run_after := by
  obtain ⟨f, fd, Fu, hm⟩ := T.f_run_after
  refine fn_mk (k := 1) Fu sc_run_after rfl rfl hm (Fu.binds fun _ _ _ _ _ _ us hl => match us, hl with | [_, _, _], _ => rfl) fun cdv A outer s H E hr tk hp => ?_
  have nd := sc_run_after.nd
  exact (ss_cons (ss_asg (vs := [3, 4, 5]) (sn 1) (sg_tup rfl (sgs_cons (sgn 3) (sgs_cons (sgn 4) (sgs_cons (sgn 5) sgs_nil))) (gl_cons (gl_cons (gl_cons gl_nil)))))
    (ss_cons (ss_set (i := 6) nd rfl (.inl rfl) (se_ix (sn 0) se_int))
    (ss_cons (ss_set (i := 7) nd rfl (.inl rfl) (se_call (F_sees T) (hr.mono (by decide)) rfl tk (sa_cons (sn 0) (sa_cons (sn 2) sa_nil))))
    (ss_cons (ss_set (i := 5) nd rfl (.inl rfl) (se_if (st_not (st_val (sn 7))) se_int (se_if (st_cmp (opD_eq hr.units) dEq_nx (se_ix (sn 2) se_int) (sn 4) (nomark _)) (se_bin opD_add dAdd_nx (sn 5) se_int) se_int)))
    (ss_cons (ss_set (i := 4) nd rfl (.inl rfl) (se_if (st_val (sn 7)) (se_ix (sn 2) se_int) se_str))
    (ss_cons (ss_if (st_cmp (opD_eq hr.units) dEq_nx (sn 6) se_int (nomark _)) (ss_one (ss_ret (se_tup (sa_cons (se_tup (sa_cons (se_max2 rfl rfl T.b_max (sa_cons (se_ix (sn 3) se_int) (sa_cons (sn 5) sa_nil)) boot_max) sa_nil)) (sa_cons (sn 4) (sa_cons (sn 5) sa_nil)))))) ss_nil)
    (ss_cons (ss_own (i := 8) nd rfl (.inl rfl) (sf_lst sa_nil))
    (ss_cons (ss_for (vs := [9, 10]) hp rfl (si_enum rfl T.b_enumerate (sa_cons (se_bin opD_add dAdd_nx (se_sl (sn 3) (so_some se_int) so_none) (se_tup (sa_cons se_int sa_nil))) sa_nil)) (sg_tup rfl (sgs_cons (sgn 9) (sgs_cons (sgn 10) sgs_nil)) (gl_cons (gl_cons gl_nil)))
    (ss_one (sapp 8 nd (se_max2 rfl rfl T.b_max (sa_cons (sn 10) (sa_cons (se_min2 rfl rfl T.b_min (sa_cons (sn 5) (sa_cons (se_bin opD_sub dSub_nx (sn 6) (sn 9)) sa_nil)) boot_min) sa_nil)) boot_max))))
    (ss_cons (ss_set (i := 5) nd rfl (.inl rfl) (se_min2 rfl rfl T.b_min (sa_cons (sn 5) (sa_cons (se_bin opD_sub dSub_nx (sn 6) se_int) sa_nil)) boot_min))
    (ss_rel (i := 8) (ss_one (ss_ret (se_tup (sa_cons (se_tuple rfl T.b_tuple (sa_cons (sn 8) sa_nil) boot_tuple) (sa_cons (se_if (st_cmp opD_gt (dCmpI_nx _) (sn 5) se_int (nomark _)) (sn 4) se_str) (sa_cons (sn 5) sa_nil))))))))))))))))
theorem F_start_of (T : All w K mg) : FnS P w K mg base 3 "start_of" 1 d_start_of := by
  obtain ⟨f, fd, Fu, hm⟩ := T.f_start_of
  refine fn_mk (k := 2) Fu sc_start_of rfl rfl hm (Fu.binds fun _ _ _ _ _ _ us hl => match us, hl with | [_], _ => rfl) fun cdv A outer s H E hr tk hp => ?_
  have nd := sc_start_of.nd
  exact (ss_cons (ss_if (st_cmp (opD_eq hr.units) dEq_nx (se_ix (sn 0) se_int) se_str (nomark _)) (ss_one (ss_ret (se_call (F_two_start T) (hr.mono (by decide)) rfl tk (sa_cons (sn 0) sa_nil)))) ss_nil)
    (ss_cons (ss_if (st_cmp (opD_eq hr.units) dEq_nx (se_ix (sn 0) se_int) se_str (nomark _)) (ss_one (ss_ret (se_call (F_kinds_start T) (hr.mono (by decide)) rfl tk (sa_cons (sn 0) sa_nil)))) ss_nil)
    (ss_one (ss_ret (se_if (st_cmp (opD_eq hr.units) dEq_nx (se_ix (sn 0) se_int) se_str (nomark _)) (se_call (F_run_start T) (hr.mono (by decide)) rfl tk (sa_cons (sn 0) sa_nil)) (se_call (F_start T) (hr.mono (by decide)) rfl tk (sa_cons (sn 0) sa_nil)))))))
theorem F_after_of (T : All w K mg) : FnS P w K mg base 5 "after_of" 3 d_after_of := by
  obtain ⟨f, fd, Fu, hm⟩ := T.f_after_of
  refine fn_mk (k := 4) Fu sc_after_of rfl rfl hm (Fu.binds fun _ _ _ _ _ _ us hl => match us, hl with | [_, _, _], _ => rfl) fun cdv A outer s H E hr tk hp => ?_
  have nd := sc_after_of.nd
  exact (ss_cons (ss_if (st_cmp (opD_eq hr.units) dEq_nx (se_ix (sn 0) se_int) se_str (nomark _)) (ss_one (ss_ret (se_call (F_two_after T) (hr.mono (by decide)) rfl tk (sa_cons (sn 0) (sa_cons (sn 1) (sa_cons (sn 2) sa_nil)))))) ss_nil)
    (ss_cons (ss_if (st_cmp (opD_eq hr.units) dEq_nx (se_ix (sn 0) se_int) se_str (nomark _)) (ss_one (ss_ret (se_call (F_kinds_after T) (hr.mono (by decide)) rfl tk (sa_cons (sn 0) (sa_cons (sn 1) (sa_cons (sn 2) sa_nil)))))) ss_nil)
    (ss_one (ss_ret (se_if (st_cmp (opD_eq hr.units) dEq_nx (se_ix (sn 0) se_int) se_str (nomark _)) (se_call (F_run_after T) (hr.mono (by decide)) rfl tk (sa_cons (sn 0) (sa_cons (sn 1) (sa_cons (sn 2) sa_nil)))) (se_call (F_after T) (hr.mono (by decide)) rfl tk (sa_cons (sn 0) (sa_cons (sn 1) (sa_cons (sn 2) sa_nil)))))))))
theorem F_told_by (T : All w K mg) : FnS P w K mg base 1 "told_by" 2 d_told_by := by
  obtain ⟨f, fd, Fu, hm⟩ := T.f_told_by
  refine fn_mk (k := 0) Fu sc_told_by rfl rfl hm (Fu.binds fun _ _ _ _ _ _ us hl => match us, hl with | [_, _], _ => rfl) fun cdv A outer s H E hr tk hp => ?_
  have nd := sc_told_by.nd
  exact (ss_cons (ss_if (st_cmp (opD_eq hr.units) dEq_nx (se_ix (sn 0) se_int) se_str (nomark _)) (ss_one (ss_ret (se_if (st_cmp (opD_eq hr.units) dEq_nx (se_ix (sn 0) se_int) se_int (nomark _)) (se_ix (sn 1) se_int) (se_ix (sn 1) se_int)))) ss_nil)
    (ss_cons (ss_if (st_cmp (opD_eq hr.units) dEq_nx (se_ix (sn 0) se_int) se_str (nomark _)) (ss_one (ss_ret (se_if (st_cmp (opD_eq hr.units) dEq_nx (se_ix (sn 0) se_int) se_int (nomark _)) (se_len rfl T.b_len (sa_cons (sn 1) sa_nil)) (se_ix (sn 1) se_int)))) ss_nil)
    (ss_one (ss_ret (se_if (st_cmp (opD_eq hr.units) dEq_nx (se_ix (sn 0) se_int) se_str (nomark _)) (se_ix (se_ix (sn 1) se_int) se_int) (se_ix (sn 1) se_int))))))
theorem F_starts_of (T : All w K mg) : FnS P w K mg base 4 "starts_of" 1 d_starts_of := by
  obtain ⟨f, fd, Fu, hm⟩ := T.f_starts_of
  refine fn_mk (k := 3) Fu sc_starts_of rfl rfl hm (Fu.binds fun _ _ _ _ _ _ us hl => match us, hl with | [_], _ => rfl) fun cdv A outer s H E hr tk hp => ?_
  have nd := sc_starts_of.nd
  exact (ss_one (ss_ret (se_tuple rfl T.b_tuple (sa_cons (SF.se (sf_lc (own := [("question", 1)]) rfl nd (si_seq (sn 0)) (blkOk_by (N := ["plan", "question"]) (sc := defScope st_starts_of) (own := [("question", 1)]) (by decide +kernel)) (fun _ _ _ _ _ => (sgn 1)) (fun _ _ _ _ _ => spt_nil) (fun _ _ _ _ _ => (se_call (F_start_of T) (hr.mono (by decide)) rfl takes0 (sa_cons (sn 1) sa_nil))))) sa_nil) boot_tuple)))
theorem F_behind (T : All w K mg) : FnS P w K mg base 6 "behind" 3 d_behind := by
  obtain ⟨f, fd, Fu, hm⟩ := T.f_behind
  refine fn_mk (k := 5) Fu sc_behind rfl rfl hm (Fu.binds fun _ _ _ _ _ _ us hl => match us, hl with | [_, _, _], _ => rfl) fun cdv A outer s H E hr tk hp => ?_
  have nd := sc_behind.nd
  exact (ss_one (ss_ret (se_tuple rfl T.b_tuple (sa_cons (SF.se (sf_lc (own := [("question", 3), ("keep", 4)]) rfl nd (si_zip2 rfl T.b_zip (sa_cons (sn 0) (sa_cons (sn 1) sa_nil))) (blkOk_by (N := ["plan", "keeps", "row", "question", "keep"]) (sc := defScope st_behind) (own := [("question", 3), ("keep", 4)]) (by decide +kernel)) (fun _ _ _ _ _ => (sg_tup rfl (sgs_cons (sgn 3) (sgs_cons (sgn 4) sgs_nil)) (gl_cons (gl_cons gl_nil)))) (fun _ _ _ _ _ => spt_nil) (fun _ _ _ _ _ => (se_call (F_after_of T) (hr.mono (by decide)) rfl takes0 (sa_cons (sn 3) (sa_cons (sn 4) (sa_cons (sn 2) sa_nil))))))) sa_nil) boot_tuple)))
theorem F_kept_of (T : All w K mg) : FnS P w K mg base 7 "kept_of" 2 d_kept_of := by
  obtain ⟨f, fd, Fu, hm⟩ := T.f_kept_of
  refine fn_mk (k := 6) Fu sc_kept_of rfl rfl hm (Fu.binds fun _ _ _ _ _ _ us hl => match us, hl with | [_, _], _ => rfl) fun cdv A outer s H E hr tk hp => ?_
  have nd := sc_kept_of.nd
  exact (ss_cons (ss_set (i := 2) nd rfl (.inl rfl) (se_call (F_starts_of T) (hr.mono (by decide)) rfl tk (sa_cons (sn 0) sa_nil)))
    (ss_cons (ss_for (vs := [3]) hp rfl (si_seq (sn 1)) (sgn 3)
    (ss_one (ss_set (i := 2) nd rfl (.inl rfl) (se_call (F_behind T) (hr.mono (by decide)) rfl tk (sa_cons (sn 0) (sa_cons (sn 2) (sa_cons (sn 3) sa_nil)))))))
    (ss_one (ss_ret (sn 2)))))
theorem F_look_two (T : All w K mg) : FnS P w K mg base 5 "look_two" 2 d_look_two := by
  obtain ⟨f, fd, Fu, hm⟩ := T.f_look_two
  refine fn_mk (k := 4) Fu sc_look_two rfl rfl hm (Fu.binds fun _ _ _ _ _ _ us hl => match us, hl with | [_, _], _ => rfl) fun cdv A outer s H E hr tk hp => ?_
  have nd := sc_look_two.nd
  exact (ss_cons (ss_expr (se_call (F_look_plan T) (hr.mono (by decide)) rfl tk (sa_cons (sn 0) sa_nil)))
    (ss_one (ss_expr (se_call (F_look_stream T) (hr.mono (by decide)) rfl tk (sa_cons (sn 1) sa_nil)))))
theorem F_first_unlike (T : All w K mg) : FnS P w K mg base 1 "first_unlike" 2 d_first_unlike := by
  obtain ⟨f, fd, Fu, hm⟩ := T.f_first_unlike
  refine fn_mk (k := 0) Fu sc_first_unlike rfl rfl hm (Fu.binds fun _ _ _ _ _ _ us hl => match us, hl with | [_, _], _ => rfl) fun cdv A outer s H E hr tk hp => ?_
  have nd := sc_first_unlike.nd
  exact (ss_cons (ss_setLc (i := 2) (own := [("at", 3), ("mine", 4), ("theirs", 5)]) rfl nd rfl rfl (sw_true rfl rfl rfl (by decide +kernel)) (si_enumzip rfl T.b_enumerate rfl T.b_zip (sa_cons (sn 0) (sa_cons (sn 1) sa_nil))) (blkOk_by (N := ["one", "other", "found", "at", "mine", "theirs"]) (sc := defScope st_first_unlike) (own := [("at", 3), ("mine", 4), ("theirs", 5)]) (by decide +kernel)) (fun _ _ _ _ _ => (sg_tup rfl (sgs_cons (sgn 3) (sgs_cons (sg_tup rfl (sgs_cons (sgn 4) (sgs_cons (sgn 5) sgs_nil)) (gl_cons (gl_cons gl_nil))) sgs_nil)) (gl_cons (gl_cons gl_nil)))) (fun _ _ _ _ _ => (spt_one (st_cmp (opD_ne hr.units) dNe_nx (sn 4) (sn 5) (nomark _)))) (fun _ _ _ _ _ => (sn 3)))
    (ss_one (ss_ret (se_if (st_val (sn 2)) (se_ix (sn 2) se_int) se_non))))
theorem F_run_end (T : All w K mg) : FnS P w K mg base 1 "run_end" 4 d_run_end := by
  obtain ⟨f, fd, Fu, hm⟩ := T.f_run_end
  refine fn_mk (k := 0) Fu sc_run_end rfl rfl hm (Fu.binds fun _ _ _ _ _ _ us hl => match us, hl with | [_, _, _, _], _ => rfl) fun cdv A outer s H E hr tk hp => ?_
  have nd := sc_run_end.nd
  exact (ss_cons (ss_set (i := 4) nd rfl (.inl rfl) (se_if (st_cmp (opD_eq hr.units) dEq_nx (se_ix (sn 0) se_int) (sn 1) (nomark _)) (se_ix (sn 0) se_int) se_int))
    (ss_one (ss_ret (se_min2 rfl rfl T.b_min (sa_cons (se_bin opD_add dAdd_nx (sn 4) (sn 2)) (sa_cons (sn 3) sa_nil)) boot_min))))
theorem F_run_apart (T : All w K mg) : FnS P w K mg base 2 "run_apart" 3 d_run_apart := by
  obtain ⟨f, fd, Fu, hm⟩ := T.f_run_apart
  refine fn_mk (k := 1) Fu sc_run_apart rfl rfl hm (Fu.binds fun _ _ _ _ _ _ us hl => match us, hl with | [_, _, _], _ => rfl) fun cdv A outer s H E hr tk hp => ?_
  have nd := sc_run_apart.nd
  exact (ss_cons (ss_set (i := 3) nd rfl (.inl rfl) (se_ix (sn 0) se_int))
    (ss_cons (ss_set (i := 4) nd rfl (.inl rfl) (se_call (F_first_unlike T) (hr.mono (by decide)) rfl tk (sa_cons (se_ix (sn 1) se_int) (sa_cons (se_ix (sn 2) se_int) sa_nil))))
    (ss_cons (ss_if (st_w (sw_or (st_cmp (opD_eq hr.units) dEq_nx (se_sl (sn 1) (so_some se_int) so_none) (se_sl (sn 2) (so_some se_int) so_none) (nomark _)) (sw_or1 (st_cmp (opD_eq hr.units) dEq_nx (sn 4) se_int (nomark _))))) (ss_one (ss_ret (sn 4))) ss_nil)
    (ss_cons (ss_set (i := 5) nd rfl (.inr rfl) (se_if (st_cmp opD_gt (dCmpI_nx _) (sn 3) se_int (nomark _)) (sn 3) (se_bin opD_add dAdd_nx (se_max2 rfl rfl T.b_max (sa_cons (se_ix (se_ix (sn 1) se_int) se_int) (sa_cons (se_ix (se_ix (sn 2) se_int) se_int) sa_nil)) boot_max) se_int)))
    (ss_cons (ss_set (i := 6) nd rfl (.inr rfl) se_int)
    (ss_cons (ss_while hp (st_w (sw_or (st_cmp opD_is dIs_nx (sn 4) se_non (nomark _)) (sw_or1 (st_cmp opD_lt (dCmpI_nx _) (sn 6) (sn 4) (nomark _)))))
    (ss_cons (ss_set (i := 7) nd rfl (.inr rfl) (se_if (st_cmp opD_gt (dCmpI_nx _) (sn 3) se_int (nomark _)) (se_ix (se_ix (sn 1) se_int) (sn 6)) (se_ix (se_ix (sn 1) se_int) se_int)))
    (ss_cons (ss_for (vs := [8]) hp rfl (si_seq (se_tup (sa_cons (se_ix (sn 1) se_int) (sa_cons (se_ix (sn 2) se_int) sa_nil)))) (sgn 8)
    (ss_one (ss_if (st_cmp (opD_ne hr.units) dNe_nx (sn 8) se_str (nomark _)) (ss_cons (ss_setLc (i := 9) (own := [("keep", 10)]) rfl nd rfl rfl (sw_true rfl rfl rfl (by decide +kernel)) (si_seq (se_tup (sa_cons (sn 1) (sa_cons (sn 2) sa_nil)))) (blkOk_by (N := ["question", "one", "other", "span", "at", "most", "many", "old", "key", "ends", "keep"]) (sc := defScope st_run_apart) (own := [("keep", 10)]) (by decide +kernel)) (fun _ _ _ _ _ => (sgn 10)) (fun _ _ _ _ _ => spt_nil) (fun _ _ _ _ _ => (se_max2 rfl rfl T.b_max (sa_cons (sn 7) (sa_cons (se_call (F_run_end T) (hr.mono (by decide)) rfl takes0 (sa_cons (sn 10) (sa_cons (sn 8) (sa_cons (sn 6) (sa_cons (sn 5) sa_nil))))) sa_nil)) boot_max)))
    (ss_one (ss_if (st_cmp (opD_ne hr.units) dNe_nx (se_ix (sn 9) se_int) (se_ix (sn 9) se_int) (nomark _)) (ss_one (ss_ret (sn 6))) ss_nil))) ss_nil)))
    (ss_one (ss_aug (i := 6) nd rfl (.inr rfl) se_int ip_add)))))
    (ss_one (ss_ret (sn 4)))))))))
theorem F_fewest_of (T : All w K mg) : FnS P w K mg base 3 "fewest_of" 3 d_fewest_of := by
  obtain ⟨f, fd, Fu, hm⟩ := T.f_fewest_of
  refine fn_mk (k := 2) Fu sc_fewest_of rfl rfl hm (Fu.binds fun _ _ _ _ _ _ us hl => match us, hl with | [_, _, _], _ => rfl) fun cdv A outer s H E hr tk hp => ?_
  have nd := sc_fewest_of.nd
  exact (ss_cons (ss_if (st_cmp (opD_eq hr.units) dEq_nx (sn 1) (sn 2) (nomark _)) (ss_one (ss_ret se_non)) ss_nil)
    (ss_cons (ss_par (i := 3) (j := 4) rfl nd rfl rfl (by decide) rfl rfl (sa_cons (se_ix (sn 0) se_int) (sa_cons (se_ix (sn 0) se_int) sa_nil)) (by rfl))
    (ss_cons (ss_if (st_cmp (opD_eq hr.units) dEq_nx (sn 3) se_str (nomark _)) (ss_one (ss_ret (se_call (F_run_apart T) (hr.mono (by decide)) rfl tk (sa_cons (sn 0) (sa_cons (sn 1) (sa_cons (sn 2) sa_nil)))))) ss_nil)
    (ss_cons (ss_if (st_w (sw_or (st_w (sw_and (st_cmp (opD_eq hr.units) dEq_nx (sn 3) se_str (nomark _)) (sw_and1 (st_cmp opD_gt (dCmpI_nx _) (sn 4) se_int (nomark _))))) (sw_or1 (st_w (sw_and (st_cmp (opD_eq hr.units) dEq_nx (sn 3) se_str (nomark _)) (sw_and1 (st_cmp opD_gt (dCmpI_nx _) (sn 4) se_int (nomark _)))))))) (ss_one (ss_ret (se_call (F_first_unlike T) (hr.mono (by decide)) rfl tk (sa_cons (se_bin opD_add dAdd_nx (se_tup (sa_cons (se_ix (sn 1) se_int) sa_nil)) (se_ix (sn 1) se_int)) (sa_cons (se_bin opD_add dAdd_nx (se_tup (sa_cons (se_ix (sn 2) se_int) sa_nil)) (se_ix (sn 2) se_int)) sa_nil))))) ss_nil)
    (ss_cons (ss_if (st_cmp (opD_eq hr.units) dEq_nx (sn 3) se_str (nomark _)) (ss_one (ss_ret (se_if (st_cmp (opD_ne hr.units) dNe_nx (se_ix (sn 1) se_int) (se_ix (sn 2) se_int) (nomark _)) se_int se_int))) ss_nil)
    (ss_cons (ss_if (st_cmp (opD_eq hr.units) dEq_nx (sn 3) se_str (nomark _)) (ss_one (ss_ret (se_if (st_cmp (opD_ne hr.units) dNe_nx (se_len rfl T.b_len (sa_cons (sn 1) sa_nil)) (se_len rfl T.b_len (sa_cons (sn 2) sa_nil)) (nomark _)) se_int se_int))) ss_nil)
    (ss_one (ss_ret (se_call (F_first_unlike T) (hr.mono (by decide)) rfl tk (sa_cons (sn 1) (sa_cons (sn 2) sa_nil)))))))))))
theorem F_fewest_by (T : All w K mg) : FnS P w K mg base 4 "fewest_by" 3 d_fewest_by := by
  obtain ⟨f, fd, Fu, hm⟩ := T.f_fewest_by
  refine fn_mk (k := 3) Fu sc_fewest_by rfl rfl hm (Fu.binds fun _ _ _ _ _ _ us hl => match us, hl with | [_, _, _], _ => rfl) fun cdv A outer s H E hr tk hp => ?_
  have nd := sc_fewest_by.nd
  exact (ss_cons (ss_setLc (i := 3) (own := [("question", 4), ("one", 5), ("other", 6)]) rfl nd rfl rfl (sw_true rfl rfl rfl (by decide +kernel)) (si_zip3 rfl T.b_zip (sa_cons (sn 0) (sa_cons (sn 1) (sa_cons (sn 2) sa_nil)))) (blkOk_by (N := ["plan", "keeps", "others", "some", "question", "one", "other", "many"]) (sc := defScope st_fewest_by) (own := [("question", 4), ("one", 5), ("other", 6)]) (by decide +kernel)) (fun _ _ _ _ _ => (sg_tup rfl (sgs_cons (sgn 4) (sgs_cons (sgn 5) (sgs_cons (sgn 6) sgs_nil))) (gl_cons (gl_cons (gl_cons gl_nil))))) (fun _ _ _ _ _ => spt_nil) (fun _ _ _ _ _ => (se_call (F_fewest_of T) (hr.mono (by decide)) rfl takes0 (sa_cons (sn 4) (sa_cons (sn 5) (sa_cons (sn 6) sa_nil))))))
    (ss_cons (ss_setLc (i := 3) (own := [("many", 7)]) rfl nd rfl rfl (sw_true rfl rfl rfl (by decide +kernel)) (si_seq (sn 3)) (blkOk_by (N := ["plan", "keeps", "others", "some", "question", "one", "other", "many"]) (sc := defScope st_fewest_by) (own := [("many", 7)]) (by decide +kernel)) (fun _ _ _ _ _ => (sgn 7)) (fun _ _ _ _ _ => (spt_one (st_cmp opD_isNot dIsNot_nx (sn 7) se_non (nomark _)))) (fun _ _ _ _ _ => (sn 7)))
    (ss_one (ss_ret (se_if (st_val (sn 3)) (se_minL rfl rfl T.b_min (sa_cons (sn 3) sa_nil) boot_min) se_non)))))
theorem F_fewest (T : All w K mg) : FnS P w K mg base 8 "fewest" 3 d_fewest := by
  obtain ⟨f, fd, Fu, hm⟩ := T.f_fewest
  refine fn_mk (k := 7) Fu sc_fewest rfl rfl hm (Fu.binds fun _ _ _ _ _ _ us hl => match us, hl with | [_, _, _], _ => rfl) fun cdv A outer s H E hr tk hp => ?_
  have nd := sc_fewest.nd
  exact (ss_cons (ss_expr (se_call (F_look_two T) (hr.mono (by decide)) rfl tk (sa_cons (sn 0) (sa_cons (sn 1) sa_nil))))
    (ss_cons (ss_expr (se_call (F_look_stream T) (hr.mono (by decide)) rfl tk (sa_cons (sn 2) sa_nil)))
    (ss_one (ss_ret (se_call (F_fewest_by T) (hr.mono (by decide)) rfl tk (sa_cons (sn 0) (sa_cons (se_call (F_kept_of T) (hr.mono (by decide)) rfl tk (sa_cons (sn 0) (sa_cons (sn 1) sa_nil))) (sa_cons (se_call (F_kept_of T) (hr.mono (by decide)) rfl tk (sa_cons (sn 0) (sa_cons (sn 2) sa_nil))) sa_nil))))))))
theorem F_next_row (T : All w K mg) : FnS P w K mg base 7 "next_row" 4 d_next_row := by
  obtain ⟨f, fd, Fu, hm⟩ := T.f_next_row
  refine fn_mk (k := 6) Fu sc_next_row rfl rfl hm (Fu.binds fun _ _ _ _ _ _ us hl => match us, hl with | [_, _, _, _], _ => rfl) fun cdv A outer s H E hr tk hp => ?_
  have nd := sc_next_row.nd
  exact (ss_cons (ss_for (vs := [4]) hp rfl (si_seq (se_call0 (F_all_rows T) (hr.mono (by decide)) rfl nx_all_rows)) (sgn 4)
    (ss_cons (ss_par (i := 5) (j := 6) rfl nd rfl rfl (by decide) rfl rfl (sa_cons (se_call (F_behind T) (hr.mono (by decide)) rfl tk (sa_cons (sn 0) (sa_cons (sn 1) (sa_cons (sn 4) sa_nil)))) (sa_cons (se_call (F_behind T) (hr.mono (by decide)) rfl tk (sa_cons (sn 0) (sa_cons (sn 2) (sa_cons (sn 4) sa_nil)))) sa_nil)) (by rfl))
    (ss_one (ss_if (st_cmp (opD_eq hr.units) dEq_nx (se_call (F_fewest_by T) (hr.mono (by decide)) rfl tk (sa_cons (sn 0) (sa_cons (sn 5) (sa_cons (sn 6) sa_nil)))) (sn 3) (nomark _)) (ss_one (ss_ret (se_tup (sa_cons (sn 4) (sa_cons (sn 5) (sa_cons (sn 6) sa_nil)))))) ss_nil))))
    (ss_one (ss_ret se_non)))
theorem F_apart_of (T : All w K mg) : FnS P w K mg base 8 "apart_of" 3 d_apart_of := by
  obtain ⟨f, fd, Fu, hm⟩ := T.f_apart_of
  refine fn_mk (k := 7) Fu sc_apart_of rfl rfl hm (Fu.binds fun _ _ _ _ _ _ us hl => match us, hl with | [_, _, _], _ => rfl) fun cdv A outer s H E hr tk hp => ?_
  have nd := sc_apart_of.nd
  exact (ss_cons (ss_set (i := 3) nd rfl (.inl rfl) (se_call (F_fewest_by T) (hr.mono (by decide)) rfl tk (sa_cons (sn 0) (sa_cons (sn 1) (sa_cons (sn 2) sa_nil)))))
    (ss_cons (ss_if (st_cmp opD_is dIs_nx (sn 3) se_non (nomark _)) (ss_one (ss_ret se_non)) ss_nil)
    (ss_cons (ss_own (i := 4) nd rfl (.inl rfl) (sf_lst sa_nil))
    (ss_cons (ss_while hp (st_cmp opD_gt (dCmpI_nx _) (sn 3) se_int (nomark _))
    (ss_cons (ss_aug (i := 3) nd rfl (.inl rfl) se_int ip_sub)
    (ss_cons (ss_asg (vs := [5, 1, 2]) (se_call (F_next_row T) (hr.mono (by decide)) rfl tk (sa_cons (sn 0) (sa_cons (sn 1) (sa_cons (sn 2) (sa_cons (sn 3) sa_nil))))) (sg_tup rfl (sgs_cons (sgn 5) (sgs_cons (sgn 1) (sgs_cons (sgn 2) sgs_nil))) (gl_cons (gl_cons (gl_cons gl_nil)))))
    (ss_one (sapp 4 nd (sn 5))))))
    (ss_cons (ss_for (vs := [6, 7]) hp rfl (si_enum rfl T.b_enumerate (sa_cons (sn 0) sa_nil)) (sg_tup rfl (sgs_cons (sgn 6) (sgs_cons (sgn 7) sgs_nil)) (gl_cons (gl_cons gl_nil)))
    (ss_one (ss_if (st_cmp (opD_ne hr.units) dNe_nx (se_call (F_told_by T) (hr.mono (by decide)) rfl tk (sa_cons (sn 7) (sa_cons (se_ix (sn 1) (sn 6)) sa_nil))) (se_call (F_told_by T) (hr.mono (by decide)) rfl tk (sa_cons (sn 7) (sa_cons (se_ix (sn 2) (sn 6)) sa_nil))) (nomark _)) (ss_rel (i := 4) (ss_one (ss_ret (se_tup (sa_cons (sn 4) (sa_cons (sn 6) sa_nil)))))) ss_nil)))
    (ss_one (ss_ret se_non)))))))
theorem F_apart (T : All w K mg) : FnS P w K mg base 9 "apart" 3 d_apart := by
  obtain ⟨f, fd, Fu, hm⟩ := T.f_apart
  refine fn_mk (k := 8) Fu sc_apart rfl rfl hm (Fu.binds fun _ _ _ _ _ _ us hl => match us, hl with | [_, _, _], _ => rfl) fun cdv A outer s H E hr tk hp => ?_
  have nd := sc_apart.nd
  exact (ss_cons (ss_expr (se_call (F_look_two T) (hr.mono (by decide)) rfl tk (sa_cons (sn 0) (sa_cons (sn 1) sa_nil))))
    (ss_cons (ss_expr (se_call (F_look_stream T) (hr.mono (by decide)) rfl tk (sa_cons (sn 2) sa_nil)))
    (ss_cons (ss_set (i := 3) nd rfl (.inl rfl) (se_call (F_apart_of T) (hr.mono (by decide)) rfl tk (sa_cons (sn 0) (sa_cons (se_call (F_kept_of T) (hr.mono (by decide)) rfl tk (sa_cons (sn 0) (sa_cons (sn 1) sa_nil))) (sa_cons (se_call (F_kept_of T) (hr.mono (by decide)) rfl tk (sa_cons (sn 0) (sa_cons (sn 2) sa_nil))) sa_nil)))))
    (ss_cons (ss_if (st_cmp opD_is dIs_nx (sn 3) se_non (nomark _)) (ss_one (ss_raise T.x_Alike rfl tk rfl)) ss_nil)
    (ss_one (ss_ret (sn 3)))))))
theorem F_law_cell (T : All w K mg) : FnS P w K mg base 1 "_law_cell" 2 d_law_cell := by
  obtain ⟨f, fd, Fu, hm⟩ := T.f_law_cell
  refine fn_mk (k := 0) Fu sc_law_cell rfl rfl hm (Fu.binds fun _ _ _ _ _ _ us hl => match us, hl with | [_, _], _ => rfl) fun cdv A outer s H E hr tk hp => ?_
  have nd := sc_law_cell.nd
  exact (ss_cons (ss_if (st_cmp opD_lt (dCmpI_nx _) (sn 1) (se_len rfl T.b_len (sa_cons (sn 0) sa_nil)) (nomark _)) (ss_one (ss_ret (se_ix (sn 0) (sn 1)))) ss_nil)
    (ss_one (ss_ret se_int)))
theorem F_law_row (T : All w K mg) : FnS P w K mg base 2 "_law_row" 2 d_law_row := by
  obtain ⟨f, fd, Fu, hm⟩ := T.f_law_row
  refine fn_mk (k := 1) Fu sc_law_row rfl rfl hm (Fu.binds fun _ _ _ _ _ _ us hl => match us, hl with | [_, _], _ => rfl) fun cdv A outer s H E hr tk hp => ?_
  have nd := sc_law_row.nd
  exact (ss_cons (ss_set (i := 2) nd rfl (.inl rfl) (se_call (F_law_cell T) (hr.mono (by decide)) rfl tk (sa_cons (sn 0) (sa_cons (sn 1) sa_nil))))
    (ss_cons (ss_own (i := 3) nd rfl (.inl rfl) (sf_lst sa_nil))
    (ss_cons (ss_for (vs := [4]) hp rfl (si_range1 rfl T.b_range (sa_cons se_int sa_nil)) (sgn 4)
    (ss_one (ss_if (st_cmp opD_lt (dCmpI_nx _) (se_call (F_law_cell T) (hr.mono (by decide)) rfl tk (sa_cons (sn 0) (sa_cons (sn 1) sa_nil))) (se_bin opD_pow dPow_nx se_int se_int) (nomark _)) (ss_cons (ss_set (i := 2) nd rfl (.inl rfl) (se_bin opD_mod dMod_nx (se_bin opD_add dAdd_nx (se_bin opD_add dAdd_nx (se_bin opD_add dAdd_nx (se_bin opD_mul dMul_nx (sn 2) se_int) (se_bin opD_mul dMul_nx se_int (sn 4))) se_int) (se_call (F_law_cell T) (hr.mono (by decide)) rfl tk (sa_cons (sn 0) (sa_cons (se_bin opD_mod dMod_nx (se_bin opD_add dAdd_nx (se_bin opD_add dAdd_nx (sn 1) se_int) (sn 4)) se_int) sa_nil)))) se_int))
    (ss_one (sapp 3 nd (se_bin opD_mod dMod_nx (se_bin opD_fdiv dFdiv_nx (sn 2) se_int) se_int)))) (ss_cons (sapp 3 nd (se_bin opD_mod dMod_nx (sn 2) se_int))
    (ss_one (ss_set (i := 2) nd rfl (.inl rfl) (se_bin opD_fdiv dFdiv_nx (sn 2) se_int)))))))
    (ss_rel (i := 3) (ss_one (ss_ret (sn 3)))))))
theorem F_law_all (T : All w K mg) : FnS P w K mg base 1 "_law_all" 0 d_law_all := by
  obtain ⟨f, fd, Fu, hm⟩ := T.f_law_all
  refine fn_mk (k := 0) Fu sc_law_all rfl rfl hm (Fu.binds fun _ _ _ _ _ _ us hl => match us, hl with | [], _ => rfl) fun cdv A outer s H E hr tk hp => ?_
  have nd := sc_law_all.nd
  exact (ss_cons (ss_set (i := 0) nd rfl (.inl rfl) (se_lst sa_nil))
    (ss_cons (ss_for (vs := [1]) hp rfl (si_seq se_str) (sgn 1)
    (ss_one (ss_set (i := 0) nd rfl (.inl rfl) (se_bin opD_add dAdd_nx (sn 0) (SF.se (sf_lc (own := [("number", 2)]) rfl nd (si_range2 rfl T.b_range (sa_cons (se_neg se_int) (sa_cons se_int sa_nil))) (blkOk_by (N := ["found", "key", "number"]) (sc := defScope st_law_all) (own := [("number", 2)]) (by decide +kernel)) (fun _ _ _ _ _ => (sgn 2)) (fun _ _ _ _ _ => spt_nil) (fun _ _ _ _ _ => (se_tup (sa_cons (sn 1) (sa_cons (sn 2) sa_nil))))))))))
    (ss_one (ss_ret (sn 0)))))
theorem F_law_line (T : All w K mg) : FnS P w K mg base 2 "_law_line" 2 d_law_line := by
  obtain ⟨f, fd, Fu, hm⟩ := T.f_law_line
  refine fn_mk (k := 1) Fu sc_law_line rfl rfl hm (Fu.binds fun _ _ _ _ _ _ us hl => match us, hl with | [_, _], _ => rfl) fun cdv A outer s H E hr tk hp => ?_
  have nd := sc_law_line.nd
  exact (ss_cons (ss_set (i := 2) nd rfl (.inl rfl) (se_bin opD_mod dMod_nx (se_ix (sn 0) (se_bin opD_mod dMod_nx (se_bin opD_add dAdd_nx (sn 1) se_int) se_int)) se_int))
    (ss_cons (ss_set (i := 3) nd rfl (.inl rfl) (se_ix (sn 0) (se_bin opD_mod dMod_nx (sn 1) se_int)))
    (ss_cons (ss_if (st_cmp (opD_eq hr.units) dEq_nx (sn 2) se_int (nomark _)) (ss_one (ss_ret (se_ix (se_call0 (F_law_all T) (hr.mono (by decide)) rfl nx_law_all) (se_bin opD_mod dMod_nx (sn 3) se_int)))) ss_nil)
    (ss_cons (ss_if (st_cmp (opD_eq hr.units) dEq_nx (sn 2) se_int (nomark _)) (ss_one (ss_ret (se_tup (sa_cons (se_ix se_str (se_bin opD_mod dMod_nx (sn 3) se_int)) (sa_cons (se_ix (se_lst (sa_cons (se_neg se_int) (sa_cons se_int (sa_cons se_int (sa_cons (se_neg se_int) sa_nil))))) (se_bin opD_mod dMod_nx (se_bin opD_fdiv dFdiv_nx (sn 3) se_int) se_int)) sa_nil))))) ss_nil)
    (ss_cons (ss_if (st_cmp (opD_eq hr.units) dEq_nx (sn 2) se_int (nomark _)) (ss_one (ss_ret (se_tup (sa_cons (se_ix se_str (se_bin opD_mod dMod_nx (sn 3) se_int)) (sa_cons (se_ix (se_lst (sa_cons (se_neg se_int) (sa_cons (se_neg se_int) sa_nil))) (se_bin opD_mod dMod_nx (se_bin opD_fdiv dFdiv_nx (sn 3) se_int) se_int)) sa_nil))))) ss_nil)
    (ss_one (ss_ret (se_tup (sa_cons (se_ix se_str (se_bin opD_mod dMod_nx (sn 3) se_int)) (sa_cons (se_bin opD_add dAdd_nx se_int (se_bin opD_mod dMod_nx (se_bin opD_fdiv dFdiv_nx (sn 3) se_int) se_int)) sa_nil))))))))))
theorem F_law_stream (T : All w K mg) : FnS P w K mg base 3 "_law_stream" 2 d_law_stream := by
  obtain ⟨f, fd, Fu, hm⟩ := T.f_law_stream
  refine fn_mk (k := 2) Fu sc_law_stream rfl rfl hm (Fu.binds fun _ _ _ _ _ _ us hl => match us, hl with | [_, _], _ => rfl) fun cdv A outer s H E hr tk hp => ?_
  have nd := sc_law_stream.nd
  exact (ss_cons (ss_set (i := 2) nd rfl (.inr rfl) (se_call (F_law_row T) (hr.mono (by decide)) rfl tk (sa_cons (sn 0) (sa_cons (sn 1) sa_nil))))
    (ss_cons (ss_set (i := 3) nd rfl (.inr rfl) (SF.se (sf_lc (own := [("time", 4)]) rfl nd (si_range1 rfl T.b_range (sa_cons (se_bin opD_mod dMod_nx (se_ix (sn 2) se_int) se_int) sa_nil)) (blkOk_by (N := ["script", "at", "row", "found", "time"]) (sc := defScope st_law_stream) (own := [("time", 4)]) (by decide +kernel)) (fun _ _ _ _ _ => (sgn 4)) (fun _ _ _ _ _ => spt_nil) (fun _ _ _ _ _ => (se_call (F_law_line T) (hr.mono (by decide)) rfl takes0 (sa_cons (sn 2) (sa_cons (se_bin opD_add dAdd_nx se_int (se_bin opD_mul dMul_nx se_int (sn 4))) sa_nil)))))))
    (ss_cons (ss_if (st_cmp (opD_eq hr.units) dEq_nx (se_bin opD_mod dMod_nx (se_ix (sn 2) se_int) se_int) se_int (nomark _)) (ss_one (ss_set (i := 3) nd rfl (.inr rfl) (SF.se (sf_lc (own := [("time", 4)]) rfl nd (si_range1 rfl T.b_range (sa_cons (se_len rfl T.b_len (sa_cons (sn 3) sa_nil)) sa_nil)) (blkOk_by (N := ["script", "at", "row", "found", "time"]) (sc := defScope st_law_stream) (own := [("time", 4)]) (by decide +kernel)) (fun _ _ _ _ _ => (sgn 4)) (fun _ _ _ _ _ => spt_nil) (fun _ _ _ _ _ => (se_ix (sn 3) (se_bin opD_mod dMod_nx (se_bin opD_mod dMod_nx (se_ix (sn 2) (se_bin opD_add dAdd_nx se_int (sn 4))) se_int) (se_len rfl T.b_len (sa_cons (sn 3) sa_nil))))))))) ss_nil)
    (ss_one (ss_ret (sn 3))))))
theorem F_law_other (T : All w K mg) : FnS P w K mg base 4 "_law_other" 3 d_law_other := by
  obtain ⟨f, fd, Fu, hm⟩ := T.f_law_other
  refine fn_mk (k := 3) Fu sc_law_other rfl rfl hm (Fu.binds fun _ _ _ _ _ _ us hl => match us, hl with | [_, _, _], _ => rfl) fun cdv A outer s H E hr tk hp => ?_
  have nd := sc_law_other.nd
  exact (ss_cons (ss_set (i := 3) nd rfl (.inr rfl) (se_call (F_law_row T) (hr.mono (by decide)) rfl tk (sa_cons (sn 0) (sa_cons (sn 1) sa_nil))))
    (ss_cons (ss_set (i := 4) nd rfl (.inl rfl) (se_bin opD_mod dMod_nx (se_ix (sn 3) se_int) (se_bin opD_add dAdd_nx (se_len rfl T.b_len (sa_cons (sn 2) sa_nil)) se_int)))
    (ss_cons (ss_setLc (i := 5) (own := [("time", 6)]) rfl nd rfl rfl (sw_true rfl rfl rfl (by decide +kernel)) (si_range1 rfl T.b_range (sa_cons (se_bin opD_mod dMod_nx (se_ix (sn 3) se_int) se_int) sa_nil)) (blkOk_by (N := ["script", "at", "rows", "row", "spot", "new", "time", "way"]) (sc := defScope st_law_other) (own := [("time", 6)]) (by decide +kernel)) (fun _ _ _ _ _ => (sgn 6)) (fun _ _ _ _ _ => spt_nil) (fun _ _ _ _ _ => (se_call (F_law_line T) (hr.mono (by decide)) rfl takes0 (sa_cons (sn 3) (sa_cons (se_bin opD_add dAdd_nx se_int (se_bin opD_mul dMul_nx se_int (sn 6))) sa_nil)))))
    (ss_cons (ss_set (i := 7) nd rfl (.inl rfl) (se_bin opD_mod dMod_nx (se_ix (sn 3) se_int) se_int))
    (ss_cons (ss_if (st_cmp (opD_eq hr.units) dEq_nx (sn 7) se_int (nomark _)) (ss_one (ss_ret (se_bin opD_add dAdd_nx (sn 5) (se_sl (sn 2) (so_some (sn 4)) so_none)))) ss_nil)
    (ss_cons (ss_if (st_cmp (opD_eq hr.units) dEq_nx (sn 7) se_int (nomark _)) (ss_one (ss_ret (se_bin opD_add dAdd_nx (se_bin opD_add dAdd_nx (se_sl (sn 2) so_none (so_some (sn 4))) (sn 5)) (se_sl (sn 2) (so_some (se_bin opD_add dAdd_nx (sn 4) (se_bin opD_mod dMod_nx (se_ix (sn 3) se_int) se_int))) so_none)))) ss_nil)
    (ss_cons (ss_if (st_cmp (opD_eq hr.units) dEq_nx (sn 7) se_int (nomark _)) (ss_one (ss_ret (se_bin opD_add dAdd_nx (se_sl (sn 2) (so_some (sn 4)) so_none) (se_sl (sn 2) so_none (so_some (sn 4)))))) ss_nil)
    (ss_one (ss_ret (se_if (st_cmp (opD_eq hr.units) dEq_nx (sn 7) se_int (nomark _)) (se_bin opD_add dAdd_nx (se_sl (sn 2) so_none (so_some (sn 4))) (se_sl (sn 2) (so_some (se_bin opD_add dAdd_nx (sn 4) se_int)) so_none)) (se_call (F_law_stream T) (hr.mono (by decide)) rfl tk (sa_cons (sn 0) (sa_cons (se_bin opD_add dAdd_nx (sn 1) se_int) sa_nil)))))))))))))
theorem F_law_words (T : All w K mg) : FnS P w K mg base 1 "_law_words" 0 d_law_words := by
  obtain ⟨f, fd, Fu, hm⟩ := T.f_law_words
  refine fn_mk (k := 0) Fu sc_law_words rfl rfl hm (Fu.binds fun _ _ _ _ _ _ us hl => match us, hl with | [], _ => rfl) fun cdv A outer s H E hr tk hp => ?_
  have nd := sc_law_words.nd
  exact (ss_one (ss_ret (se_lst (sa_cons se_str (sa_cons se_str (sa_cons se_str (sa_cons se_str (sa_cons se_str (sa_cons se_str (sa_cons se_str (sa_cons se_str sa_nil)))))))))))
theorem F_law_question (T : All w K mg) : FnS P w K mg base 2 "_law_question" 2 d_law_question := by
  obtain ⟨f, fd, Fu, hm⟩ := T.f_law_question
  refine fn_mk (k := 1) Fu sc_law_question rfl rfl hm (Fu.binds fun _ _ _ _ _ _ us hl => match us, hl with | [_, _], _ => rfl) fun cdv A outer s H E hr tk hp => ?_
  have nd := sc_law_question.nd
  exact (ss_cons (ss_set (i := 2) nd rfl (.inl rfl) (se_ix (se_call0 (F_law_words T) (hr.mono (by decide)) rfl nx_law_words) (se_bin opD_mod dMod_nx (se_ix (sn 0) (se_bin opD_mod dMod_nx (sn 1) se_int)) se_int)))
    (ss_cons (ss_set (i := 3) nd rfl (.inl rfl) (se_bin opD_mod dMod_nx (se_ix (sn 0) (se_bin opD_mod dMod_nx (se_bin opD_add dAdd_nx (sn 1) se_int) se_int)) se_int))
    (ss_cons (ss_if (st_cmp (opD_eq hr.units) dEq_nx (se_bin opD_mod dMod_nx (se_ix (sn 0) (se_bin opD_mod dMod_nx (se_bin opD_add dAdd_nx (sn 1) se_int) se_int)) se_int) se_int (nomark _)) (ss_one (ss_ret (se_tup (sa_cons (sn 2) (sa_cons se_str (sa_cons (se_neg se_int) (sa_cons se_int (sa_cons (sn 3) sa_nil)))))))) ss_nil)
    (ss_cons (ss_set (i := 4) nd rfl (.inl rfl) (se_ix (se_lst (sa_cons se_str (sa_cons se_str (sa_cons se_str (sa_cons se_str (sa_cons se_str (sa_cons se_str (sa_cons se_str sa_nil)))))))) (se_bin opD_mod dMod_nx (se_ix (sn 0) (se_bin opD_mod dMod_nx (se_bin opD_add dAdd_nx (sn 1) se_int) se_int)) se_int)))
    (ss_cons (ss_set (i := 5) nd rfl (.inl rfl) (se_bin opD_sub dSub_nx (se_bin opD_mod dMod_nx (se_ix (sn 0) (se_bin opD_mod dMod_nx (se_bin opD_add dAdd_nx (sn 1) se_int) se_int)) se_int) se_int))
    (ss_one (ss_ret (se_tup (sa_cons (sn 2) (sa_cons (sn 4) (sa_cons (sn 5) (sa_cons (se_min2 rfl rfl T.b_min (sa_cons se_int (sa_cons (se_bin opD_add dAdd_nx (sn 5) (se_bin opD_mod dMod_nx (se_ix (sn 0) (se_bin opD_mod dMod_nx (se_bin opD_add dAdd_nx (sn 1) se_int) se_int)) se_int)) sa_nil)) boot_min) (sa_cons (sn 3) sa_nil)))))))))))))
theorem F_law_plan (T : All w K mg) : FnS P w K mg base 3 "_law_plan" 2 d_law_plan := by
  obtain ⟨f, fd, Fu, hm⟩ := T.f_law_plan
  refine fn_mk (k := 2) Fu sc_law_plan rfl rfl hm (Fu.binds fun _ _ _ _ _ _ us hl => match us, hl with | [_, _], _ => rfl) fun cdv A outer s H E hr tk hp => ?_
  have nd := sc_law_plan.nd
  exact (ss_cons (ss_set (i := 2) nd rfl (.inr rfl) (se_call (F_law_row T) (hr.mono (by decide)) rfl tk (sa_cons (sn 0) (sa_cons (sn 1) sa_nil))))
    (ss_one (ss_ret (se_tuple rfl T.b_tuple (sa_cons (SF.se (sf_lc (own := [("time", 3)]) rfl nd (si_range1 rfl T.b_range (sa_cons (se_bin opD_add dAdd_nx se_int (se_bin opD_mod dMod_nx (se_ix (sn 2) se_int) se_int)) sa_nil)) (blkOk_by (N := ["script", "at", "row", "time"]) (sc := defScope st_law_plan) (own := [("time", 3)]) (by decide +kernel)) (fun _ _ _ _ _ => (sgn 3)) (fun _ _ _ _ _ => spt_nil) (fun _ _ _ _ _ => (se_call (F_law_question T) (hr.mono (by decide)) rfl takes0 (sa_cons (sn 2) (sa_cons (se_bin opD_add dAdd_nx se_int (se_bin opD_mul dMul_nx se_int (sn 3))) sa_nil)))))) sa_nil) boot_tuple))))
theorem F_law_sees (T : All w K mg) : FnS P w K mg base 1 "_law_sees" 2 d_law_sees := by
  obtain ⟨f, fd, Fu, hm⟩ := T.f_law_sees
  refine fn_mk (k := 0) Fu sc_law_sees rfl rfl hm (Fu.binds fun _ _ _ _ _ _ us hl => match us, hl with | [_, _], _ => rfl) fun cdv A outer s H E hr tk hp => ?_
  have nd := sc_law_sees.nd
  exact (ss_one (ss_ret (se_and (se_cmp (opD_in hr.units) dIn_nx (se_ix (sn 1) se_int) (se_ix (sn 0) se_int) rfl) (se_one (se_chain opD_le opD_le (dCmpI_nx _) (dCmpI_nx _) (se_ix (sn 0) se_int) (se_ix (sn 1) se_int) (se_ix (sn 0) se_int))))))
theorem F_law_answer (T : All w K mg) : FnS P w K mg base 2 "_law_answer" 2 d_law_answer := by
  obtain ⟨f, fd, Fu, hm⟩ := T.f_law_answer
  refine fn_mk (k := 1) Fu sc_law_answer rfl rfl hm (Fu.binds fun _ _ _ _ _ _ us hl => match us, hl with | [_, _], _ => rfl) fun cdv A outer s H E hr tk hp => ?_
  have nd := sc_law_answer.nd
  exact (ss_cons (ss_asg (vs := [2, 3, 4, 5, 6]) (sn 0) (sg_tup rfl (sgs_cons (sgn 2) (sgs_cons (sgn 3) (sgs_cons (sgn 4) (sgs_cons (sgn 5) (sgs_cons (sgn 6) sgs_nil))))) (gl_cons (gl_cons (gl_cons (gl_cons (gl_cons gl_nil)))))))
    (ss_cons (ss_set (i := 7) nd rfl (.inl rfl) (se_if (st_chain opD_lt opD_lt (dCmpI_nx _) (dCmpI_nx _) se_int (sn 6) (se_len rfl T.b_len (sa_cons (sn 1) sa_nil))) (se_sl (sn 1) (so_some (se_bin opD_sub dSub_nx (se_len rfl T.b_len (sa_cons (sn 1) sa_nil)) (sn 6))) so_none) (sn 1)))
    (ss_cons (ss_setLc (i := 8) (own := [("one", 9)]) rfl nd rfl rfl (sw_true rfl rfl rfl (by decide +kernel)) (si_seq (sn 7)) (blkOk_by (N := ["question", "rows", "word", "keys", "low", "high", "span", "here", "seen", "one", "numbers", "best", "at", "many"]) (sc := defScope st_law_answer) (own := [("one", 9)]) (by decide +kernel)) (fun _ _ _ _ _ => (sgn 9)) (fun _ _ _ _ _ => (spt_one (st_val (se_call (F_law_sees T) (hr.mono (by decide)) rfl takes0 (sa_cons (sn 0) (sa_cons (sn 9) sa_nil)))))) (fun _ _ _ _ _ => (sn 9)))
    (ss_cons (ss_set (i := 10) nd rfl (.inl rfl) (se_sort rfl T.b_sorted (sa_cons (SF.se (sf_lc (own := [("one", 9)]) rfl nd (si_seq (sn 8)) (blkOk_by (N := ["question", "rows", "word", "keys", "low", "high", "span", "here", "seen", "one", "numbers", "best", "at", "many"]) (sc := defScope st_law_answer) (own := [("one", 9)]) (by decide +kernel)) (fun _ _ _ _ _ => (sgn 9)) (fun _ _ _ _ _ => spt_nil) (fun _ _ _ _ _ => (se_ix (sn 9) se_int)))) sa_nil) boot_sorted))
    (ss_cons (ss_if (st_cmp (opD_eq hr.units) dEq_nx (sn 2) se_str (nomark _)) (ss_one (ss_ret (se_len rfl T.b_len (sa_cons (sn 8) sa_nil)))) ss_nil)
    (ss_cons (ss_if (st_cmp (opD_eq hr.units) dEq_nx (sn 2) se_str (nomark _)) (ss_one (ss_ret (se_sum rfl rfl T.b_sum (sa_cons (sn 10) sa_nil) boot_sum))) ss_nil)
    (ss_cons (ss_if (st_cmp (opD_eq hr.units) dEq_nx (sn 2) se_str (nomark _)) (ss_one (ss_ret (se_lenSet rfl rfl T.b_len rfl T.b_set (SF.se (sf_lc (own := [("one", 9)]) rfl nd (si_seq (sn 8)) (blkOk_by (N := ["question", "rows", "word", "keys", "low", "high", "span", "here", "seen", "one", "numbers", "best", "at", "many"]) (sc := defScope st_law_answer) (own := [("one", 9)]) (by decide +kernel)) (fun _ _ _ _ _ => (sgn 9)) (fun _ _ _ _ _ => spt_nil) (fun _ _ _ _ _ => (se_ix (sn 9) se_int))))))) ss_nil)
    (ss_cons (ss_if (st_cmp (opD_eq hr.units) dEq_nx (sn 2) se_str (nomark _)) (ss_cons (ss_set (i := 11) nd rfl (.inl rfl) se_int)
    (ss_cons (ss_for (vs := [12]) hp rfl (si_range1 rfl T.b_range (sa_cons (se_len rfl T.b_len (sa_cons (sn 7) sa_nil)) sa_nil)) (sgn 12)
    (ss_cons (ss_set (i := 13) nd rfl (.inl rfl) se_int)
    (ss_cons (ss_while hp (st_w (sw_and (st_cmp opD_lt (dCmpI_nx _) (se_bin opD_add dAdd_nx (sn 12) (sn 13)) (se_len rfl T.b_len (sa_cons (sn 7) sa_nil)) (nomark _)) (sw_and (st_val (se_call (F_law_sees T) (hr.mono (by decide)) rfl tk (sa_cons (sn 0) (sa_cons (se_ix (sn 7) (se_bin opD_add dAdd_nx (sn 12) (sn 13))) sa_nil)))) (sw_and1 (st_cmp (opD_eq hr.units) dEq_nx (se_ix (se_ix (sn 7) (se_bin opD_add dAdd_nx (sn 12) (sn 13))) se_int) (se_ix (se_ix (sn 7) (sn 12)) se_int) (nomark _))))))
    (ss_one (ss_set (i := 13) nd rfl (.inl rfl) (se_bin opD_add dAdd_nx (sn 13) se_int))))
    (ss_one (ss_set (i := 11) nd rfl (.inl rfl) (se_max2 rfl rfl T.b_max (sa_cons (sn 11) (sa_cons (sn 13) sa_nil)) boot_max))))))
    (ss_one (ss_ret (sn 11))))) ss_nil)
    (ss_cons (ss_if (st_cmp (opD_eq hr.units) dEq_nx (sn 2) se_str (nomark _)) (ss_one (ss_ret (se_if (st_cmp opD_gt (dCmpI_nx _) (se_len rfl T.b_len (sa_cons (sn 10) sa_nil)) se_int (nomark _)) (se_ix (sn 10) (se_neg se_int)) se_non))) ss_nil)
    (ss_cons (ss_if (st_cmp (opD_eq hr.units) dEq_nx (sn 10) (se_lst sa_nil) (nomark _)) (ss_one (ss_ret se_non)) ss_nil)
    (ss_one (ss_ret (se_dict3 hr.units (by decide) (se_ix (sn 10) (se_neg se_int)) (se_ix (sn 10) se_int) (se_ix (se_ix (sn 8) (se_neg se_int)) se_int) (sn 2))))))))))))))
theorem F_law_few (T : All w K mg) : FnS P w K mg base 2 "_law_few" 2 d_law_few := by
  obtain ⟨f, fd, Fu, hm⟩ := T.f_law_few
  refine fn_mk (k := 1) Fu sc_law_few rfl rfl hm (Fu.binds fun _ _ _ _ _ _ us hl => match us, hl with | [_, _], _ => rfl) fun cdv A outer s H E hr tk hp => ?_
  have nd := sc_law_few.nd
  exact (ss_cons (ss_set (i := 2) nd rfl (.inl rfl) (se_lst (sa_cons (se_tup (sa_cons se_str (sa_cons (se_neg se_int) sa_nil))) (sa_cons (se_tup (sa_cons se_str (sa_cons (se_neg se_int) sa_nil))) (sa_cons (se_tup (sa_cons se_str (sa_cons se_int sa_nil))) (sa_cons (se_tup (sa_cons se_str (sa_cons se_int sa_nil))) (sa_cons (se_tup (sa_cons se_str (sa_cons se_int sa_nil))) (sa_cons (se_ix (se_call0 (F_law_all T) (hr.mono (by decide)) rfl nx_law_all) (se_bin opD_mod dMod_nx (se_ix (sn 0) (se_bin opD_mod dMod_nx (sn 1) se_int)) se_int)) sa_nil))))))))
    (ss_one (ss_ret (sn 2))))
theorem F_law_twins (T : All w K mg) : FnS P w K mg base 3 "_law_twins" 2 d_law_twins := by
  obtain ⟨f, fd, Fu, hm⟩ := T.f_law_twins
  refine fn_mk (k := 2) Fu sc_law_twins rfl rfl hm (Fu.binds fun _ _ _ _ _ _ us hl => match us, hl with | [_, _], _ => rfl) fun cdv A outer s H E hr tk hp => ?_
  have nd := sc_law_twins.nd
  exact (ss_cons (ss_setLc (i := 2) (own := [("time", 3)]) rfl nd rfl rfl (sw_true rfl rfl rfl (by decide +kernel)) (si_range1 rfl T.b_range (sa_cons (se_bin opD_add dAdd_nx se_int (se_bin opD_mod dMod_nx (se_ix (sn 0) se_int) se_int)) sa_nil)) (blkOk_by (N := ["row", "rows", "front", "time", "back", "spot"]) (sc := defScope st_law_twins) (own := [("time", 3)]) (by decide +kernel)) (fun _ _ _ _ _ => (sgn 3)) (fun _ _ _ _ _ => spt_nil) (fun _ _ _ _ _ => (se_call (F_law_line T) (hr.mono (by decide)) rfl takes0 (sa_cons (sn 0) (sa_cons (se_bin opD_add dAdd_nx se_int (se_bin opD_mul dMul_nx se_int (sn 3))) sa_nil)))))
    (ss_cons (ss_setLc (i := 4) (own := [("time", 3)]) rfl nd rfl rfl (sw_true rfl rfl rfl (by decide +kernel)) (si_range1 rfl T.b_range (sa_cons (se_bin opD_add dAdd_nx se_int (se_bin opD_mod dMod_nx (se_ix (sn 0) se_int) se_int)) sa_nil)) (blkOk_by (N := ["row", "rows", "front", "time", "back", "spot"]) (sc := defScope st_law_twins) (own := [("time", 3)]) (by decide +kernel)) (fun _ _ _ _ _ => (sgn 3)) (fun _ _ _ _ _ => spt_nil) (fun _ _ _ _ _ => (se_call (F_law_line T) (hr.mono (by decide)) rfl takes0 (sa_cons (sn 0) (sa_cons (se_bin opD_add dAdd_nx se_int (se_bin opD_mul dMul_nx se_int (sn 3))) sa_nil)))))
    (ss_cons (ss_if (st_cmp (opD_eq hr.units) dEq_nx (se_bin opD_mod dMod_nx (se_ix (sn 0) se_int) se_int) se_int (nomark _)) (ss_one (ss_ret (se_tup (sa_cons (se_bin opD_add dAdd_nx (sn 2) (sn 1)) (sa_cons (se_bin opD_add dAdd_nx (sn 4) (sn 1)) sa_nil))))) ss_nil)
    (ss_cons (ss_set (i := 5) nd rfl (.inl rfl) (se_bin opD_mod dMod_nx (se_ix (sn 0) se_int) (se_bin opD_add dAdd_nx (se_len rfl T.b_len (sa_cons (sn 1) sa_nil)) se_int)))
    (ss_one (ss_ret (se_tup (sa_cons (se_bin opD_add dAdd_nx (se_bin opD_add dAdd_nx (se_sl (sn 1) so_none (so_some (sn 5))) (se_sl (sn 2) so_none (so_some se_int))) (se_sl (sn 1) (so_some (sn 5)) so_none)) (sa_cons (se_bin opD_add dAdd_nx (se_bin opD_add dAdd_nx (se_sl (sn 1) so_none (so_some (sn 5))) (se_sl (sn 4) so_none (so_some se_int))) (se_sl (sn 1) (so_some (sn 5)) so_none)) sa_nil)))))))))
theorem F_law_told_apart (T : All w K mg) : FnS P w K mg base 3 "_law_told_apart" 4 d_law_told_apart := by
  obtain ⟨f, fd, Fu, hm⟩ := T.f_law_told_apart
  refine fn_mk (k := 2) Fu sc_law_told_apart rfl rfl hm (Fu.binds fun _ _ _ _ _ _ us hl => match us, hl with | [_, _, _, _], _ => rfl) fun cdv A outer s H E hr tk hp => ?_
  have nd := sc_law_told_apart.nd
  exact (ss_cons (ss_for (vs := [4]) hp rfl (si_seq (sn 0)) (sgn 4)
    (ss_one (ss_if (st_cmp (opD_ne hr.units) dNe_nx (se_call (F_law_answer T) (hr.mono (by decide)) rfl tk (sa_cons (sn 4) (sa_cons (se_bin opD_add dAdd_nx (sn 1) (sn 3)) sa_nil))) (se_call (F_law_answer T) (hr.mono (by decide)) rfl tk (sa_cons (sn 4) (sa_cons (se_bin opD_add dAdd_nx (sn 2) (sn 3)) sa_nil))) (nomark _)) (ss_one (ss_ret se_bl)) ss_nil)))
    (ss_one (ss_ret se_bl)))
theorem L_law (T : All w K mg) {f : Addr} {fd : FuncData} (Fu : Fun K "law" "law" st_law f fd) : FnOk P w K mg base (L2.CX P w) 10 f fd ["script"] (spD mg K 1 d_law) := by
  refine fn_ok (k := 9) Fu sc_law rfl rfl fun cdv A outer s H E hr tk hp => ?_
  have nd := sc_law.nd
  exact (ss_cons (ss_set (i := 1) nd rfl (.inl rfl) (se_call (F_law_row T) (hr.mono (by decide)) rfl tk (sa_cons (sn 0) (sa_cons se_int sa_nil))))
    (ss_cons (ss_set (i := 2) nd rfl (.inr rfl) (se_call (F_law_plan T) (hr.mono (by decide)) rfl tk (sa_cons (sn 0) (sa_cons se_int sa_nil))))
    (ss_cons (ss_set (i := 3) nd rfl (.inr rfl) (se_call (F_law_stream T) (hr.mono (by decide)) rfl tk (sa_cons (sn 0) (sa_cons se_int sa_nil))))
    (ss_cons (ss_set (i := 4) nd rfl (.inr rfl) (se_call (F_law_other T) (hr.mono (by decide)) rfl tk (sa_cons (sn 0) (sa_cons se_int (sa_cons (sn 3) sa_nil)))))
    (ss_cons (ss_if (st_cmp opD_gt (dCmpI_nx _) (se_bin opD_mod dMod_nx (se_ix (sn 1) se_int) se_int) se_int (nomark _)) (ss_one (ss_asg (vs := [3, 4]) (se_call (F_law_twins T) (hr.mono (by decide)) rfl tk (sa_cons (sn 1) (sa_cons (sn 3) sa_nil))) (sg_tup rfl (sgs_cons (sgn 3) (sgs_cons (sgn 4) sgs_nil)) (gl_cons (gl_cons gl_nil))))) ss_nil)
    (ss_cons (ss_set (i := 5) nd rfl (.inl rfl) (se_call (F_fewest T) (hr.mono (by decide)) rfl tk (sa_cons (sn 2) (sa_cons (sn 3) (sa_cons (sn 4) sa_nil)))))
    (ss_cons (ss_if (st_cmp (opD_ne hr.units) dNe_nx (se_call (F_law_told_apart T) (hr.mono (by decide)) rfl tk (sa_cons (sn 2) (sa_cons (sn 3) (sa_cons (sn 4) (sa_cons (se_lst sa_nil) sa_nil))))) (se_cmp (opD_eq hr.units) dEq_nx (sn 5) se_int (nomark _)) (nomark _)) (ss_one (ss_ret se_bl)) ss_nil)
    (ss_cons (ss_if (st_cmp (opD_eq hr.units) dEq_nx (sn 5) se_int (nomark _)) (ss_one (ss_ret (se_cmp (opD_eq hr.units) dEq_nx (se_ix (se_call (F_apart T) (hr.mono (by decide)) rfl tk (sa_cons (sn 2) (sa_cons (sn 3) (sa_cons (sn 4) sa_nil)))) se_int) (se_lst sa_nil) (nomark _)))) ss_nil)
    (ss_cons (ss_setLc (i := 6) (own := [("line", 7)]) rfl nd rfl rfl (sw_true rfl rfl rfl (by decide +kernel)) (si_seq (se_call0 (F_law_all T) (hr.mono (by decide)) rfl nx_law_all)) (blkOk_by (N := ["script", "row", "plan", "one", "other", "few", "singles", "line", "wide", "lines_here", "pairs", "first", "then", "found"]) (sc := defScope st_law) (own := [("line", 7)]) (by decide +kernel)) (fun _ _ _ _ _ => (sgn 7)) (fun _ _ _ _ _ => (spt_one (st_val (se_call (F_law_told_apart T) (hr.mono (by decide)) rfl takes0 (sa_cons (sn 2) (sa_cons (sn 3) (sa_cons (sn 4) (sa_cons (se_lst (sa_cons (sn 7) sa_nil)) sa_nil)))))))) (fun _ _ _ _ _ => (se_lst (sa_cons (sn 7) sa_nil))))
    (ss_cons (ss_if (st_cmp (opD_ne hr.units) dNe_nx (se_cmp (opD_eq hr.units) dEq_nx (sn 5) se_int (nomark _)) (se_cmp (opD_ne hr.units) dNe_nx (sn 6) (se_lst sa_nil) (nomark _)) (nomark _)) (ss_one (ss_ret se_bl)) ss_nil)
    (ss_cons (ss_if (st_cmp (opD_eq hr.units) dEq_nx (sn 5) se_int (nomark _)) (ss_one (ss_ret (se_cmp (opD_eq hr.units) dEq_nx (se_ix (se_call (F_apart T) (hr.mono (by decide)) rfl tk (sa_cons (sn 2) (sa_cons (sn 3) (sa_cons (sn 4) sa_nil)))) se_int) (se_ix (sn 6) se_int) (nomark _)))) ss_nil)
    (ss_cons (ss_set (i := 8) nd rfl (.inl rfl) (se_and (se_cmp (opD_eq hr.units) dEq_nx (sn 5) se_int (nomark _)) (se_one (se_cmp (opD_eq hr.units) dEq_nx (se_bin opD_mod dMod_nx (se_ix (sn 1) se_int) se_int) se_int (nomark _)))))
    (ss_cons (ss_set (i := 9) nd rfl (.inl rfl) (se_if (st_val (sn 8)) (se_call0 (F_law_all T) (hr.mono (by decide)) rfl nx_law_all) (se_sortRows rfl hr.units rfl T.b_sorted rfl T.b_set (se_call (F_law_few T) (hr.mono (by decide)) rfl tk (sa_cons (sn 1) (sa_cons se_int sa_nil))))))
    (ss_cons (ss_set (i := 10) nd rfl (.inl rfl) (se_lst sa_nil))
    (ss_cons (ss_for (vs := [11]) hp rfl (si_seq (sn 9)) (sgn 11)
    (ss_one (ss_set (i := 10) nd rfl (.inl rfl) (se_bin opD_add dAdd_nx (sn 10) (SF.se (sf_lc (own := [("then", 12)]) rfl nd (si_seq (sn 9)) (blkOk_by (N := ["script", "row", "plan", "one", "other", "few", "singles", "line", "wide", "lines_here", "pairs", "first", "then", "found"]) (sc := defScope st_law) (own := [("then", 12)]) (by decide +kernel)) (fun _ _ _ _ _ => (sgn 12)) (fun _ _ _ _ _ => (spt_one (st_val (se_call (F_law_told_apart T) (hr.mono (by decide)) rfl takes0 (sa_cons (sn 2) (sa_cons (sn 3) (sa_cons (sn 4) (sa_cons (se_lst (sa_cons (sn 11) (sa_cons (sn 12) sa_nil))) sa_nil)))))))) (fun _ _ _ _ _ => (se_lst (sa_cons (sn 11) (sa_cons (sn 12) sa_nil))))))))))
    (ss_cons (ss_if (st_cmp (opD_ne hr.units) dNe_nx (sn 5) se_int (nomark _)) (ss_one (ss_ret (se_cmp (opD_eq hr.units) dEq_nx (sn 10) (se_lst sa_nil) (nomark _)))) ss_nil)
    (ss_cons (ss_set (i := 13) nd rfl (.inl rfl) (se_ix (se_call (F_apart T) (hr.mono (by decide)) rfl tk (sa_cons (sn 2) (sa_cons (sn 3) (sa_cons (sn 4) sa_nil)))) se_int))
    (ss_one (ss_ret (se_if (st_val (sn 8)) (se_cmp (opD_eq hr.units) dEq_nx (sn 13) (se_ix (sn 10) se_int) (nomark _)) (se_or (se_cmp (opD_eq hr.units) dEq_nx (sn 10) (se_lst sa_nil) (nomark _)) (se_one (se_cmp (opD_leD hr.units) noex_leD (sn 13) (se_ix (sn 10) se_int) (nomark _))))))))))))))))))))))))
end
end JK

/-! Ev -/
set_option Elab.async false
set_option linter.all false
set_option maxRecDepth 100000
set_option autoImplicit false
/-! how readings are worked out -/
namespace JK
open PySem PySem.Spec PyProof.Rows L2
/-- a mark: what it is of is left as it is -/
inductive Tag {α : Type} (a : α) : Type where
  | mk
def bT {α β : Type} (r : R α) (k : α → R β) (_ : Tag k) : R β := r.bnd k
def rT (r : R D) (ρ : Env) (k : D → Out) (_ : Tag (ρ, k)) : Out := rThen r ρ k
def tT (r : R Bool) (ρ : Env) (k : Bool → Out) (_ : Tag (ρ, k)) : Out := tThen r ρ k
def lT (r : R (List D)) (ρ : Env) (k : List D → Out) (_ : Tag (ρ, k)) : Out := lThen r ρ k
@[simp] theorem bT_ok {α β : Type} (a : α) (k : α → R β) (t : Tag k) : bT (.ok a) k t = k a := rfl
@[simp] theorem bT_no {α β : Type} (k : α → R β) (t : Tag k) : bT .no k t = .no := rfl
@[simp] theorem bT_ex {α β : Type} (x : Exc) (k : α → R β) (t : Tag k) : bT (.ex x) k t = .ex x := rfl
@[simp] theorem rT_ok (d : D) (ρ : Env) (k : D → Out) (t : Tag (ρ, k)) : rT (.ok d) ρ k t = k d := rfl
@[simp] theorem rT_ex (x : Exc) (ρ : Env) (k : D → Out) (t : Tag (ρ, k)) : rT (.ex x) ρ k t = .ex x ρ := rfl
@[simp] theorem tT_ok (d : Bool) (ρ : Env) (k : Bool → Out) (t : Tag (ρ, k)) : tT (.ok d) ρ k t = k d := rfl
@[simp] theorem tT_ex (x : Exc) (ρ : Env) (k : Bool → Out) (t : Tag (ρ, k)) : tT (.ex x) ρ k t = .ex x ρ := rfl
@[simp] theorem lT_ok (d : List D) (ρ : Env) (k : List D → Out) (t : Tag (ρ, k)) : lT (.ok d) ρ k t = k d := rfl
def nT (o : Out) (G : Sx) (_ : Tag G) : Out := match o with
  | .nx ρ' => G ρ'
  | o => o
@[simp] theorem nT_nx (ρ : Env) (G : Sx) (t : Tag G) : nT (.nx ρ) G t = G ρ := rfl
@[simp] theorem nT_rt (d : D) (G : Sx) (t : Tag G) : nT (.rt d) G t = .rt d := rfl
@[simp] theorem nT_ex (x : Exc) (ρ : Env) (G : Sx) (t : Tag G) : nT (.ex x ρ) G t = .ex x ρ := rfl
variable {ρ : Env}
@[simp] theorem sSeq_ap (F G : Sx) : sSeq F G ρ = nT (F ρ) G .mk := rfl
@[simp] theorem sNil_ap : sNil ρ = .nx ρ := rfl
@[simp] theorem sPass_ap : sPass ρ = .nx ρ := rfl
@[simp] theorem sBreak_ap : sBreak ρ = .bk ρ := rfl
@[simp] theorem sExpr_ap (a : Ex) : sExpr a ρ = rT (a ρ) ρ (fun _ => .nx ρ) .mk := rfl
@[simp] theorem sRet_ap (a : Ex) : sRet a ρ = rT (a ρ) ρ (fun d => .rt d) .mk := rfl
@[simp] theorem sRetN_ap : sRetN ρ = .rt .non := rfl
@[simp] theorem sIf_ap (t : Tx) (F G : Sx) : sIf t F G ρ = tT (t ρ) ρ (fun b => if b = true then F ρ else G ρ) .mk := rfl
@[simp] theorem sSet_ap (i : Nat) (a : Ex) : sSet i a ρ = rT (a ρ) ρ (fun d => .nx (ρ.set i (.val d))) .mk := rfl
@[simp] theorem sOwn_ap (i : Nat) (a : Ax) : sOwn i a ρ = lT (a ρ) ρ (fun d => .nx (ρ.set i (.own d))) .mk := rfl
@[simp] theorem sRaise_ap (c : Str) : sRaise c ρ = .ex ⟨c, none⟩ ρ := rfl
@[simp] theorem sFor_ap (f : Ax) (g : Gx) (F : Sx) : sFor f g F ρ = lT (f ρ) ρ (fun ds => sLoop g F ds ρ) .mk := rfl
@[simp] theorem sWhile_ap (n : Nat) (t : Tx) (F : Sx) : sWhile n t F ρ = sWhileN t F n ρ := rfl

def gTh (r : R Env) : Out := match r with
  | .ok ρ' => .nx ρ'
  | _ => .no
@[simp] theorem gTh_ok (ρ : Env) : gTh (.ok ρ) = .nx ρ := rfl
@[simp] theorem sAsg_ap (a : Ex) (g : Gx) : sAsg a g ρ = rT (a ρ) ρ (fun d => gTh (g d ρ)) .mk := rfl
def p2 (i j : Nat) (ρ : Env) : List D → Out
  | [d, e] => .nx ((ρ.set i (.val d)).set j (.val e))
  | _ => .no
@[simp] theorem p2_ok (i j : Nat) (ρ : Env) (d e : D) : p2 i j ρ [d, e] = .nx ((ρ.set i (.val d)).set j (.val e)) := rfl
@[simp] theorem sPar_ap (i j : Nat) (f : Ax) : sPar i j f ρ = lT (f ρ) ρ (p2 i j ρ) .mk := rfl
def p3 (i j l : Nat) (ρ : Env) : List D → Out
  | [d, e, g] => .nx (((ρ.set i (.val d)).set j (.val e)).set l (.val g))
  | _ => .no
@[simp] theorem p3_ok (i j l : Nat) (ρ : Env) (d e g : D) : p3 i j l ρ [d, e, g] = .nx (((ρ.set i (.val d)).set j (.val e)).set l (.val g)) := rfl
@[simp] theorem sPar3_ap (i j l : Nat) (f : Ax) : sPar3 i j l f ρ = lT (f ρ) ρ (p3 i j l ρ) .mk := rfl
/-- what a slot holds -/
def slE : Option Slot → R D
  | some (.val d) => .ok d
  | some (.sto _ none d _) => .ok d
  | _ => .no
@[simp] theorem slE_val (d : D) : slE (some (.val d)) = .ok d := rfl
@[simp] theorem slE_sto (w : Bool) (d : D) (S : List Th) : slE (some (.sto w none d S)) = .ok d := rfl
@[simp] theorem eName_ap (i : Nat) : eName i ρ = slE ρ[i]? := by
  unfold eName slE
  cases ρ[i]? with
  | none => rfl
  | some z =>
    cases z with
    | sto w m d S => cases m <;> rfl
    | _ => rfl
def slApp (i : Nat) (a : Ex) (ρ : Env) : Option Slot → Out
  | some (.own xs) => if xs.length < 1000000 then rThen (a ρ) ρ fun d => .nx (ρ.set i (.own (xs ++ [d]))) else .no
  | _ => .no
@[simp] theorem sApp_ap (i : Nat) (a : Ex) : sApp i a ρ = slApp i a ρ ρ[i]? := by
  unfold sApp slApp
  cases ρ[i]? with
  | none => rfl
  | some z => cases z <;> rfl
@[simp] theorem slApp_own (i : Nat) (a : Ex) (xs : List D) : slApp i a ρ (some (.own xs)) = if xs.length < 1000000 then rT (a ρ) ρ (fun d => .nx (ρ.set i (.own (xs ++ [d])))) .mk else .no := rfl
def slRel (i : Nat) (F : Sx) (ρ : Env) : Option Slot → Out
  | some (.own xs) => F (ρ.set i (.val (.lst xs)))
  | _ => F ρ
@[simp] theorem sRel_ap (i : Nat) (F : Sx) : sRel i F ρ = slRel i F ρ ρ[i]? := by
  unfold sRel slRel
  cases ρ[i]? with
  | none => rfl
  | some z => cases z <;> rfl
@[simp] theorem slRel_own (i : Nat) (F : Sx) (xs : List D) : slRel i F ρ (some (.own xs)) = F (ρ.set i (.val (.lst xs))) := rfl
@[simp] theorem slRel_val (i : Nat) (F : Sx) (d : D) : slRel i F ρ (some (.val d)) = F ρ := rfl
@[simp] theorem slRel_emp (i : Nat) (F : Sx) : slRel i F ρ (some .emp) = F ρ := rfl
def augI (g : Int → Int → Int) (i : Nat) (ρ : Env) (m : Int) : D → Out
  | .int k => .nx (ρ.set i (.val (.int (g m k))))
  | _ => .no
@[simp] theorem augI_ok (g : Int → Int → Int) (i : Nat) (m k : Int) : augI g i ρ m (.int k) = .nx (ρ.set i (.val (.int (g m k)))) := rfl
def slAug (g : Int → Int → Int) (i : Nat) (a : Ex) (ρ : Env) : Option Slot → Out
  | some (.val (.int m)) => rThen (a ρ) ρ (augI g i ρ m)
  | _ => .no
@[simp] theorem slAug_ok (g : Int → Int → Int) (i : Nat) (a : Ex) (m : Int) : slAug g i a ρ (some (.val (.int m))) = rT (a ρ) ρ (augI g i ρ m) .mk := rfl
@[simp] theorem sAug_ap (g : Int → Int → Int) (i : Nat) (a : Ex) : sAug g i a ρ = slAug g i a ρ ρ[i]? := by
  unfold sAug slAug
  cases ρ[i]? with
  | none => rfl
  | some z =>
    cases z with
    | val d => cases d <;> rfl
    | emp => rfl
    | own xs => rfl
    | exc e x => rfl
    | thing x => rfl
    | ref x => rfl
    | refs x => rfl
    | sto w m d S => rfl
/-! expressions -/
@[simp] theorem eC_ap (d : D) : eC d ρ = .ok d := rfl
@[simp] theorem eBin_ap (g : D → D → R D) (a b : Ex) : eBin g a b ρ = bT (a ρ) (fun x => bT (b ρ) (fun y => g x y) .mk) .mk := rfl
@[simp] theorem eNeg_ap (a : Ex) : eNeg a ρ = bT (a ρ) dNeg .mk := rfl
@[simp] theorem eNot_ap (a : Ex) : eNot a ρ = bT (a ρ) (fun x => bT (dTru x) (fun k => .ok (.bl (!k))) .mk) .mk := rfl
@[simp] theorem eAnd_ap (a b : Ex) : eAnd a b ρ = bT (a ρ) (fun x => bT (dBl x) (fun k => if k = true then b ρ else .ok (.bl false)) .mk) .mk := rfl
@[simp] theorem eOr_ap (a b : Ex) : eOr a b ρ = bT (a ρ) (fun x => bT (dBl x) (fun k => if k = true then .ok (.bl true) else b ρ) .mk) .mk := rfl
@[simp] theorem eIf_ap (t : Tx) (a b : Ex) : eIf t a b ρ = bT (t ρ) (fun k => if k = true then a ρ else b ρ) .mk := rfl
@[simp] theorem eChain_ap (g g' : D → D → R D) (a b c : Ex) : eChain g g' a b c ρ = bT (a ρ) (fun x => bT (b ρ) (fun y => bT (g x y) (fun k => bT (dBl k) (fun k => if k = true then bT (c ρ) (fun z => g' y z) .mk else .ok (.bl false)) .mk) .mk) .mk) .mk := rfl
@[simp] theorem eTup_ap (f : Ax) : eTup f ρ = bT (f ρ) (fun ds => .ok (.tup ds)) .mk := rfl
@[simp] theorem eLst_ap (f : Ax) : eLst f ρ = bT (f ρ) (fun ds => .ok (.lst ds)) .mk := rfl
@[simp] theorem eCall_ap (g : List D → R D) (f : Ax) : eCall g f ρ = bT (f ρ) g .mk := rfl
@[simp] theorem eIsi_ap (T : Tn) (a : Ex) : eIsi T a ρ = bT (a ρ) (fun d => .ok (.bl (isT T d))) .mk := rfl
@[simp] theorem eSl_ap (a : Ex) (lo hi : Ox) : eSl a lo hi ρ = bT (a ρ) (fun x => bT (lo ρ) (fun l => bT (hi ρ) (fun h => dSl x l h) .mk) .mk) .mk := rfl
def m1 (g : Str → D → R D) (r : R D) : D → R D
  | .str a => r.bnd fun y => g a y
  | _ => .no
@[simp] theorem m1_str (g : Str → D → R D) (r : R D) (a : Str) : m1 g r (.str a) = bT r (fun y => g a y) .mk := rfl
@[simp] theorem eM1_ap (g : Str → D → R D) (a b : Ex) : eM1 g a b ρ = bT (a ρ) (fun x => m1 g (b ρ) x) .mk := rfl
@[simp] theorem oNone_ap : oNone ρ = .ok none := rfl
@[simp] theorem oSome_ap (a : Ex) : oSome a ρ = bT (a ρ) dInt .mk := rfl
@[simp] theorem dInt_int (i : Int) : dInt (.int i) = .ok (some i) := rfl
@[simp] theorem tOf_ap (a : Ex) : tOf a ρ = bT (a ρ) dBl .mk := rfl
@[simp] theorem tTru_ap (a : Ex) : tTru a ρ = bT (a ρ) dTru .mk := rfl
@[simp] theorem tAndD_ap (a b : Tx) : tAndD a b ρ = bT (a ρ) (fun x => if x = true then b ρ else .ok false) .mk := rfl
@[simp] theorem tOrD_ap (a b : Tx) : tOrD a b ρ = bT (a ρ) (fun x => if x = true then .ok true else b ρ) .mk := rfl
@[simp] theorem tNotD_ap (a : Tx) : tNotD a ρ = bT (a ρ) (fun x => .ok (!x)) .mk := rfl
@[simp] theorem tYesD_ap : tYesD ρ = .ok true := rfl
@[simp] theorem aNil_ap : aNil ρ = .ok [] := rfl
@[simp] theorem aCons_ap (a : Ex) (r : Ax) : aCons a r ρ = bT (a ρ) (fun x => bT (r ρ) (fun xs => .ok (x :: xs)) .mk) .mk := rfl
@[simp] theorem aCat_ap (a b : Ex) : aCat a b ρ = bT (a ρ) (fun x => bT (b ρ) (fun y => dCat x y) .mk) .mk := rfl
@[simp] theorem aItems_ap (a : Ex) : aItems a ρ = bT (a ρ) dItems .mk := rfl
@[simp] theorem aRng_ap (g : List D → R (List D)) (f : Ax) : aRng g f ρ = bT (f ρ) g .mk := rfl
@[simp] theorem aComp_ap (f : Ax) (vs : List Nat) (g : Gx) (t : Tx) (el : Ex) : aComp f vs g t el ρ = bT (f ρ) (fun ds => cLoop g t el (wipeE ρ vs) ds) .mk := rfl
/-! functions of data -/
@[simp] theorem dBl_bl (b : Bool) : dBl (.bl b) = .ok b := rfl
@[simp] theorem dTru_non : dTru .non = .ok false := rfl
@[simp] theorem dTru_bl (b : Bool) : dTru (.bl b) = .ok b := rfl
@[simp] theorem dTru_int (i : Int) : dTru (.int i) = .ok (i != 0) := rfl
@[simp] theorem dTru_lst (xs : List D) : dTru (.lst xs) = .ok (!xs.isEmpty) := rfl
@[simp] theorem dTru_tup (xs : List D) : dTru (.tup xs) = .ok (!xs.isEmpty) := rfl
@[simp] theorem dTru_str (x : Str) : dTru (.str x) = if x.length ≤ sizeLine then .ok (x.length != 0) else .no := rfl
@[simp] theorem dNeg_int (i : Int) : dNeg (.int i) = .ok (.int (-i)) := rfl
@[simp] theorem dAdd_int (i j : Int) : dAdd (.int i) (.int j) = .ok (.int (i + j)) := rfl
@[simp] theorem dSub_int (i j : Int) : dSub (.int i) (.int j) = .ok (.int (i - j)) := rfl
theorem dAdd_lst (x y : List D) (h : x.length + y.length ≤ 1000000) : dAdd (.lst x) (.lst y) = .ok (.lst (x ++ y)) := by unfold dAdd; exact if_pos (Nat.le_trans h (by rw [sizeLine_eq]; decide))
theorem dAdd_tup (x y : List D) (h : x.length + y.length ≤ 1000000) : dAdd (.tup x) (.tup y) = .ok (.tup (x ++ y)) := by unfold dAdd; exact if_pos (Nat.le_trans h (by rw [sizeLine_eq]; decide))
@[simp] theorem dCmpI_int (p : Int → Int → Bool) (i j : Int) : dCmpI p (.int i) (.int j) = .ok (.bl (p i j)) := rfl
@[simp] theorem dIs_non (d : D) : dIs d .non = .ok (.bl (isNon d)) := rfl
@[simp] theorem dIsNot_non (d : D) : dIsNot d .non = .ok (.bl (!isNon d)) := rfl
@[simp] theorem isNon_non : isNon .non = true := rfl
@[simp] theorem isNon_int (i : Int) : isNon (.int i) = false := rfl
@[simp] theorem isNon_tup (i : List D) : isNon (.tup i) = false := rfl
@[simp] theorem isNon_str (i : Str) : isNon (.str i) = false := rfl
@[simp] theorem isNon_lst (i : List D) : isNon (.lst i) = false := rfl
@[simp] theorem isT_ii (i : Int) : isT .int (.int i) = true := rfl
@[simp] theorem isT_bi (i : Int) : isT .bool (.int i) = false := rfl
@[simp] theorem isT_ss (i : Str) : isT .str (.str i) = true := rfl
@[simp] theorem isT_ll (i : List D) : isT .list (.lst i) = true := rfl
@[simp] theorem isT_tt (i : List D) : isT .tuple (.tup i) = true := rfl
@[simp] theorem isT_tl (i : List D) : isT .tuple (.lst i) = false := rfl
@[simp] theorem isT_lt (i : List D) : isT .list (.tup i) = false := rfl
@[simp] theorem dLen_lst (xs : List D) : dLen [.lst xs] = .ok (.int xs.length) := rfl
@[simp] theorem dLen_tup (xs : List D) : dLen [.tup xs] = .ok (.int xs.length) := rfl
@[simp] theorem dLen_scr (xs : List Int) : dLen [.scr xs] = .ok (.int xs.length) := rfl
theorem dLen_str {x : Str} (h : x.length ≤ 1000000) : dLen [.str x] = .ok (.int x.length) := by unfold dLen; exact if_pos (Nat.le_trans h (by rw [sizeLine_eq]; decide))
@[simp] theorem dMax2_int (i j : Int) : dMax2 [.int i, .int j] = .ok (.int (max i j)) := by
  show R.ok (D.int (if j > i then j else i)) = _
  have e : (if j > i then j else i) = max i j := by rw [Int.max_def]; split <;> split <;> omega
  rw [e]
@[simp] theorem dMin2_int (i j : Int) : dMin2 [.int i, .int j] = .ok (.int (min i j)) := by
  show R.ok (D.int (if j < i then j else i)) = _
  have e : (if j < i then j else i) = min i j := by rw [Int.min_def]; split <;> split <;> omega
  rw [e]
@[simp] theorem dTuple_lst (xs : List D) : dTuple [.lst xs] = .ok (.tup xs) := rfl
@[simp] theorem dTuple_tup (xs : List D) : dTuple [.tup xs] = .ok (.tup xs) := rfl
@[simp] theorem dList_lst (xs : List D) : dList [.lst xs] = .ok (.lst xs) := rfl
@[simp] theorem dList_tup (xs : List D) : dList [.tup xs] = .ok (.lst xs) := rfl
@[simp] theorem dItems_lst (xs : List D) : dItems (.lst xs) = .ok xs := rfl
@[simp] theorem dItems_tup (xs : List D) : dItems (.tup xs) = .ok xs := rfl
@[simp] theorem dEq_str (a b : Str) : dEq (.str a) (.str b) = .ok (.bl (a == b)) := rfl
@[simp] theorem dNe_str (a b : Str) : dNe (.str a) (.str b) = .ok (.bl (!(a == b))) := rfl
@[simp] theorem dEq_int (a b : Int) : dEq (.int a) (.int b) = .ok (.bl (a == b)) := rfl
@[simp] theorem dNe_int (a b : Int) : dNe (.int a) (.int b) = .ok (.bl (!(a == b))) := rfl
@[simp] theorem dIn_str (a b : Str) : dIn (.str a) (.str b) = .ok (.bl (strIn a b)) := rfl
theorem dMod_int (i j : Int) (h : 0 < j) : dMod (.int i) (.int j) = .ok (.int (i % j)) := by unfold dMod; exact if_pos h
theorem dFdiv_int (i j : Int) (h : 0 < j) (h2 : j < 1073741824) : dFdiv (.int i) (.int j) = .ok (.int (i / j)) := by unfold dFdiv; exact if_pos ⟨h, h2⟩
theorem ix_at {α : Type} {xs : List α} {n : Nat} {d : α} (h : xs[n]? = some d) : L2.atI xs (n : Int) = some d := by
  have hl : n < xs.length := (List.getElem?_eq_some_iff.mp h).1
  unfold L2.atI L2.ixN
  rw [if_pos (by omega), if_pos (by omega), Option.bind_some, Int.toNat_natCast, h]
theorem dIx_tup {xs : List D} {n : Nat} {d : D} (h : xs[n]? = some d) : dIx (.tup xs) (.int n) = .ok d := by
  have := ix_at h; simp only [dIx, this]
theorem dIx_lst {xs : List D} {n : Nat} {d : D} (h : xs[n]? = some d) : dIx (.lst xs) (.int n) = .ok d := by
  have := ix_at h; simp only [dIx, this]
theorem dIx_scr {xs : List Int} {n : Nat} {d : Int} (h : xs[n]? = some d) : dIx (.scr xs) (.int n) = .ok (.int d) := by
  have := ix_at h; simp only [dIx, this]
@[simp] theorem dIx_t0 (a : D) (xs : List D) : dIx (.tup (a :: xs)) (.int 0) = .ok a := dIx_tup (n := 0) rfl
@[simp] theorem dIx_t1 (a b : D) (xs : List D) : dIx (.tup (a :: b :: xs)) (.int 1) = .ok b := dIx_tup (n := 1) rfl
@[simp] theorem dIx_t2 (a b c : D) (xs : List D) : dIx (.tup (a :: b :: c :: xs)) (.int 2) = .ok c := dIx_tup (n := 2) rfl
@[simp] theorem dIx_t3 (a b c d : D) (xs : List D) : dIx (.tup (a :: b :: c :: d :: xs)) (.int 3) = .ok d := dIx_tup (n := 3) rfl
@[simp] theorem dIx_t4 (a b c d e : D) (xs : List D) : dIx (.tup (a :: b :: c :: d :: e :: xs)) (.int 4) = .ok e := dIx_tup (n := 4) rfl
@[simp] theorem dIx_l0 (a : D) (xs : List D) : dIx (.lst (a :: xs)) (.int 0) = .ok a := dIx_lst (n := 0) rfl
@[simp] theorem dIx_l1 (a b : D) (xs : List D) : dIx (.lst (a :: b :: xs)) (.int 1) = .ok b := dIx_lst (n := 1) rfl
/-! places -/
@[simp] theorem gN_ap (i : Nat) (d : D) : gN i d ρ = .ok (ρ.set i (.val d)) := rfl
@[simp] theorem gT_tup (r : Gsx) (ds : List D) : gT r (.tup ds) ρ = r ds ρ := rfl
@[simp] theorem gT_lst (r : Gsx) (ds : List D) : gT r (.lst ds) ρ = r ds ρ := rfl
@[simp] theorem gsNil_ap : gsNil [] ρ = .ok ρ := rfl
@[simp] theorem gsCons_ap (g : Gx) (r : Gsx) (d : D) (ds : List D) : gsCons g r (d :: ds) ρ = bT (g d ρ) (r ds) .mk := rfl
@[simp] theorem eLstR_ap (a : Ex) : eLstR a ρ = bT (a ρ) dLstR .mk := rfl
@[simp] theorem wipeE_nil : wipeE ρ [] = ρ := rfl
@[simp] theorem wipeE_cons (v : Nat) (vs : List Nat) : wipeE ρ (v :: vs) = (wipeE ρ vs).set v .emp := rfl
@[simp] theorem outR_rt (d : D) : outR (.rt d) = .ok d := rfl
@[simp] theorem outR_nx : outR (.nx ρ) = .ok .non := rfl
@[simp] theorem outR_ex (x : Exc) : outR (.ex x ρ) = .ex x := rfl
@[simp] theorem runD_1 (N : Nat) (F : Sx) (a : D) : runD (N + 1) 1 F [a] = outR (F (.val a :: List.replicate N .emp)) := rfl
@[simp] theorem runD_2 (N : Nat) (F : Sx) (a b : D) : runD (N + 2) 2 F [a, b] = outR (F (.val a :: .val b :: List.replicate N .emp)) := rfl
@[simp] theorem runD_3 (N : Nat) (F : Sx) (a b c : D) : runD (N + 3) 3 F [a, b, c] = outR (F (.val a :: .val b :: .val c :: List.replicate N .emp)) := rfl
@[simp] theorem runD_4 (N : Nat) (F : Sx) (a b c d : D) : runD (N + 4) 4 F [a, b, c, d] = outR (F (.val a :: .val b :: .val c :: .val d :: List.replicate N .emp)) := rfl
@[simp] theorem runD_0 (N : Nat) (F : Sx) : runD N 0 F [] = outR (F (List.replicate N .emp)) := rfl
/-- a comprehension over a list, item by item -/
theorem cLoop_map {α : Type} {g : Gx} {t : Tx} {el : Ex} {f : α → D} {p : α → Bool} {o : α → D} {xs : List α} (h : ∀ x ∈ xs, ∃ ρ', g (f x) ρ = .ok ρ' ∧ t ρ' = .ok (p x) ∧ (p x = true → el ρ' = .ok (o x))) : cLoop g t el ρ (xs.map f) = .ok ((xs.filter p).map o) := by
  induction xs with
  | nil => rfl
  | cons x xs ih =>
    obtain ⟨ρ', h1, h2, h3⟩ := h x (by simp)
    have ih := ih fun y hy => h y (by simp [hy])
    rw [List.map_cons, cLoop]
    simp only [h1, h2]
    cases hp : p x with
    | true => simp [h3 hp, ih, hp]
    | false => simp [ih, hp]
/-- .. each item taken -/
theorem cLoop_all {α : Type} {g : Gx} {el : Ex} {f : α → D} {o : α → D} {xs : List α} (h : ∀ x ∈ xs, ∃ ρ', g (f x) ρ = .ok ρ' ∧ el ρ' = .ok (o x)) : cLoop g tYesD el ρ (xs.map f) = .ok (xs.map o) := by
  rw [cLoop_map (p := fun _ => true) (o := o)]
  · rw [List.filter_eq_self.mpr (by simp)]
  · intro x hx
    obtain ⟨ρ', h1, h2⟩ := h x hx
    exact ⟨ρ', h1, rfl, fun _ => h2⟩
/-- a loop that goes on to its end -/
theorem sLoop_inv {α : Type} {g : Gx} {F : Sx} {f : α → D} (ρ : List α → Env) {done : List α} : ∀ (xs : List α), (∀ a b x, done ++ xs = a ++ x :: b → ∃ ρ', g (f x) (ρ a) = .ok ρ' ∧ F ρ' = .nx (ρ (a ++ [x]))) → sLoop g F (xs.map f) (ρ done) = .nx (ρ (done ++ xs)) := by
  intro xs
  induction xs generalizing done with
  | nil => intro _; simp [sLoop]
  | cons x xs ih =>
    intro h
    obtain ⟨ρ', h1, h2⟩ := h done xs x rfl
    rw [List.map_cons, sLoop]
    simp only [h1, h2]
    rw [ih (done := done ++ [x]) (fun a b y e => h a b y (by rw [← e]; simp))]
    simp
end JK

/-! Mir1 -/
set_option Elab.async false
set_option linter.all false
set_option maxRecDepth 100000
set_option autoImplicit false
namespace JK
open PySem PySem.Spec PyProof.Rows L2
/-- keys -/
def kS : Fin 4 → Str
  | 0 => "a"
  | 1 => "b"
  | 2 => "c"
  | 3 => "d"
/-- some of the keys -/
structure Mk where
  a : Bool
  b : Bool
  c : Bool
  d : Bool
deriving DecidableEq
def Mk.has (m : Mk) : Fin 4 → Bool
  | 0 => m.a
  | 1 => m.b
  | 2 => m.c
  | 3 => m.d
def Mk.add (m : Mk) : Fin 4 → Mk
  | 0 => ⟨true, m.b, m.c, m.d⟩
  | 1 => ⟨m.a, true, m.c, m.d⟩
  | 2 => ⟨m.a, m.b, true, m.d⟩
  | 3 => ⟨m.a, m.b, m.c, true⟩
def k4 : List (Fin 4) := [0, 1, 2, 3]
def Mk.keys (m : Mk) : List (Fin 4) := k4.filter m.has
def Mk.txt (m : Mk) : Str := (m.keys.map kS).foldr (· ++ ·) ""
def Mk.card (m : Mk) : Nat := m.keys.length
theorem mk_all {p : Mk → Prop} (h : ∀ a b c d : Bool, p ⟨a, b, c, d⟩) (m : Mk) : p m := h _ _ _ _
theorem in_txt (m : Mk) (k : Fin 4) : strIn (kS k) m.txt = m.has k := by
  revert k; exact mk_all (p := fun m => ∀ k, strIn (kS k) m.txt = m.has k) (by decide +kernel) m
theorem txt_len (m : Mk) : m.txt.length = m.card := mk_all (p := fun m => m.txt.length = m.card) (by decide) m
theorem kS_len (k : Fin 4) : (kS k).length = 1 := by revert k; decide
theorem txt_inj (m m' : Mk) : (m.txt = m'.txt) = (m = m') := by
  apply propext; revert m m'; exact fun m m' => mk_all (p := fun m => ∀ m', m.txt = m'.txt ↔ m = m') (fun a b c d => mk_all (by revert a b c d; decide)) m m'
/-- a row -/
structure Rw where
  k : Fin 4
  n : Int
deriving DecidableEq
def Rw.e (r : Rw) : D := .tup [.str (kS r.k), .int r.n]
def Rw.ok (r : Rw) : Prop := -3 ≤ r.n ∧ r.n ≤ 3
inductive Wd where
  | many | sum | most | least | last | second | kinds | run
deriving DecidableEq
def Wd.s : Wd → Str
  | .many => "many"
  | .sum => "sum"
  | .most => "most"
  | .least => "least"
  | .last => "last"
  | .second => "second"
  | .kinds => "kinds"
  | .run => "run"
/-- a question -/
structure Qn where
  w : Wd
  m : Mk
  lo : Int
  hi : Int
  s : Nat
deriving DecidableEq
def Qn.e (q : Qn) : D := .tup [.str q.w.s, .str q.m.txt, .int q.lo, .int q.hi, .int q.s]
structure Qn.ok (q : Qn) : Prop where
  key : q.m ≠ ⟨false, false, false, false⟩
  lo : -3 ≤ q.lo
  le : q.lo ≤ q.hi
  hi : q.hi ≤ 3
  s : q.s ≤ 6
def Qn.sees (q : Qn) (r : Rw) : Bool := q.m.has r.k && (decide (q.lo ≤ r.n) && decide (r.n ≤ q.hi))
def eRows (rs : List Rw) : D := .lst (rs.map Rw.e)
def ePlan (qs : List Qn) : D := .tup (qs.map Qn.e)
/-! what is computed, function by function -/
@[simp] theorem m_sees (q : Qn) (r : Rw) : d_sees [q.e, r.e] = .ok (.bl (q.sees r)) := by
  simp [d_sees, Qn.e, Rw.e, in_txt, Qn.sees]
  cases q.m.has r.k <;> simp
  by_cases h : q.lo ≤ r.n <;> simp [h]
@[simp] theorem m_within (i lo hi : Int) : d_is_within [.int i, .int lo, .int hi] = .ok (.bl (decide (lo ≤ i) && decide (i ≤ hi))) := by
  simp [d_is_within]
  by_cases h : lo ≤ i <;> simp [h]
theorem kS_in (k : Fin 4) : strIn (kS k) "abcd" = true := by revert k; decide +kernel
theorem kS_small (k : Fin 4) : (kS k).length ≤ sizeLine := by rw [kS_len, sizeLine_eq]; decide
@[simp] theorem dLen_kS (k : Fin 4) : dLen [.str (kS k)] = .ok (.int 1) := by
  rw [dLen_str (by rw [kS_len]; decide), kS_len]; rfl
@[simp] theorem dLen_txt (m : Mk) : dLen [.str m.txt] = .ok (.int m.card) := by
  have : m.card ≤ 4 := mk_all (p := fun m => m.card ≤ 4) (by decide) m
  rw [dLen_str (by rw [txt_len]; omega), txt_len]
theorem m_is_row {r : Rw} (h : r.ok) : d_is_row [r.e] = .ok (.bl true) := by
  simp [d_is_row, Rw.e, v_KEYS, v_MOST, kS_small, kS_len, kS_in, h.1, h.2]
theorem m_is_stream {rs : List Rw} (h : ∀ r ∈ rs, r.ok) (hl : rs.length ≤ 60) : d_is_stream [eRows rs] = .ok (.bl true) := by
  simp [d_is_stream, eRows, v_MOST_ROWS]
  rw [if_pos (by omega), cLoop_map (p := fun _ => false) (o := fun _ => .non)]
  · simp
  · intro r hr
    refine ⟨_, rfl, ?_, by simp⟩
    simp [m_is_row (h r hr)]
theorem m_look_stream {rs : List Rw} (h : ∀ r ∈ rs, r.ok) (hl : rs.length ≤ 60) : d_look_stream [eRows rs] = .ok .non := by
  simp [d_look_stream, m_is_stream h hl]

theorem txt_small (m : Mk) : m.txt.length ≤ sizeLine := by
  have : m.card ≤ 4 := mk_all (p := fun m => m.card ≤ 4) (by decide) m
  rw [txt_len, sizeLine_eq]; omega
theorem signs_abcd : dItems (.str "abcd") = .ok (k4.map fun k => .str (kS k)) := by kernel_rfl
theorem join_txt (m : Mk) : dJoin "" (.lst (m.keys.map fun k => .str (kS k))) = .ok (.str m.txt) := by
  obtain ⟨a, b, c, d⟩ := m
  cases a <;> cases b <;> cases c <;> cases d <;> kernel_rfl
theorem m_are_keys (m : Mk) (h : m ≠ ⟨false, false, false, false⟩) : d_are_keys [.str m.txt] = .ok (.bl true) := by
  have hc : m.card ≠ 0 := by
    revert h; exact mk_all (p := fun m => m ≠ ⟨false, false, false, false⟩ → m.card ≠ 0) (by decide) m
  have hj := join_txt m
  unfold Mk.keys at hj
  have hs := txt_small m
  rw [txt_len] at hs
  simp [d_are_keys, txt_len, hs, hc, v_KEYS, signs_abcd]
  rw [cLoop_map (p := m.has) (o := fun k => .str (kS k))]
  · simp [hj]
  · intro k _
    exact ⟨_, rfl, by simp [in_txt], fun _ => by simp⟩
theorem word_in (w : Wd) : dNotIn (.str w.s) v_WORDS = .ok (.bl false) := by cases w <;> rfl
theorem m_is_question {q : Qn} (h : q.ok) : d_is_question [q.e] = .ok (.bl true) := by
  obtain ⟨h1, h2, h3, h4, h5⟩ := h
  have h6 : ¬ 3 < q.lo := by omega
  have h7 : (q.s : Int) ≤ 6 := by omega
  simp [d_is_question, Qn.e, word_in, m_are_keys _ h1, v_MOST, v_MOST_SPAN, h2, h3, h4, h6, h7]
theorem m_is_plan {qs : List Qn} (h : ∀ q ∈ qs, q.ok) (h1 : 1 ≤ qs.length) (h4 : qs.length ≤ 4) : d_is_plan [ePlan qs] = .ok (.bl true) := by
  have a : (1 : Int) ≤ qs.length := by omega
  have b : (qs.length : Int) ≤ 4 := by omega
  simp [d_is_plan, ePlan, v_MOST_QUESTIONS, a, b]
  rw [cLoop_map (p := fun _ => false) (o := fun _ => .non)]
  · simp
  · intro r hr
    refine ⟨_, rfl, ?_, by simp⟩
    simp [m_is_question (h r hr)]
/-- good things -/
def Good (rs : List Rw) : Prop := (∀ r ∈ rs, r.ok) ∧ rs.length ≤ 60
def GoodP (qs : List Qn) : Prop := (∀ q ∈ qs, q.ok) ∧ 1 ≤ qs.length ∧ qs.length ≤ 4
theorem m_look_plan {qs : List Qn} (h : GoodP qs) : d_look_plan [ePlan qs] = .ok .non := by
  simp [d_look_plan, m_is_plan h.1 h.2.1 h.2.2]
theorem m_look_two {qs : List Qn} {rs : List Rw} (h : GoodP qs) (g : Good rs) : d_look_two [ePlan qs, eRows rs] = .ok .non := by
  simp [d_look_two, m_look_plan h, m_look_stream g.1 g.2]
end JK

/-! Mir2 -/
set_option Elab.async false
set_option linter.all false
set_option maxRecDepth 100000
set_option autoImplicit false
namespace JK
open PySem PySem.Spec PyProof.Rows L2
/-! ### equality of data -/
mutual
/-- neither True, False nor a script in it -/
def D.sim : D → Bool
  | .non => true
  | .int _ => true
  | .str _ => true
  | .lst xs => D.simL xs
  | .tup xs => D.simL xs
  | .bl _ => false
  | .scr _ => false
  | .box _ _ => false
def D.simL : List D → Bool
  | [] => true
  | x :: xs => D.sim x && D.simL xs
end
mutual
theorem deq_iff : ∀ (a b : D), a.sim = true → b.sim = true → (deq a b = true ↔ a = b)
  | .non, b, _, hb => by cases b <;> simp_all [deq, D.py, D.sim, PyData.eqv]
  | .int i, b, _, hb => by cases b <;> simp_all [deq, D.py, D.sim, PyData.eqv]
  | .str x, b, _, hb => by cases b <;> simp_all [deq, D.py, D.sim, PyData.eqv]
  | .lst xs, b, ha, hb => by
    cases b with
    | lst ys =>
      have := deqL_iff xs ys (by simpa [D.sim] using ha) (by simpa [D.sim] using hb)
      simp only [deq, D.py, PyData.eqv, this, D.lst.injEq]
    | _ => simp_all [deq, D.py, D.sim, PyData.eqv]
  | .tup xs, b, ha, hb => by
    cases b with
    | tup ys =>
      have := deqL_iff xs ys (by simpa [D.sim] using ha) (by simpa [D.sim] using hb)
      simp only [deq, D.py, PyData.eqv, this, D.tup.injEq]
    | _ => simp_all [deq, D.py, D.sim, PyData.eqv]
  | .bl _, _, ha, _ => by cases ha
  | .scr _, _, ha, _ => by cases ha
  | .box _ _, _, ha, _ => by cases ha
theorem deqL_iff : ∀ (a b : List D), D.simL a = true → D.simL b = true → (PyData.eqvAll (D.pyL a) (D.pyL b) = true ↔ a = b)
  | [], [], _, _ => by simp [D.pyL, PyData.eqvAll]
  | [], _ :: _, _, _ => by simp [D.pyL, PyData.eqvAll]
  | _ :: _, [], _, _ => by simp [D.pyL, PyData.eqvAll]
  | x :: xs, y :: ys, ha, hb => by
    rw [D.simL, Bool.and_eq_true] at ha hb
    have h1 := deq_iff x y ha.1 hb.1
    have h2 := deqL_iff xs ys ha.2 hb.2
    unfold deq at h1
    simp only [D.pyL, PyData.eqvAll, Bool.and_eq_true, h1, h2, List.cons.injEq]
end
theorem simL_iff : ∀ (xs : List D), D.simL xs = true ↔ ∀ x ∈ xs, x.sim = true
  | [] => by simp [D.simL]
  | x :: xs => by simp [D.simL, simL_iff xs]
theorem depL_le {n : Nat} : ∀ (xs : List D), (∀ x ∈ xs, x.dep ≤ n) → D.depL xs ≤ n
  | [], _ => Nat.zero_le _
  | x :: xs, h => by
    rw [D.depL]
    exact Nat.max_le.mpr ⟨h x (by simp), depL_le xs fun y hy => h y (by simp [hy])⟩
mutual
theorem sim_flat : ∀ {d : D}, d.sim = true → d.flat = true
  | .non, _ => rfl
  | .int _, _ => rfl
  | .str _, _ => rfl
  | .lst xs, h => simL_flat (ds := xs) (by simpa [D.sim] using h)
  | .tup xs, h => simL_flat (ds := xs) (by simpa [D.sim] using h)
  | .bl _, h => by cases h
  | .scr _, h => by cases h
  | .box _ _, h => by cases h
theorem simL_flat : ∀ {ds : List D}, D.simL ds = true → D.flatL ds = true
  | [], _ => rfl
  | x :: xs, h => by
    rw [D.simL, Bool.and_eq_true] at h
    rw [D.flatL, sim_flat h.1, simL_flat h.2]; rfl
end
theorem dEq_sim {a b : D} {p : Prop} [Decidable p] (ha : a.sim = true) (hb : b.sim = true) (hd : a.dep ≤ 60) (h : a = b ↔ p) : dEq a b = .ok (.bl (decide p)) := by
  unfold dEq
  rw [if_pos ⟨.inl hd, sim_flat ha, sim_flat hb⟩]
  have := deq_iff a b ha hb
  congr 2
  rw [Bool.eq_iff_iff, this, h, decide_eq_true_iff]
theorem dNe_sim {a b : D} {p : Prop} [Decidable p] (ha : a.sim = true) (hb : b.sim = true) (hd : a.dep ≤ 60) (h : a = b ↔ p) : dNe a b = .ok (.bl (!decide p)) := by
  unfold dNe
  rw [if_pos ⟨.inl hd, sim_flat ha, sim_flat hb⟩]
  have := deq_iff a b ha hb
  congr 3
  rw [Bool.eq_iff_iff, this, h, decide_eq_true_iff]
end JK

/-! Mir3 -/
set_option Elab.async false
set_option linter.all false
set_option maxRecDepth 100000
set_option autoImplicit false
namespace JK
open PySem PySem.Spec PyProof.Rows L2
/-! ### the last rows -/
section
variable {α β : Type}
def lastN (n : Nat) (xs : List α) : List α := xs.drop (xs.length - n)
theorem lastN_snoc (n : Nat) (xs : List α) (r : α) : lastN (n + 1) (xs ++ [r]) = lastN n xs ++ [r] := by
  unfold lastN
  rw [List.length_append, List.length_singleton, List.drop_append_of_le_length (by omega)]
  congr 2
  omega
@[simp] theorem lastN_zero (xs : List α) : lastN 0 xs = [] := by unfold lastN; simp
@[simp] theorem lastN_nil (n : Nat) : lastN n ([] : List α) = [] := by unfold lastN; simp
theorem lastN_all {n : Nat} {xs : List α} (h : xs.length ≤ n) : lastN n xs = xs := by
  unfold lastN; rw [show xs.length - n = 0 by omega]; rfl
theorem lastN_length (n : Nat) (xs : List α) : (lastN n xs).length = min n xs.length := by unfold lastN; rw [List.length_drop]; omega
theorem lastN_lastN (m n : Nat) (xs : List α) : lastN m (lastN n xs) = lastN (min m n) xs := by
  unfold lastN
  rw [List.drop_drop, List.length_drop]
  congr 1
  omega
theorem lastN_append {n : Nat} (xs ys : List α) (h : n ≤ ys.length) : lastN n (xs ++ ys) = lastN n ys := by
  unfold lastN
  rw [List.length_append, List.drop_append, show xs.length + ys.length - n - xs.length = ys.length - n by omega, List.drop_eq_nil_of_le (by omega), List.nil_append]
theorem lastN_append' {n : Nat} (xs ys : List α) (h : ys.length ≤ n) : lastN n (xs ++ ys) = lastN (n - ys.length) xs ++ ys := by
  unfold lastN
  rw [List.length_append, List.drop_append_of_le_length (by omega)]
  congr 2
  omega
theorem lastN_mem {n : Nat} {xs : List α} {x : α} (h : x ∈ lastN n xs) : x ∈ xs := List.mem_of_mem_drop h
/-- what is at windows of t rows, t - 1 rows, .., 1 row -/
def W : Nat → (Nat → α) → List α
  | 0, _ => []
  | t + 1, g => g (t + 1) :: W t g
theorem W_snoc (g : Nat → α) : ∀ (t : Nat), W t g ++ [g 0] = W (t + 1) fun n => g (n - 1)
  | 0 => rfl
  | t + 1 => by
    rw [W, List.cons_append, W_snoc g t]
    rfl
theorem W_map (g : Nat → α) (f : α → β) : ∀ (t : Nat), (W t g).map f = W t fun n => f (g n)
  | 0 => rfl
  | t + 1 => by rw [W, List.map_cons, W_map g f t]; rfl
theorem W_congr {g h : Nat → α} : ∀ {t : Nat}, (∀ n, 1 ≤ n → n ≤ t → g n = h n) → W t g = W t h
  | 0, _ => rfl
  | t + 1, e => by rw [W, W, e (t + 1) (by omega) (Nat.le_refl _), W_congr fun n h1 h2 => e n h1 (by omega)]
theorem W_const (x : α) : ∀ (t : Nat), W t (fun _ => x) = List.replicate t x
  | 0 => rfl
  | t + 1 => by rw [W, W_const x t, List.replicate_succ]
@[simp] theorem W_length (g : Nat → α) : ∀ (t : Nat), (W t g).length = t
  | 0 => rfl
  | t + 1 => by rw [W, List.length_cons, W_length g t]
theorem W_inj {g h : Nat → α} : ∀ {t : Nat}, W t g = W t h ↔ ∀ n, 1 ≤ n → n ≤ t → g n = h n
  | 0 => by simp [W]; omega
  | t + 1 => by
    simp only [W, List.cons.injEq, W_inj (t := t)]
    constructor
    · rintro ⟨a, b⟩ n h1 h2
      by_cases e : n = t + 1
      · rw [e]; exact a
      · exact b n h1 (by omega)
    · intro a
      exact ⟨a _ (by omega) (Nat.le_refl _), fun n h1 h2 => a n h1 (by omega)⟩
theorem W_mem {g : Nat → α} {x : α} : ∀ {t : Nat}, x ∈ W t g → ∃ n, 1 ≤ n ∧ n ≤ t ∧ x = g n
  | 0, h => by simp [W] at h
  | t + 1, h => by
    rw [W, List.mem_cons] at h
    rcases h with h | h
    · exact ⟨t + 1, by omega, Nat.le_refl _, h⟩
    · obtain ⟨n, h1, h2, h3⟩ := W_mem h
      exact ⟨n, h1, by omega, h3⟩
end
/-! ### cuts -/
theorem cut_from {α : Type} (xs : List α) (n : Nat) : cutL xs (some (n : Int)) none = xs.drop n := by
  unfold cutL HT.sIx
  simp only [Int.toNat_natCast, if_neg (show ¬ (n : Int) < 0 by omega)]
  by_cases h : n ≤ xs.length
  · rw [Nat.min_eq_left h]
    exact List.take_of_length_le (by simp)
  · rw [Nat.min_eq_right (by omega), List.drop_eq_nil_of_le (Nat.le_refl _), List.drop_eq_nil_of_le (by omega)]
    simp
theorem cut_to {α : Type} (xs : List α) (n : Nat) : cutL xs none (some (n : Int)) = xs.take n := by
  unfold cutL HT.sIx
  simp only [Int.toNat_natCast, if_neg (show ¬ (n : Int) < 0 by omega), Nat.sub_zero, List.drop_zero]
  by_cases h : n ≤ xs.length
  · rw [Nat.min_eq_left h]
  · rw [Nat.min_eq_right (by omega), List.take_of_length_le (Nat.le_refl _), List.take_of_length_le (by omega)]
theorem cut_last {α : Type} (xs : List α) (n : Nat) (h : 0 < n) : cutL xs (some (-(n : Int))) none = lastN n xs := by
  unfold cutL HT.sIx lastN
  simp only [if_pos (show -(n : Int) < 0 by omega)]
  rw [show (-(n : Int) + (xs.length : Int)).toNat = xs.length - n by omega]
  exact List.take_of_length_le (by simp)
theorem cut_mid {α : Type} (xs : List α) (m n : Nat) : cutL xs (some (m : Int)) (some (n : Int)) = (xs.drop m).take (n - m) := by
  unfold cutL HT.sIx
  simp only [Int.toNat_natCast, if_neg (show ¬ (n : Int) < 0 by omega), if_neg (show ¬ (m : Int) < 0 by omega)]
  by_cases h : m ≤ xs.length
  · rw [Nat.min_eq_left h]
    by_cases h2 : n ≤ xs.length
    · rw [Nat.min_eq_left h2]
    · rw [Nat.min_eq_right (by omega), List.take_of_length_le (by simp), List.take_of_length_le (by rw [List.length_drop]; omega)]
  · rw [List.drop_eq_nil_of_le (i := min m xs.length) (by omega), List.drop_eq_nil_of_le (i := m) (by omega)]
    simp
@[simp] theorem dSl_lst (xs : List D) (a b : Option Int) : dSl (.lst xs) a b = .ok (.lst (cutL xs a b)) := rfl
@[simp] theorem dSl_tup (xs : List D) (a b : Option Int) : dSl (.tup xs) a b = .ok (.tup (cutL xs a b)) := rfl
@[simp] theorem cut_from1 {α : Type} (xs : List α) : cutL xs (some 1) none = xs.drop 1 := cut_from xs 1
theorem dMul_one (x : D) (n : Nat) (h : n ≤ 1000) : dMul (.tup [x]) (.int n) = .ok (.tup (List.replicate n x)) := by
  show (if _ then _ else _) = _
  rw [if_pos ⟨by simp, by omega, by omega, by simp⟩, Int.toNat_natCast]
  simp
/-! ### what is gathered -/
def oE : Option Int → D
  | none => .non
  | some i => .int i
@[simp] theorem oE_none : oE none = .non := rfl
@[simp] theorem oE_some (i : Int) : oE (some i) = .int i := rfl
theorem oE_inj {a b : Option Int} : oE a = oE b ↔ a = b := by
  cases a <;> cases b <;> simp [oE]
@[simp] theorem oE_sim (a : Option Int) : (oE a).sim = true := by cases a <;> rfl
@[simp] theorem oE_dep (a : Option Int) : (oE a).dep = 0 := by cases a <;> rfl
def Wd.ms : Wd → Bool
  | .many => true
  | .sum => true
  | _ => false
/-- gathered by one number -/
def Wd.gat : Wd → Bool
  | .second => false
  | .kinds => false
  | .run => false
  | _ => true
def Wd.zero (w : Wd) : Option Int := if w.ms = true then some 0 else none
def omax (a : Option Int) (n : Int) : Option Int := match a with
  | none => some n
  | some o => some (max o n)
def omin (a : Option Int) (n : Int) : Option Int := match a with
  | none => some n
  | some o => some (min o n)
def joinO (q : Qn) (old : Option Int) (r : Rw) : Option Int :=
  if q.sees r = true then match q.w with
    | .many => old.map (· + 1)
    | .sum => old.map (· + r.n)
    | .most => omax old r.n
    | .least => omin old r.n
    | _ => some r.n
  else old
def agg (q : Qn) (rs : List Rw) : Option Int := rs.foldl (joinO q) q.w.zero
theorem agg_snoc (q : Qn) (rs : List Rw) (r : Rw) : agg q (rs ++ [r]) = joinO q (agg q rs) r := by unfold agg; rw [List.foldl_append]; rfl
theorem ms_in (w : Wd) : dIn (.str w.s) (.tup [.str "many", .str "sum"]) = .ok (.bl w.ms) := by cases w <;> kernel_rfl
@[simp] theorem w_many (w : Wd) : (w.s == ("many" : Str)) = decide (w = .many) := by cases w <;> decide
@[simp] theorem w_most (w : Wd) : (w.s == ("most" : Str)) = decide (w = .most) := by cases w <;> decide
@[simp] theorem w_least (w : Wd) : (w.s == ("least" : Str)) = decide (w = .least) := by cases w <;> decide
@[simp] theorem w_second (w : Wd) : (w.s == ("second" : Str)) = decide (w = .second) := by cases w <;> decide
@[simp] theorem w_kinds (w : Wd) : (w.s == ("kinds" : Str)) = decide (w = .kinds) := by cases w <;> decide
@[simp] theorem w_run (w : Wd) : (w.s == ("run" : Str)) = decide (w = .run) := by cases w <;> decide
@[simp] theorem w_last (w : Wd) : (w.s == ("last" : Str)) = decide (w = .last) := by cases w <;> decide
@[simp] theorem w_sum (w : Wd) : (w.s == ("sum" : Str)) = decide (w = .sum) := by cases w <;> decide
@[simp] theorem q_ix0 (q : Qn) : dIx q.e (.int 0) = .ok (.str q.w.s) := by simp [Qn.e]
@[simp] theorem q_ix1 (q : Qn) : dIx q.e (.int 1) = .ok (.str q.m.txt) := by simp [Qn.e]
@[simp] theorem q_ix2 (q : Qn) : dIx q.e (.int 2) = .ok (.int q.lo) := by simp [Qn.e]
@[simp] theorem q_ix3 (q : Qn) : dIx q.e (.int 3) = .ok (.int q.hi) := by simp [Qn.e]
@[simp] theorem q_ix4 (q : Qn) : dIx q.e (.int 4) = .ok (.int q.s) := by simp [Qn.e]
@[simp] theorem r_ix0 (r : Rw) : dIx r.e (.int 0) = .ok (.str (kS r.k)) := by simp [Rw.e]
@[simp] theorem r_ix1 (r : Rw) : dIx r.e (.int 1) = .ok (.int r.n) := by simp [Rw.e]
theorem m_greater (a : Option Int) (n : Int) : d_greater [oE a, .int n] = .ok (oE (omax a n)) := by cases a <;> simp [d_greater, omax]
theorem m_lesser (a : Option Int) (n : Int) : d_lesser [oE a, .int n] = .ok (oE (omin a n)) := by cases a <;> simp [d_lesser, omin]
theorem m_part_of (q : Qn) (r : Rw) : d_part_of [q.e, r.e] = .ok (.int (if q.sees r = true then if q.w = .many then 1 else r.n else 0)) := by
  simp [d_part_of]
  cases q.sees r <;> simp
  by_cases h : q.w = .many <;> simp [h]
theorem m_nothing (q : Qn) : d_nothing [q.e] = .ok (oE q.w.zero) := by
  simp [d_nothing, ms_in, Wd.zero]
  cases q.w.ms <;> simp
theorem m_joined (q : Qn) (old : Option Int) (r : Rw) (hg : q.w.gat = true) (ho : q.w.ms = true → old ≠ none) : d_joined [q.e, oE old, r.e] = .ok (oE (joinO q old r)) := by
  simp [d_joined, ms_in, m_part_of]
  cases hw : q.w <;> simp [Wd.ms, hw, Wd.gat] at hg ho ⊢
  · obtain ⟨o, rfl⟩ := Option.ne_none_iff_exists'.mp ho
    simp [joinO, hw]
    cases q.sees r <;> simp
  · obtain ⟨o, rfl⟩ := Option.ne_none_iff_exists'.mp ho
    simp [joinO, hw]
    cases q.sees r <;> simp
  all_goals (simp [joinO, hw]; cases q.sees r <;> simp [m_greater, m_lesser])
end JK

/-! Mir4 -/
set_option Elab.async false
set_option linter.all false
set_option maxRecDepth 100000
set_option autoImplicit false
namespace JK
open PySem PySem.Spec PyProof.Rows L2
/-! ### keeps of one number -/
/-- the keep of a question: by what is at each window -/
def gatK (q : Qn) (rs : List Rw) : List (Option Int) := if q.s = 0 then [agg q rs] else W q.s fun n => agg q (lastN n rs)
def gatE (l : List (Option Int)) : D := .tup (l.map oE)
theorem agg_some {q : Qn} (h : q.w.ms = true) (rs : List Rw) : agg q rs ≠ none := by
  suffices ∀ o : Option Int, o ≠ none → rs.foldl (joinO q) o ≠ none by
    apply this; unfold Wd.zero; rw [h]; simp
  induction rs with
  | nil => exact fun o h => h
  | cons r rs ih =>
    intro o ho
    refine ih _ ?_
    obtain ⟨x, rfl⟩ := Option.ne_none_iff_exists'.mp ho
    unfold joinO
    split
    · cases hw : q.w <;> simp [Wd.ms, hw] at h ⊢
    · simp
theorem max1 (n : Nat) : max 1 (n : Int) = ((max 1 n : Nat) : Int) := by omega
theorem m_start {q : Qn} (h : q.ok) : d_start [q.e] = .ok (gatE (gatK q [])) := by
  have h5 := h.s
  simp [d_start, m_nothing, max1]
  rw [dMul_one _ _ (by omega)]
  simp [gatE, gatK]
  by_cases hs : q.s = 0
  · simp [hs, agg]
  · simp [hs, agg, W_const]
    rw [show max 1 q.s = q.s by omega]
theorem m_after_l {q : Qn} (hg : q.w.gat = true) (l : List (Option Int)) (r : Rw) (hl : ∀ o ∈ l, q.w.ms = true → o ≠ none) (hz : l.length ≤ 1000) :
    d_after [q.e, gatE l, r.e] = .ok (gatE ((if q.s = 0 then l else l.drop 1 ++ [q.w.zero]).map fun o => joinO q o r)) := by
  have key : ∀ (k : D) (l : List (Option Int)), (∀ o ∈ l, q.w.ms = true → o ≠ none) →
      cLoop (gN 4) tYesD (eCall d_joined (aCons (eName 0) (aCons (eName 4) (aCons (eName 2) aNil)))) [.val q.e, .val k, .val r.e, .val (.tup (l.map oE)), .emp] (l.map oE) = .ok (l.map fun o => oE (joinO q o r)) := by
    intro k l hl
    refine cLoop_all fun o ho => ⟨_, rfl, ?_⟩
    simp [m_joined q o r hg (hl o ho)]
  by_cases hs : q.s = 0
  · simp [d_after, hs, gatE, key _ l hl]
  · have hs' : ¬ ((q.s : Int) = 0) := by omega
    have e1 : (l.map oE).drop 1 ++ [oE q.w.zero] = (l.drop 1 ++ [q.w.zero]).map oE := by simp
    have k2 := key (.tup (l.map oE)) (l.drop 1 ++ [q.w.zero]) (by
      intro o ho h
      rw [List.mem_append, List.mem_singleton] at ho
      rcases ho with ho | rfl
      · exact hl o (List.mem_of_mem_drop ho) h
      · unfold Wd.zero; rw [h]; simp)
    simp [d_after, m_nothing, hs, gatE, -List.drop_one]
    rw [dAdd_tup _ _ (by simp; omega), e1]
    simp [k2, -List.drop_one, -List.map_append]
    simp [Function.comp_def, -List.drop_one]
theorem m_after {q : Qn} (hg : q.w.gat = true) (hq : q.ok) (rs : List Rw) (r : Rw) : d_after [q.e, gatE (gatK q rs), r.e] = .ok (gatE (gatK q (rs ++ [r]))) := by
  have h5 := hq.s
  rw [m_after_l hg]
  · congr 2
    unfold gatK
    by_cases hs : q.s = 0
    · simp [hs, agg_snoc]
    · obtain ⟨t, ht⟩ : ∃ t, q.s = t + 1 := ⟨q.s - 1, by omega⟩
      rw [if_neg hs, if_neg hs, if_neg hs, ht]
      have e : (W (t + 1) fun n => agg q (lastN n rs)).drop 1 ++ [q.w.zero] = W (t + 1) fun n => agg q (lastN (n - 1) rs) := by
        have := W_snoc (fun n => agg q (lastN n rs)) t
        rw [← this, lastN_zero]; rfl
      rw [e, W_map]
      refine W_congr fun n h1 h2 => ?_
      obtain ⟨m, rfl⟩ : ∃ m, n = m + 1 := ⟨n - 1, by omega⟩
      rw [lastN_snoc, agg_snoc]; rfl
  · intro o ho h
    unfold gatK at ho
    split at ho
    · simp at ho; subst ho; exact agg_some h _
    · obtain ⟨n, _, _, rfl⟩ := W_mem ho; exact agg_some h _
  · unfold gatK; split <;> simp; omega
/-! ### the greatest two -/
abbrev Pr := Option Int × Option Int
def prE (p : Pr) : D := .tup [oE p.1, oE p.2]
def top2 (p : Pr) (n : Int) : Pr := match p.1 with
  | none => (some n, none)
  | some f => if f < n then (some n, some f) else (some f, omax p.2 n)
def stepP (q : Qn) (p : Pr) (r : Rw) : Pr := if q.sees r = true then top2 p r.n else p
def pr (q : Qn) (rs : List Rw) : Pr := rs.foldl (stepP q) (none, none)
theorem pr_snoc (q : Qn) (rs : List Rw) (r : Rw) : pr q (rs ++ [r]) = stepP q (pr q rs) r := by unfold pr; rw [List.foldl_append]; rfl
theorem m_top_two (p : Pr) (n : Int) (h : p.1 = none → p.2 = none) : d_top_two [prE p, .int n] = .ok (prE (top2 p n)) := by
  obtain ⟨a, b⟩ := p
  cases a with
  | none => cases h rfl; simp [d_top_two, prE, top2]
  | some f =>
    simp [d_top_two, prE, top2]
    by_cases h : f < n <;> simp [h, m_greater]
theorem pr_nn (q : Qn) (rs : List Rw) : (pr q rs).1 = none → (pr q rs).2 = none := by
  suffices ∀ p : Pr, (p.1 = none → p.2 = none) → ((rs.foldl (stepP q) p).1 = none → (rs.foldl (stepP q) p).2 = none) from this _ (fun _ => rfl)
  induction rs with
  | nil => exact fun p h => h
  | cons r rs ih =>
    intro p h
    refine ih _ ?_
    unfold stepP top2
    split
    · cases p.1 with
      | none => simp
      | some f => by_cases h : f < r.n <;> simp [h]
    · exact h
inductive SecK where
  | all (p : Pr)
  | win (a : Option Int) (l : List Pr)
def SecK.e : SecK → D
  | .all p => prE p
  | .win a l => .tup [oE a, .tup (l.map prE)]
def secK (q : Qn) (rs : List Rw) : SecK := if q.s = 0 then .all (pr q rs) else .win (pr q (lastN q.s rs)).2 (W (q.s - 1) fun n => pr q (lastN n rs))
theorem m_two_start {q : Qn} (h : q.ok) : d_two_start [q.e] = .ok (secK q []).e := by
  have h5 := h.s
  by_cases hs : q.s = 0
  · simp [d_two_start, hs, secK, SecK.e, prE, pr]
  · simp [d_two_start, hs, secK, SecK.e, pr, W_const]
    rw [show ((q.s : Int) - 1) = ((q.s - 1 : Nat) : Int) by omega, dMul_one _ _ (by omega)]
    simp [prE]
theorem m_two_after {q : Qn} (hq : q.ok) (rs : List Rw) (r : Rw) : d_two_after [q.e, (secK q rs).e, r.e] = .ok (secK q (rs ++ [r])).e := by
  have h5 := hq.s
  by_cases hs : q.s = 0
  · simp [d_two_after, hs, secK, SecK.e, pr_snoc, stepP, m_top_two _ _ (pr_nn q rs)]
    cases q.sees r <;> simp
  · obtain ⟨t, ht⟩ : ∃ t, q.s = t + 1 := ⟨q.s - 1, by omega⟩
    have e : ∀ (l : List Pr), (l.map prE) ++ [D.tup [D.non, D.non]] = (l ++ [((none, none) : Pr)]).map prE := by intro l; simp [prE]
    have e2 := W_snoc (fun n => pr q (lastN n rs)) t
    rw [lastN_zero] at e2
    have key : ∀ (k : D) (l : List Pr), (∀ p ∈ l, p.1 = none → p.2 = none) → l.length ≤ 1000 → ∃ z, sLoop (gN 4) (sApp 3 (eIf (tTru (eCall d_sees (aCons (eName 0) (aCons (eName 2) aNil)))) (eCall d_top_two (aCons (eName 4) (aCons (eBin dIx (eName 2) (eC (.int 1))) aNil))) (eName 4))) (l.map prE) [.val q.e, .val k, .val r.e, .own [], .emp] = .nx [.val q.e, .val k, .val r.e, .own (l.map fun p => prE (stepP q p r)), z] := by
      intro k l hl hz
      have := sLoop_inv (g := gN 4) (F := sApp 3 (eIf (tTru (eCall d_sees (aCons (eName 0) (aCons (eName 2) aNil)))) (eCall d_top_two (aCons (eName 4) (aCons (eBin dIx (eName 2) (eC (.int 1))) aNil))) (eName 4))) (f := prE)
        (fun done => [.val q.e, .val k, .val r.e, .own (done.map fun p => prE (stepP q p r)), (done.getLast?.map fun x => Slot.val (prE x)).getD .emp]) (done := []) l ?_
      · exact ⟨_, by simpa using this⟩
      · intro a b x e
        refine ⟨_, rfl, ?_⟩
        have hx := hl x (by rw [List.nil_append] at e; rw [e]; simp)
        have hlen : a.length < 1000000 := by
          have := congrArg List.length e
          simp at this; omega
        simp [hlen, stepP, m_top_two _ _ hx]
        cases q.sees r <;> simp
    have k2 : ∀ k, _ := fun k => key k (W t (fun n => pr q (lastN n rs)) ++ [(none, none)]) (by
      intro p hp
      rw [List.mem_append, List.mem_singleton] at hp
      rcases hp with hp | rfl
      · obtain ⟨n, _, _, rfl⟩ := W_mem hp; exact pr_nn q _
      · exact fun _ => rfl) (by simp; omega)
    simp only [secK, if_neg hs, SecK.e]
    have e3 : ∀ n, 1 ≤ n → stepP q (pr q (lastN (n - 1) rs)) r = pr q (lastN n (rs ++ [r])) := by
      intro n hn
      obtain ⟨m, rfl⟩ : ∃ m, n = m + 1 := ⟨n - 1, by omega⟩
      rw [lastN_snoc, pr_snoc]; rfl
    have e4 : (W t (fun n => pr q (lastN n rs)) ++ [((none, none) : Pr)]).map (fun p => prE (stepP q p r)) = prE (pr q (lastN q.s (rs ++ [r]))) :: (W t fun n => prE (pr q (lastN n (rs ++ [r])))) := by
      rw [show W t (fun n => pr q (lastN n rs)) ++ [((none, none) : Pr)] = _ from e2, W_map, ht]
      show W (t + 1) _ = W (t + 1) (fun n => prE (pr q (lastN n (rs ++ [r]))))
      exact W_congr fun n h1 h2 => by rw [e3 n h1]
    obtain ⟨z, hz⟩ := k2 (.tup [oE (pr q (lastN q.s rs)).2, .tup ((W (q.s - 1) fun n => pr q (lastN n rs)).map prE)])
    rw [e4] at hz
    simp [d_two_after, hs]
    rw [dAdd_tup _ _ (by simp; omega)]
    rw [show q.s - 1 = t by omega] at hz ⊢
    rw [e]
    simp only [bT_ok, dItems_tup, lT_ok]
    rw [hz]
    simp [W_map, prE]
end JK

/-! Mir5 -/
set_option Elab.async false
set_option linter.all false
set_option maxRecDepth 100000
set_option autoImplicit false
namespace JK
open PySem PySem.Spec PyProof.Rows L2
/-! ### kinds -/
abbrev mk0 : Mk := ⟨false, false, false, false⟩
theorem txt0 : mk0.txt = ("" : Str) := by decide
theorem has_add (m : Mk) (k j : Fin 4) : (m.add k).has j = (m.has j || decide (j = k)) := by
  revert k j; exact mk_all (p := fun m => ∀ k j, (m.add k).has j = (m.has j || decide (j = k))) (by decide) m
theorem kS_eq (a b : Fin 4) : (kS a == kS b) = decide (a = b) := by revert a b; decide
theorem m_with_key (m : Mk) (k : Fin 4) : d_with_key [.str m.txt, .str (kS k)] = .ok (.str (m.add k).txt) := by
  have hj := join_txt (m.add k)
  unfold Mk.keys at hj
  simp [d_with_key, v_KEYS, signs_abcd]
  rw [cLoop_map (p := (m.add k).has) (o := fun k => .str (kS k))]
  · simp [hj]
  · intro j _
    refine ⟨_, rfl, ?_, fun _ => by simp⟩
    simp [in_txt, has_add, kS_eq]
    cases m.has j <;> simp
def stepM (q : Qn) (m : Mk) (r : Rw) : Mk := if q.sees r = true then m.add r.k else m
def ms (q : Qn) (rs : List Rw) : Mk := rs.foldl (stepM q) mk0
theorem ms_snoc (q : Qn) (rs : List Rw) (r : Rw) : ms q (rs ++ [r]) = stepM q (ms q rs) r := by unfold ms; rw [List.foldl_append]; rfl
inductive KinK where
  | all (m : Mk)
  | win (n : Nat) (l : List Mk)
def mkE (m : Mk) : D := .str m.txt
def KinK.e : KinK → D
  | .all m => mkE m
  | .win n l => .tup [.int n, .tup (l.map mkE)]
def kinK (q : Qn) (rs : List Rw) : KinK := if q.s = 0 then .all (ms q rs) else .win (ms q (lastN q.s rs)).card (W (q.s - 1) fun n => ms q (lastN n rs))
theorem m_kinds_start {q : Qn} (h : q.ok) : d_kinds_start [q.e] = .ok (kinK q []).e := by
  have h5 := h.s
  by_cases hs : q.s = 0
  · simp [d_kinds_start, hs, kinK, KinK.e, mkE, ms, txt0]
  · simp [d_kinds_start, hs, kinK, KinK.e, ms, W_const]
    rw [show ((q.s : Int) - 1) = ((q.s - 1 : Nat) : Int) by omega, dMul_one _ _ (by omega)]
    simp [mkE, txt0, show mk0.card = 0 from rfl]
theorem m_kinds_after {q : Qn} (hq : q.ok) (rs : List Rw) (r : Rw) : d_kinds_after [q.e, (kinK q rs).e, r.e] = .ok (kinK q (rs ++ [r])).e := by
  have h5 := hq.s
  by_cases hs : q.s = 0
  · simp [d_kinds_after, hs, kinK, KinK.e, ms_snoc, stepM, mkE, m_with_key]
    cases q.sees r <;> simp
  · obtain ⟨t, ht⟩ : ∃ t, q.s = t + 1 := ⟨q.s - 1, by omega⟩
    have e : ∀ (l : List Mk), (l.map mkE) ++ [D.str ""] = (l ++ [mk0]).map mkE := by intro l; simp [mkE, txt0]
    have e2 := W_snoc (fun n => ms q (lastN n rs)) t
    rw [lastN_zero] at e2
    have key : ∀ (k : D) (l : List Mk), cLoop (gN 5) tYesD (eIf (tTru (eName 3)) (eCall d_with_key (aCons (eName 5) (aCons (eBin dIx (eName 2) (eC (.int 0))) aNil))) (eName 5)) [.val q.e, .val k, .val r.e, .val (.bl (q.sees r)), .emp, .emp] (l.map mkE) = .ok (l.map fun p => mkE (stepM q p r)) := by
      intro k l
      refine cLoop_all fun o ho => ⟨_, rfl, ?_⟩
      simp [mkE, m_with_key, stepM]
      cases q.sees r <;> simp
    simp only [kinK, if_neg hs, KinK.e]
    have e3 : ∀ n, 1 ≤ n → stepM q (ms q (lastN (n - 1) rs)) r = ms q (lastN n (rs ++ [r])) := by
      intro n hn
      obtain ⟨m, rfl⟩ : ∃ m, n = m + 1 := ⟨n - 1, by omega⟩
      rw [lastN_snoc, ms_snoc]; rfl
    have e4 : (W t (fun n => ms q (lastN n rs)) ++ [mk0]).map (fun p => mkE (stepM q p r)) = mkE (ms q (lastN q.s (rs ++ [r]))) :: (W t fun n => mkE (ms q (lastN n (rs ++ [r])))) := by
      rw [show W t (fun n => ms q (lastN n rs)) ++ [mk0] = _ from e2, W_map, ht]
      show W (t + 1) _ = W (t + 1) (fun n => mkE (ms q (lastN n (rs ++ [r]))))
      exact W_congr fun n h1 h2 => by rw [e3 n h1]
    have hz := key (.tup [.int (ms q (lastN q.s rs)).card, .tup ((W (q.s - 1) fun n => ms q (lastN n rs)).map mkE)]) (W t (fun n => ms q (lastN n rs)) ++ [mk0])
    rw [e4] at hz
    simp [d_kinds_after, hs]
    rw [dAdd_tup _ _ (by simp; omega)]
    rw [show q.s - 1 = t by omega] at hz ⊢
    rw [e]
    simp only [bT_ok, dItems_tup]
    rw [hz]
    simp [W_map, mkE]
/-! ### run -/
/-- the run at the end: its key, its length -/
abbrev Er := Option (Fin 4) × Nat
def stepE (q : Qn) (e : Er) (r : Rw) : Er := if q.sees r = true then (some r.k, if e.1 = some r.k then e.2 + 1 else 1) else (none, 0)
def er (q : Qn) (rs : List Rw) : Er := rs.foldl (stepE q) (none, 0)
theorem er_snoc (q : Qn) (rs : List Rw) (r : Rw) : er q (rs ++ [r]) = stepE q (er q rs) r := by unfold er; rw [List.foldl_append]; rfl
/-- the longest run -/
def stepL (q : Qn) (x : Nat × Er) (r : Rw) : Nat × Er := (max x.1 (stepE q x.2 r).2, stepE q x.2 r)
def lre (q : Qn) (rs : List Rw) : Nat × Er := rs.foldl (stepL q) (0, none, 0)
def lr (q : Qn) (rs : List Rw) : Nat := (lre q rs).1
theorem lre_snoc (q : Qn) (rs : List Rw) (r : Rw) : lre q (rs ++ [r]) = stepL q (lre q rs) r := by unfold lre; rw [List.foldl_append]; rfl
theorem snoc_ind {α : Type} {p : List α → Prop} (h0 : p []) (h1 : ∀ xs x, p xs → p (xs ++ [x])) (xs : List α) : p xs := by
  have : ∀ ys : List α, p ys.reverse := by
    intro ys
    induction ys with
    | nil => exact h0
    | cons y ys ih => rw [List.reverse_cons]; exact h1 _ _ ih
  have := this xs.reverse
  rwa [List.reverse_reverse] at this
theorem lre_er (q : Qn) (rs : List Rw) : (lre q rs).2 = er q rs := by
  induction rs using snoc_ind with
  | h0 => rfl
  | h1 xs x ih => rw [lre_snoc, er_snoc, ← ih]; rfl
theorem lr_snoc (q : Qn) (rs : List Rw) (r : Rw) : lr q (rs ++ [r]) = max (lr q rs) (er q (rs ++ [r])).2 := by
  unfold lr; rw [lre_snoc, er_snoc, ← lre_er]; rfl
theorem er_zero (q : Qn) (rs : List Rw) : ((er q rs).1 = none ↔ (er q rs).2 = 0) := by
  induction rs using snoc_ind with
  | h0 => simp [er]
  | h1 xs x ih =>
    rw [er_snoc]
    unfold stepE
    split
    · simp; split <;> omega
    · simp
theorem er_last (q : Qn) (n : Nat) (rs : List Rw) : er q (lastN n rs) = (if min (er q rs).2 n = 0 then none else (er q rs).1, min (er q rs).2 n) := by
  induction rs using snoc_ind generalizing n with
  | h0 => simp [er]
  | h1 xs x ih =>
    cases n with
    | zero => simp [er]
    | succ n =>
      rw [lastN_snoc, er_snoc, er_snoc, ih n]
      have hz := er_zero q xs
      unfold stepE
      by_cases hs : q.sees x = true
      · simp only [hs, if_true]
        by_cases hk : (er q xs).1 = some x.k
        · have h2 : (er q xs).2 ≠ 0 := fun z => by rw [hz.mpr z] at hk; cases hk
          simp only [hk, if_true]
          by_cases hm : min (er q xs).2 n = 0
          · have : n = 0 := by omega
            subst this
            simp
          · simp only [if_neg hm, if_true, Prod.mk.injEq]
            rw [if_neg (by omega)]
            exact ⟨rfl, by omega⟩
        · simp only [hk, if_false]
          have : (if min (er q xs).2 n = 0 then none else (er q xs).1) ≠ some x.k := by split <;> simp [hk]
          simp only [this, if_false, Prod.mk.injEq]
          rw [if_neg (by omega)]
          exact ⟨rfl, by omega⟩
      · simp only [hs]
        simp
def keyS : Option (Fin 4) → Str
  | none => ""
  | some k => kS k
theorem keyS_eq (k : Fin 4) (o : Option (Fin 4)) : (kS k == keyS o) = decide (o = some k) := by
  cases o with
  | none => revert k; decide
  | some j => revert k j; decide
theorem keyS_inj {a b : Option (Fin 4)} : keyS a = keyS b ↔ a = b := by
  cases a with
  | none =>
    cases b with
    | none => simp
    | some j => revert j; decide
  | some i =>
    cases b with
    | none => revert i; decide
    | some j => revert i j; decide
def nE (n : Nat) : D := .int (n : Int)
structure RunK where
  l : List Nat
  r : Er
deriving DecidableEq
def RunK.e (k : RunK) : D := .tup [.tup (k.l.map nE), .str (keyS k.r.1), .int (k.r.2 : Int)]
def runK (q : Qn) (rs : List Rw) : RunK := if q.s = 0 then ⟨[lr q rs], er q rs⟩ else ⟨W q.s fun n => lr q (lastN n rs), er q (lastN (q.s - 1) rs)⟩
theorem lr_nil (q : Qn) : lr q [] = 0 := rfl
theorem er_nil (q : Qn) : er q [] = (none, 0) := rfl
theorem m_run_start {q : Qn} (h : q.ok) : d_run_start [q.e] = .ok (runK q []).e := by
  have h5 := h.s
  simp [d_run_start, max1]
  rw [dMul_one _ _ (by omega)]
  simp [RunK.e, runK]
  by_cases hs : q.s = 0
  · simp [hs, lr_nil, er_nil, keyS, nE]
  · simp [hs, lr_nil, er_nil, keyS, W_const, nE]
    omega
theorem enum_loop (F : D → D) (base : List D) (ρ : List D → Slot → Slot → Env) (G : Sx) (g : Gx) (sp : Nat) (h : Nat → Nat) (mm : Nat) (out : Nat → Nat)
    (step : ∀ acc a b j n, j + n = sp → 1 ≤ n → acc.length < 1000 → ∃ ρ1, g (.tup [.int (j : Int), nE (h n)]) (ρ acc a b) = .ok ρ1 ∧ G ρ1 = .nx (ρ (acc ++ [nE (out n)]) (.val (.int j)) (.val (nE (h n))))) :
    ∀ (t j : Nat) (acc : List D) (a b : Slot), j + t = sp → acc.length + t < 1000 → ∃ a' b', sLoop g G (enumL j ((W t h).map nE)) (ρ acc a b) = .nx (ρ (acc ++ (W t out).map nE) a' b') := by
  intro t
  induction t with
  | zero => intro j acc a b _ _; exact ⟨a, b, by simp [W, enumL, sLoop]⟩
  | succ t ih =>
    intro j acc a b hj hz
    obtain ⟨ρ1, h1, h2⟩ := step acc a b j (t + 1) hj (by omega) (by omega)
    simp only [W, List.map_cons, enumL]
    rw [sLoop]
    simp only [h1, h2]
    obtain ⟨a', b', e⟩ := ih (j + 1) (acc ++ [nE (out (t + 1))]) (.val (.int j)) (.val (nE (h (t + 1)))) (by omega) (by simp; omega)
    refine ⟨a', b', ?_⟩
    rw [e]
    simp
def runTail : Sx := (sSeq (sIf (tOf (eBin dEq (eName 6) (eC (.int 0)))) (sRet (eTup (aCons (eTup (aCons (eCall dMax2 (aCons (eBin dIx (eName 3) (eC (.int 0))) (aCons (eName 5) aNil))) aNil)) (aCons (eName 4) (aCons (eName 5) aNil))))) sNil)
    (sSeq (sOwn 8 aNil)
    (sSeq (sFor (aRng dEnum (aCons (eBin dAdd (eSl (eName 3) (oSome (eC (.int 1))) oNone) (eTup (aCons (eC (.int 0)) aNil))) aNil)) (gT (gsCons (gN 9) (gsCons (gN 10) gsNil)))
    (sApp 8 (eCall dMax2 (aCons (eName 10) (aCons (eCall dMin2 (aCons (eName 5) (aCons (eBin dSub (eName 6) (eName 9)) aNil))) aNil)))))
    (sSeq (sSet 5 (eCall dMin2 (aCons (eName 5) (aCons (eBin dSub (eName 6) (eC (.int 1))) aNil))))
    (sRel 8 (sRet (eTup (aCons (eCall dTuple (aCons (eName 8) aNil)) (aCons (eIf (tOf (eBin dGt (eName 5) (eC (.int 0)))) (eName 4) (eC (.str ""))) (aCons (eName 5) aNil))))))))))
theorem run_after_eq : d_run_after = runD 11 3 (sSeq (sAsg (eName 1) (gT (gsCons (gN 3) (gsCons (gN 4) (gsCons (gN 5) gsNil)))))
    (sSeq (sSet 6 (eBin dIx (eName 0) (eC (.int 4))))
    (sSeq (sSet 7 (eCall d_sees (aCons (eName 0) (aCons (eName 2) aNil))))
    (sSeq (sSet 5 (eIf (tNotD (tTru (eName 7))) (eC (.int 0)) (eIf (tOf (eBin dEq (eBin dIx (eName 2) (eC (.int 0))) (eName 4))) (eBin dAdd (eName 5) (eC (.int 1))) (eC (.int 1)))))
    (sSeq (sSet 4 (eIf (tTru (eName 7)) (eBin dIx (eName 2) (eC (.int 0))) (eC (.str ""))))
    runTail))))) := rfl
theorem m_run_tail {q : Qn} (hq : q.ok) (hs : q.s ≠ 0) (rs : List Rw) (k : D) (r : Rw) (K : Str) (M : Nat) (b : Bool) :
    outR (runTail [.val q.e, .val k, .val r.e, .val (.tup ((W q.s fun n => lr q (lastN n rs)).map nE)), .val (.str K), .val (.int (M : Int)), .val (.int (q.s : Int)), .val (.bl b), .emp, .emp, .emp]) =
      .ok (.tup [.tup ((W q.s fun n => max (lr q (lastN (n - 1) rs)) (min M n)).map nE), .str (if min M (q.s - 1) = 0 then "" else K), .int ((min M (q.s - 1) : Nat) : Int)]) := by
  have h5 := hq.s
  obtain ⟨t, ht⟩ : ∃ t, q.s = t + 1 := ⟨q.s - 1, by omega⟩
  have e2 := W_snoc (fun n => lr q (lastN n rs)) t
  rw [lastN_zero, lr_nil] at e2
  obtain ⟨a', b', hl⟩ := enum_loop id [] (fun acc a b' => [.val q.e, .val k, .val r.e, .val (.tup ((W q.s fun n => lr q (lastN n rs)).map nE)), .val (.str K), .val (.int (M : Int)), .val (.int (q.s : Int)), .val (.bl b), .own acc, a, b'])
    (sApp 8 (eCall dMax2 (aCons (eName 10) (aCons (eCall dMin2 (aCons (eName 5) (aCons (eBin dSub (eName 6) (eName 9)) aNil))) aNil)))) (gT (gsCons (gN 9) (gsCons (gN 10) gsNil))) q.s (fun n => lr q (lastN (n - 1) rs)) M (fun n => max (lr q (lastN (n - 1) rs)) (min M n))
    (fun acc a b j n hj h1 hz => by
      refine ⟨_, rfl, ?_⟩
      have : acc.length < 1000000 := by omega
      simp [nE, this]
      omega) q.s 0 [] .emp .emp (by omega) (by simp; omega)
  have e3 : ((W q.s fun n => lr q (lastN n rs)).map nE).drop 1 ++ [D.int 0] = (W q.s fun n => lr q (lastN (n - 1) rs)).map nE := by
    rw [ht, ← e2]
    simp [W, nE]
  have hs' : ¬ (q.s : Int) = 0 := by omega
  simp [runTail, hs, -List.drop_one]
  rw [dAdd_tup _ _ (by simp; omega), e3]
  simp [dEnum, srcs, -List.drop_one]
  simp at hl
  rw [hl]
  have e4 : min (M : Int) ((q.s : Int) - 1) = ((min M (q.s - 1) : Nat) : Int) := by omega
  have e5 : decide ((0 : Int) < ((min M (q.s - 1) : Nat) : Int)) = !decide (min M (q.s - 1) = 0) := by
    by_cases h0 : min M (q.s - 1) = 0
    · rw [h0]; rfl
    · rw [decide_eq_true (by omega), decide_eq_false h0]; rfl
  simp only [nT_nx, sSeq_ap, sSet_ap, eCall_ap, aCons_ap, eName_ap, eBin_ap, eC_ap, aNil_ap, bT_ok, slE_val, List.getElem?_cons_succ, List.getElem?_cons_zero, dSub_int, dMin2_int, rT_ok, e4, List.set_cons_succ, List.set_cons_zero, sRel_ap, slRel_own, sRet_ap, eTup_ap, dTuple_lst, eIf_ap, tOf_ap, dCmpI_int, e5, dBl_bl]
  by_cases h0 : min M (q.s - 1) = 0
  · simp [h0]
    intro a b; omega
  · simp [h0]
    intro a; omega
theorem m_run_after {q : Qn} (hq : q.ok) (rs : List Rw) (r : Rw) : d_run_after [q.e, (runK q rs).e, r.e] = .ok (runK q (rs ++ [r])).e := by
  have h5 := hq.s
  have emany : ∀ (e : Er), (if q.sees r = true then (if e.1 = some r.k then ((e.2 : Int) + 1) else 1) else 0) = (((stepE q e r).2 : Nat) : Int) := by
    intro e
    unfold stepE
    by_cases h1 : q.sees r = true <;> by_cases h2 : e.1 = some r.k <;> simp [h1, h2]
  have ekey : ∀ (e : Er), (if q.sees r = true then kS r.k else ("" : Str)) = keyS (stepE q e r).1 := by
    intro e
    unfold stepE
    by_cases h1 : q.sees r = true <;> simp [h1, keyS]
  by_cases hs : q.s = 0
  · simp only [runK, hs, if_true, RunK.e]
    have e1 := emany (er q rs)
    have e2 := ekey (er q rs)
    rw [lr_snoc, er_snoc]
    simp [d_run_after, hs, keyS_eq]
    by_cases h1 : q.sees r = true <;> by_cases h2 : (er q rs).1 = some r.k <;> simp [h1, h2, nE, stepE, keyS] <;> omega
  · obtain ⟨t, ht⟩ : ∃ t, q.s = t + 1 := ⟨q.s - 1, by omega⟩
    simp only [runK, if_neg hs, RunK.e]
    have e1 : er q (lastN q.s (rs ++ [r])) = stepE q (er q (lastN (q.s - 1) rs)) r := by
      rw [ht, lastN_snoc, er_snoc]; rfl
    have fin : ∀ (M : Nat), M = (er q (lastN q.s (rs ++ [r]))).2 → (W q.s fun n => max (lr q (lastN (n - 1) rs)) (min M n)) = W q.s fun n => lr q (lastN n (rs ++ [r])) := by
      intro M hM
      refine W_congr fun n h1 h2 => ?_
      obtain ⟨m, rfl⟩ : ∃ m, n = m + 1 := ⟨n - 1, by omega⟩
      rw [lastN_snoc, lr_snoc, ← lastN_snoc]
      have e := er_last q (m + 1) (lastN q.s (rs ++ [r]))
      rw [lastN_lastN, Nat.min_eq_left h2] at e
      rw [e, hM]
      rfl
    have fin2 := er_last q (q.s - 1) (lastN q.s (rs ++ [r]))
    rw [lastN_lastN, Nat.min_eq_left (by omega)] at fin2
    have go : ∀ (M : Nat) (K : Str) (b : Bool), M = (er q (lastN q.s (rs ++ [r]))).2 → K = keyS (er q (lastN q.s (rs ++ [r]))).1 → outR (runTail [.val q.e, .val (RunK.e ⟨W q.s fun n => lr q (lastN n rs), er q (lastN (q.s - 1) rs)⟩), .val r.e, .val (.tup ((W q.s fun n => lr q (lastN n rs)).map nE)), .val (.str K), .val (.int (M : Int)), .val (.int (q.s : Int)), .val (.bl b), .emp, .emp, .emp]) = .ok (RunK.e ⟨W q.s fun n => lr q (lastN n (rs ++ [r])), er q (lastN (q.s - 1) (rs ++ [r]))⟩) := by
      intro M K b hM hK
      rw [m_run_tail hq hs, fin M hM, fin2, ← hM]
      subst hK
      unfold RunK.e
      congr 5
      simp only
      split <;> simp [keyS]
    simp only [RunK.e] at go
    rw [run_after_eq]
    have hs' : ¬ (q.s : Int) = 0 := by omega
    rw [e1] at go
    simp [keyS_eq, RunK.e]
    unfold stepE at go
    by_cases h1 : q.sees r = true
    · by_cases h2 : (er q (lastN (q.s - 1) rs)).1 = some r.k
      · simp [h1, h2] at go ⊢
        exact (go _ _).2 rfl rfl
      · simp [h1, h2] at go ⊢
        exact (go _ _).2 rfl rfl
    · simp [h1] at go ⊢
      exact (go _ _).1 rfl rfl
end JK

/-! Mir6 -/
set_option Elab.async false
set_option linter.all false
set_option maxRecDepth 100000
set_option autoImplicit false
namespace JK
open PySem PySem.Spec PyProof.Rows L2
/-! ### the keep of a question, of a plan -/
def kpE (q : Qn) (rs : List Rw) : D := match q.w with
  | .second => (secK q rs).e
  | .kinds => (kinK q rs).e
  | .run => (runK q rs).e
  | _ => gatE (gatK q rs)
theorem m_start_of {q : Qn} (h : q.ok) : d_start_of [q.e] = .ok (kpE q []) := by
  unfold kpE
  cases hw : q.w <;> simp [d_start_of, hw, m_start h, m_two_start h, m_kinds_start h, m_run_start h]
theorem m_after_of {q : Qn} (h : q.ok) (rs : List Rw) (r : Rw) : d_after_of [q.e, kpE q rs, r.e] = .ok (kpE q (rs ++ [r])) := by
  have g := fun hg => m_after (q := q) hg h rs r
  unfold kpE
  cases hw : q.w <;> simp [d_after_of, hw, m_two_after h, m_kinds_after h, m_run_after h] <;> simp [g (by rw [hw]; rfl)]
def keepE (qs : List Qn) (rs : List Rw) : D := .tup (qs.map fun q => kpE q rs)
theorem m_starts_of {qs : List Qn} (h : ∀ q ∈ qs, q.ok) : d_starts_of [ePlan qs] = .ok (keepE qs []) := by
  simp [d_starts_of, ePlan]
  rw [cLoop_all (o := fun q => kpE q [])]
  · simp [keepE]
  · intro q hq
    exact ⟨_, rfl, by simp [m_start_of (h q hq)]⟩
theorem zip_map {α β γ : Type} (f : α → β) (g : α → γ) (h : β → γ → D) : ∀ (xs : List α), List.zipWith h (xs.map f) (xs.map g) = xs.map fun x => h (f x) (g x)
  | [] => rfl
  | x :: xs => by simp [zip_map f g h xs]
theorem m_behind {qs : List Qn} (h : ∀ q ∈ qs, q.ok) (rs : List Rw) (r : Rw) : d_behind [ePlan qs, keepE qs rs, r.e] = .ok (keepE qs (rs ++ [r])) := by
  simp [d_behind, ePlan, keepE, dZip2, srcs, zip_map]
  rw [cLoop_all (o := fun q => kpE q (rs ++ [r]))]
  · simp
  · intro q hq
    exact ⟨_, rfl, by simp [m_after_of (h q hq)]⟩
theorem m_kept_of {qs : List Qn} (h : ∀ q ∈ qs, q.ok) (rs : List Rw) : d_kept_of [ePlan qs, eRows rs] = .ok (keepE qs rs) := by
  simp [d_kept_of, m_starts_of h, eRows]
  have := sLoop_inv (g := gN 3) (F := sSet 2 (eCall d_behind (aCons (eName 0) (aCons (eName 2) (aCons (eName 3) aNil))))) (f := Rw.e)
    (fun done => [.val (ePlan qs), .val (eRows rs), .val (keepE qs done), (done.getLast?.map fun x => Slot.val (Rw.e x)).getD .emp]) (done := []) rs (by
      intro a b x e
      exact ⟨_, rfl, by simp [m_behind h]⟩)
  simp [eRows] at this
  simp [this]
/-! equality of keeps -/
theorem kpE_sim (q : Qn) (rs : List Rw) : (kpE q rs).sim = true := by
  unfold kpE
  cases q.w <;> simp [gatE, D.sim, simL_iff, secK, kinK, runK, RunK.e]
  · have hp : ∀ p : Pr, (prE p).sim = true := fun p => by simp [prE, D.sim, D.simL]
    split
    · exact hp _
    · simp only [SecK.e, D.sim, D.simL, oE_sim, Bool.true_and, Bool.and_true]
      rw [simL_iff]
      intro x hx
      obtain ⟨p, _, rfl⟩ := List.mem_map.mp hx
      exact hp p
  · split <;> simp [KinK.e, mkE, D.sim, D.simL, simL_iff]
  · split <;> simp [D.sim, D.simL, simL_iff, nE]
theorem kpE_dep (q : Qn) (rs : List Rw) : (kpE q rs).dep ≤ 10 := by
  have g1 : ∀ l : List (Option Int), (gatE l).dep ≤ 1 := fun l => by
    unfold gatE; rw [D.dep]
    have := depL_le (n := 0) (l.map oE) (by simp)
    omega
  have g2 : ∀ p : Pr, (prE p).dep ≤ 1 := fun p => by simp [prE, D.dep, D.depL]
  have g3 : ∀ k : SecK, k.e.dep ≤ 3 := fun k => by
    cases k with
    | all p => exact Nat.le_trans (g2 p) (by omega)
    | win a l =>
      have := depL_le (n := 1) (l.map prE) (fun x hx => by obtain ⟨p, _, rfl⟩ := List.mem_map.mp hx; exact g2 p)
      simp [SecK.e, D.dep, D.depL]; omega
  have g4 : ∀ k : KinK, k.e.dep ≤ 3 := fun k => by
    cases k with
    | all p => simp [KinK.e, mkE, D.dep]
    | win a l =>
      have := depL_le (n := 1) (l.map mkE) (by simp [mkE, D.dep])
      simp [KinK.e, D.dep, D.depL]; omega
  have g5 : ∀ k : RunK, k.e.dep ≤ 3 := fun k => by
    have := depL_le (n := 1) (k.l.map nE) (by simp [nE, D.dep])
    simp [RunK.e, D.dep, D.depL]; omega
  unfold kpE
  cases q.w <;> first | exact Nat.le_trans (g1 _) (by omega) | exact Nat.le_trans (g3 _) (by omega) | exact Nat.le_trans (g4 _) (by omega) | exact Nat.le_trans (g5 _) (by omega)
theorem keepE_sim (qs : List Qn) (rs : List Rw) : (keepE qs rs).sim = true := by
  simp [keepE, D.sim, simL_iff]; exact fun q _ => kpE_sim q rs
theorem keepE_dep (qs : List Qn) (rs : List Rw) : (keepE qs rs).dep ≤ 60 := by
  have := depL_le (n := 10) (qs.map fun q => kpE q rs) (by simp; exact fun q _ => kpE_dep q rs)
  simp [keepE, D.dep]; omega
/-- kept alike -/
def Alk (qs : List Qn) (a b : List Rw) : Prop := keepE qs a = keepE qs b
theorem alk_iff {qs : List Qn} {a b : List Rw} : Alk qs a b ↔ ∀ q ∈ qs, kpE q a = kpE q b := by
  simp [Alk, keepE]
noncomputable instance (qs : List Qn) (a b : List Rw) : Decidable (Alk qs a b) := Classical.propDecidable _
theorem m_alike {qs : List Qn} {a b : List Rw} (h : GoodP qs) (ha : Good a) (hb : Good b) : d_alike [ePlan qs, eRows a, eRows b] = .ok (.bl (decide (Alk qs a b))) := by
  simp [d_alike, m_look_two h ha, m_look_stream hb.1 hb.2, m_kept_of h.1]
  rw [dEq_sim (keepE_sim _ _) (keepE_sim _ _) (keepE_dep _ _) (p := Alk qs a b) Iff.rfl]
  simp
end JK

/-! Mir7 -/
set_option Elab.async false
set_option linter.all false
set_option maxRecDepth 100000
set_option autoImplicit false
namespace JK
open PySem PySem.Spec PyProof.Rows L2
/-! ### what the laws make of a script -/
theorem sLoop_ex {g : Gx} {F : Sx} (Inv : Nat → Env → Prop) : ∀ (xs : List D) (i : Nat) (ρ : Env), Inv i ρ → (∀ j x ρ, xs[j]? = some x → Inv (i + j) ρ → ∃ ρ1 ρ', g x ρ = .ok ρ1 ∧ F ρ1 = .nx ρ' ∧ Inv (i + j + 1) ρ') → ∃ ρ', sLoop g F xs ρ = .nx ρ' ∧ Inv (i + xs.length) ρ'
  | [], i, ρ, h, _ => ⟨ρ, rfl, h⟩
  | x :: xs, i, ρ, h, k => by
    obtain ⟨ρ1, ρ', h1, h2, h3⟩ := k 0 x ρ rfl h
    obtain ⟨ρ2, e, h4⟩ := sLoop_ex Inv xs (i + 1) ρ' h3 (fun j y ρ hj hi => by
      have := k (j + 1) y ρ (by simpa using hj)
      rw [show i + (j + 1) = i + 1 + j by omega] at this
      exact this hi)
    refine ⟨ρ2, ?_, by rw [List.length_cons, show i + (xs.length + 1) = i + 1 + xs.length by omega]; exact h4⟩
    rw [sLoop]
    simp only [h1, h2]
    exact e
theorem cLoop_ex {α β : Type} {g : Gx} {el : Ex} {ρ : Env} {f : α → D} {o : β → D} {P : β → Prop} : ∀ {xs : List α}, (∀ x ∈ xs, ∃ ρ' y, g (f x) ρ = .ok ρ' ∧ P y ∧ el ρ' = .ok (o y)) → ∃ ys : List β, ys.length = xs.length ∧ (∀ y ∈ ys, P y) ∧ cLoop g tYesD el ρ (xs.map f) = .ok (ys.map o)
  | [], _ => ⟨[], rfl, by simp, rfl⟩
  | x :: xs, h => by
    obtain ⟨ρ', y, h1, h2, h3⟩ := h x (by simp)
    obtain ⟨ys, e1, e2, e3⟩ := cLoop_ex (xs := xs) fun z hz => h z (by simp [hz])
    refine ⟨y :: ys, by simp [e1], by simp; exact ⟨h2, e2⟩, ?_⟩
    rw [List.map_cons, cLoop]
    simp [h1, h3, e3]
theorem rng_nat (n : Nat) : rng 0 n = (List.range n).map nE := by
  unfold rng nE; simp
theorem rng1 (n : Nat) (h : n ≤ 1000000) : dRng1 [.int (n : Int)] = .ok ((List.range n).map nE) := by
  show (if _ then _ else _) = _
  rw [if_pos (by omega), Int.toNat_natCast, rng_nat]
@[simp] theorem dMod_nat (a b : Nat) (h : 0 < b := by decide) : dMod (.int (a : Int)) (.int (b : Int)) = .ok (.int ((a % b : Nat) : Int)) := by
  rw [dMod_int _ _ (by omega)]; rfl
theorem dMul_int (i j : Int) (h : -(2 ^ 64) < j ∧ j < 2 ^ 64) : dMul (.int i) (.int j) = .ok (.int (i * j)) := by
  show (if _ then _ else _) = _
  rw [if_pos (.inr h)]
theorem dMul_int' (i j : Int) (h : -(2 ^ 64) < i ∧ i < 2 ^ 64) : dMul (.int i) (.int j) = .ok (.int (i * j)) := by
  show (if _ then _ else _) = _
  rw [if_pos (.inl h)]
theorem m_cell (ns : List Int) (k : Nat) : ∃ c, d_law_cell [.scr ns, .int (k : Int)] = .ok (.int c) := by
  by_cases h : k < ns.length
  · refine ⟨ns[k], ?_⟩
    simp [d_law_cell, h]
    rw [dIx_scr (List.getElem?_eq_getElem h)]
    rfl
  · exact ⟨0, by simp [d_law_cell, h]⟩
def rowE (l : List Nat) : D := .lst (l.map nE)
structure RowOk (l : List Nat) : Prop where
  len : l.length = 60
  lt : ∀ x ∈ l, x < 1000
theorem m_row (ns : List Int) (k : Nat) : ∃ l, RowOk l ∧ d_law_row [.scr ns, .int (k : Int)] = .ok (rowE l) := by
  obtain ⟨c0, h0⟩ := m_cell ns k
  obtain ⟨ρ', e, c, l, z, rfl, h1, h2⟩ := sLoop_ex (g := gN 4) (F := (sIf (tOf (eBin dLt (eCall d_law_cell (aCons (eName 0) (aCons (eName 1) aNil))) (eBin dPow (eC (.int 10)) (eC (.int 18))))) (sSeq (sSet 2 (eBin dMod (eBin dAdd (eBin dAdd (eBin dAdd (eBin dMul (eName 2) (eC (.int 48271))) (eBin dMul (eC (.int 131)) (eName 4))) (eC (.int 7))) (eCall d_law_cell (aCons (eName 0) (aCons (eBin dMod (eBin dAdd (eBin dAdd (eName 1) (eC (.int 1))) (eName 4)) (eC (.int 20))) aNil)))) (eC (.int 2147483647))))
    (sApp 3 (eBin dMod (eBin dFdiv (eName 2) (eC (.int 11))) (eC (.int 1000))))) (sSeq (sApp 3 (eBin dMod (eName 2) (eC (.int 1000))))
    (sSet 2 (eBin dFdiv (eName 2) (eC (.int 1000)))))))
    (fun i ρ => ∃ (c : Int) (l : List Nat) (z : Slot), ρ = [.val (.scr ns), .val (.int (k : Int)), .val (.int c), .own (l.map nE), z] ∧ l.length = i ∧ ∀ x ∈ l, x < 1000)
    ((List.range 60).map nE) 0 [.val (.scr ns), .val (.int (k : Int)), .val (.int c0), .own [], .emp] ⟨c0, [], .emp, rfl, rfl, by simp⟩
    (by
      intro j x ρ hj ⟨c, l, z, hρ, hl, hx⟩
      subst hρ
      obtain ⟨hj', hx'⟩ : j < 60 ∧ nE j = x := by
        rw [List.getElem?_map] at hj
        by_cases h : j < 60
        · rw [List.getElem?_range h] at hj; exact ⟨h, by simpa using hj⟩
        · rw [List.getElem?_eq_none (by simp; omega)] at hj; cases hj
      subst hx'
      have hp : dPow (.int 10) (.int 18) = .ok (.int 1000000000000000000) := by
        unfold dPow; simp only; rw [if_pos ⟨by decide, by decide, by decide⟩]; rfl
      have hll : l.length < 1000000 := by omega
      have ap : ∀ v : Int, ∃ m : Nat, m < 1000 ∧ v % 1000 = (m : Int) := fun v => ⟨(v % 1000).toNat, by omega, by omega⟩
      by_cases hb : c0 < 1000000000000000000
      · obtain ⟨c2, hc2⟩ := m_cell ns ((k + 1 + j) % 20)
        have hc3 : d_law_cell [.scr ns, .int (((k : Int) + 1 + (j : Int)) % 20)] = .ok (.int c2) := by
          rw [← hc2]; congr 3
        obtain ⟨m, hm, em⟩ := ap ((c * 48271 + 131 * (j : Int) + 7 + c2) % 2147483647 / 11)
        refine ⟨_, [.val (.scr ns), .val (.int (k : Int)), .val (.int ((c * 48271 + 131 * (j : Int) + 7 + c2) % 2147483647)), .own ((l ++ [m]).map nE), .val (nE j)], rfl, ?_, ⟨_, l ++ [m], _, rfl, by simp; omega, ?_⟩⟩
        · simp [h0, hp, hb, nE]
          rw [dMul_int _ _ (by decide)]
          simp
          rw [dMul_int' _ _ (by decide)]
          simp
          rw [dMod_int _ _ (by decide)]
          simp [hc3]
          rw [dMod_int _ _ (by decide)]
          simp [hll]
          rw [dFdiv_int _ _ (by decide) (by decide)]
          simp
          rw [dMod_int _ _ (by decide), em]
          simp
        · intro x hx2
          rw [List.mem_append, List.mem_singleton] at hx2
          rcases hx2 with h | rfl
          · exact hx x h
          · exact hm
      · obtain ⟨m, hm, em⟩ := ap c
        refine ⟨_, [.val (.scr ns), .val (.int (k : Int)), .val (.int (c / 1000)), .own ((l ++ [m]).map nE), .val (nE j)], rfl, ?_, ⟨_, l ++ [m], _, rfl, by simp; omega, ?_⟩⟩
        · simp [h0, hp, hb, hll]
          rw [dMod_int _ _ (by decide), em]
          simp
          rw [dFdiv_int _ _ (by decide) (by decide)]
          simp [nE]
        · intro x hx2
          rw [List.mem_append, List.mem_singleton] at hx2
          rcases hx2 with h | rfl
          · exact hx x h
          · exact hm)
  refine ⟨l, ⟨by simpa using h1, h2⟩, ?_⟩
  have r60 := rng1 60 (by decide)
  simp at r60
  simp [d_law_row, h0, r60, e, rowE]
end JK

/-! Mir8 -/
set_option Elab.async false
set_option linter.all false
set_option maxRecDepth 100000
set_option autoImplicit false
namespace JK
open PySem PySem.Spec PyProof.Rows L2
def allR : List Rw := k4.flatMap fun k => [⟨k, -3⟩, ⟨k, -2⟩, ⟨k, -1⟩, ⟨k, 0⟩, ⟨k, 1⟩, ⟨k, 2⟩, ⟨k, 3⟩]
theorem m_law_all : d_law_all [] = .ok (eRows allR) := by kernel_rfl
theorem allR_ok : ∀ r ∈ allR, r.ok := by
  unfold Rw.ok; decide
theorem allR_len : allR.length = 28 := by decide
theorem allR_mem {r : Rw} (h : r.ok) : r ∈ allR := by
  obtain ⟨k, n⟩ := r
  obtain ⟨h1, h2⟩ := h
  simp at h1 h2
  have : n = -3 ∨ n = -2 ∨ n = -1 ∨ n = 0 ∨ n = 1 ∨ n = 2 ∨ n = 3 := by omega
  rcases this with rfl | rfl | rfl | rfl | rfl | rfl | rfl <;> (revert k; decide)
theorem row_ix {l : List Nat} (h : RowOk l) {i : Nat} (hi : i < 60) : ∃ x, x < 1000 ∧ l[i]? = some x ∧ dIx (rowE l) (.int (i : Int)) = .ok (.int (x : Int)) := by
  have hl : i < l.length := by rw [h.len]; exact hi
  refine ⟨l[i], h.lt _ (List.getElem_mem hl), List.getElem?_eq_getElem hl, ?_⟩
  unfold rowE
  rw [dIx_lst (d := nE l[i]) (by rw [List.getElem?_map, List.getElem?_eq_getElem hl]; rfl)]
  rfl
@[simp] theorem dMod_pos (i j : Int) (h : 0 < j) : dMod (.int i) (.int j) = .ok (.int (i % j)) := dMod_int i j h
@[simp] theorem dFdiv_pos (i j : Int) (h : 0 < j) (h2 : j < 1073741824) : dFdiv (.int i) (.int j) = .ok (.int (i / j)) := dFdiv_int i j h h2
theorem row_at {l : List Nat} (h : RowOk l) {i : Int} (h0 : 0 ≤ i) (hi : i < 60) : ∃ x : Nat, x < 1000 ∧ dIx (rowE l) (.int i) = .ok (.int (x : Int)) := by
  obtain ⟨x, h1, _, h3⟩ := row_ix h (i := i.toNat) (by omega)
  rw [Int.toNat_of_nonneg h0] at h3
  exact ⟨x, h1, h3⟩
theorem lst_at {xs : List D} {i : Int} (h0 : 0 ≤ i) (hi : i < xs.length) : ∃ d, d ∈ xs ∧ dIx (.lst xs) (.int i) = .ok d := by
  have hl : i.toNat < xs.length := by omega
  refine ⟨xs[i.toNat], List.getElem_mem hl, ?_⟩
  have := dIx_lst (List.getElem?_eq_getElem hl)
  rw [Int.toNat_of_nonneg h0] at this
  exact this
theorem ab_at {n : Int} (h0 : 0 ≤ n) (h : n < 2) : ∃ j, dIx (.str "ab") (.int n) = .ok (.str (kS j)) := by
  have : n = 0 ∨ n = 1 := by omega
  rcases this with rfl | rfl
  · exact ⟨0, by kernel_rfl⟩
  · exact ⟨1, by kernel_rfl⟩
theorem ac_at {n : Int} (h0 : 0 ≤ n) (h : n < 2) : ∃ j, dIx (.str "ac") (.int n) = .ok (.str (kS j)) := by
  have : n = 0 ∨ n = 1 := by omega
  rcases this with rfl | rfl
  · exact ⟨0, by kernel_rfl⟩
  · exact ⟨2, by kernel_rfl⟩
theorem abcd_at {n : Int} (h0 : 0 ≤ n) (h : n < 4) : ∃ j, dIx (.str "abcd") (.int n) = .ok (.str (kS j)) := by
  have : n = 0 ∨ n = 1 ∨ n = 2 ∨ n = 3 := by omega
  rcases this with rfl | rfl | rfl | rfl
  · exact ⟨0, by kernel_rfl⟩
  · exact ⟨1, by kernel_rfl⟩
  · exact ⟨2, by kernel_rfl⟩
  · exact ⟨3, by kernel_rfl⟩
theorem m_line {l : List Nat} (h : RowOk l) {k : Int} (hk : 0 ≤ k) : ∃ r : Rw, r.ok ∧ d_law_line [rowE l, .int k] = .ok r.e := by
  obtain ⟨x, _, hx⟩ := row_at h (i := (k + 1) % 60) (by omega) (by omega)
  obtain ⟨y, _, hy⟩ := row_at h (i := k % 60) (by omega) (by omega)
  have hw : (x : Int) % 4 = 0 ∨ (x : Int) % 4 = 1 ∨ (x : Int) % 4 = 2 ∨ (x : Int) % 4 = 3 := by omega
  rcases hw with hw | hw | hw | hw
  · obtain ⟨d, hd, e⟩ := lst_at (xs := allR.map Rw.e) (i := (y : Int) % 28) (by omega) (by rw [List.length_map, allR_len]; omega)
    obtain ⟨r, hr, rfl⟩ := List.mem_map.mp hd
    refine ⟨r, allR_ok _ hr, ?_⟩
    simp [d_law_line, hx, hy, hw, m_law_all, eRows, e]
  · obtain ⟨j, hj⟩ := ab_at (n := (y : Int) % 2) (by omega) (by omega)
    obtain ⟨d, hd, e⟩ := lst_at (xs := [.int (-3), .int 3, .int 0, .int (-3)]) (i := (y : Int) / 2 % 4) (by omega) (by simp; omega)
    obtain ⟨v, rfl, h1, h2⟩ : ∃ v : Int, d = .int v ∧ -3 ≤ v ∧ v ≤ 3 := by
      simp at hd
      rcases hd with rfl | rfl | rfl | rfl <;> exact ⟨_, rfl, by decide, by decide⟩
    refine ⟨⟨j, v⟩, ⟨h1, h2⟩, ?_⟩
    simp [d_law_line, hx, hy, hw, hj, e, Rw.e]
  · obtain ⟨j, hj⟩ := abcd_at (n := (y : Int) % 4) (by omega) (by omega)
    obtain ⟨d, hd, e⟩ := lst_at (xs := [.int (-3), .int (-2)]) (i := (y : Int) / 4 % 2) (by omega) (by simp; omega)
    obtain ⟨v, rfl, h1, h2⟩ : ∃ v : Int, d = .int v ∧ -3 ≤ v ∧ v ≤ 3 := by
      simp at hd
      rcases hd with rfl | rfl <;> exact ⟨_, rfl, by decide, by decide⟩
    refine ⟨⟨j, v⟩, ⟨h1, h2⟩, ?_⟩
    simp [d_law_line, hx, hy, hw, hj, e, Rw.e]
  · obtain ⟨j, hj⟩ := ac_at (n := (y : Int) % 2) (by omega) (by omega)
    refine ⟨⟨j, 1 + (y : Int) / 2 % 3⟩, ⟨by simp; omega, by simp; omega⟩, ?_⟩
    simp [d_law_line, hx, hy, hw, hj, Rw.e]
theorem rngI {i : Int} (h0 : 0 ≤ i) (h : i ≤ 1000000) : dRng1 [.int i] = .ok ((List.range i.toNat).map nE) := by
  have := rng1 i.toNat (by omega)
  rwa [Int.toNat_of_nonneg h0] at this
/-- rows made one by one -/
theorem lines_ex {l : List Nat} (h : RowOk l) {ρ : Env} {el : Ex} {g : Gx} {n : Nat} (he : ∀ i : Nat, i < n → ∃ ρ' k, g (nE i) ρ = .ok ρ' ∧ 0 ≤ k ∧ el ρ' = d_law_line [rowE l, .int k]) :
    ∃ rs : List Rw, rs.length = n ∧ (∀ r ∈ rs, r.ok) ∧ cLoop g tYesD el ρ ((List.range n).map nE) = .ok (rs.map Rw.e) := by
  have := cLoop_ex (g := g) (el := el) (ρ := ρ) (f := nE) (o := Rw.e) (P := Rw.ok) (xs := List.range n) (by
    intro i hi
    obtain ⟨ρ', k, h1, h2, h3⟩ := he i (by simpa using hi)
    obtain ⟨r, hr, e⟩ := m_line h h2
    exact ⟨ρ', r, h1, hr, by rw [h3, e]⟩)
  simpa using this
theorem m_stream (ns : List Int) (k : Nat) : ∃ rs, rs.length ≤ 9 ∧ (∀ r ∈ rs, r.ok) ∧ d_law_stream [.scr ns, .int (k : Int)] = .ok (eRows rs) := by
  obtain ⟨l, hl, e⟩ := m_row ns k
  obtain ⟨x, _, hx⟩ := row_at hl (i := 0) (by omega) (by omega)
  obtain ⟨y, _, hy⟩ := row_at hl (i := 1) (by omega) (by omega)
  have hr := rngI (i := (x : Int) % 10) (by omega) (by omega)
  obtain ⟨rs, h1, h2, h3⟩ := lines_ex hl (g := gN 4) (el := eCall d_law_line (aCons (eName 2) (aCons (eBin dAdd (eC (.int 2)) (eBin dMul (eC (.int 3)) (eName 4))) aNil))) (ρ := [.val (.scr ns), .val (.int (k : Int)), .val (rowE l), .emp, .emp]) (n := ((x : Int) % 10).toNat) (by
    intro i hi
    refine ⟨_, 2 + 3 * (i : Int), rfl, by omega, ?_⟩
    simp [nE]
    rw [dMul_int' _ _ (by decide)]
    simp)
  have hlen : rs.length ≤ 9 := by omega
  by_cases hy3 : (y : Int) % 3 = 0
  · have hr2 := rng1 rs.length (by omega)
    obtain ⟨ts, t1, t2, t3⟩ := cLoop_ex (g := gN 4) (el := eBin dIx (eName 3) (eBin dMod (eBin dMod (eBin dIx (eName 2) (eBin dAdd (eC (.int 30)) (eName 4))) (eC (.int 3))) (eCall dLen (aCons (eName 3) aNil)))) (ρ := [.val (.scr ns), .val (.int (k : Int)), .val (rowE l), .val (eRows rs), .emp]) (f := nE) (o := Rw.e) (P := Rw.ok) (xs := List.range rs.length) (by
      intro i hi
      have hi' : i < rs.length := by simpa using hi
      obtain ⟨z, _, hz⟩ := row_at hl (i := 30 + (i : Int)) (by omega) (by omega)
      have hm : 0 ≤ (z : Int) % 3 % (rs.length : Int) ∧ (z : Int) % 3 % (rs.length : Int) < rs.length := ⟨Int.emod_nonneg _ (by omega), Int.emod_lt_of_pos _ (by omega)⟩
      obtain ⟨d, hd, ed⟩ := lst_at (xs := rs.map Rw.e) (i := (z : Int) % 3 % (rs.length : Int)) hm.1 (by rw [List.length_map]; exact hm.2)
      obtain ⟨r, hr', rfl⟩ := List.mem_map.mp hd
      refine ⟨_, r, rfl, h2 r hr', ?_⟩
      simp [nE, hz, eRows]
      rw [dMod_int _ _ (by omega)]
      simp [ed])
    refine ⟨ts, by simp at t1; omega, t2, ?_⟩
    simp [d_law_stream, e, hx, hr, h3, hy, hy3, hr2]
    simp [eRows] at t3
    simp [t3, eRows]
  · refine ⟨rs, hlen, h2, ?_⟩
    simp [d_law_stream, e, hx, hr, h3, hy, hy3, eRows]
end JK

/-! Mir9 -/
set_option Elab.async false
set_option linter.all false
set_option maxRecDepth 100000
set_option autoImplicit false
namespace JK
open PySem PySem.Spec PyProof.Rows L2
theorem dSl_rows_from (rs : List Rw) (i : Int) (h : 0 ≤ i) : dSl (eRows rs) (some i) none = .ok (eRows (rs.drop i.toNat)) := by
  unfold eRows
  have := cut_from (rs.map Rw.e) i.toNat
  rw [Int.toNat_of_nonneg h] at this
  rw [dSl_lst, this, List.map_drop]
theorem dSl_rows_to (rs : List Rw) (i : Int) (h : 0 ≤ i) : dSl (eRows rs) none (some i) = .ok (eRows (rs.take i.toNat)) := by
  unfold eRows
  have := cut_to (rs.map Rw.e) i.toNat
  rw [Int.toNat_of_nonneg h] at this
  rw [dSl_lst, this, List.map_take]
theorem dAdd_rows (a b : List Rw) (h : a.length + b.length ≤ 1000) : dAdd (eRows a) (eRows b) = .ok (eRows (a ++ b)) := by
  unfold eRows
  rw [dAdd_lst _ _ (by simp; omega), List.map_append]
@[simp] theorem dLen_rows (a : List Rw) : dLen [eRows a] = .ok (.int (a.length : Int)) := by simp [eRows]
theorem m_other (ns : List Int) (k : Nat) (rs : List Rw) (hr : ∀ r ∈ rs, r.ok) (hl : rs.length ≤ 40) : ∃ ts, ts.length ≤ rs.length + 9 ∧ (∀ r ∈ ts, r.ok) ∧ d_law_other [.scr ns, .int (k : Int), eRows rs] = .ok (eRows ts) := by
  obtain ⟨l, hk, e⟩ := m_row ns k
  obtain ⟨x, _, hx⟩ := row_at hk (i := 0) (by omega) (by omega)
  obtain ⟨y, _, hy⟩ := row_at hk (i := 1) (by omega) (by omega)
  obtain ⟨z, _, hz⟩ := row_at hk (i := 2) (by omega) (by omega)
  obtain ⟨u, _, hu⟩ := row_at hk (i := 40) (by omega) (by omega)
  have hg := rngI (i := (y : Int) % 3) (by omega) (by omega)
  have hp : 0 ≤ (x : Int) % ((rs.length : Int) + 1) ∧ (x : Int) % ((rs.length : Int) + 1) < rs.length + 1 := ⟨Int.emod_nonneg _ (by omega), Int.emod_lt_of_pos _ (by omega)⟩
  have hm : dMod (.int (x : Int)) (.int ((rs.length : Int) + 1)) = .ok (.int ((x : Int) % ((rs.length : Int) + 1))) := dMod_int _ _ (by omega)
  generalize (x : Int) % ((rs.length : Int) + 1) = sp at hp hm
  obtain ⟨hp0, hp1⟩ := hp
  obtain ⟨new, h1, h2, h3⟩ := lines_ex hk (g := gN 6) (el := eCall d_law_line (aCons (eName 3) (aCons (eBin dAdd (eC (.int 3)) (eBin dMul (eC (.int 3)) (eName 6))) aNil))) (ρ := [.val (.scr ns), .val (.int (k : Int)), .val (eRows rs), .val (rowE l), .val (.int sp), .emp, .emp, .emp]) (n := ((y : Int) % 3).toNat) (by
    intro i hi
    refine ⟨_, 3 + 3 * (i : Int), rfl, by omega, ?_⟩
    simp [nE]
    rw [dMul_int' _ _ (by decide)]
    simp)
  have hnew : new.length ≤ 2 := by omega
  have en : (R.ok (D.lst (new.map Rw.e)) : R D) = .ok (eRows new) := rfl
  have ofm : ∀ {a : List Rw}, (∀ r ∈ a, r ∈ rs ∨ r ∈ new) → ∀ r ∈ a, r.ok := fun h r hr' => (h r hr').elim (hr r) (h2 r)
  have hw : (z : Int) % 5 = 0 ∨ (z : Int) % 5 = 1 ∨ (z : Int) % 5 = 2 ∨ (z : Int) % 5 = 3 ∨ (z : Int) % 5 = 4 := by omega
  rcases hw with hw | hw | hw | hw | hw
  · refine ⟨new ++ rs.drop sp.toNat, by simp; omega, ofm (fun r h => by
      rw [List.mem_append] at h; exact h.elim .inr fun h => .inl (List.mem_of_mem_drop h)), ?_⟩
    simp [d_law_other, e, hx, hm, hy, hg, h3, hz, hw, en, dSl_rows_from, hp0]
    rw [dAdd_rows _ _ (by simp; omega)]
    simp
  · have hu0 : 0 ≤ sp + (u : Int) % 3 := by omega
    refine ⟨rs.take sp.toNat ++ new ++ rs.drop (sp + (u : Int) % 3).toNat, by simp; omega, ofm (fun r h => by
      rw [List.mem_append, List.mem_append] at h
      exact h.elim (fun h => h.elim (fun h => .inl (List.mem_of_mem_take h)) .inr) fun h => .inl (List.mem_of_mem_drop h)), ?_⟩
    simp [d_law_other, e, hx, hm, hy, hg, h3, hz, hw, en, dSl_rows_from, dSl_rows_to, hp0]
    rw [dAdd_rows _ _ (by simp; omega)]
    simp [hu, dSl_rows_from, hu0]
    rw [dAdd_rows _ _ (by simp; omega)]
    simp
  · refine ⟨rs.drop sp.toNat ++ rs.take sp.toNat, by simp; omega, ofm (fun r h => by
      rw [List.mem_append] at h; exact h.elim (fun h => .inl (List.mem_of_mem_drop h)) fun h => .inl (List.mem_of_mem_take h)), ?_⟩
    simp [d_law_other, e, hx, hm, hy, hg, h3, hz, hw, en, dSl_rows_from, dSl_rows_to, hp0]
    rw [dAdd_rows _ _ (by simp; omega)]
    simp
  · have hu0 : 0 ≤ sp + 1 := by omega
    refine ⟨rs.take sp.toNat ++ rs.drop (sp + 1).toNat, by simp; omega, ofm (fun r h => by
      rw [List.mem_append] at h; exact h.elim (fun h => .inl (List.mem_of_mem_take h)) fun h => .inl (List.mem_of_mem_drop h)), ?_⟩
    simp [d_law_other, e, hx, hm, hy, hg, h3, hz, hw, en, dSl_rows_from, dSl_rows_to, hp0, hu0]
    rw [dAdd_rows _ _ (by simp; omega)]
    simp
  · obtain ⟨ts, t1, t2, t3⟩ := m_stream ns (k + 1)
    refine ⟨ts, by omega, t2, ?_⟩
    rw [show ((k + 1 : Nat) : Int) = (k : Int) + 1 by omega] at t3
    simp [d_law_other, e, hx, hm, hy, hg, h3, hz, hw, en, t3]
theorem m_twins {l : List Nat} (hk : RowOk l) (rs : List Rw) (hr : ∀ r ∈ rs, r.ok) (hl : rs.length ≤ 40) : ∃ a b, a.length ≤ rs.length + 3 ∧ b.length ≤ rs.length + 3 ∧ (∀ r ∈ a, r.ok) ∧ (∀ r ∈ b, r.ok) ∧ d_law_twins [rowE l, eRows rs] = .ok (.tup [eRows a, eRows b]) := by
  obtain ⟨y, _, hy⟩ := row_at hk (i := 1) (by omega) (by omega)
  obtain ⟨z, _, hz⟩ := row_at hk (i := 2) (by omega) (by omega)
  obtain ⟨u, _, hu⟩ := row_at hk (i := 3) (by omega) (by omega)
  obtain ⟨x, _, hx⟩ := row_at hk (i := 4) (by omega) (by omega)
  have hg := rngI (i := 1 + (y : Int) % 3) (by omega) (by omega)
  have hg2 := rngI (i := 1 + (z : Int) % 3) (by omega) (by omega)
  obtain ⟨f, f1, f2, f3⟩ := lines_ex hk (g := gN 3) (el := eCall d_law_line (aCons (eName 0) (aCons (eBin dAdd (eC (.int 3)) (eBin dMul (eC (.int 3)) (eName 3))) aNil))) (ρ := [.val (rowE l), .val (eRows rs), .emp, .emp, .emp, .emp]) (n := (1 + (y : Int) % 3).toNat) (by
    intro i hi
    refine ⟨_, 3 + 3 * (i : Int), rfl, by omega, ?_⟩
    simp [nE]
    rw [dMul_int' _ _ (by decide)]
    simp)
  obtain ⟨b, b1, b2, b3⟩ := lines_ex hk (g := gN 3) (el := eCall d_law_line (aCons (eName 0) (aCons (eBin dAdd (eC (.int 13)) (eBin dMul (eC (.int 3)) (eName 3))) aNil))) (ρ := [.val (rowE l), .val (eRows rs), .val (eRows f), .emp, .emp, .emp]) (n := (1 + (z : Int) % 3).toNat) (by
    intro i hi
    refine ⟨_, 13 + 3 * (i : Int), rfl, by omega, ?_⟩
    simp [nE]
    rw [dMul_int' _ _ (by decide)]
    simp)
  have en : ∀ new : List Rw, (R.ok (D.lst (new.map Rw.e)) : R D) = .ok (eRows new) := fun _ => rfl
  by_cases hw : (u : Int) % 2 = 0
  · refine ⟨f ++ rs, b ++ rs, by simp; omega, by simp; omega, ?_, ?_, ?_⟩
    · intro r h; rw [List.mem_append] at h; exact h.elim (f2 r) (hr r)
    · intro r h; rw [List.mem_append] at h; exact h.elim (b2 r) (hr r)
    · simp [d_law_twins, hy, hg, f3, en, hz, hg2, b3, hu, hw]
      rw [dAdd_rows _ _ (by omega)]
      simp
      rw [dAdd_rows _ _ (by omega)]
      simp
  · have hp : 0 ≤ (x : Int) % ((rs.length : Int) + 1) ∧ (x : Int) % ((rs.length : Int) + 1) < rs.length + 1 := ⟨Int.emod_nonneg _ (by omega), Int.emod_lt_of_pos _ (by omega)⟩
    have hm : dMod (.int (x : Int)) (.int ((rs.length : Int) + 1)) = .ok (.int ((x : Int) % ((rs.length : Int) + 1))) := dMod_int _ _ (by omega)
    generalize (x : Int) % ((rs.length : Int) + 1) = sp at hp hm
    obtain ⟨hp0, hp1⟩ := hp
    refine ⟨rs.take sp.toNat ++ f.take 1 ++ rs.drop sp.toNat, rs.take sp.toNat ++ b.take 1 ++ rs.drop sp.toNat, by simp; omega, by simp; omega, ?_, ?_, ?_⟩
    · intro r h; rw [List.mem_append, List.mem_append] at h; exact h.elim (fun h => h.elim (fun h => hr r (List.mem_of_mem_take h)) (fun h => f2 r (List.mem_of_mem_take h))) (fun h => hr r (List.mem_of_mem_drop h))
    · intro r h; rw [List.mem_append, List.mem_append] at h; exact h.elim (fun h => h.elim (fun h => hr r (List.mem_of_mem_take h)) (fun h => b2 r (List.mem_of_mem_take h))) (fun h => hr r (List.mem_of_mem_drop h))
    · simp [d_law_twins, hy, hg, f3, en, hz, hg2, b3, hu, hw, hx, hm, dSl_rows_to, dSl_rows_from, hp0]
      rw [dAdd_rows _ _ (by simp; omega)]
      simp [dSl_rows_to, dSl_rows_from, hp0]
      rw [dAdd_rows _ _ (by simp; omega)]
      simp [dSl_rows_to, dSl_rows_from, hp0]
      rw [dAdd_rows _ _ (by simp; omega)]
      simp [dSl_rows_to, dSl_rows_from, hp0]
      rw [dAdd_rows _ _ (by simp; omega)]
      simp [dSl_rows_to, dSl_rows_from, hp0]
theorem m_words : d_law_words [] = .ok (.lst ([Wd.many, .sum, .most, .least, .last, .second, .kinds, .run].map fun w => .str w.s)) := by kernel_rfl
theorem m_question {l : List Nat} (hk : RowOk l) {k : Int} (h0 : 0 ≤ k) : ∃ q : Qn, q.ok ∧ d_law_question [rowE l, .int k] = .ok q.e := by
  obtain ⟨a, _, ha⟩ := row_at hk (i := k % 60) (by omega) (by omega)
  obtain ⟨b, _, hb⟩ := row_at hk (i := (k + 1) % 60) (by omega) (by omega)
  obtain ⟨c, _, hc⟩ := row_at hk (i := (k + 2) % 60) (by omega) (by omega)
  obtain ⟨d, _, hd⟩ := row_at hk (i := (k + 3) % 60) (by omega) (by omega)
  obtain ⟨e, _, he⟩ := row_at hk (i := (k + 4) % 60) (by omega) (by omega)
  obtain ⟨f, _, hf⟩ := row_at hk (i := (k + 5) % 60) (by omega) (by omega)
  obtain ⟨x, hx, ew⟩ := lst_at (xs := [Wd.many, .sum, .most, .least, .last, .second, .kinds, .run].map fun w => .str w.s) (i := (a : Int) % 8) (by omega) (by simp; omega)
  obtain ⟨w, hw, rfl⟩ := List.mem_map.mp hx
  have hsp : (b : Int) % 7 = ((((b : Int) % 7).toNat : Nat) : Int) := by omega
  by_cases h2 : (c : Int) % 2 = 0
  · refine ⟨⟨w, ⟨true, true, true, true⟩, -3, 3, ((b : Int) % 7).toNat⟩, ⟨by simp, by simp, by simp, by simp, by simp; omega⟩, ?_⟩
    have et : Mk.txt ⟨true, true, true, true⟩ = ("abcd" : Str) := by decide
    simp only [Qn.e, et, ← hsp]
    simp at ew
    simp [d_law_question, ha, m_words, hb, hc, h2, ew]
  · obtain ⟨y, hy, ey⟩ := lst_at (xs := [⟨true, true, true, true⟩, ⟨true, false, false, false⟩, ⟨true, true, false, false⟩, ⟨false, true, false, true⟩, ⟨true, true, true, false⟩, ⟨false, false, true, true⟩, ⟨true, true, true, true⟩].map fun m : Mk => D.str m.txt) (i := (d : Int) % 7) (by omega) (by simp; omega)
    obtain ⟨m, hm, rfl⟩ := List.mem_map.mp hy
    have hm0 : m ≠ ⟨false, false, false, false⟩ := by
      simp only [List.mem_cons, List.not_mem_nil, or_false] at hm
      rcases hm with rfl | rfl | rfl | rfl | rfl | rfl | rfl <;> simp
    refine ⟨⟨w, m, (e : Int) % 7 - 3, min 3 ((e : Int) % 7 - 3 + (f : Int) % 7), ((b : Int) % 7).toNat⟩, ⟨hm0, by simp; omega, by simp; omega, by simp; omega, by simp; omega⟩, ?_⟩
    have ek : [D.str "abcd", .str "a", .str "ab", .str "bd", .str "abc", .str "cd", .str "abcd"] = [⟨true, true, true, true⟩, ⟨true, false, false, false⟩, ⟨true, true, false, false⟩, ⟨false, true, false, true⟩, ⟨true, true, true, false⟩, ⟨false, false, true, true⟩, ⟨true, true, true, true⟩].map fun m : Mk => D.str m.txt := by kernel_rfl
    rw [← ek] at ey
    simp only [Qn.e, ← hsp]
    simp at ew
    simp [d_law_question, ha, m_words, hb, hc, h2, ew, hd, ey, he, hf]
end JK

/-! Mir10 -/
set_option Elab.async false
set_option linter.all false
set_option maxRecDepth 100000
set_option autoImplicit false
namespace JK
open PySem PySem.Spec PyProof.Rows L2
theorem m_plan (ns : List Int) (k : Nat) : ∃ qs, GoodP qs ∧ d_law_plan [.scr ns, .int (k : Int)] = .ok (ePlan qs) := by
  obtain ⟨l, hl, e⟩ := m_row ns k
  obtain ⟨x, _, hx⟩ := row_at hl (i := 0) (by omega) (by omega)
  have hr := rngI (i := 1 + (x : Int) % 4) (by omega) (by omega)
  obtain ⟨qs, h1, h2, h3⟩ := cLoop_ex (g := gN 3) (el := eCall d_law_question (aCons (eName 2) (aCons (eBin dAdd (eC (.int 1)) (eBin dMul (eC (.int 6)) (eName 3))) aNil))) (ρ := [.val (.scr ns), .val (.int (k : Int)), .val (rowE l), .emp]) (f := nE) (o := Qn.e) (P := Qn.ok) (xs := List.range (1 + (x : Int) % 4).toNat) (by
    intro i _
    obtain ⟨q, hq, eq⟩ := m_question hl (k := 1 + 6 * (i : Int)) (by omega)
    refine ⟨_, q, rfl, hq, ?_⟩
    simp [nE]
    rw [dMul_int' _ _ (by decide)]
    simp [eq])
  rw [List.length_range] at h1
  refine ⟨qs, ⟨h2, by omega, by omega⟩, ?_⟩
  simp [d_law_plan, e, hx, hr, h3, ePlan]
@[simp] theorem dEq_bl (a b : Bool) : dEq (.bl a) (.bl b) = .ok (.bl (a == b)) := rfl
theorem m_all_rows : d_all_rows [] = .ok (eRows allR) := by kernel_rfl
/-! a loop that may stop with an answer -/
theorem sLoop_stop {α : Type} {g : Gx} {F : Sx} {f : α → D} {p : α → Bool} {z : D} (ρ : Option α → Env) : ∀ (xs : List α) (l : Option α), (∀ x ∈ xs, ∀ l, ∃ ρ', g (f x) (ρ l) = .ok ρ' ∧ F ρ' = if p x = true then .nx (ρ (some x)) else .rt z) →
    sLoop g F (xs.map f) (ρ l) = if xs.all p = true then .nx (ρ (xs.getLast?.or l)) else .rt z
  | [], l, _ => by simp [sLoop]
  | x :: xs, l, h => by
    obtain ⟨ρ', h1, h2⟩ := h x (by simp) l
    have ih := sLoop_stop ρ xs (some x) fun y hy => h y (by simp [hy])
    rw [List.map_cons, sLoop]
    simp only [h1, h2]
    cases hp : p x with
    | false => simp [hp]
    | true =>
      simp only [if_true, ih, List.all_cons, hp, Bool.true_and]
      cases xs.all p with
      | false => rfl
      | true =>
        simp
        cases xs with
        | nil => rfl
        | cons y ys => simp [List.getLast?_cons]
def Idle (qs : List Qn) (rs : List Rw) (i : Nat) : Prop := ∀ r ∈ allR, Alk qs (rs.take i ++ [r] ++ rs.drop (i + 1)) rs
noncomputable instance (qs : List Qn) (rs : List Rw) (i : Nat) : Decidable (Idle qs rs i) := Classical.propDecidable _
theorem m_is_idle {qs : List Qn} (h : GoodP qs) {rs : List Rw} (hr : Good rs) {i : Nat} (hi : i < rs.length) : d_is_idle [ePlan qs, eRows rs, keepE qs rs, .int (i : Int)] = .ok (.bl (decide (Idle qs rs i))) := by
  have key := sLoop_stop (g := gN 4) (F := sIf (tOf (eBin dNe (eCall d_kept_of (aCons (eName 0) (aCons (eBin dAdd (eBin dAdd (eSl (eName 1) oNone (oSome (eName 3))) (eLst (aCons (eName 4) aNil))) (eSl (eName 1) (oSome (eBin dAdd (eName 3) (eC (.int 1)))) oNone)) aNil))) (eName 2))) (sRet (eC (.bl false))) sNil) (f := Rw.e)
    (p := fun r => decide (Alk qs (rs.take i ++ [r] ++ rs.drop (i + 1)) rs)) (z := .bl false) (fun l => [.val (ePlan qs), .val (eRows rs), .val (keepE qs rs), .val (.int (i : Int)), (l.map fun x => Slot.val (Rw.e x)).getD .emp]) allR none (by
    intro x hx l
    refine ⟨_, rfl, ?_⟩
    have h0 : (R.ok (D.lst [x.e]) : R D) = .ok (eRows [x]) := rfl
    have e1 := dSl_rows_to rs (i : Int) (by omega)
    have e2 := dSl_rows_from rs ((i : Int) + 1) (by omega)
    have e3 := dNe_sim (keepE_sim qs (rs.take i ++ [x] ++ rs.drop (i + 1))) (keepE_sim qs rs) (keepE_dep _ _) (p := Alk qs (rs.take i ++ [x] ++ rs.drop (i + 1)) rs) Iff.rfl
    rw [Int.toNat_natCast] at e1
    rw [show ((i : Int) + 1).toNat = i + 1 by omega] at e2
    have hl := hr.2
    simp only [sIf_ap, tOf_ap, eBin_ap, eCall_ap, aCons_ap, eName_ap, List.getElem?_cons_zero, List.getElem?_cons_succ, List.set_cons_succ, List.set_cons_zero, slE_val, bT_ok, eSl_ap, oNone_ap, oSome_ap, dInt_int, e1, eLst_ap, aNil_ap, h0, eC_ap, dAdd_int, e2]
    rw [dAdd_rows _ _ (by simp; omega)]
    simp only [bT_ok, eName_ap, slE_val, List.getElem?_cons_zero, List.getElem?_cons_succ, dAdd_int, dInt_int, e2]
    rw [dAdd_rows _ _ (by simp; omega)]
    simp only [bT_ok]
    rw [m_kept_of h.1]
    simp only [bT_ok, eName_ap, slE_val, List.getElem?_cons_zero, List.getElem?_cons_succ, e3, dBl_bl, tT_ok, sRet_ap, eC_ap, rT_ok, sNil_ap]
    by_cases hA : Alk qs (rs.take i ++ [x] ++ rs.drop (i + 1)) rs <;> simp [hA])
  simp only [Option.map_none, Option.getD_none] at key
  simp [d_is_idle, m_all_rows]
  have e0 : dItems (eRows allR) = .ok (allR.map Rw.e) := rfl
  simp only [e0, bT_ok, lT_ok]
  rw [key]
  by_cases hA : Idle qs rs i
  · have : (allR.all fun r => decide (Alk qs (rs.take i ++ [r] ++ rs.drop (i + 1)) rs)) = true := by
      rw [List.all_eq_true]; intro r hr; exact decide_eq_true (hA r hr)
    rw [if_pos this]
    simp [hA]
  · have : ¬ (allR.all fun r => decide (Alk qs (rs.take i ++ [r] ++ rs.drop (i + 1)) rs)) = true := by
      rw [List.all_eq_true]; intro z; exact hA fun r hr => of_decide_eq_true (z r hr)
    rw [if_neg this]
    simp [hA]
theorem m_idle {qs : List Qn} (h : GoodP qs) {rs : List Rw} (hr : Good rs) : d_idle [ePlan qs, eRows rs] = .ok (.lst (((List.range rs.length).filter fun i => decide (Idle qs rs i)).map nE)) := by
  have hl := hr.2
  simp [d_idle, m_look_two h hr, m_kept_of h.1]
  rw [rng1 _ (by omega)]
  simp only [bT_ok]
  rw [cLoop_map (p := fun i => decide (Idle qs rs i)) (o := nE)]
  · simp
  · intro i hi
    refine ⟨_, rfl, ?_, fun _ => by simp⟩
    have := m_is_idle h hr (i := i) (by simpa using hi)
    simp [nE, this]
/-! fewest of streams that are kept alike -/
theorem zip3_map {α : Type} (f g h : α → D) : ∀ (xs : List α), zip3L (xs.map f) (xs.map g) (xs.map h) = xs.map fun x => .tup [f x, g x, h x]
  | [] => rfl
  | x :: xs => by simp [zip3L, zip3_map f g h xs]
theorem m_fewest_of_eq (q : Qn) (rs : List Rw) : d_fewest_of [q.e, kpE q rs, kpE q rs] = .ok .non := by
  simp [d_fewest_of]
  rw [dEq_sim (kpE_sim _ _) (kpE_sim _ _) (Nat.le_trans (kpE_dep _ _) (by omega)) (p := True) (by simp)]
  simp
theorem m_fewest_alk {qs : List Qn} (h : GoodP qs) {a b : List Rw} (ha : Good a) (hb : Good b) (e : Alk qs a b) : d_fewest [ePlan qs, eRows a, eRows b] = .ok .non := by
  simp [d_fewest, m_look_two h ha, m_look_stream hb.1 hb.2, m_kept_of h.1]
  rw [← show keepE qs a = keepE qs b from e]
  simp [d_fewest_by, ePlan, keepE, dZip3, srcs, zip3_map]
  rw [cLoop_all (o := fun _ => .non)]
  · simp only [bT_ok, rT_ok, nT_nx, sSeq_ap, sSet_ap, eLst_ap, aComp_ap, aItems_ap, eName_ap, List.set_cons_succ, List.set_cons_zero, List.getElem?_cons_zero, List.getElem?_cons_succ, slE_val, dItems_lst, wipeE_cons, wipeE_nil]
    rw [cLoop_map (p := fun _ => false) (o := fun _ => .non)]
    · simp
    · intro q hq
      refine ⟨_, rfl, by simp, by simp⟩
  · intro q hq
    exact ⟨_, rfl, by simp [m_fewest_of_eq]⟩
/-! by windows alone -/
theorem kpE_win {q : Qn} (hs : q.s ≠ 0) {a b : List Rw} (e : lastN q.s a = lastN q.s b) : kpE q a = kpE q b := by
  have w : ∀ n, n ≤ q.s → lastN n a = lastN n b := fun n hn => by
    have := congrArg (lastN n) e
    rwa [lastN_lastN, lastN_lastN, Nat.min_eq_left hn] at this
  have g1 : gatK q a = gatK q b := by
    unfold gatK; rw [if_neg hs, if_neg hs]; exact W_congr fun n _ h2 => by rw [w n h2]
  have g2 : secK q a = secK q b := by
    unfold secK; rw [if_neg hs, if_neg hs, w _ (Nat.le_refl _), W_congr fun n _ h2 => by rw [w n (by omega)]]
  have g3 : kinK q a = kinK q b := by
    unfold kinK; rw [if_neg hs, if_neg hs, w _ (Nat.le_refl _), W_congr fun n _ h2 => by rw [w n (by omega)]]
  have g4 : runK q a = runK q b := by
    unfold runK; rw [if_neg hs, if_neg hs, w (q.s - 1) (by omega), W_congr fun n _ h2 => by rw [w n (by omega)]]
  unfold kpE
  rw [g1, g2, g3, g4]
end JK

/-! Ans -/
set_option Elab.async false
set_option linter.all false
set_option maxRecDepth 100000
set_option autoImplicit false
namespace JK
open PySem PySem.Spec PyProof.Rows L2
/-! ### answers, by the rows in the span -/
def Qn.win (q : Qn) (rs : List Rw) : List Rw := if q.s = 0 then rs else lastN q.s rs
def seen (q : Qn) (rs : List Rw) : List Rw := rs.filter q.sees
def nums (q : Qn) (rs : List Rw) : List Int := (seen q rs).map Rw.n
def ansW (q : Qn) (l : List Rw) : Option Int := match q.w with
  | .second => (pr q l).2
  | .kinds => some (((ms q l).card : Nat) : Int)
  | .run => some ((lr q l : Nat) : Int)
  | _ => agg q l
def ans (q : Qn) (rs : List Rw) : Option Int := ansW q (q.win rs)
theorem fold_seen {α : Type} (q : Qn) (f : α → Rw → α) (g : α → Rw → α) (h : ∀ a r, f a r = if q.sees r = true then g a r else a) : ∀ (rs : List Rw) (a : α), rs.foldl f a = (seen q rs).foldl g a
  | [], a => rfl
  | r :: rs, a => by
    unfold seen
    rw [List.foldl_cons, h, List.filter_cons]
    by_cases hs : q.sees r = true
    · rw [if_pos hs, if_pos hs, List.foldl_cons]; exact fold_seen q f g h rs _
    · rw [if_neg hs, if_neg hs]; exact fold_seen q f g h rs _
theorem agg_many {q : Qn} (h : q.w = .many) (rs : List Rw) : agg q rs = some (((seen q rs).length : Nat) : Int) := by
  unfold agg
  rw [fold_seen q (joinO q) (fun a _ => a.map (· + 1)) (fun a r => by unfold joinO; rw [h]), show q.w.zero = some 0 by rw [h]; rfl]
  suffices ∀ (l : List Rw) (n : Int), l.foldl (fun a _ => a.map (· + 1)) (some n) = some (n + (l.length : Int)) by
    rw [this]; simp
  intro l
  induction l with
  | nil => intro n; simp
  | cons x l ih => intro n; simp only [List.foldl_cons, Option.map_some, ih, List.length_cons]; congr 1; omega
theorem agg_sum {q : Qn} (h : q.w = .sum) (rs : List Rw) : agg q rs = some (nums q rs).sum := by
  unfold agg nums
  rw [fold_seen q (joinO q) (fun a r => a.map (· + r.n)) (fun a r => by unfold joinO; rw [h]), show q.w.zero = some 0 by rw [h]; rfl]
  suffices ∀ (l : List Rw) (n : Int), l.foldl (fun a r => a.map (· + r.n)) (some n) = some (n + (l.map Rw.n).sum) by
    rw [this]; simp
  intro l
  induction l with
  | nil => intro n; simp
  | cons x l ih => intro n; simp only [List.foldl_cons, Option.map_some, ih, List.map_cons, List.sum_cons]; congr 1; omega
theorem agg_most {q : Qn} (h : q.w = .most) (rs : List Rw) : agg q rs = (nums q rs).foldl omax none := by
  unfold agg nums
  rw [fold_seen q (joinO q) (fun a r => omax a r.n) (fun a r => by unfold joinO; rw [h]), show q.w.zero = none by rw [h]; rfl, List.foldl_map]
theorem agg_least {q : Qn} (h : q.w = .least) (rs : List Rw) : agg q rs = (nums q rs).foldl omin none := by
  unfold agg nums
  rw [fold_seen q (joinO q) (fun a r => omin a r.n) (fun a r => by unfold joinO; rw [h]), show q.w.zero = none by rw [h]; rfl, List.foldl_map]
theorem agg_last {q : Qn} (h : q.w = .last) (rs : List Rw) : agg q rs = (seen q rs).getLast?.map Rw.n := by
  unfold agg
  rw [fold_seen q (joinO q) (fun _ r => some r.n) (fun a r => by unfold joinO; rw [h]), show q.w.zero = none by rw [h]; rfl]
  generalize seen q rs = l
  induction l using snoc_ind with
  | h0 => rfl
  | h1 xs x ih => rw [List.foldl_append]; simp
theorem pr_nums (q : Qn) (rs : List Rw) : pr q rs = (nums q rs).foldl top2 (none, none) := by
  unfold pr nums
  rw [fold_seen q (stepP q) (fun a r => top2 a r.n) (fun a r => rfl), List.foldl_map]
theorem ms_seen (q : Qn) (rs : List Rw) : ms q rs = (seen q rs).foldl (fun m r => m.add r.k) mk0 := by
  unfold ms
  rw [fold_seen q (stepM q) (fun m r => m.add r.k) (fun a r => rfl)]
/-! the greatest, the least, the greatest two -/
theorem omax_fold (l : List Int) : ∀ a : Int, ∃ m, l.foldl omax (some a) = some m ∧ (m = a ∨ m ∈ l) ∧ a ≤ m ∧ ∀ x ∈ l, x ≤ m := by
  induction l with
  | nil => intro a; exact ⟨a, rfl, .inl rfl, Int.le_refl _, by simp⟩
  | cons x l ih =>
    intro a
    obtain ⟨m, h1, h2, h3, h4⟩ := ih (max a x)
    refine ⟨m, h1, ?_, by omega, ?_⟩
    · rcases h2 with h2 | h2
      · by_cases h : a ≤ x
        · right; rw [h2, Int.max_eq_right h]; simp
        · left; rw [h2, Int.max_eq_left (by omega)]
      · right; simp [h2]
    · intro y hy
      rcases List.mem_cons.mp hy with rfl | hy
      · omega
      · exact h4 y hy
theorem omin_fold (l : List Int) : ∀ a : Int, ∃ m, l.foldl omin (some a) = some m ∧ (m = a ∨ m ∈ l) ∧ m ≤ a ∧ ∀ x ∈ l, m ≤ x := by
  induction l with
  | nil => intro a; exact ⟨a, rfl, .inl rfl, Int.le_refl _, by simp⟩
  | cons x l ih =>
    intro a
    obtain ⟨m, h1, h2, h3, h4⟩ := ih (min a x)
    refine ⟨m, h1, ?_, by omega, ?_⟩
    · rcases h2 with h2 | h2
      · by_cases h : a ≤ x
        · left; rw [h2, Int.min_eq_left h]
        · right; rw [h2, Int.min_eq_right (by omega)]; simp
      · right; simp [h2]
    · intro y hy
      rcases List.mem_cons.mp hy with rfl | hy
      · omega
      · exact h4 y hy
def Asc (l : List Int) : Prop := l.Pairwise (· ≤ ·)
theorem sortI_asc (l : List Int) : Asc (sortI l) := by
  have := List.pairwise_mergeSort (le := fun a b : Int => decide (a ≤ b)) (fun a b c h1 h2 => by simp at *; omega) (fun a b => by simp; omega) l
  exact this.imp fun h => by simpa using h
theorem sortI_pm (l : List Int) : (sortI l).Perm l := List.mergeSort_perm l _
theorem asc_last {l : List Int} {x : Int} (h : Asc (l ++ [x])) : Asc l ∧ ∀ y ∈ l, y ≤ x := by
  have := List.pairwise_append.mp h
  exact ⟨this.1, fun y hy => this.2.2 y hy x (by simp)⟩
theorem max_sorted (l : List Int) : (sortI l).getLast? = l.foldl omax none := by
  cases l with
  | nil => simp [sortI]
  | cons a l =>
    obtain ⟨m, h1, h2, h3, h4⟩ := omax_fold l a
    show _ = l.foldl omax (some a)
    rw [h1]
    have hp := sortI_pm (a :: l)
    have ha := sortI_asc (a :: l)
    generalize sortI (a :: l) = s at hp ha
    have hne : s ≠ [] := fun z => by subst z; have := hp.length_eq; simp at this
    obtain ⟨t, x, rfl⟩ : ∃ t x, s = t ++ [x] := ⟨s.dropLast, s.getLast hne, (List.dropLast_concat_getLast hne).symm⟩
    simp only [List.getLast?_append, List.getLast?_singleton, Option.some_or, Option.some.injEq]
    have hx : x ∈ a :: l := hp.mem_iff.mp (by simp)
    have hm : m ∈ t ++ [x] := hp.mem_iff.mpr (by rcases h2 with rfl | h2 <;> simp [*])
    have hall : ∀ y ∈ a :: l, y ≤ m := by simp; exact ⟨h3, h4⟩
    have := hall x hx
    have : m ≤ x := by
      rcases List.mem_append.mp hm with h | h
      · exact (asc_last ha).2 m h
      · simp at h; omega
    omega
theorem min_sorted (l : List Int) : (sortI l).head? = l.foldl omin none := by
  cases l with
  | nil => simp [sortI]
  | cons a l =>
    obtain ⟨m, h1, h2, h3, h4⟩ := omin_fold l a
    show _ = l.foldl omin (some a)
    rw [h1]
    have hp := sortI_pm (a :: l)
    have ha := sortI_asc (a :: l)
    generalize sortI (a :: l) = s at hp ha
    cases s with
    | nil => have := hp.length_eq; simp at this
    | cons x t =>
      simp only [List.head?_cons, Option.some.injEq]
      have hx : x ∈ a :: l := hp.mem_iff.mp (by simp)
      have hm : m ∈ x :: t := hp.mem_iff.mpr (by rcases h2 with rfl | h2 <;> simp [*])
      have hall : ∀ y ∈ a :: l, m ≤ y := by simp; exact ⟨h3, h4⟩
      have := hall x hx
      have : x ≤ m := by
        rcases List.mem_cons.mp hm with h | h
        · omega
        · exact (List.pairwise_cons.mp ha).1 m h
      omega
/-- p is the greatest two of l -/
def Top (l : List Int) (p : Pr) : Prop := (l = [] ∧ p = (none, none)) ∨ (∃ f, l = [f] ∧ p = (some f, none)) ∨ ∃ f s r, l.Perm (f :: s :: r) ∧ s ≤ f ∧ (∀ x ∈ r, x ≤ s) ∧ p = (some f, some s)
theorem top_perm {l l' : List Int} {p : Pr} (h : Top l p) (e : l.Perm l') : Top l' p := by
  rcases h with ⟨rfl, rfl⟩ | ⟨f, rfl, rfl⟩ | ⟨f, s, r, h1, h2, h3, rfl⟩
  · left; exact ⟨e.symm.eq_nil, rfl⟩
  · right; left; exact ⟨f, List.perm_singleton.mp e.symm, rfl⟩
  · right; right; exact ⟨f, s, r, e.symm.trans h1, h2, h3, rfl⟩
theorem top_uni {l : List Int} {p p' : Pr} (h : Top l p) (h' : Top l p') : p = p' := by
  rcases h with ⟨rfl, rfl⟩ | ⟨f, rfl, rfl⟩ | ⟨f, s, r, h1, h2, h3, rfl⟩
  · rcases h' with ⟨_, rfl⟩ | ⟨f, h, _⟩ | ⟨f, s, r, h, _⟩
    · rfl
    · cases h
    · have := h.length_eq; simp at this
  · rcases h' with ⟨h, _⟩ | ⟨g, h, rfl⟩ | ⟨g, s, r, h, _⟩
    · cases h
    · cases h; rfl
    · have := h.length_eq; simp at this
  · rcases h' with ⟨rfl, _⟩ | ⟨g, rfl, _⟩ | ⟨g, t, u, k1, k2, k3, rfl⟩
    · have := h1.length_eq; simp at this
    · have := h1.length_eq; simp at this
    · have e := h1.symm.trans k1
      have m1 : f ∈ g :: t :: u := e.mem_iff.mp (by simp)
      have m2 : g ∈ f :: s :: r := e.mem_iff.mpr (by simp)
      have b1 : f ≤ g := by
        rcases List.mem_cons.mp m1 with h | h
        · omega
        · rcases List.mem_cons.mp h with h | h
          · omega
          · have := k3 f h; omega
      have b2 : g ≤ f := by
        rcases List.mem_cons.mp m2 with h | h
        · omega
        · rcases List.mem_cons.mp h with h | h
          · omega
          · have := h3 g h; omega
      have eg : f = g := by omega
      subst eg
      have e2 := e.cons_inv
      have n1 : s ∈ t :: u := e2.mem_iff.mp (by simp)
      have n2 : t ∈ s :: r := e2.mem_iff.mpr (by simp)
      have c1 : s ≤ t := by
        rcases List.mem_cons.mp n1 with h | h
        · omega
        · exact k3 s h
      have c2 : t ≤ s := by
        rcases List.mem_cons.mp n2 with h | h
        · omega
        · exact h3 t h
      have : s = t := by omega
      rw [this]
theorem top_step {l : List Int} {p : Pr} (h : Top l p) (n : Int) : Top (l ++ [n]) (top2 p n) := by
  rcases h with ⟨rfl, rfl⟩ | ⟨f, rfl, rfl⟩ | ⟨f, s, r, h1, h2, h3, rfl⟩
  · right; left; exact ⟨n, rfl, rfl⟩
  · right; right
    unfold top2
    by_cases h : f < n
    · simp only [if_pos h]
      exact ⟨n, f, [], List.Perm.swap n f [], by omega, by simp, rfl⟩
    · simp only [if_neg h]
      exact ⟨f, n, [], List.Perm.refl _, by omega, by simp, rfl⟩
  · right; right
    have hp : (l ++ [n]).Perm (n :: f :: s :: r) := (List.perm_append_comm).trans (List.Perm.cons n h1)
    unfold top2
    by_cases h : f < n
    · simp only [if_pos h]
      refine ⟨n, f, s :: r, hp, by omega, ?_, rfl⟩
      intro x hx
      rcases List.mem_cons.mp hx with rfl | hx
      · exact h2
      · have := h3 x hx; omega
    · simp only [if_neg h, omax]
      by_cases h' : s ≤ n
      · rw [Int.max_eq_right h']
        refine ⟨f, n, s :: r, hp.trans (List.Perm.swap f n _), by omega, ?_, rfl⟩
        intro x hx
        rcases List.mem_cons.mp hx with rfl | hx
        · exact h'
        · have := h3 x hx; omega
      · rw [Int.max_eq_left (by omega)]
        refine ⟨f, s, n :: r, hp.trans ((List.Perm.swap f n _).trans (List.Perm.cons f (List.Perm.swap s n r))), h2, ?_, rfl⟩
        intro x hx
        rcases List.mem_cons.mp hx with rfl | hx
        · omega
        · exact h3 x hx
theorem top_fold (l : List Int) : Top l (l.foldl top2 (none, none)) := by
  induction l using snoc_ind with
  | h0 => left; exact ⟨rfl, rfl⟩
  | h1 xs x ih => rw [List.foldl_append]; exact top_step ih x
theorem second_sorted (l : List Int) : (l.foldl top2 (none, none)).2 = if 1 < (sortI l).length then (sortI l)[(sortI l).length - 2]? else none := by
  have h1 := top_perm (top_fold l) (sortI_pm l).symm
  have ha := sortI_asc l
  generalize sortI l = s at h1 ha
  by_cases hl : 1 < s.length
  · rw [if_pos hl]
    obtain ⟨t, a, b, rfl⟩ : ∃ t a b, s = t ++ [a] ++ [b] := by
      have hne : s ≠ [] := fun z => by subst z; simp at hl
      have hne2 : s.dropLast ≠ [] := fun z => by have := congrArg List.length z; simp at this; omega
      exact ⟨s.dropLast.dropLast, s.dropLast.getLast hne2, s.getLast hne, by rw [List.dropLast_concat_getLast hne2, List.dropLast_concat_getLast hne]⟩
    have h2 : Top (t ++ [a] ++ [b]) (some b, some a) := by
      right; right
      obtain ⟨a1, a2⟩ := asc_last ha
      obtain ⟨a3, a4⟩ := asc_last a1
      refine ⟨b, a, t, ?_, a2 a (by simp), a4, rfl⟩
      have e1 : (t ++ [a] ++ [b]).Perm (b :: (t ++ [a])) := List.perm_append_comm
      have e2 : (t ++ [a]).Perm (a :: t) := List.perm_append_comm
      exact e1.trans (List.Perm.cons b e2)
    rw [top_uni h1 h2]
    simp
  · rw [if_neg hl]
    rcases h1 with ⟨_, h⟩ | ⟨f, _, h⟩ | ⟨f, s', r, hp, _⟩
    · rw [h]
    · rw [h]
    · have := hp.length_eq; simp at this; omega
end JK

/-! Ans2 -/
set_option Elab.async false
set_option linter.all false
set_option maxRecDepth 100000
set_option autoImplicit false
namespace JK
open PySem PySem.Spec PyProof.Rows L2
/-! ### kinds -/
theorem card_add (m : Mk) (k : Fin 4) : (m.add k).card = if m.has k = true then m.card else m.card + 1 := by
  revert k; exact mk_all (p := fun m => ∀ k, (m.add k).card = if m.has k = true then m.card else m.card + 1) (by decide) m
theorem kS_inj {a b : Fin 4} : kS a = kS b ↔ a = b := by
  have := kS_eq a b
  rw [Bool.eq_iff_iff] at this
  simpa using this
theorem uni_keys (l : List Rw) : (∀ k, (uni (l.map fun r => kS r.k)).contains (kS k) = (l.foldl (fun m r => m.add r.k) mk0).has k) ∧ (uni (l.map fun r => kS r.k)).length = (l.foldl (fun m r => m.add r.k) mk0).card := by
  induction l using snoc_ind with
  | h0 => exact ⟨by decide, by decide⟩
  | h1 xs x ih =>
    obtain ⟨h1, h2⟩ := ih
    have e : uni ((xs ++ [x]).map fun r => kS r.k) = uniS (uni (xs.map fun r => kS r.k)) (kS x.k) := by
      unfold uni; rw [List.map_append, List.foldl_append]; rfl
    rw [e, List.foldl_append]
    simp only [List.foldl_cons, List.foldl_nil]
    refine ⟨fun k => ?_, ?_⟩
    · rw [uniS_has, h1, has_add]
      congr 1
      rw [decide_eq_decide]; exact kS_inj
    · rw [uniS_len, h1, h2, card_add]
/-! ### run -/
def lead (q : Qn) (k : Fin 4) (l : List Rw) : Nat := (l.takeWhile fun r => q.sees r && decide (r.k = k)).length
def rlen (q : Qn) : List Rw → Nat
  | [] => 0
  | r :: l => lead q r.k (r :: l)
def br (q : Qn) : List Rw → Nat
  | [] => 0
  | r :: l => max (rlen q (r :: l)) (br q l)
def ext (q : Qn) (e : Er) (l : List Rw) : Nat := match e.1 with
  | none => 0
  | some k => if lead q k l = 0 then 0 else e.2 + lead q k l
theorem lead_cons (q : Qn) (k : Fin 4) (r : Rw) (l : List Rw) : lead q k (r :: l) = if q.sees r = true ∧ r.k = k then lead q k l + 1 else 0 := by
  unfold lead
  rw [List.takeWhile_cons]
  by_cases h1 : q.sees r = true <;> by_cases h2 : r.k = k <;> simp [h1, h2]
theorem fold_br (q : Qn) : ∀ (l : List Rw) (b : Nat) (e : Er), (l.foldl (stepL q) (b, e)).1 = max b (max (ext q e l) (br q l)) := by
  intro l
  induction l with
  | nil =>
    intro b e
    have : ext q e [] = 0 := by unfold ext; cases e.1 <;> simp [lead]
    simp [this, br]
  | cons r l ih =>
    intro b e
    rw [List.foldl_cons, show stepL q (b, e) r = (max b (stepE q e r).2, stepE q e r) from rfl, ih]
    by_cases hs : q.sees r = true
    · have e1 : stepE q e r = (some r.k, if e.1 = some r.k then e.2 + 1 else 1) := by unfold stepE; rw [if_pos hs]
      have e2 : rlen q (r :: l) = lead q r.k l + 1 := by show lead q r.k (r :: l) = _; rw [lead_cons, if_pos ⟨hs, rfl⟩]
      rw [e1]
      simp only [br, e2]
      have e3 : ∀ x, ext q (some r.k, x) l = if lead q r.k l = 0 then 0 else x + lead q r.k l := fun x => rfl
      rw [e3]
      cases hk : e.1 with
      | none =>
        have e4 : ext q e (r :: l) = 0 := by unfold ext; rw [hk]
        rw [e4]
        simp only [reduceCtorEq, if_false]
        split <;> omega
      | some k =>
        by_cases hkk : k = r.k
        · subst hkk
          have e4 : ext q e (r :: l) = e.2 + (lead q r.k l + 1) := by
            have z : lead q r.k (r :: l) = lead q r.k l + 1 := by rw [lead_cons, if_pos ⟨hs, rfl⟩]
            unfold ext; rw [hk]; simp only [z]; rw [if_neg (by omega)]
          rw [e4]
          simp only [if_true]
          split <;> omega
        · have e4 : ext q e (r :: l) = 0 := by
            have z : lead q k (r :: l) = 0 := by rw [lead_cons, if_neg (fun z => hkk z.2.symm)]
            unfold ext; rw [hk]; simp only [z, if_true]
          rw [e4]
          have : ¬ (some k = some r.k) := by simp [hkk]
          simp only [if_neg this]
          split <;> omega
    · have e1 : stepE q e r = (none, 0) := by unfold stepE; rw [if_neg hs]
      have e2 : ∀ k, lead q k (r :: l) = 0 := fun k => by rw [lead_cons, if_neg (fun z => hs z.1)]
      have e3 : ext q e (r :: l) = 0 := by unfold ext; cases e.1 <;> simp [e2]
      have e4 : ext q (none, 0) l = 0 := rfl
      rw [e1, e3]
      simp only [br, rlen, e2, e4]
      omega
theorem lr_br (q : Qn) (l : List Rw) : lr q l = br q l := by
  unfold lr lre
  rw [fold_br]
  simp [ext]
theorem sWhileN_up {t : Tx} {F : Sx} (ρ : Nat → Env) (m : Nat) (ht : ∀ i, i < m → t (ρ i) = .ok true) (hf : t (ρ m) = .ok false) (hb : ∀ i, i < m → F (ρ i) = .nx (ρ (i + 1))) : ∀ (n i : Nat), i ≤ m → m - i < n → sWhileN t F n (ρ i) = .nx (ρ m) := by
  intro n
  induction n with
  | zero => intro i _ h; omega
  | succ n ih =>
    intro i h1 h2
    rw [sWhileN]
    by_cases hi : i < m
    · have e1 := ht i hi
      have e2 := hb i hi
      have e3 := ih (i + 1) hi (by omega)
      simp only [e1, tThen, if_true, e2, e3]
    · have : i = m := by omega
      subst this
      simp [hf, tThen]
end JK

/-! Mir11 -/
set_option Elab.async false
set_option linter.all false
set_option maxRecDepth 100000
set_option autoImplicit false
namespace JK
open PySem PySem.Spec PyProof.Rows L2
@[simp] theorem m_law_sees (q : Qn) (r : Rw) : d_law_sees [q.e, r.e] = .ok (.bl (q.sees r)) := by
  simp [d_law_sees, Qn.e, Rw.e, in_txt, Qn.sees]
  cases q.m.has r.k <;> simp
  by_cases h : q.lo ≤ r.n <;> simp [h]
theorem intsOf_map (l : List Int) : intsOf (l.map D.int) = some l := by
  induction l with
  | nil => rfl
  | cons x l ih => rw [List.map_cons, intsOf, ih]; rfl
theorem dSort_ints (l : List Int) : dSort [.lst (l.map D.int)] = .ok (.lst ((sortI l).map D.int)) := by
  unfold dSort; simp only [intsOf_map]
theorem dSum_ints (l : List Int) : dSum [.lst (l.map D.int)] = .ok (.int l.sum) := by
  unfold dSum; simp only [intsOf_map]
theorem dLast_lst {l : List D} {d : D} (h : l.getLast? = some d) : dIx (.lst l) (.int (-1)) = .ok d := by
  have hne : l ≠ [] := fun z => by subst z; cases h
  have hl : 0 < l.length := List.length_pos_iff.mpr hne
  have e : L2.atI l (-1) = some d := by
    unfold L2.atI L2.ixN
    rw [if_neg (by omega), if_pos (by omega), Option.bind_some, show ((-1 : Int) + (l.length : Int)).toNat = l.length - 1 by omega, ← List.getLast?_eq_getElem?, h]
  simp only [dIx, e]
theorem dLast2_lst {l : List D} {d : D} (h1 : 1 < l.length) (h : l[l.length - 2]? = some d) : dIx (.lst l) (.int (-2)) = .ok d := by
  have e : L2.atI l (-2) = some d := by
    unfold L2.atI L2.ixN
    rw [if_neg (by omega), if_pos (by omega), Option.bind_some, show ((-2 : Int) + (l.length : Int)).toNat = l.length - 2 by omega, h]
  simp only [dIx, e]
theorem strsOf_map (l : List Str) : strsOf (l.map D.str) = some l := by
  induction l with
  | nil => rfl
  | cons x l ih => rw [List.map_cons, strsOf, ih]; rfl
@[simp] theorem eLenSet_ap {ρ : Env} (a : Ex) : eLenSet a ρ = bT (a ρ) dLenSet .mk := rfl
theorem rows_at {rs : List Rw} {i : Nat} {r : Rw} (h : rs[i]? = some r) : dIx (eRows rs) (.int (i : Int)) = .ok r.e := by
  unfold eRows
  exact dIx_lst (by rw [List.getElem?_map, h]; rfl)
/-- the loops of run -/
def runBody : Sx := sSeq (sSet 13 (eC (.int 0)))
    (sSeq (sWhile 100000 (tAndD (tOf (eBin dLt (eBin dAdd (eName 12) (eName 13)) (eCall dLen (aCons (eName 7) aNil)))) (tAndD (tTru (eCall d_law_sees (aCons (eName 0) (aCons (eBin dIx (eName 7) (eBin dAdd (eName 12) (eName 13))) aNil)))) (tOf (eBin dEq (eBin dIx (eBin dIx (eName 7) (eBin dAdd (eName 12) (eName 13))) (eC (.int 0))) (eBin dIx (eBin dIx (eName 7) (eName 12)) (eC (.int 0)))))))
    (sSet 13 (eBin dAdd (eName 13) (eC (.int 1)))))
    (sSet 11 (eCall dMax2 (aCons (eName 11) (aCons (eName 13) aNil)))))
theorem takeWhile_at {α : Type} (p : α → Bool) : ∀ (l : List α) (i : Nat), i < (l.takeWhile p).length → ∃ x, l[i]? = some x ∧ p x = true
  | [], i, h => by simp at h
  | y :: l, i, h => by
    rw [List.takeWhile_cons] at h
    by_cases hy : p y = true
    · rw [if_pos hy] at h
      cases i with
      | zero => exact ⟨y, rfl, hy⟩
      | succ i =>
        obtain ⟨x, h1, h2⟩ := takeWhile_at p l i (by simpa using h)
        exact ⟨x, by simpa using h1, h2⟩
    · rw [if_neg hy] at h; simp at h
theorem takeWhile_end {α : Type} (p : α → Bool) : ∀ (l : List α), l[(l.takeWhile p).length]? = none ∨ ∃ x, l[(l.takeWhile p).length]? = some x ∧ p x = false
  | [] => .inl rfl
  | y :: l => by
    rw [List.takeWhile_cons]
    by_cases hy : p y = true
    · rw [if_pos hy]
      rcases takeWhile_end p l with h | ⟨x, h1, h2⟩
      · left; simpa using h
      · right; exact ⟨x, by simpa using h1, h2⟩
    · rw [if_neg hy]
      right; exact ⟨y, rfl, by simpa using hy⟩
theorem run_body (q : Qn) (here : List Rw) (hl : here.length ≤ 1000) (d1 d2 d3 d4 d5 d6 d8 d10 : D) (s9 : Slot) (best : Nat) (i : Nat) (hi : i < here.length) (z : Slot) :
    runBody [.val q.e, .val d1, .val d2, .val d3, .val d4, .val d5, .val d6, .val (eRows here), .val d8, s9, .val d10, .val (.int (best : Int)), .val (.int (i : Int)), z] =
      .nx [.val q.e, .val d1, .val d2, .val d3, .val d4, .val d5, .val d6, .val (eRows here), .val d8, s9, .val d10, .val (.int ((max best (rlen q (here.drop i)) : Nat) : Int)), .val (.int (i : Int)), .val (.int ((rlen q (here.drop i) : Nat) : Int))] := by
  obtain ⟨r, hr⟩ : ∃ r, here[i]? = some r := ⟨here[i], List.getElem?_eq_getElem hi⟩
  have ed : here.drop i = r :: here.drop (i + 1) := drop_at hr
  have em : rlen q (here.drop i) = ((here.drop i).takeWhile fun x => q.sees x && decide (x.k = r.k)).length := by
    rw [ed]; rfl
  generalize hm : rlen q (here.drop i) = m at em
  have hml : m ≤ here.length := by
    have := (List.takeWhile_sublist (l := here.drop i) (fun x => q.sees x && decide (x.k = r.k))).length_le
    rw [List.length_drop] at this; omega
  have w := sWhileN_up (t := tAndD (tOf (eBin dLt (eBin dAdd (eName 12) (eName 13)) (eCall dLen (aCons (eName 7) aNil)))) (tAndD (tTru (eCall d_law_sees (aCons (eName 0) (aCons (eBin dIx (eName 7) (eBin dAdd (eName 12) (eName 13))) aNil)))) (tOf (eBin dEq (eBin dIx (eBin dIx (eName 7) (eBin dAdd (eName 12) (eName 13))) (eC (.int 0))) (eBin dIx (eBin dIx (eName 7) (eName 12)) (eC (.int 0)))))))
    (F := sSet 13 (eBin dAdd (eName 13) (eC (.int 1))))
    (fun j => [.val q.e, .val d1, .val d2, .val d3, .val d4, .val d5, .val d6, .val (eRows here), .val d8, s9, .val d10, .val (.int (best : Int)), .val (.int (i : Int)), .val (.int (j : Int))]) m ?h1 ?h2 ?h3 100000 0 (by omega) (by omega)
  case h1 =>
    intro j hj
    rw [em] at hj
    obtain ⟨x, hx, px⟩ := takeWhile_at _ _ _ hj
    rw [List.getElem?_drop] at hx
    have hlt : i + j < here.length := (List.getElem?_eq_some_iff.mp hx).1
    have a1 := rows_at hx
    have a2 := rows_at hr
    rw [show ((i + j : Nat) : Int) = (i : Int) + (j : Int) by omega] at a1
    rw [Bool.and_eq_true, decide_eq_true_iff] at px
    have hlt' : (i : Int) + (j : Int) < here.length := by omega
    simp [hlt', a1, a2, px.1, px.2]
  case h2 =>
    rcases takeWhile_end (fun x => q.sees x && decide (x.k = r.k)) (here.drop i) with h | ⟨x, hx, px⟩
    · rw [← em, List.getElem?_drop, List.getElem?_eq_none_iff] at h
      have : ¬ ((i : Int) + (m : Int) < here.length) := by omega
      simp [this]
    · rw [← em, List.getElem?_drop] at hx
      have hlt : i + m < here.length := (List.getElem?_eq_some_iff.mp hx).1
      have a1 := rows_at hx
      have a2 := rows_at hr
      rw [show ((i + m : Nat) : Int) = (i : Int) + (m : Int) by omega] at a1
      have hlt' : (i : Int) + (m : Int) < here.length := by omega
      simp [hlt', a1, a2]
      cases hs : q.sees x with
      | false => simp
      | true =>
        rw [hs, Bool.true_and, decide_eq_false_iff_not] at px
        simp
        exact fun z => px (kS_inj.mp z)
  case h3 =>
    intro j _
    simp
  simp at w
  simp [runBody, w]
  omega

theorem win_cut (q : Qn) (rs : List Rw) : (if 0 < q.s ∧ q.s < rs.length then rs.drop (rs.length - q.s) else rs) = q.win rs := by
  unfold Qn.win
  by_cases h0 : q.s = 0
  · rw [if_neg (by omega), if_pos h0]
  · rw [if_neg h0]
    by_cases h1 : q.s < rs.length
    · rw [if_pos ⟨by omega, h1⟩]; rfl
    · rw [if_neg (by omega), lastN_all (by omega)]
theorem br_fold (q : Qn) : ∀ (l : List Rw) (b : Nat), (List.range l.length).foldl (fun b i => max b (rlen q (l.drop i))) b = max b (br q l)
  | [], b => by simp [br]
  | r :: l, b => by
    rw [List.length_cons, List.range_succ_eq_map, List.foldl_cons, List.foldl_map]
    simp only [List.drop_zero, List.drop_succ_cons, Nat.succ_eq_add_one]
    rw [br_fold q l]
    simp only [br]
    omega
theorem br_loop (q : Qn) (here : List Rw) (hl : here.length ≤ 1000) (d1 d2 d3 d4 d5 d6 d8 d10 : D) (s9 : Slot) : ∃ y z, sLoop (gN 12) runBody ((List.range here.length).map nE) [.val q.e, .val d1, .val d2, .val d3, .val d4, .val d5, .val d6, .val (eRows here), .val d8, s9, .val d10, .val (.int 0), .emp, .emp] =
    .nx [.val q.e, .val d1, .val d2, .val d3, .val d4, .val d5, .val d6, .val (eRows here), .val d8, s9, .val d10, .val (.int ((br q here : Nat) : Int)), y, z] := by
  have h := sLoop_inv (g := gN 12) (F := runBody) (f := nE)
    (fun done => [.val q.e, .val d1, .val d2, .val d3, .val d4, .val d5, .val d6, .val (eRows here), .val d8, s9, .val d10, .val (.int ((done.foldl (fun b i => max b (rlen q (here.drop i))) 0 : Nat) : Int)),
      (done.getLast?.map fun x => Slot.val (nE x)).getD .emp, (done.getLast?.map fun x => Slot.val (.int ((rlen q (here.drop x) : Nat) : Int))).getD .emp]) (done := []) (List.range here.length) (by
      intro a b x e
      have hx : x < here.length := by
        have : x ∈ List.range here.length := by rw [List.nil_append] at e; rw [e]; simp
        simpa using this
      refine ⟨_, rfl, ?_⟩
      simp only [List.set_cons_succ, List.set_cons_zero]
      rw [show (nE x) = .int (x : Int) from rfl, run_body q here hl _ _ _ _ _ _ _ _ _ _ _ hx]
      simp [List.foldl_append, nE])
  simp only [List.nil_append, br_fold] at h
  rw [Nat.zero_max] at h
  exact ⟨_, _, h⟩
def ansTail : Sx := (sSeq (sSet 8 (eLst (aComp (aItems (eName 7)) [9] (gN 9) (tTru (eCall d_law_sees (aCons (eName 0) (aCons (eName 9) aNil)))) (eName 9))))
    (sSeq (sSet 10 (eCall dSort (aCons (eLst (aComp (aItems (eName 8)) [9] (gN 9) tYesD (eBin dIx (eName 9) (eC (.int 1))))) aNil)))
    (sSeq (sIf (tOf (eBin dEq (eName 2) (eC (.str "many")))) (sRet (eCall dLen (aCons (eName 8) aNil))) sNil)
    (sSeq (sIf (tOf (eBin dEq (eName 2) (eC (.str "sum")))) (sRet (eCall dSum (aCons (eName 10) aNil))) sNil)
    (sSeq (sIf (tOf (eBin dEq (eName 2) (eC (.str "kinds")))) (sRet (eLenSet (eLst (aComp (aItems (eName 8)) [9] (gN 9) tYesD (eBin dIx (eName 9) (eC (.int 0))))))) sNil)
    (sSeq (sIf (tOf (eBin dEq (eName 2) (eC (.str "run")))) (sSeq (sSet 11 (eC (.int 0)))
    (sSeq (sFor (aRng dRng1 (aCons (eCall dLen (aCons (eName 7) aNil)) aNil)) (gN 12)
    runBody)
    (sRet (eName 11)))) sNil)
    (sSeq (sIf (tOf (eBin dEq (eName 2) (eC (.str "second")))) (sRet (eIf (tOf (eBin dGt (eCall dLen (aCons (eName 10) aNil)) (eC (.int 1)))) (eBin dIx (eName 10) (eNeg (eC (.int 2)))) (eC .non))) sNil)
    (sSeq (sIf (tOf (eBin dEq (eName 10) (eLst aNil))) (sRet (eC .non)) sNil)
    (sRet (eDict3 "most" "least" "last" (eBin dIx (eName 10) (eNeg (eC (.int 1)))) (eBin dIx (eName 10) (eC (.int 0))) (eBin dIx (eBin dIx (eName 8) (eNeg (eC (.int 1)))) (eC (.int 1))) (eName 2)))))))))))
theorem law_answer_eq : d_law_answer = runD 14 2 (sSeq (sAsg (eName 0) (gT (gsCons (gN 2) (gsCons (gN 3) (gsCons (gN 4) (gsCons (gN 5) (gsCons (gN 6) gsNil)))))))
    (sSeq (sSet 7 (eIf (tOf (eChain dLt dLt (eC (.int 0)) (eName 6) (eCall dLen (aCons (eName 1) aNil)))) (eSl (eName 1) (oSome (eBin dSub (eCall dLen (aCons (eName 1) aNil)) (eName 6))) oNone) (eName 1)))
    ansTail)) := rfl
@[simp] theorem gT_q {ρ : Env} (r : Gsx) (q : Qn) : gT r q.e ρ = r [.str q.w.s, .str q.m.txt, .int q.lo, .int q.hi, .int (q.s : Int)] ρ := rfl
@[simp] theorem gT_r {ρ : Env} (g : Gsx) (r : Rw) : gT g r.e ρ = g [.str (kS r.k), .int r.n] ρ := rfl
@[simp] theorem dItems_rows (rs : List Rw) : dItems (eRows rs) = .ok (rs.map Rw.e) := rfl
theorem perm_sum {l l' : List Int} (h : l.Perm l') : l.sum = l'.sum := by
  induction h with
  | nil => rfl
  | cons x _ ih => simp [ih]
  | swap x y l => simp; omega
  | trans _ _ h1 h2 => rw [h1, h2]
@[simp] theorem okOr_ok {α : Type} (a : α) : okOr (.ok a : R α) = .ok a := rfl
@[simp] theorem eDict3_ap {ρ : Env} (k1 k2 k3 : Str) (a b c i : Ex) (h : noOwn ρ = true) : eDict3 k1 k2 k3 a b c i ρ = bT (okOr (a ρ)) (fun x => bT (okOr (b ρ)) (fun y => bT (okOr (c ρ)) (fun z => bT (okOr (i ρ)) (fun j => dict3 k1 k2 k3 x y z j) .mk) .mk) .mk) .mk := by
  unfold eDict3; rw [if_pos h]; rfl
theorem ints_sim (l : List Int) : (D.lst (l.map D.int)).sim = true ∧ (D.lst (l.map D.int)).dep ≤ 60 := by
  refine ⟨by simp [D.sim, simL_iff], ?_⟩
  have := depL_le (n := 1) (l.map D.int) (by simp [D.dep])
  simp only [D.dep]; omega
theorem dEq_nil (l : List Int) : dEq (.lst (l.map D.int)) (.lst []) = .ok (.bl (decide (l = []))) :=
  dEq_sim (ints_sim l).1 rfl (ints_sim l).2 (by simp)
theorem ans_tail (q : Qn) (W : List Rw) (hl : W.length ≤ 1000) (d1 d3 d4 d5 d6 : D) :
    outR (ansTail [.val q.e, .val d1, .val (.str q.w.s), .val d3, .val d4, .val d5, .val d6, .val (eRows W), .emp, .emp, .emp, .emp, .emp, .emp]) = .ok (oE (ansW q W)) := by
  have c1 : cLoop (gN 9) (tTru (eCall d_law_sees (aCons (eName 0) (aCons (eName 9) aNil)))) (eName 9) [.val q.e, .val d1, .val (.str q.w.s), .val d3, .val d4, .val d5, .val d6, .val (eRows W), .emp, .emp, .emp, .emp, .emp, .emp] (W.map Rw.e) = .ok ((seen q W).map Rw.e) := by
    rw [cLoop_map (p := q.sees) (o := Rw.e)]
    · rfl
    · intro r _
      exact ⟨_, rfl, by simp, fun _ => by simp⟩
  have c2 : cLoop (gN 9) tYesD (eBin dIx (eName 9) (eC (.int 1))) [.val q.e, .val d1, .val (.str q.w.s), .val d3, .val d4, .val d5, .val d6, .val (eRows W), .val (eRows (seen q W)), .emp, .emp, .emp, .emp, .emp] ((seen q W).map Rw.e) = .ok ((nums q W).map D.int) := by
    rw [cLoop_all (o := fun r => .int r.n)]
    · unfold nums; rw [List.map_map]; rfl
    · intro r _
      exact ⟨_, rfl, by simp⟩
  have el : D.lst ((seen q W).map Rw.e) = eRows (seen q W) := rfl
  have sl : (seen q W).length ≤ 1000 := Nat.le_trans (List.length_filter_le _ _) hl
  have e0 := dSort_ints (nums q W)
  have ls : (sortI (nums q W)).length = (seen q W).length := by rw [(sortI_pm _).length_eq]; unfold nums; rw [List.length_map]
  unfold ansW
  cases hw : q.w <;> rw [hw] at c1 c2
  case many => simp [ansTail, c1, el, c2, e0, agg_many hw]
  case sum =>
    have := dSum_ints (sortI (nums q W))
    rw [perm_sum (sortI_pm (nums q W))] at this
    simp [ansTail, c1, el, c2, e0, agg_sum hw, this]
  case kinds =>
    have c3 : cLoop (gN 9) tYesD (eBin dIx (eName 9) (eC (.int 0))) [.val q.e, .val d1, .val (.str Wd.kinds.s), .val d3, .val d4, .val d5, .val d6, .val (eRows W), .val (eRows (seen q W)), .emp, .val (.lst ((sortI (nums q W)).map D.int)), .emp, .emp, .emp] ((seen q W).map Rw.e) = .ok (((seen q W).map fun r => kS r.k).map D.str) := by
      rw [cLoop_all (o := fun r => .str (kS r.k))]
      · rw [List.map_map]; rfl
      · intro r _
        exact ⟨_, rfl, by simp⟩
    have e3 : dLenSet (.lst (((seen q W).map fun r => kS r.k).map D.str)) = .ok (.int ((ms q W).card : Nat)) := by
      unfold dLenSet
      simp only [strsOf_map]
      rw [if_pos (by simp; omega), (uni_keys (seen q W)).2, ms_seen]
    simp [ansTail, c1, el, c2, e0, c3, e3, -List.map_map]
  case run =>
    obtain ⟨y, z, hb⟩ := br_loop q W hl d1 (.str Wd.run.s) d3 d4 d5 d6 (eRows (seen q W)) (.lst ((sortI (nums q W)).map D.int)) .emp
    have r1 := rng1 W.length (by omega)
    simp [ansTail, c1, el, c2, e0, r1, hb, lr_br]
  case second =>
    rw [pr_nums, second_sorted]
    by_cases h1 : 1 < (sortI (nums q W)).length
    · rw [if_pos h1]
      obtain ⟨x, hx⟩ : ∃ x, (sortI (nums q W))[(sortI (nums q W)).length - 2]? = some x := ⟨_, List.getElem?_eq_getElem (by omega)⟩
      have := dLast2_lst (l := (sortI (nums q W)).map D.int) (d := .int x) (by simpa using h1) (by rw [List.length_map, List.getElem?_map, hx]; rfl)
      rw [hx]
      have h1' : (1 : Int) < ((sortI (nums q W)).length : Int) := by omega
      simp [ansTail, c1, el, c2, e0, h1', this]
    · rw [if_neg h1]
      have h1' : ¬ (1 : Int) < ((sortI (nums q W)).length : Int) := by omega
      simp [ansTail, c1, el, c2, e0, h1']
  all_goals
    by_cases hn : nums q W = []
    · have hs0 : sortI (nums q W) = [] := by rw [hn]; simp [sortI]
      have hs1 : seen q W = [] := by unfold nums at hn; simpa using hn
      have e4 := dEq_nil (sortI (nums q W))
      rw [hs0] at e4 e0
      first
        | (rw [agg_most hw, hn]; simp [ansTail, c1, el, c2, e0] at e4 ⊢; simp [e4])
        | (rw [agg_least hw, hn]; simp [ansTail, c1, el, c2, e0] at e4 ⊢; simp [e4])
        | (rw [agg_last hw, hs1]; simp [ansTail, c1, el, c2, e0] at e4 ⊢; simp [e4])
    · have hs0 : sortI (nums q W) ≠ [] := fun z => hn (by have := (sortI_pm (nums q W)).length_eq; rw [z] at this; exact List.eq_nil_of_length_eq_zero this.symm)
      have hs1 : seen q W ≠ [] := fun z => hn (by unfold nums; rw [z]; rfl)
      have e4 := dEq_nil (sortI (nums q W))
      rw [decide_eq_false hs0] at e4
      have mx := max_sorted (nums q W)
      have mn := min_sorted (nums q W)
      obtain ⟨a, ha⟩ : ∃ a, (sortI (nums q W)).getLast? = some a := ⟨_, List.getLast?_eq_some_getLast hs0⟩
      obtain ⟨b, hb⟩ : ∃ b, (sortI (nums q W)).head? = some b := ⟨_, List.head?_eq_some_head hs0⟩
      obtain ⟨c, hc⟩ : ∃ c, (seen q W).getLast? = some c := ⟨_, List.getLast?_eq_some_getLast hs1⟩
      have i1 := dLast_lst (l := (sortI (nums q W)).map D.int) (d := .int a) (by rw [List.getLast?_map, ha]; rfl)
      have i2 : dIx (.lst ((sortI (nums q W)).map D.int)) (.int 0) = .ok (.int b) := dIx_lst (n := 0) (by rw [List.getElem?_map, ← List.head?_eq_getElem?, hb]; rfl)
      have i3 : dIx (eRows (seen q W)) (.int (-1)) = .ok c.e := dLast_lst (l := (seen q W).map Rw.e) (by rw [List.getLast?_map, hc]; rfl)
      rw [ha] at mx
      rw [hb] at mn
      have d1' : dict3 "most" "least" "last" (.int a) (.int b) (.int c.n) (.str Wd.most.s) = .ok (.int a) := rfl
      have d2' : dict3 "most" "least" "last" (.int a) (.int b) (.int c.n) (.str Wd.least.s) = .ok (.int b) := rfl
      have d3' : dict3 "most" "least" "last" (.int a) (.int b) (.int c.n) (.str Wd.last.s) = .ok (.int c.n) := rfl
      first
        | (rw [agg_most hw, ← mx]; simp [ansTail, c1, el, c2, e0, e4, noOwn, Slot.isOwn, i1, i2, i3, d1'])
        | (rw [agg_least hw, ← mn]; simp [ansTail, c1, el, c2, e0, e4, noOwn, Slot.isOwn, i1, i2, i3, d2'])
        | (rw [agg_last hw, hc]; simp [ansTail, c1, el, c2, e0, e4, noOwn, Slot.isOwn, i1, i2, i3, d3'])
theorem m_law_answer (q : Qn) (rs : List Rw) (hl : rs.length ≤ 1000) : d_law_answer [q.e, eRows rs] = .ok (oE (ans q rs)) := by
  have hw : (q.win rs).length ≤ 1000 := by
    unfold Qn.win; split
    · exact hl
    · rw [lastN_length]; omega
  have hc := win_cut q rs
  show _ = R.ok (oE (ansW q (q.win rs)))
  rw [law_answer_eq]
  have t := ans_tail q (q.win rs) hw (eRows rs) (.str q.m.txt) (.int q.lo) (.int q.hi) (.int (q.s : Int))
  by_cases h1 : 0 < q.s
  · have h1' : (0 : Int) < q.s := by omega
    by_cases h2 : q.s < rs.length
    · have e1 := dSl_rows_from rs ((rs.length : Int) - (q.s : Int)) (by omega)
      rw [show ((rs.length : Int) - (q.s : Int)).toNat = rs.length - q.s by omega] at e1
      rw [if_pos ⟨h1, h2⟩] at hc
      rw [hc] at e1
      have h2' : (q.s : Int) < rs.length := by omega
      simp [h1, h2, h1', h2', e1, t]
    · rw [if_neg (by omega)] at hc
      rw [← hc] at t
      rw [← hc]
      have h2' : ¬ (q.s : Int) < rs.length := by omega
      simp [h1, h2, h1', h2', t]
  · rw [if_neg (by omega)] at hc
    rw [← hc] at t
    rw [← hc]
    have h1' : ¬ (0 : Int) < q.s := by omega
    simp [h1, h1', t]
end JK

/-! Mir12 -/
set_option Elab.async false
set_option linter.all false
set_option maxRecDepth 100000
set_option autoImplicit false
namespace JK
open PySem PySem.Spec PyProof.Rows L2
theorem m_kept {qs : List Qn} {a : List Rw} (h : GoodP qs) (ha : Good a) : d_kept [ePlan qs, eRows a] = .ok (keepE qs a) := by
  simp [d_kept, m_look_two h ha, m_kept_of h.1]
theorem m_told_by (q : Qn) (rs : List Rw) : d_told_by [q.e, kpE q rs] = .ok (oE (ans q rs)) := by
  unfold ans ansW kpE Qn.win
  by_cases hs : q.s = 0
  · cases hw : q.w <;> simp [d_told_by, hw, hs, gatE, gatK, secK, kinK, runK, SecK.e, KinK.e, RunK.e, prE, mkE, nE]
  · obtain ⟨t, ht⟩ : ∃ t, q.s = t + 1 := ⟨q.s - 1, by omega⟩
    cases hw : q.w <;> simp [d_told_by, hw, hs, gatE, gatK, secK, kinK, runK, SecK.e, KinK.e, RunK.e, nE] <;> simp [ht, W, nE]
theorem kp_step {q : Qn} (h : q.ok) {a b : List Rw} (e : kpE q a = kpE q b) (r : Rw) : kpE q (a ++ [r]) = kpE q (b ++ [r]) := by
  have h1 := m_after_of h a r
  have h2 := m_after_of h b r
  rw [e, h2] at h1
  injection h1 with h1
  exact h1.symm
theorem kp_more {q : Qn} (h : q.ok) {a b : List Rw} (e : kpE q a = kpE q b) (rs : List Rw) : kpE q (a ++ rs) = kpE q (b ++ rs) := by
  induction rs generalizing a b with
  | nil => simpa using e
  | cons r rs ih =>
    have := ih (kp_step h e r)
    simpa using this
theorem kp_ans {q : Qn} {a b : List Rw} (e : kpE q a = kpE q b) : ans q a = ans q b := by
  have h1 := m_told_by q a
  have h2 := m_told_by q b
  rw [e, h2] at h1
  injection h1 with h1
  exact (oE_inj.mp h1).symm
theorem alk_more {qs : List Qn} (h : GoodP qs) {a b : List Rw} (e : Alk qs a b) (rs : List Rw) : Alk qs (a ++ rs) (b ++ rs) := by
  rw [alk_iff] at *
  exact fun q hq => kp_more (h.1 q hq) (e q hq) rs
theorem alk_ans {qs : List Qn} {a b : List Rw} (e : Alk qs a b) {q : Qn} (hq : q ∈ qs) : ans q a = ans q b := kp_ans (alk_iff.mp e q hq)
end JK

/-! ThB1 -/
set_option Elab.async false
set_option linter.all false
set_option maxRecDepth 100000
set_option autoImplicit false
namespace JK
/-! ### how many rows tell apart -/
structure Sep (q : Qn) (n : Nat) (a b : List Rw) : Prop where
  ex : ∃ x : List Rw, x.length = n ∧ (∀ r ∈ x, r.ok) ∧ ans q (a ++ x) ≠ ans q (b ++ x)
  no : ∀ x : List Rw, x.length < n → ans q (a ++ x) = ans q (b ++ x)
theorem win_app {q : Qn} (a x : List Rw) (h : x.length ≤ q.s) (hs : q.s ≠ 0) : q.win (a ++ x) = lastN (q.s - x.length) a ++ x := by
  unfold Qn.win; rw [if_neg hs, lastN_append' _ _ h]
theorem win_app0 {q : Qn} (a x : List Rw) (hs : q.s = 0) : q.win (a ++ x) = a ++ x := by
  unfold Qn.win; rw [if_pos hs]
theorem agg_app (q : Qn) (a x : List Rw) : agg q (a ++ x) = x.foldl (joinO q) (agg q a) := by unfold agg; rw [List.foldl_append]
theorem pr_app (q : Qn) (a x : List Rw) : pr q (a ++ x) = x.foldl (stepP q) (pr q a) := by unfold pr; rw [List.foldl_append]
theorem ms_app (q : Qn) (a x : List Rw) : ms q (a ++ x) = x.foldl (stepM q) (ms q a) := by unfold ms; rw [List.foldl_append]
theorem fold_rep {α β : Type} (f : α → β → α) (a : α) (r : β) (h : f a r = a) : ∀ n : Nat, (List.replicate n r).foldl f a = a
  | 0 => rfl
  | n + 1 => by rw [List.replicate_succ, List.foldl_cons, h]; exact fold_rep f a r h n
theorem rep_ok {r : Rw} (h : r.ok) (n : Nat) : ∀ x ∈ List.replicate n r, x.ok := fun x hx => by rw [(List.mem_replicate.mp hx).2]; exact h
/-- the lens has each row -/
def Full (q : Qn) : Prop := ∀ u : Rw, u.ok → q.sees u = true
theorem full_or (q : Qn) : Full q ∨ ∃ u : Rw, u.ok ∧ q.sees u = false := by
  by_cases h : ∃ u : Rw, u.ok ∧ q.sees u = false
  · exact .inr h
  · refine .inl fun u hu => ?_
    cases e : q.sees u with
    | true => rfl
    | false => exact absurd ⟨u, hu, e⟩ h
theorem sees_rng {q : Qn} {r : Rw} (h : q.sees r = true) : q.m.has r.k = true ∧ q.lo ≤ r.n ∧ r.n ≤ q.hi := by
  unfold Qn.sees at h
  simpa using h
theorem sees_mk {q : Qn} {r : Rw} (h : q.m.has r.k = true) (h1 : q.lo ≤ r.n) (h2 : r.n ≤ q.hi) : q.sees r = true := by
  unfold Qn.sees
  simp [h, h1, h2]
theorem full_rng {q : Qn} (h : Full q) : q.lo ≤ -3 ∧ 3 ≤ q.hi ∧ ∀ k, q.m.has k = true :=
  ⟨(sees_rng (h ⟨0, -3⟩ ⟨by decide, by decide⟩)).2.1, (sees_rng (h ⟨0, 3⟩ ⟨by decide, by decide⟩)).2.2, fun k => (sees_rng (h ⟨k, 0⟩ ⟨by show (-3 : Int) ≤ 0; decide, by show (0 : Int) ≤ 3; decide⟩)).1⟩
theorem seen_full {q : Qn} (h : Full q) {a : List Rw} (ha : ∀ r ∈ a, r.ok) : seen q a = a := by
  unfold seen; exact List.filter_eq_self.mpr fun r hr => h r (ha r hr)
theorem last_ok {a : List Rw} (ha : ∀ r ∈ a, r.ok) (n : Nat) : ∀ r ∈ lastN n a, r.ok := fun r hr => ha r (lastN_mem hr)
theorem lastN_ne {α : Type} {n : Nat} {a : List α} (h : a ≠ []) (hn : n ≠ 0) : lastN n a ≠ [] := by
  intro z
  have := lastN_length n a
  rw [z] at this
  have h2 : a.length ≠ 0 := fun z => h (List.eq_nil_of_length_eq_zero z)
  simp at this
  omega
theorem lastN_last {α : Type} {n : Nat} (a : List α) (hn : n ≠ 0) : (lastN n a).getLast? = a.getLast? := by
  unfold lastN
  rw [List.getLast?_drop]
  split
  · rename_i h
    have : a = [] := List.eq_nil_of_length_eq_zero (by omega)
    rw [this]; rfl
  · rfl
theorem agg_rng {q : Qn} (hg : q.w.gat = true) (hm : q.w.ms = false) {a : List Rw} (ha : ∀ r ∈ a, r.ok) : ∀ v, agg q a = some v → -3 ≤ v ∧ v ≤ 3 := by
  induction a using snoc_ind with
  | h0 => intro v h; simp [agg, Wd.zero, hm] at h
  | h1 xs x ih =>
    intro v h
    have ih := ih fun r hr => ha r (by simp [hr])
    have hx := ha x (by simp)
    rw [agg_snoc] at h
    unfold joinO at h
    split at h
    · unfold Rw.ok at hx
      cases hw : q.w <;> simp [hw, Wd.gat, Wd.ms] at hg hm h
      · cases ho : agg q xs with
        | none => simp [ho, omax] at h; omega
        | some o => have := ih o ho; simp [ho, omax] at h; omega
      · cases ho : agg q xs with
        | none => simp [ho, omin] at h; omega
        | some o => have := ih o ho; simp [ho, omin] at h; omega
      · omega
    · exact ih v h
theorem agg_none {q : Qn} (hg : q.w.gat = true) (hm : q.w.ms = false) (hf : Full q) {a : List Rw} (ha : ∀ r ∈ a, r.ok) (h : agg q a = none) : a = [] := by
  rcases List.eq_nil_or_concat a with h0 | ⟨xs, x, rfl⟩
  · exact h0
  · rw [List.concat_eq_append] at *
    rw [agg_snoc] at h
    unfold joinO at h
    rw [if_pos (hf x (ha x (by simp)))] at h
    cases hw : q.w <;> simp [hw, Wd.gat, Wd.ms] at hg hm h
    · unfold omax at h; split at h <;> cases h
    · unfold omin at h; split at h <;> cases h
theorem ans_gat {q : Qn} (hg : q.w.gat = true) (a : List Rw) : ans q a = agg q (q.win a) := by
  unfold ans ansW
  cases hw : q.w <;> simp [hw, Wd.gat] at hg ⊢
theorem sep_gat {q : Qn} (hq : q.ok) (hg : q.w.gat = true) (hs : q.s ≠ 0) {a b : List Rw} (ha : ∀ r ∈ a, r.ok) (hb : ∀ r ∈ b, r.ok) {n : Nat} (hn : n < q.s)
    (hd : agg q (lastN (q.s - n) a) ≠ agg q (lastN (q.s - n) b)) (he : ∀ i, i < n → agg q (lastN (q.s - i) a) = agg q (lastN (q.s - i) b)) : Sep q n a b := by
  have go : ∀ x : List Rw, x.length ≤ q.s → ∀ c, ans q (c ++ x) = x.foldl (joinO q) (agg q (lastN (q.s - x.length) c)) := fun x hx c => by
    rw [ans_gat hg, win_app _ _ hx hs, agg_app]
  refine ⟨?_, fun x hx => by rw [go x (by omega), go x (by omega), he _ hx]⟩
  by_cases h0 : n = 0
  · subst h0
    refine ⟨[], rfl, by simp, ?_⟩
    rw [go [] (by simp), go [] (by simp)]
    exact hd
  · suffices ∃ x : List Rw, x.length = n ∧ (∀ r ∈ x, r.ok) ∧ x.foldl (joinO q) (agg q (lastN (q.s - n) a)) ≠ x.foldl (joinO q) (agg q (lastN (q.s - n) b)) by
      obtain ⟨x, h1, h2, h3⟩ := this
      refine ⟨x, h1, h2, ?_⟩
      rw [go x (by omega), go x (by omega), h1]
      exact h3
    rcases full_or q with hf | ⟨u, hu, hu2⟩
    · by_cases hm : q.w.ms = true
      · refine ⟨List.replicate n ⟨0, 0⟩, by simp, rep_ok ⟨by decide, by decide⟩ n, ?_⟩
        rw [← agg_app, ← agg_app]
        cases hw : q.w <;> simp [hw, Wd.ms] at hm
        · rw [agg_many hw, agg_many hw] at hd
          rw [agg_many hw, agg_many hw]
          unfold seen at *
          simp at hd
          simp
          omega
        · rw [agg_sum hw, agg_sum hw] at hd
          rw [agg_sum hw, agg_sum hw]
          unfold nums seen at *
          simp at hd
          simp
          omega
      · have hm : q.w.ms = false := by simpa using hm
        have ea := agg_none hg hm hf (last_ok ha q.s)
        have eb := agg_none hg hm hf (last_ok hb q.s)
        have h1 := he 0 (by omega)
        rw [Nat.sub_zero] at h1
        have na : a ≠ [] := by
          intro z
          subst z
          rw [lastN_nil] at h1
          have h2 : agg q [] = none := by simp [agg, Wd.zero, hm]
          rw [h2] at h1
          have h3 := eb h1.symm
          by_cases hb0 : b = []
          · subst hb0; exact hd rfl
          · exact lastN_ne hb0 hs h3
        have nb : b ≠ [] := by
          intro z
          subst z
          rw [lastN_nil] at h1
          have h2 : agg q [] = none := by simp [agg, Wd.zero, hm]
          rw [h2] at h1
          exact lastN_ne na hs (ea h1)
        have sm : ∀ c : List Rw, c ≠ [] → (∀ r ∈ c, r.ok) → ∃ v, agg q (lastN (q.s - n) c) = some v ∧ -3 ≤ v ∧ v ≤ 3 := fun c hc hk => by
          cases e : agg q (lastN (q.s - n) c) with
          | none => exact absurd (agg_none hg hm hf (last_ok hk _) e) (lastN_ne hc (by omega))
          | some v => exact ⟨v, rfl, agg_rng hg hm (last_ok hk _) v e⟩
        obtain ⟨v, hv, v1, v2⟩ := sm a na ha
        obtain ⟨v', hv', v1', v2'⟩ := sm b nb hb
        rw [hv, hv'] at hd ⊢
        have fr := full_rng hf
        cases hw : q.w <;> simp [hw, Wd.gat, Wd.ms] at hg hm
        · refine ⟨List.replicate n ⟨0, -3⟩, by simp, rep_ok ⟨by decide, by decide⟩ n, ?_⟩
          have st : ∀ v : Int, -3 ≤ v → joinO q (some v) ⟨0, -3⟩ = some v := fun v hv => by
            unfold joinO; rw [if_pos (hf _ ⟨by decide, by decide⟩), hw]; simp [omax]; omega
          rw [fold_rep _ _ _ (st v v1), fold_rep _ _ _ (st v' v1')]; exact hd
        · refine ⟨List.replicate n ⟨0, 3⟩, by simp, rep_ok ⟨by decide, by decide⟩ n, ?_⟩
          have st : ∀ v : Int, v ≤ 3 → joinO q (some v) ⟨0, 3⟩ = some v := fun v hv => by
            unfold joinO; rw [if_pos (hf _ ⟨by decide, by decide⟩), hw]; simp [omin]; omega
          rw [fold_rep _ _ _ (st v v2), fold_rep _ _ _ (st v' v2')]; exact hd
        · exfalso
          have ls : ∀ c : List Rw, (∀ r ∈ c, r.ok) → ∀ j, j ≠ 0 → agg q (lastN j c) = c.getLast?.map Rw.n := fun c hc j hj => by
            rw [agg_last hw, seen_full hf (last_ok hc _), lastN_last _ hj]
          rw [ls a ha _ (by omega)] at hv
          rw [ls b hb _ (by omega)] at hv'
          rw [ls a ha _ hs, ls b hb _ hs, hv, hv'] at h1
          exact hd h1
    · refine ⟨List.replicate n u, by simp, rep_ok hu n, ?_⟩
      have st : ∀ o, joinO q o u = o := fun o => by unfold joinO; rw [if_neg (by rw [hu2]; decide)]
      rw [fold_rep _ _ _ (st _), fold_rep _ _ _ (st _)]; exact hd
theorem sep_gat0 {q : Qn} (hg : q.w.gat = true) (hs : q.s = 0) {a b : List Rw} (hd : agg q a ≠ agg q b) : Sep q 0 a b := by
  refine ⟨⟨[], rfl, by simp, ?_⟩, fun x hx => by omega⟩
  rw [ans_gat hg, ans_gat hg, win_app0 _ _ hs, win_app0 _ _ hs]
  simpa using hd
end JK

/-! ThB2 -/
set_option Elab.async false
set_option linter.all false
set_option maxRecDepth 100000
set_option autoImplicit false
namespace JK
/-! ### second -/
theorem key_ex {q : Qn} (hq : q.ok) : ∃ k, q.m.has k = true := by
  have := hq.key
  revert this
  exact mk_all (p := fun m => m ≠ ⟨false, false, false, false⟩ → ∃ k, m.has k = true) (by decide) q.m
theorem pr_rng (q : Qn) (a : List Rw) : (∀ v, (pr q a).1 = some v → q.lo ≤ v ∧ v ≤ q.hi) ∧ (∀ v, (pr q a).2 = some v → q.lo ≤ v ∧ v ≤ q.hi) := by
  induction a using snoc_ind with
  | h0 => simp [pr]
  | h1 xs x ih =>
    rw [pr_snoc]
    unfold stepP
    by_cases hs : q.sees x = true
    · rw [if_pos hs]
      have hx := (sees_rng hs).2
      unfold top2
      cases h1 : (pr q xs).1 with
      | none =>
        simp
        exact hx
      | some f =>
        have i1 := ih.1 f h1
        simp only
        by_cases hf : f < x.n
        · rw [if_pos hf]
          simp
          exact ⟨hx, i1⟩
        · rw [if_neg hf]
          refine ⟨?_, ?_⟩
          · simp; exact i1
          · intro v hv
            simp only at hv
            unfold omax at hv
            cases h2 : (pr q xs).2 with
            | none => rw [h2] at hv; simp at hv; omega
            | some o => have := ih.2 o h2; rw [h2] at hv; simp at hv; omega
    · rw [if_neg hs]; exact ih
theorem top_hi {p : Pr} {h : Int} (hn : p.1 = none → p.2 = none) (h1 : ∀ v, p.1 = some v → v ≤ h) (h2 : ∀ v, p.2 = some v → v ≤ h) : (top2 p h).2 = p.1 := by
  unfold top2
  obtain ⟨a, b⟩ := p
  cases a with
  | none => rfl
  | some f =>
    have := h1 f rfl
    simp only
    split
    · rfl
    · have : f = h := by omega
      subst this
      cases b with
      | none => rfl
      | some o => have := h2 o rfl; simp [omax]; omega
theorem top_lo1 {p : Pr} {l f : Int} (h1 : p.1 = some f) (hl : l ≤ f) : (top2 p l).1 = some f := by
  unfold top2
  rw [h1]
  simp only
  rw [if_neg (by omega)]
theorem top_lo {p : Pr} {l f s : Int} (h1 : p.1 = some f) (hl : l ≤ f) (h2 : p.2 = some s) (hl2 : l ≤ s) : top2 p l = p := by
  unfold top2
  obtain ⟨a, b⟩ := p
  simp only at h1 h2
  subst h1 h2
  simp only
  rw [if_neg (by omega)]
  simp [omax]
  omega
theorem pr_len {q : Qn} (hf : Full q) {a : List Rw} (ha : ∀ r ∈ a, r.ok) : ((pr q a).1 = none ↔ a.length = 0) ∧ ((pr q a).2 = none ↔ a.length ≤ 1) := by
  induction a using snoc_ind with
  | h0 => simp [pr]
  | h1 xs x ih =>
    have ih := ih fun r hr => ha r (by simp [hr])
    rw [pr_snoc]
    unfold stepP
    rw [if_pos (hf x (ha x (by simp)))]
    unfold top2
    cases h1 : (pr q xs).1 with
    | none =>
      have := ih.1.mp h1
      simp [this]
    | some f =>
      have hl : xs.length ≠ 0 := fun z => by rw [ih.1.mpr z] at h1; cases h1
      simp only
      split
      · simp; intro z; exact hl (by simp [z])
      · have : omax (pr q xs).2 x.n ≠ none := by unfold omax; split <;> simp
        simp [this]
        intro z; exact hl (by simp [z])
theorem ans_sec {q : Qn} (hw : q.w = .second) (a : List Rw) : ans q a = (pr q (q.win a)).2 := by
  unfold ans ansW; rw [hw]
theorem fold_lo1 {q : Qn} {r : Rw} {f : Int} (hl : r.n ≤ f) : ∀ (n : Nat) (p : Pr), p.1 = some f → ((List.replicate n r).foldl (stepP q) p).1 = some f
  | 0, p, h => h
  | n + 1, p, h => by
    rw [List.replicate_succ, List.foldl_cons]
    refine fold_lo1 hl n _ ?_
    unfold stepP
    split
    · exact top_lo1 h hl
    · exact h
theorem sep_sec {q : Qn} (hq : q.ok) (hw : q.w = .second) (hs : q.s ≠ 0) {a b : List Rw} (ha : ∀ r ∈ a, r.ok) (hb : ∀ r ∈ b, r.ok) {n : Nat} (hn : n < q.s) (h0 : n ≠ 0)
    (hd : pr q (lastN (q.s - n) a) ≠ pr q (lastN (q.s - n) b)) (e0 : (pr q (lastN q.s a)).2 = (pr q (lastN q.s b)).2) (he : ∀ i, i ≠ 0 → i < n → pr q (lastN (q.s - i) a) = pr q (lastN (q.s - i) b)) : Sep q n a b := by
  have go : ∀ x : List Rw, x.length ≤ q.s → ∀ c, ans q (c ++ x) = (x.foldl (stepP q) (pr q (lastN (q.s - x.length) c))).2 := fun x hx c => by
    rw [ans_sec hw, win_app _ _ hx hs, pr_app]
  refine ⟨?_, fun x hx => ?_⟩
  · suffices ∃ x : List Rw, x.length = n ∧ (∀ r ∈ x, r.ok) ∧ (x.foldl (stepP q) (pr q (lastN (q.s - n) a))).2 ≠ (x.foldl (stepP q) (pr q (lastN (q.s - n) b))).2 by
      obtain ⟨x, h1, h2, h3⟩ := this
      refine ⟨x, h1, h2, ?_⟩
      rw [go x (by omega), go x (by omega), h1]
      exact h3
    obtain ⟨k, hk⟩ := key_ex hq
    have hik : (⟨k, q.hi⟩ : Rw).ok := ⟨by show -3 ≤ q.hi; have := hq.lo; have := hq.le; omega, hq.hi⟩
    have his : q.sees ⟨k, q.hi⟩ = true := sees_mk hk hq.le (Int.le_refl _)
    have hit : ∀ c : List Rw, (stepP q (pr q c) ⟨k, q.hi⟩).2 = (pr q c).1 := fun c => by
      unfold stepP
      rw [if_pos his]
      exact top_hi (pr_nn q c) (fun v hv => ((pr_rng q c).1 v hv).2) (fun v hv => ((pr_rng q c).2 v hv).2)
    rcases full_or q with hf | ⟨u, hu, hu2⟩
    · have la := pr_len hf (last_ok ha (q.s - n))
      have lb := pr_len hf (last_ok hb (q.s - n))
      have ls := pr_len hf (last_ok ha q.s)
      have ls' := pr_len hf (last_ok hb q.s)
      rw [lastN_length] at la lb ls ls'
      have fr := full_rng hf
      have lok : (⟨0, -3⟩ : Rw).ok := ⟨by decide, by decide⟩
      by_cases h1 : (pr q (lastN (q.s - n) a)).1 = (pr q (lastN (q.s - n) b)).1
      · have h2 : (pr q (lastN (q.s - n) a)).2 ≠ (pr q (lastN (q.s - n) b)).2 := fun z => hd (Prod.ext h1 z)
        have nn : (pr q (lastN (q.s - n) a)).2 ≠ none ∧ (pr q (lastN (q.s - n) b)).2 ≠ none := by
          rw [Ne, la.2, Ne, lb.2]
          by_cases za : min (q.s - n) a.length ≤ 1 <;> by_cases zb : min (q.s - n) b.length ≤ 1
          · exact absurd ((la.2.mpr za).trans (lb.2.mpr zb).symm) h2
          · exfalso
            have := ls.2.mpr (by omega)
            rw [e0, ls'.2] at this
            omega
          · exfalso
            have := ls'.2.mpr (by omega)
            rw [← e0, ls.2] at this
            omega
          · exact ⟨za, zb⟩
        have st : ∀ c : List Rw, (pr q c).2 ≠ none → stepP q (pr q c) ⟨0, -3⟩ = pr q c := fun c hc => by
          unfold stepP
          rw [if_pos (hf _ lok)]
          cases e1 : (pr q c).1 with
          | none => exact absurd (pr_nn q c e1) hc
          | some f =>
            cases e2 : (pr q c).2 with
            | none => exact absurd e2 hc
            | some s =>
              refine top_lo e1 ?_ e2 ?_
              · have := ((pr_rng q c).1 f e1).1; have := hq.lo; show (-3 : Int) ≤ f; omega
              · have := ((pr_rng q c).2 s e2).1; have := hq.lo; show (-3 : Int) ≤ s; omega
        refine ⟨List.replicate n ⟨0, -3⟩, by simp, rep_ok lok n, ?_⟩
        rw [fold_rep _ _ _ (st _ nn.1), fold_rep _ _ _ (st _ nn.2)]
        exact h2
      · refine ⟨List.replicate (n - 1) ⟨0, -3⟩ ++ [⟨k, q.hi⟩], by simp; omega, ?_, ?_⟩
        · intro r hr
          rcases List.mem_append.mp hr with hr | hr
          · exact rep_ok lok _ r hr
          · simp at hr; subst hr; exact hik
        · rw [← pr_app, ← pr_app, ← List.append_assoc, ← List.append_assoc, pr_snoc, pr_snoc, hit, hit]
          by_cases hn1 : n = 1
          · subst hn1
            simpa using h1
          · have e1 := he 1 (by omega) (by omega)
            have l1 := pr_len hf (last_ok ha (q.s - 1))
            have l1' := pr_len hf (last_ok hb (q.s - 1))
            rw [lastN_length] at l1 l1'
            have na : (pr q (lastN (q.s - n) a)).1 ≠ none := by
              intro z
              have z1 := la.1.mp z
              have z2 := l1.1.mpr (by omega)
              rw [e1, l1'.1] at z2
              exact h1 (z.trans (lb.1.mpr (by omega)).symm)
            have nb : (pr q (lastN (q.s - n) b)).1 ≠ none := by
              intro z
              have z1 := lb.1.mp z
              have z2 := l1'.1.mpr (by omega)
              rw [← e1, l1.1] at z2
              exact h1 ((la.1.mpr (by omega)).trans z.symm)
            obtain ⟨f, hfa⟩ := Option.ne_none_iff_exists'.mp na
            obtain ⟨f', hfb⟩ := Option.ne_none_iff_exists'.mp nb
            rw [pr_app, pr_app, fold_lo1 (f := f) ?_ _ _ hfa, fold_lo1 (f := f') ?_ _ _ hfb]
            · rw [hfa, hfb] at h1; exact h1
            · have := ((pr_rng q _).1 f' hfb).1; have := hq.lo; show (-3 : Int) ≤ f'; omega
            · have := ((pr_rng q _).1 f hfa).1; have := hq.lo; show (-3 : Int) ≤ f; omega
    · have st : ∀ o, stepP q o u = o := fun o => by unfold stepP; rw [if_neg (by rw [hu2]; decide)]
      by_cases h1 : (pr q (lastN (q.s - n) a)).1 = (pr q (lastN (q.s - n) b)).1
      · refine ⟨List.replicate n u, by simp, rep_ok hu n, ?_⟩
        rw [fold_rep _ _ _ (st _), fold_rep _ _ _ (st _)]
        exact fun z => hd (Prod.ext h1 z)
      · refine ⟨List.replicate (n - 1) u ++ [⟨k, q.hi⟩], by simp; omega, ?_, ?_⟩
        · intro r hr
          rcases List.mem_append.mp hr with hr | hr
          · exact rep_ok hu _ r hr
          · simp at hr; subst hr; exact hik
        · rw [← pr_app, ← pr_app, ← List.append_assoc, ← List.append_assoc, pr_snoc, pr_snoc, hit, hit, pr_app, pr_app, fold_rep _ _ _ (st _), fold_rep _ _ _ (st _)]
          exact h1
  · by_cases hx0 : x.length = 0
    · have := List.eq_nil_of_length_eq_zero hx0
      subst this
      rw [go [] (by simp), go [] (by simp)]
      exact e0
    · rw [go x (by omega), go x (by omega), he _ hx0 hx]
theorem sep_sec00 {q : Qn} (hw : q.w = .second) {a b : List Rw} (hd : (pr q (q.win a)).2 ≠ (pr q (q.win b)).2) : Sep q 0 a b := by
  refine ⟨⟨[], rfl, by simp, ?_⟩, fun x hx => by omega⟩
  rw [ans_sec hw, ans_sec hw]
  simpa using hd
theorem sep_sec1 {q : Qn} (hq : q.ok) (hw : q.w = .second) (hs : q.s = 0) {a b : List Rw} (hd : (pr q a).1 ≠ (pr q b).1) (he : (pr q a).2 = (pr q b).2) : Sep q 1 a b := by
  obtain ⟨k, hk⟩ := key_ex hq
  have hik : (⟨k, q.hi⟩ : Rw).ok := ⟨by show -3 ≤ q.hi; have := hq.lo; have := hq.le; omega, hq.hi⟩
  have his : q.sees ⟨k, q.hi⟩ = true := sees_mk hk hq.le (Int.le_refl _)
  have hit : ∀ c : List Rw, (stepP q (pr q c) ⟨k, q.hi⟩).2 = (pr q c).1 := fun c => by
    unfold stepP
    rw [if_pos his]
    exact top_hi (pr_nn q c) (fun v hv => ((pr_rng q c).1 v hv).2) (fun v hv => ((pr_rng q c).2 v hv).2)
  refine ⟨⟨[⟨k, q.hi⟩], rfl, by simp; exact hik, ?_⟩, fun x hx => ?_⟩
  · rw [ans_sec hw, ans_sec hw, win_app0 _ _ hs, win_app0 _ _ hs, pr_snoc, pr_snoc, hit, hit]
    exact hd
  · have := List.eq_nil_of_length_eq_zero (show x.length = 0 by omega)
    subst this
    rw [ans_sec hw, ans_sec hw, win_app0 _ _ hs, win_app0 _ _ hs]
    simpa using he
/-! ### kinds -/
theorem ms_sub (q : Qn) (a : List Rw) (k : Fin 4) (h : (ms q a).has k = true) : q.m.has k = true := by
  induction a using snoc_ind with
  | h0 => exact absurd h (by show ¬ mk0.has k = true; clear h; revert k; decide)
  | h1 xs x ih =>
    rw [ms_snoc] at h
    unfold stepM at h
    split at h
    · rename_i hs
      rw [has_add, Bool.or_eq_true] at h
      rcases h with h | h
      · exact ih h
      · rw [of_decide_eq_true h]; exact (sees_rng hs).1
    · exact ih h
theorem kin_key (m m' : Mk) : m ≠ m' → m ≠ mk0 → m' ≠ mk0 → ∃ k, (m.has k = true ∨ m'.has k = true) ∧ (m.add k).card ≠ (m'.add k).card := by
  revert m'
  refine mk_all (p := fun m => ∀ m', m ≠ m' → m ≠ mk0 → m' ≠ mk0 → ∃ k, (m.has k = true ∨ m'.has k = true) ∧ (m.add k).card ≠ (m'.add k).card) ?_ m
  intro a b c d m'
  revert m'
  intro m'
  refine mk_all (p := fun m' => (⟨a, b, c, d⟩ : Mk) ≠ m' → (⟨a, b, c, d⟩ : Mk) ≠ mk0 → m' ≠ mk0 → ∃ k, ((⟨a, b, c, d⟩ : Mk).has k = true ∨ m'.has k = true) ∧ ((⟨a, b, c, d⟩ : Mk).add k).card ≠ (m'.add k).card) ?_ m'
  revert a b c d
  decide
theorem card0 (m : Mk) : m.card = 0 ↔ m = mk0 := mk_all (p := fun m => m.card = 0 ↔ m = mk0) (by decide) m
theorem add_add (m : Mk) (k : Fin 4) : (m.add k).add k = m.add k := by
  revert k; exact mk_all (p := fun m => ∀ k, (m.add k).add k = m.add k) (by decide) m
theorem ans_kin {q : Qn} (hw : q.w = .kinds) (a : List Rw) : ans q a = some (((ms q (q.win a)).card : Nat) : Int) := by
  unfold ans ansW; rw [hw]
theorem ms_full {q : Qn} (hf : Full q) {a : List Rw} (ha : ∀ r ∈ a, r.ok) (h : ms q a = mk0) : a = [] := by
  rcases List.eq_nil_or_concat a with h0 | ⟨xs, x, rfl⟩
  · exact h0
  · rw [List.concat_eq_append] at *
    rw [ms_snoc] at h
    unfold stepM at h
    rw [if_pos (hf x (ha x (by simp)))] at h
    have := has_add (ms q xs) x.k x.k
    rw [h] at this
    simp at this
    exact absurd this (by generalize x.k = k; revert k; decide)
/-- .. by one more key, that tells both apart -/
theorem kin_row {q : Qn} (hq : q.ok) {a b : List Rw} (hd : ms q a ≠ ms q b) (h0 : ms q a ≠ mk0) (h1 : ms q b ≠ mk0) {n : Nat} (hn : n ≠ 0) : ∃ x : List Rw, x.length = n ∧ (∀ r ∈ x, r.ok) ∧ (ms q (a ++ x)).card ≠ (ms q (b ++ x)).card := by
  obtain ⟨k, hk, hc⟩ := kin_key _ _ hd h0 h1
  have hk : q.m.has k = true := hk.elim (ms_sub q a k) (ms_sub q b k)
  have hs : q.sees ⟨k, q.lo⟩ = true := sees_mk hk (Int.le_refl _) hq.le
  have hok : (⟨k, q.lo⟩ : Rw).ok := ⟨hq.lo, by show q.lo ≤ 3; have := hq.hi; have := hq.le; omega⟩
  refine ⟨List.replicate n ⟨k, q.lo⟩, by simp, rep_ok hok n, ?_⟩
  obtain ⟨m, rfl⟩ : ∃ m, n = m + 1 := ⟨n - 1, by omega⟩
  have st : ∀ M : Mk, (List.replicate (m + 1) (⟨k, q.lo⟩ : Rw)).foldl (stepM q) M = M.add k := fun M => by
    rw [List.replicate_succ, List.foldl_cons, show stepM q M ⟨k, q.lo⟩ = M.add k by unfold stepM; rw [if_pos hs]]
    exact fold_rep _ _ _ (by unfold stepM; rw [if_pos hs]; exact add_add M k) m
  rw [ms_app, ms_app, st, st]
  exact hc
theorem sep_kin {q : Qn} (hq : q.ok) (hw : q.w = .kinds) (hs : q.s ≠ 0) {a b : List Rw} (ha : ∀ r ∈ a, r.ok) (hb : ∀ r ∈ b, r.ok) {n : Nat} (hn : n < q.s) (h0 : n ≠ 0)
    (hd : ms q (lastN (q.s - n) a) ≠ ms q (lastN (q.s - n) b)) (e0 : (ms q (lastN q.s a)).card = (ms q (lastN q.s b)).card) (he : ∀ i, i ≠ 0 → i < n → ms q (lastN (q.s - i) a) = ms q (lastN (q.s - i) b)) : Sep q n a b := by
  have go : ∀ x : List Rw, x.length ≤ q.s → ∀ c, ans q (c ++ x) = some (((ms q (lastN (q.s - x.length) c ++ x)).card : Nat) : Int) := fun x hx c => by
    rw [ans_kin hw, win_app _ _ hx hs]
  refine ⟨?_, fun x hx => ?_⟩
  · suffices ∃ x : List Rw, x.length = n ∧ (∀ r ∈ x, r.ok) ∧ (ms q (lastN (q.s - n) a ++ x)).card ≠ (ms q (lastN (q.s - n) b ++ x)).card by
      obtain ⟨x, h1, h2, h3⟩ := this
      refine ⟨x, h1, h2, ?_⟩
      rw [go x (by omega), go x (by omega), h1]
      intro z; injection z with z; exact h3 (by omega)
    by_cases hz : ms q (lastN (q.s - n) a) ≠ mk0 ∧ ms q (lastN (q.s - n) b) ≠ mk0
    · exact kin_row hq hd hz.1 hz.2 h0
    · have hc : (ms q (lastN (q.s - n) a)).card ≠ (ms q (lastN (q.s - n) b)).card := by
        intro z
        apply hz
        refine ⟨fun y => hd ?_, fun y => hd ?_⟩
        · rw [(card0 _).mpr y] at z
          rw [y, (card0 _).mp z.symm]
        · rw [(card0 _).mpr y] at z
          rw [y, (card0 _).mp z]
      rcases full_or q with hf | ⟨u, hu, hu2⟩
      · exfalso
        have nil : ∀ c : List Rw, (∀ r ∈ c, r.ok) → ∀ j, j ≠ 0 → ms q (lastN j c) = mk0 → c = [] := fun c hc j hj h => by
          have := ms_full hf (last_ok hc j) h
          by_cases z : c = []
          · exact z
          · exact absurd this (lastN_ne z hj)
        have m0 : ms q [] = mk0 := rfl
        by_cases za : ms q (lastN (q.s - n) a) = mk0
        · have := nil a ha _ (by omega) za
          subst this
          rw [lastN_nil, m0, show mk0.card = 0 from rfl] at e0
          have := nil b hb _ hs ((card0 _).mp e0.symm)
          subst this
          exact hd rfl
        · have zb : ms q (lastN (q.s - n) b) = mk0 := by
            by_cases z : ms q (lastN (q.s - n) b) = mk0
            · exact z
            · exact absurd ⟨za, z⟩ hz
          have := nil b hb _ (by omega) zb
          subst this
          rw [lastN_nil, m0, show mk0.card = 0 from rfl] at e0
          have := nil a ha _ hs ((card0 _).mp e0)
          subst this
          exact hd rfl
      · have st : ∀ o, stepM q o u = o := fun o => by unfold stepM; rw [if_neg (by rw [hu2]; decide)]
        refine ⟨List.replicate n u, by simp, rep_ok hu n, ?_⟩
        rw [ms_app, ms_app, fold_rep _ _ _ (st _), fold_rep _ _ _ (st _)]
        exact hc
  · by_cases hx0 : x.length = 0
    · have := List.eq_nil_of_length_eq_zero hx0
      subst this
      rw [go [] (by simp), go [] (by simp)]
      simp [e0]
    · rw [go x (by omega), go x (by omega), ms_app, ms_app, he _ hx0 hx]
theorem sep_kin00 {q : Qn} (hw : q.w = .kinds) {a b : List Rw} (hd : (ms q (q.win a)).card ≠ (ms q (q.win b)).card) : Sep q 0 a b := by
  refine ⟨⟨[], rfl, by simp, ?_⟩, fun x hx => by omega⟩
  rw [ans_kin hw, ans_kin hw]
  simp
  intro z; exact hd (by omega)
theorem sep_kin1 {q : Qn} (hq : q.ok) (hw : q.w = .kinds) (hs : q.s = 0) {a b : List Rw} (hd : ms q a ≠ ms q b) (he : (ms q a).card = (ms q b).card) : Sep q 1 a b := by
  have hz : ms q a ≠ mk0 ∧ ms q b ≠ mk0 := by
    refine ⟨fun y => hd ?_, fun y => hd ?_⟩
    · rw [(card0 _).mpr y] at he
      rw [y, (card0 _).mp he.symm]
    · rw [(card0 _).mpr y] at he
      rw [y, (card0 _).mp he]
  obtain ⟨x, h1, h2, h3⟩ := kin_row hq hd hz.1 hz.2 (n := 1) (by decide)
  refine ⟨⟨x, h1, h2, ?_⟩, fun x hx => ?_⟩
  · rw [ans_kin hw, ans_kin hw, win_app0 _ _ hs, win_app0 _ _ hs]
    intro z; injection z with z; exact h3 (by omega)
  · have := List.eq_nil_of_length_eq_zero (show x.length = 0 by omega)
    subst this
    rw [ans_kin hw, ans_kin hw, win_app0 _ _ hs, win_app0 _ _ hs]
    simp [he]
end JK

/-! ThB3 -/
set_option Elab.async false
set_option linter.all false
set_option maxRecDepth 100000
set_option autoImplicit false
namespace JK
/-! ### run -/
def mine (e : Er) (k : Fin 4) : Nat := if e.1 = some k then e.2 else 0
theorem ans_run {q : Qn} (hw : q.w = .run) (a : List Rw) : ans q a = some ((lr q (q.win a) : Nat) : Int) := by
  unfold ans ansW; rw [hw]
theorem lr_app (q : Qn) (a x : List Rw) : lr q (a ++ x) = max (lr q a) (max (ext q (er q a) x) (br q x)) := by
  have : lre q (a ++ x) = x.foldl (stepL q) (lr q a, er q a) := by
    unfold lre
    rw [List.foldl_append]
    congr 1
    show lre q a = _
    rw [← lre_er]; rfl
  show (lre q (a ++ x)).1 = _
  rw [this, fold_br]
theorem lead_le (q : Qn) (k : Fin 4) (x : List Rw) : lead q k x ≤ x.length := by
  unfold lead; exact (List.takeWhile_sublist _).length_le
theorem lead_br (q : Qn) (k : Fin 4) (x : List Rw) : lead q k x ≤ br q x := by
  cases x with
  | nil => simp [lead]
  | cons r l =>
    rw [lead_cons]
    split
    · rename_i h
      have : rlen q (r :: l) = lead q k l + 1 := by
        show lead q r.k (r :: l) = _
        rw [lead_cons, if_pos ⟨h.1, rfl⟩, h.2]
      unfold br; omega
    · omega
theorem ext_mine (q : Qn) (e : Er) (x : List Rw) (h : e.1 = none → e.2 = 0) : ∃ k l, l ≤ x.length ∧ l ≤ br q x ∧ ((ext q e x = 0 ∧ e.1 = none) ∨ (e.1 = some k ∧ l = lead q k x ∧ ext q e x = if l = 0 then 0 else e.2 + l)) := by
  unfold ext
  cases he : e.1 with
  | none => exact ⟨0, 0, by omega, by omega, .inl ⟨rfl, rfl⟩⟩
  | some k => exact ⟨k, lead q k x, lead_le q k x, lead_br q k x, .inr ⟨rfl, rfl, rfl⟩⟩
/-- one more key at most is led on -/
theorem lead_one (q : Qn) {k j : Fin 4} {x : List Rw} (h : lead q k x ≠ 0) (hj : j ≠ k) : lead q j x = 0 := by
  cases x with
  | nil => rfl
  | cons r l =>
    rw [lead_cons] at h ⊢
    split at h
    · rename_i h2; rw [if_neg]; rintro ⟨_, h3⟩; exact hj (h3.symm.trans h2.2)
    · exact absurd rfl h
theorem run_low {q : Qn} {a b : List Rw} {m : Nat} (e1 : lr q a = lr q b) (e2 : ∀ k, max (lr q a) (mine (er q a) k + m) = max (lr q a) (mine (er q b) k + m)) (x : List Rw) (hx : x.length ≤ m) : lr q (a ++ x) = lr q (b ++ x) := by
  rw [lr_app, lr_app, ← e1]
  have key : ∀ k, max (lr q a) (max (if lead q k x = 0 then 0 else mine (er q a) k + lead q k x) (br q x)) = max (lr q a) (max (if lead q k x = 0 then 0 else mine (er q b) k + lead q k x) (br q x)) := by
    intro k
    have := e2 k
    have := lead_le q k x
    split
    · rfl
    · omega
  have ex : ∀ e : Er, ∀ k, lead q k x ≠ 0 → max (ext q e x) (br q x) = max (if lead q k x = 0 then 0 else mine e k + lead q k x) (br q x) := by
    intro e k hk
    have hb := lead_br q k x
    rw [if_neg hk]
    unfold ext mine
    cases he : e.1 with
    | none => simp; omega
    | some j =>
      by_cases hj : j = k
      · subst hj; simp [hk]
      · have h2 := lead_one q hk hj
        have h3 : ¬ (some j = some k) := fun z => hj (by injection z)
        simp [h2, h3]; omega
  have e0 : ∀ e : Er, (∀ k, lead q k x = 0) → ext q e x = 0 := by
    intro e hk
    unfold ext
    cases e.1 with
    | none => rfl
    | some j => simp [hk]
  by_cases h : ∃ k, lead q k x ≠ 0
  · obtain ⟨k, hk⟩ := h
    rw [ex _ k hk, ex _ k hk, key k]
  · have h : ∀ k, lead q k x = 0 := fun k => by
      by_cases z : lead q k x = 0
      · exact z
      · exact absurd ⟨k, z⟩ h
    rw [e0 _ h, e0 _ h]
theorem lead_rep {q : Qn} {r : Rw} (hs : q.sees r = true) (n : Nat) : lead q r.k (List.replicate n r) = n := by
  induction n with
  | zero => rfl
  | succ n ih => rw [List.replicate_succ, lead_cons, if_pos ⟨hs, rfl⟩, ih]
theorem br_rep {q : Qn} {r : Rw} (hs : q.sees r = true) (n : Nat) : br q (List.replicate n r) = n := by
  induction n with
  | zero => rfl
  | succ n ih =>
    rw [List.replicate_succ]
    show max (lead q r.k (r :: List.replicate n r)) (br q (List.replicate n r)) = _
    rw [lead_cons, if_pos ⟨hs, rfl⟩, ih, lead_rep hs]
    omega
theorem run_rep {q : Qn} {r : Rw} (hs : q.sees r = true) (a : List Rw) {n : Nat} (hn : n ≠ 0) : lr q (a ++ List.replicate n r) = max (lr q a) (mine (er q a) r.k + n) := by
  rw [lr_app, br_rep hs]
  unfold ext mine
  cases he : (er q a).1 with
  | none => simp
  | some j =>
    by_cases hj : j = r.k
    · subst hj; simp only [lead_rep hs]; simp [hn]
    · have h2 := lead_one q (k := r.k) (j := j) (x := List.replicate n r) (by rw [lead_rep hs]; exact hn) hj
      have h3 : ¬ (some j = some r.k) := fun z => hj (by injection z)
      simp [h2, h3]
theorem er_sub (q : Qn) (a : List Rw) (k : Fin 4) (h : (er q a).1 = some k) : q.m.has k = true := by
  rcases List.eq_nil_or_concat a with h0 | ⟨xs, x, rfl⟩
  · subst h0; cases h
  · rw [List.concat_eq_append, er_snoc] at h
    unfold stepE at h
    split at h
    · rename_i hs; simp at h; rw [← h]; exact (sees_rng hs).1
    · cases h
/-- rows of two keys in turn -/
def turn (k j : Fin 4) : Nat → List Rw
  | 0 => []
  | n + 1 => ⟨k, 0⟩ :: turn j k n
theorem turn_len : ∀ (n : Nat) (k j : Fin 4), (turn k j n).length = n
  | 0, _, _ => rfl
  | n + 1, k, j => by rw [turn, List.length_cons, turn_len n]
theorem turn_ok : ∀ (n : Nat) (k j : Fin 4), ∀ r ∈ turn k j n, r.ok
  | 0, _, _, r, h => by simp [turn] at h
  | n + 1, k, j, r, h => by
    rw [turn, List.mem_cons] at h
    rcases h with rfl | h
    · exact ⟨by show (-3 : Int) ≤ 0; decide, by show (0 : Int) ≤ 3; decide⟩
    · exact turn_ok n j k r h
theorem turn_lead (q : Qn) (n : Nat) {k j i : Fin 4} (h : i ≠ k) : lead q i (turn k j n) = 0 := by
  cases n with
  | zero => rfl
  | succ n => rw [turn, lead_cons, if_neg]; rintro ⟨_, z⟩; exact h z.symm
theorem turn_br (q : Qn) : ∀ (n : Nat) (k j : Fin 4), k ≠ j → br q (turn k j n) ≤ 1
  | 0, _, _, _ => by simp [turn, br]
  | n + 1, k, j, h => by
    rw [turn]
    show max (lead q k (⟨k, 0⟩ :: turn j k n)) (br q (turn j k n)) ≤ 1
    have h1 := turn_br q n j k (Ne.symm h)
    rw [lead_cons, turn_lead q n h]
    split <;> omega
theorem two_keys (e e' : Option (Fin 4)) : ∃ k j : Fin 4, k ≠ j ∧ e ≠ some k ∧ e' ≠ some k := by
  revert e e'
  have h : ∀ a b : Fin 4, ∃ k j : Fin 4, k ≠ j ∧ a ≠ k ∧ b ≠ k := by decide
  intro e e'
  obtain ⟨k, j, h1, h2, h3⟩ := h (e.getD 0) (e'.getD 0)
  refine ⟨k, j, h1, ?_, ?_⟩
  · rintro rfl; exact h2 rfl
  · rintro rfl; exact h3 rfl
theorem lr_pos {q : Qn} (hf : Full q) {a : List Rw} (ha : ∀ r ∈ a, r.ok) (hn : a ≠ []) : 1 ≤ lr q a := by
  rcases List.eq_nil_or_concat a with h0 | ⟨xs, x, rfl⟩
  · exact absurd h0 hn
  · rw [List.concat_eq_append] at *
    rw [lr_snoc, er_snoc]
    unfold stepE
    rw [if_pos (hf x (ha x (by simp)))]
    simp only
    split <;> omega
theorem run_at {q : Qn} {A B : List Rw} (hA : ∀ r ∈ A, r.ok) (hB : ∀ r ∈ B, r.ok) (hd : lr q A ≠ lr q B) (hne : Full q → A ≠ [] ∧ B ≠ []) (n : Nat) : ∃ x : List Rw, x.length = n ∧ (∀ r ∈ x, r.ok) ∧ lr q (A ++ x) ≠ lr q (B ++ x) := by
  rcases full_or q with hf | ⟨u, hu, hu2⟩
  · obtain ⟨k, j, h1, h2, h3⟩ := two_keys (er q A).1 (er q B).1
    refine ⟨turn k j n, turn_len n k j, turn_ok n k j, ?_⟩
    have hb := turn_br q n k j h1
    have ex : ∀ e : Er, e.1 ≠ some k → ext q e (turn k j n) = 0 := fun e he => by
      unfold ext
      cases h : e.1 with
      | none => rfl
      | some i => rw [h] at he; simp [turn_lead q n (show i ≠ k from fun z => he (by rw [z]))]
    rw [lr_app, lr_app, ex _ h2, ex _ h3]
    have p1 := lr_pos hf hA (hne hf).1
    have p2 := lr_pos hf hB (hne hf).2
    omega
  · refine ⟨List.replicate n u, by simp, rep_ok hu n, ?_⟩
    have hl : ∀ k n, lead q k (List.replicate n u) = 0 := fun k n => by
      cases n with
      | zero => rfl
      | succ n => rw [List.replicate_succ, lead_cons, if_neg]; rw [hu2]; rintro ⟨z, _⟩; cases z
    have hb : ∀ n, br q (List.replicate n u) = 0 := fun n => by
      induction n with
      | zero => rfl
      | succ n ih =>
        show max (lead q u.k (List.replicate (n + 1) u)) (br q (List.replicate n u)) = 0
        rw [hl, ih]; rfl
    have ex : ∀ e : Er, ext q e (List.replicate n u) = 0 := fun e => by
      unfold ext
      cases h : e.1 with
      | none => rfl
      | some i => simp [hl]
    rw [lr_app, lr_app, ex, ex, hb]
    omega
theorem mine_last (q : Qn) (a : List Rw) {j t : Nat} (h : j ≤ t) (k : Fin 4) : mine (er q (lastN j a)) k = min (mine (er q (lastN t a)) k) j := by
  have e := er_last q j (lastN t a)
  rw [lastN_lastN, Nat.min_eq_left h] at e
  rw [e]
  unfold mine
  simp only
  by_cases h1 : (er q (lastN t a)).1 = some k
  · simp only [h1, if_true]
    by_cases h2 : min (er q (lastN t a)).2 j = 0
    · simp [h2]
    · simp [h2]
  · simp only [h1, if_false]
    split <;> simp_all
theorem er_len (q : Qn) (a : List Rw) : (er q a).2 ≤ a.length := by
  induction a using snoc_ind with
  | h0 => simp [er]
  | h1 xs x ih =>
    rw [er_snoc]; unfold stepE
    split
    · simp only; split <;> simp <;> omega
    · simp
theorem er_lr (q : Qn) (a : List Rw) : (er q a).2 ≤ lr q a := by
  rcases List.eq_nil_or_concat a with h0 | ⟨xs, x, rfl⟩
  · subst h0; simp [er]
  · rw [List.concat_eq_append, lr_snoc]; omega
theorem lr_len (q : Qn) (a : List Rw) : lr q a ≤ a.length := by
  induction a using snoc_ind with
  | h0 => simp [lr_nil]
  | h1 xs x ih => rw [lr_snoc]; have := er_len q (xs ++ [x]); simp at *; omega
theorem mine_le (e : Er) (k : Fin 4) : mine e k ≤ e.2 := by unfold mine; split <;> omega
theorem mine_inj {e e' : Er} (h : e.1 = none ↔ e.2 = 0) (h' : e'.1 = none ↔ e'.2 = 0) (hn : e ≠ e') : ∃ k, (e.1 = some k ∨ e'.1 = some k) ∧ mine e k ≠ mine e' k := by
  obtain ⟨a, m⟩ := e
  obtain ⟨b, n⟩ := e'
  simp only at h h'
  cases a with
  | none =>
    have : m = 0 := h.mp rfl
    subst this
    cases b with
    | none => have := h'.mp rfl; subst this; exact absurd rfl hn
    | some k =>
      refine ⟨k, .inr rfl, ?_⟩
      have : n ≠ 0 := fun z => by have := h'.mpr z; cases this
      simp [mine]; omega
  | some k =>
    have hm : m ≠ 0 := fun z => by have := h.mpr z; cases this
    refine ⟨k, .inl rfl, ?_⟩
    simp only [mine, if_true]
    split
    · rename_i hk; subst hk; intro z; exact hn (by rw [z])
    · omega
theorem ne_of_full {q : Qn} {a b : List Rw} (hs : q.s ≠ 0) (ha : ∀ r ∈ a, r.ok) (hb : ∀ r ∈ b, r.ok) {j : Nat} (hj : j ≠ 0) (hd : lr q (lastN j a) ≠ lr q (lastN j b)) (e0 : lr q (lastN q.s a) = lr q (lastN q.s b)) (hf : Full q) : lastN j a ≠ [] ∧ lastN j b ≠ [] := by
  have : a ≠ [] ∧ b ≠ [] := by
    by_cases za : a = []
    · subst za
      by_cases zb : b = []
      · subst zb; exact absurd rfl hd
      · have := lr_pos hf (last_ok hb q.s) (lastN_ne zb hs)
        rw [← e0, lastN_nil, lr_nil] at this
        omega
    · by_cases zb : b = []
      · subst zb
        have := lr_pos hf (last_ok ha q.s) (lastN_ne za hs)
        rw [e0, lastN_nil, lr_nil] at this
        omega
      · exact ⟨za, zb⟩
  exact ⟨lastN_ne this.1 hj, lastN_ne this.2 hj⟩
end JK

/-! ThB4 -/
set_option Elab.async false
set_option linter.all false
set_option maxRecDepth 100000
set_option autoImplicit false
namespace JK
def rE (q : Qn) (a : List Rw) : Er := if q.s = 0 then er q a else er q (lastN (q.s - 1) a)
def rO (q : Qn) (a : List Rw) (m : Nat) : Nat := if q.s = 0 then lr q a else lr q (lastN (q.s - m) a)
def rM (q : Qn) (a b : List Rw) : Nat := if q.s = 0 then max (lr q a) (lr q b) + 1 else q.s
def ChkK (q : Qn) (a b : List Rw) (m : Nat) (k : Fin 4) : Prop := max (rO q a m) (min (mine (rE q a) k + m) (rM q a b)) ≠ max (rO q a m) (min (mine (rE q b) k + m) (rM q a b))
def Chk (q : Qn) (a b : List Rw) (m : Nat) : Prop := ∃ k, ((rE q a).1 = some k ∨ (rE q b).1 = some k) ∧ ChkK q a b m k
theorem chk_end {q : Qn} {a b : List Rw} {m : Nat} {k : Fin 4} (h : ChkK q a b m k) : (rE q a).1 = some k ∨ (rE q b).1 = some k := by
  by_cases h1 : (rE q a).1 = some k
  · exact .inl h1
  · by_cases h2 : (rE q b).1 = some k
    · exact .inr h2
    · exfalso; apply h; unfold mine; rw [if_neg h1, if_neg h2]
theorem rE_zero (q : Qn) (a : List Rw) : (rE q a).1 = none ↔ (rE q a).2 = 0 := by
  unfold rE; split <;> exact er_zero _ _
theorem rE_sub {q : Qn} {a : List Rw} {k : Fin 4} (h : (rE q a).1 = some k) : q.m.has k = true := by
  unfold rE at h; split at h <;> exact er_sub q _ k h
theorem mine_w {q : Qn} (hs : q.s ≠ 0) (a : List Rw) {m : Nat} (h1 : m ≠ 0) (h2 : m ≤ q.s) (k : Fin 4) : mine (er q (lastN (q.s - m) a)) k + m = min (mine (rE q a) k + m) q.s := by
  rw [mine_last q a (t := q.s - 1) (by omega)]
  unfold rE; rw [if_neg hs]
  omega
theorem win_run {q : Qn} (a x : List Rw) (h : q.s ≠ 0 → x.length ≤ q.s) : q.win (a ++ x) = (if q.s = 0 then a else lastN (q.s - x.length) a) ++ x := by
  by_cases hs : q.s = 0
  · rw [if_pos hs, win_app0 _ _ hs]
  · rw [if_neg hs, win_app _ _ (h hs) hs]
theorem sep_run0 {q : Qn} (hw : q.w = .run) {a b : List Rw} (hd : rO q a 0 ≠ rO q b 0) : Sep q 0 a b := by
  refine ⟨⟨[], rfl, by simp, ?_⟩, fun x hx => by omega⟩
  rw [ans_run hw, ans_run hw]
  unfold rO at hd
  unfold Qn.win
  simp
  intro z
  apply hd
  by_cases hs : q.s = 0
  · simp [hs] at z ⊢; omega
  · simp [hs] at z ⊢; omega
/-- what is not found by the check is not told apart -/
theorem run_no {q : Qn} (hw : q.w = .run) {a b : List Rw} {n : Nat} (hn : q.s ≠ 0 → n ≤ q.s) (he : ∀ i, i < n → rO q a i = rO q b i) (hc : ∀ i, i ≠ 0 → i < n → ¬ Chk q a b i) : ∀ x : List Rw, x.length < n → ans q (a ++ x) = ans q (b ++ x) := by
  intro x hx
  rw [ans_run hw, ans_run hw, win_run _ _ (fun h => by have := hn h; omega), win_run _ _ (fun h => by have := hn h; omega)]
  congr 2
  have h0 := he _ hx
  by_cases hx0 : x.length = 0
  · have := List.eq_nil_of_length_eq_zero hx0
    subst this
    unfold rO at h0
    by_cases hs : q.s = 0
    · simpa [hs] using h0
    · simpa [hs] using h0
  · have hk : ∀ k, ¬ ChkK q a b x.length k := fun k hk => hc _ hx0 hx ⟨k, chk_end hk, hk⟩
    by_cases hs : q.s = 0
    · have hk : ∀ i, i ≠ 0 → i ≤ x.length → ∀ k, ¬ ChkK q a b i k := fun i h1 h2 k hk => hc i h1 (by omega) ⟨k, chk_end hk, hk⟩
      unfold rO at h0
      rw [if_pos hs, if_pos hs] at h0
      rw [if_pos hs, if_pos hs]
      refine run_low (m := x.length) h0 ?_ x (Nat.le_refl _)
      intro k
      have c1 := mine_le (er q a) k
      have c2 := mine_le (er q b) k
      have c3 := er_lr q a
      have c4 := er_lr q b
      have hi := hk (lr q a + 1 - max (mine (er q a) k) (mine (er q b) k)) (by omega)
      unfold ChkK rO rE rM at hi
      simp only [if_pos hs] at hi
      by_cases hle : lr q a + 1 - max (mine (er q a) k) (mine (er q b) k) ≤ x.length
      · have := hi hle k
        simp only [ne_eq, Decidable.not_not] at this
        omega
      · omega
    · have hxs : x.length ≤ q.s := by have := hn hs; omega
      unfold rO at h0
      rw [if_neg hs, if_neg hs] at h0
      rw [if_neg hs, if_neg hs]
      refine run_low (m := x.length) h0 ?_ x (Nat.le_refl _)
      intro k
      have := hk k
      unfold ChkK rO rM at this
      simp only [if_neg hs, ne_eq, Decidable.not_not] at this
      rw [mine_w hs a hx0 hxs, mine_w hs b hx0 hxs]
      exact this
theorem sep_run_chk {q : Qn} (hq : q.ok) (hw : q.w = .run) {a b : List Rw} {n : Nat} (h0 : n ≠ 0) (hn : q.s ≠ 0 → n ≤ q.s) (he : ∀ i, i ≤ n → rO q a i = rO q b i) (hc : ∀ i, i ≠ 0 → i < n → ¬ Chk q a b i) (hd : Chk q a b n) : Sep q n a b := by
  refine ⟨?_, run_no hw hn (fun i hi => he i (by omega)) hc⟩
  obtain ⟨k, hk, hd⟩ := hd
  have hk : q.m.has k = true := hk.elim rE_sub rE_sub
  have hs : q.sees ⟨k, q.lo⟩ = true := sees_mk hk (Int.le_refl _) hq.le
  have hok : (⟨k, q.lo⟩ : Rw).ok := ⟨hq.lo, by show q.lo ≤ 3; have := hq.hi; have := hq.le; omega⟩
  refine ⟨List.replicate n ⟨k, q.lo⟩, by simp, rep_ok hok n, ?_⟩
  have h1 := he n (Nat.le_refl _)
  rw [ans_run hw, ans_run hw, win_run _ _ (fun h => by simpa using hn h), win_run _ _ (fun h => by simpa using hn h)]
  intro z
  injection z with z
  have z : lr q _ = lr q _ := Int.ofNat_inj.mp z
  rw [run_rep hs _ h0, run_rep hs _ h0, List.length_replicate] at z
  apply hd
  unfold rO at h1
  by_cases hz : q.s = 0
  · unfold rO rE rM
    simp only [if_pos hz] at z h1 ⊢
    omega
  · simp only [if_neg hz] at z h1
    rw [mine_w hz a h0 (hn hz), mine_w hz b h0 (hn hz)] at z
    unfold rO rM
    simp only [if_neg hz]
    rw [z, h1]
theorem sep_run_at {q : Qn} (hq : q.ok) (hw : q.w = .run) (hs : q.s ≠ 0) {a b : List Rw} (ha : ∀ r ∈ a, r.ok) (hb : ∀ r ∈ b, r.ok) {n : Nat} (h0 : n ≠ 0) (hn : n < q.s) (hd : rO q a n ≠ rO q b n) (he : ∀ i, i < n → rO q a i = rO q b i) (hc : ∀ i, i ≠ 0 → i < n → ¬ Chk q a b i) : Sep q n a b := by
  refine ⟨?_, run_no hw (fun _ => by omega) he hc⟩
  have e0 := he 0 (by omega)
  unfold rO at e0 hd
  simp only [if_neg hs, Nat.sub_zero] at e0 hd
  obtain ⟨x, h1, h2, h3⟩ := run_at (last_ok ha (q.s - n)) (last_ok hb (q.s - n)) hd (ne_of_full hs ha hb (by omega) hd e0) n
  refine ⟨x, h1, h2, ?_⟩
  rw [ans_run hw, ans_run hw, win_app _ _ (by omega) hs, win_app _ _ (by omega) hs, h1]
  intro z
  injection z with z
  exact h3 (Int.ofNat_inj.mp z)
theorem chk_ex {q : Qn} {a b : List Rw} (he : q.s = 0 → lr q a = lr q b) (hn : rE q a ≠ rE q b) : ∃ m, m ≠ 0 ∧ (q.s ≠ 0 → m < q.s) ∧ m ≤ max q.s (lr q a) ∧ Chk q a b m := by
  obtain ⟨k, hk, hm⟩ := mine_inj (rE_zero q a) (rE_zero q b) hn
  by_cases hs : q.s = 0
  · have he := he hs
    have c1 := mine_le (er q a) k
    have c2 := mine_le (er q b) k
    have c3 := er_lr q a
    have c4 := er_lr q b
    refine ⟨lr q a + 1 - max (mine (er q a) k) (mine (er q b) k), by omega, fun h => absurd hs h, ?_, k, hk, ?_⟩
    · unfold rE at hm
      simp only [if_pos hs] at hm
      omega
    · unfold ChkK rO rE rM
      unfold rE at hm
      simp only [if_pos hs] at hm ⊢
      omega
  · have c1 := mine_le (rE q a) k
    have c2 := mine_le (rE q b) k
    have l1 : (rE q a).2 ≤ q.s - 1 := by
      unfold rE; rw [if_neg hs]
      have := er_len q (lastN (q.s - 1) a)
      rw [lastN_length] at this; omega
    have l2 : (rE q b).2 ≤ q.s - 1 := by
      unfold rE; rw [if_neg hs]
      have := er_len q (lastN (q.s - 1) b)
      rw [lastN_length] at this; omega
    refine ⟨q.s - max (mine (rE q a) k) (mine (rE q b) k), by omega, fun _ => by omega, by omega, k, hk, ?_⟩
    unfold ChkK rO rM
    simp only [if_neg hs]
    have := lr_len q (lastN (q.s - (q.s - max (mine (rE q a) k) (mine (rE q b) k))) a)
    rw [lastN_length] at this
    omega
theorem least_ex {p : Nat → Prop} : ∀ n, p n → ∃ m, m ≤ n ∧ p m ∧ ∀ i, i < m → ¬ p i := by
  intro n
  induction n using Nat.strongRecOn with
  | ind n ih =>
    intro h
    by_cases hx : ∃ i, i < n ∧ p i
    · obtain ⟨i, hi, hp⟩ := hx
      obtain ⟨m, h1, h2, h3⟩ := ih i hi hp
      exact ⟨m, by omega, h2, h3⟩
    · exact ⟨n, Nat.le_refl _, h, fun i hi hp => hx ⟨i, hi, hp⟩⟩
/-- apart by a plan -/
structure SepP (qs : List Qn) (n : Nat) (a b : List Rw) : Prop where
  ex : ∃ x : List Rw, x.length = n ∧ (∀ r ∈ x, r.ok) ∧ ∃ q ∈ qs, ans q (a ++ x) ≠ ans q (b ++ x)
  no : ∀ x : List Rw, x.length < n → ∀ q ∈ qs, ans q (a ++ x) = ans q (b ++ x)
theorem SepP.uniq {qs : List Qn} {n m : Nat} {a b : List Rw} (h : SepP qs n a b) (h' : SepP qs m a b) : n = m := by
  obtain ⟨x, h1, _, q, hq, h2⟩ := h.ex
  obtain ⟨y, h3, _, p, hp, h4⟩ := h'.ex
  rcases Nat.lt_trichotomy n m with z | z | z
  · exact absurd (h'.no x (by omega) q hq) h2
  · exact z
  · exact absurd (h.no y (by omega) p hp) h4
end JK

/-! MirF1 -/
set_option Elab.async false
set_option linter.all false
set_option maxRecDepth 100000
set_option autoImplicit false
namespace JK
open PySem PySem.Spec PyProof.Rows L2
/-! ### fewest -/
theorem enum_rng : ∀ (L : List D) (k : Nat), enumL k L = (List.range L.length).map fun i => .tup [.int ((k + i : Nat) : Int), L.getD i .non]
  | [], k => rfl
  | x :: xs, k => by
    rw [enumL, enum_rng xs (k + 1), List.length_cons, List.range_succ_eq_map, List.map_cons, List.map_map]
    congr 1
    apply List.map_congr_left
    intro i _
    simp only [Function.comp, List.getD_cons_succ]
    congr 4
    omega
def FU (l l' : List D) : Option Nat → Prop
  | none => l = l'
  | some n => n < l.length ∧ l.getD n .non ≠ l'.getD n .non ∧ ∀ i, i < n → l.getD i .non = l'.getD i .non
def noE (o : Option Nat) : D := oE (o.map fun n => (n : Int))
theorem getD_mem {l : List D} {i : Nat} (h : i < l.length) : l.getD i .non ∈ l := by
  rw [List.getD_eq_getElem?_getD, List.getElem?_eq_getElem h]
  exact List.getElem_mem h
open Classical in
theorem m_first_unlike {l l' : List D} (hl : l.length = l'.length) (h : ∀ x ∈ l, x.sim = true ∧ x.dep ≤ 60) (h' : ∀ x ∈ l', x.sim = true) : ∃ o, FU l l' o ∧ d_first_unlike [.tup l, .tup l'] = .ok (noE o) := by
  have e0 : (List.zipWith (fun x y => D.tup [x, y]) l l').length = l.length := by rw [List.length_zipWith]; omega
  have e1 : enumL 0 (List.zipWith (fun x y => D.tup [x, y]) l l') = (List.range l.length).map fun i => .tup [.int (i : Int), .tup [l.getD i .non, l'.getD i .non]] := by
    rw [enum_rng, e0]
    apply List.map_congr_left
    intro i hi
    have hi : i < l.length := by simpa using hi
    rw [Nat.zero_add]
    congr 3
    rw [List.getD_eq_getElem?_getD, List.getElem?_zipWith, List.getD_eq_getElem?_getD, List.getD_eq_getElem?_getD, List.getElem?_eq_getElem hi, List.getElem?_eq_getElem (by omega)]
    rfl
  have c : cLoop (gT (gsCons (gN 3) (gsCons (gT (gsCons (gN 4) (gsCons (gN 5) gsNil))) gsNil))) (tOf (eBin dNe (eName 4) (eName 5))) (eName 3) [.val (.tup l), .val (.tup l'), .emp, .emp, .emp, .emp] (enumL 0 (List.zipWith (fun x y => D.tup [x, y]) l l')) = .ok (((List.range l.length).filter fun i => !decide (l.getD i .non = l'.getD i .non)).map nE) := by
    rw [e1, cLoop_map (p := fun i => !decide (l.getD i .non = l'.getD i .non)) (o := nE)]
    intro i hi
    have hi : i < l.length := by simpa using hi
    have n := dNe_sim (a := l.getD i .non) (b := l'.getD i .non) (p := l.getD i .non = l'.getD i .non) (h _ (getD_mem hi)).1 (h' _ (getD_mem (by omega))) (h _ (getD_mem hi)).2 Iff.rfl
    refine ⟨_, rfl, ?_, fun _ => ?_⟩
    · simp only [tOf_ap, eBin_ap, eName_ap, List.set_cons_succ, List.set_cons_zero, List.getElem?_cons_succ, List.getElem?_cons_zero, slE_val, bT_ok, n, dBl_bl]
    · simp [nE]
  cases hf : ((List.range l.length).filter fun i => !decide (l.getD i .non = l'.getD i .non)) with
  | nil =>
    refine ⟨none, ?_, ?_⟩
    · show l = l'
      rw [List.filter_eq_nil_iff] at hf
      refine List.ext_getElem hl fun i h1 h2 => ?_
      have := hf i (by simpa using h1)
      simp at this
      simpa [h1, h2] using this
    · rw [hf] at c
      simp [d_first_unlike, dEnumZip, srcs, c, noE]
  | cons i t =>
    have hh : ((List.range l.length).filter fun i => !decide (l.getD i .non = l'.getD i .non)).head? = some i := by rw [hf]; rfl
    rw [List.head?_filter, List.find?_range_eq_some] at hh
    refine ⟨some i, ⟨by simpa using hh.2.1, ?_, ?_⟩, ?_⟩
    · have := hh.1; simpa using this
    · intro j hj
      have := hh.2.2 j hj
      simpa using this
    · rw [hf] at c
      simp [d_first_unlike, dEnumZip, srcs, c, noE, nE]
theorem W_getD {f : Nat → D} : ∀ (t i : Nat), i < t → (W t f).getD i .non = f (t - i)
  | 0, i, h => by omega
  | t + 1, 0, h => rfl
  | t + 1, i + 1, h => by
    rw [W, List.getD_cons_succ, W_getD t i (by omega)]
    congr 1
    omega
theorem prE_inj {p p' : Pr} : prE p = prE p' ↔ p = p' := by
  obtain ⟨a, b⟩ := p
  obtain ⟨c, d⟩ := p'
  simp [prE, oE_inj]
theorem prE_sim (p : Pr) : (prE p).sim = true := by simp [prE, D.sim, D.simL]
theorem prE_dep (p : Pr) : (prE p).dep ≤ 60 := by simp [prE, D.dep, D.depL]
theorem mkE_inj {m m' : Mk} : mkE m = mkE m' ↔ m = m' := by simp [mkE, txt_inj]
theorem nE_inj {m m' : Nat} : nE m = nE m' ↔ m = m' := by simp [nE]; omega
theorem m_fu_gat {q : Qn} (hq : q.ok) (hg : q.w.gat = true) {a b : List Rw} (ha : ∀ r ∈ a, r.ok) (hb : ∀ r ∈ b, r.ok) (hn : gatE (gatK q a) ≠ gatE (gatK q b)) : ∃ n, d_first_unlike [gatE (gatK q a), gatE (gatK q b)] = .ok (.int ((n : Nat) : Int)) ∧ Sep q n a b := by
  have hl : ((gatK q a).map oE).length = ((gatK q b).map oE).length := by unfold gatK; split <;> simp
  obtain ⟨o, h1, h2⟩ := m_first_unlike hl (fun x hx => by obtain ⟨y, _, rfl⟩ := List.mem_map.mp hx; simp) (fun x hx => by obtain ⟨y, _, rfl⟩ := List.mem_map.mp hx; simp)
  cases o with
  | none =>
    have h1 : (gatK q a).map oE = (gatK q b).map oE := h1
    exact absurd (by unfold gatE; rw [h1]) hn
  | some n =>
    refine ⟨n, h2, ?_⟩
    obtain ⟨h3, h4, h5⟩ := h1
    by_cases hs : q.s = 0
    · unfold gatK at h3 h4
      simp only [if_pos hs, List.map_cons, List.map_nil, List.length_singleton] at h3 h4
      have : n = 0 := by omega
      subst this
      exact sep_gat0 hg hs (fun z => h4 (by simp [z]))
    · unfold gatK at h3 h4 h5
      simp only [if_neg hs, W_map, W_length] at h3 h4 h5
      rw [W_getD _ _ h3, W_getD _ _ h3, Ne, oE_inj] at h4
      refine sep_gat hq hg hs ha hb h3 h4 fun i hi => ?_
      have := h5 i hi
      rw [W_getD _ _ (by omega), W_getD _ _ (by omega), oE_inj] at this
      exact this
theorem m_fu_sec {q : Qn} (hq : q.ok) (hw : q.w = .second) (hs : q.s ≠ 0) {a b : List Rw} (ha : ∀ r ∈ a, r.ok) (hb : ∀ r ∈ b, r.ok) (hn : (secK q a).e ≠ (secK q b).e) : ∃ n, d_first_unlike [.tup (oE (pr q (lastN q.s a)).2 :: (W (q.s - 1) fun n => prE (pr q (lastN n a)))), .tup (oE (pr q (lastN q.s b)).2 :: (W (q.s - 1) fun n => prE (pr q (lastN n b))))] = .ok (.int ((n : Nat) : Int)) ∧ Sep q n a b := by
  have hx : ∀ c : List Rw, ∀ x ∈ (oE (pr q (lastN q.s c)).2 :: (W (q.s - 1) fun n => prE (pr q (lastN n c)))), x.sim = true ∧ x.dep ≤ 60 := fun c x hx => by
    rcases List.mem_cons.mp hx with rfl | hx
    · simp
    · obtain ⟨m, _, _, rfl⟩ := W_mem hx; exact ⟨prE_sim _, prE_dep _⟩
  obtain ⟨o, h1, h2⟩ := m_first_unlike (l := (oE (pr q (lastN q.s a)).2 :: (W (q.s - 1) fun n => prE (pr q (lastN n a))))) (l' := (oE (pr q (lastN q.s b)).2 :: (W (q.s - 1) fun n => prE (pr q (lastN n b))))) (by simp) (hx a) (fun x h => (hx b x h).1)
  cases o with
  | none =>
    have h1 : _ :: _ = _ :: _ := h1
    injection h1 with h3 h4
    exact absurd (by unfold secK; simp only [if_neg hs, SecK.e, W_map, h3, h4]) hn
  | some n =>
    refine ⟨n, h2, ?_⟩
    obtain ⟨h3, h4, h5⟩ := h1
    rw [List.length_cons, W_length] at h3
    cases n with
    | zero =>
      refine sep_sec00 hw ?_
      unfold Qn.win
      rw [if_neg hs, if_neg hs]
      intro z
      exact h4 (by simp [z])
    | succ n =>
      rw [List.getD_cons_succ, List.getD_cons_succ, W_getD _ _ (by omega), W_getD _ _ (by omega), Ne, prE_inj, show q.s - 1 - n = q.s - (n + 1) by omega] at h4
      refine sep_sec hq hw hs ha hb (by omega) (by omega) h4 ?_ fun i h0 hi => ?_
      · have := h5 0 (by omega)
        exact oE_inj.mp this
      · obtain ⟨j, rfl⟩ : ∃ j, i = j + 1 := ⟨i - 1, by omega⟩
        have := h5 (j + 1) hi
        rw [List.getD_cons_succ, List.getD_cons_succ, W_getD _ _ (by omega), W_getD _ _ (by omega), prE_inj, show q.s - 1 - j = q.s - (j + 1) by omega] at this
        exact this
theorem m_fu_kin {q : Qn} (hq : q.ok) (hw : q.w = .kinds) (hs : q.s ≠ 0) {a b : List Rw} (ha : ∀ r ∈ a, r.ok) (hb : ∀ r ∈ b, r.ok) (hn : (kinK q a).e ≠ (kinK q b).e) : ∃ n, d_first_unlike [.tup (nE (ms q (lastN q.s a)).card :: (W (q.s - 1) fun n => mkE (ms q (lastN n a)))), .tup (nE (ms q (lastN q.s b)).card :: (W (q.s - 1) fun n => mkE (ms q (lastN n b))))] = .ok (.int ((n : Nat) : Int)) ∧ Sep q n a b := by
  have hx : ∀ c : List Rw, ∀ x ∈ (nE (ms q (lastN q.s c)).card :: (W (q.s - 1) fun n => mkE (ms q (lastN n c)))), x.sim = true ∧ x.dep ≤ 60 := fun c x hx => by
    rcases List.mem_cons.mp hx with rfl | hx
    · simp [nE, D.sim, D.dep]
    · obtain ⟨m, _, _, rfl⟩ := W_mem hx; simp [mkE, D.sim, D.dep]
  obtain ⟨o, h1, h2⟩ := m_first_unlike (l := (nE (ms q (lastN q.s a)).card :: (W (q.s - 1) fun n => mkE (ms q (lastN n a))))) (l' := (nE (ms q (lastN q.s b)).card :: (W (q.s - 1) fun n => mkE (ms q (lastN n b))))) (by simp) (hx a) (fun x h => (hx b x h).1)
  cases o with
  | none =>
    have h1 : _ :: _ = _ :: _ := h1
    injection h1 with h3 h4
    rw [nE_inj] at h3
    exact absurd (by unfold kinK; simp only [if_neg hs, KinK.e, W_map, h3, h4]) hn
  | some n =>
    refine ⟨n, h2, ?_⟩
    obtain ⟨h3, h4, h5⟩ := h1
    rw [List.length_cons, W_length] at h3
    cases n with
    | zero =>
      refine sep_kin00 hw ?_
      unfold Qn.win
      rw [if_neg hs, if_neg hs]
      intro z
      exact h4 (by simp [z])
    | succ n =>
      rw [List.getD_cons_succ, List.getD_cons_succ, W_getD _ _ (by omega), W_getD _ _ (by omega), Ne, mkE_inj, show q.s - 1 - n = q.s - (n + 1) by omega] at h4
      refine sep_kin hq hw hs ha hb (by omega) (by omega) h4 ?_ fun i h0 hi => ?_
      · have := h5 0 (by omega)
        exact nE_inj.mp this
      · obtain ⟨j, rfl⟩ : ∃ j, i = j + 1 := ⟨i - 1, by omega⟩
        have := h5 (j + 1) hi
        rw [List.getD_cons_succ, List.getD_cons_succ, W_getD _ _ (by omega), W_getD _ _ (by omega), mkE_inj, show q.s - 1 - j = q.s - (j + 1) by omega] at this
        exact this
end JK

/-! MirF2 -/
set_option Elab.async false
set_option linter.all false
set_option maxRecDepth 100000
set_option autoImplicit false
namespace JK
open PySem PySem.Spec PyProof.Rows L2
theorem keyS_eq' (k : Fin 4) (o : Option (Fin 4)) : (keyS o == kS k) = decide (o = some k) := by
  cases o with
  | none => revert k; decide
  | some j => revert k j; decide
theorem m_run_end (K : RunK) (k : Fin 4) (m M : Nat) : d_run_end [K.e, .str (kS k), .int (m : Int), .int (M : Int)] = .ok (.int ((min (mine K.r k + m) M : Nat) : Int)) := by
  simp [d_run_end, RunK.e, keyS_eq']
  unfold mine
  by_cases h : K.r.1 = some k
  · simp [h]
    omega
  · simp [h]
    omega
theorem sWhileN_go {t : Tx} {F : Sx} (Inv : Nat → Env → Prop) {m : Nat} (h : ∀ i, i < m → ∀ ρ, Inv i ρ → t ρ = .ok true ∧ ∃ ρ', F ρ = .nx ρ' ∧ Inv (i + 1) ρ') : ∀ (k i f : Nat) (ρ : Env), i + k = m → Inv i ρ → ∃ ρ', Inv m ρ' ∧ sWhileN t F (k + f) ρ = sWhileN t F f ρ' := by
  intro k
  induction k with
  | zero => intro i f ρ e hi; have : i = m := by omega
            subst this; exact ⟨ρ, hi, by rw [Nat.zero_add]⟩
  | succ k ih =>
    intro i f ρ e hi
    obtain ⟨h1, ρ', h2, h3⟩ := h i (by omega) ρ hi
    obtain ⟨ρ2, h4, h5⟩ := ih (i + 1) f ρ' (by omega) h3
    refine ⟨ρ2, h4, ?_⟩
    rw [show k + 1 + f = (k + f) + 1 by omega, sWhileN]
    simp only [h1, tThen, if_true, h2]
    exact h5
theorem sWhileN_end {t : Tx} {F : Sx} {f : Nat} {ρ : Env} (h : t ρ = .ok false) : sWhileN t F (f + 1) ρ = .nx ρ := by
  rw [sWhileN]; simp [h, tThen]
theorem sWhileN_rt {t : Tx} {F : Sx} {f : Nat} {ρ : Env} {d : D} (h : t ρ = .ok true) (h2 : F ρ = .rt d) : sWhileN t F (f + 1) ρ = .rt d := by
  rw [sWhileN]; simp [h, tThen, h2]
def apKey : Sx := (sIf (tOf (eBin dNe (eName 8) (eC (.str "")))) (sSeq (sSet 9 (eLst (aComp (aItems (eTup (aCons (eName 1) (aCons (eName 2) aNil)))) [10] (gN 10) tYesD (eCall dMax2 (aCons (eName 7) (aCons (eCall d_run_end (aCons (eName 10) (aCons (eName 8) (aCons (eName 6) (aCons (eName 5) aNil))))) aNil))))))
    (sIf (tOf (eBin dNe (eBin dIx (eName 9) (eC (.int 0))) (eBin dIx (eName 9) (eC (.int 1))))) (sRet (eName 6)) sNil)) sNil)
def apBody : Sx := (sSeq (sSet 7 (eIf (tOf (eBin dGt (eName 3) (eC (.int 0)))) (eBin dIx (eBin dIx (eName 1) (eC (.int 0))) (eName 6)) (eBin dIx (eBin dIx (eName 1) (eC (.int 0))) (eC (.int 0)))))
    (sSeq (sFor (aItems (eTup (aCons (eBin dIx (eName 1) (eC (.int 1))) (aCons (eBin dIx (eName 2) (eC (.int 1))) aNil)))) (gN 8)
    apKey)
    (sAug (fun i j => i + j) 6 (eC (.int 1)))))
def apTest : Tx := (tOrD (tOf (eBin dIs (eName 4) (eC .non))) (tOf (eBin dLt (eName 6) (eName 4))))
def apTail : Sx := (sSeq (sSet 5 (eIf (tOf (eBin dGt (eName 3) (eC (.int 0)))) (eName 3) (eBin dAdd (eCall dMax2 (aCons (eBin dIx (eBin dIx (eName 1) (eC (.int 0))) (eC (.int 0))) (aCons (eBin dIx (eBin dIx (eName 2) (eC (.int 0))) (eC (.int 0))) aNil))) (eC (.int 1)))))
    (sSeq (sSet 6 (eC (.int 1)))
    (sSeq (sWhile 100000 apTest
    apBody)
    (sRet (eName 4)))))
theorem run_apart_eq : d_run_apart = runD 11 3 (sSeq (sSet 3 (eBin dIx (eName 0) (eC (.int 4))))
    (sSeq (sSet 4 (eCall d_first_unlike (aCons (eBin dIx (eName 1) (eC (.int 0))) (aCons (eBin dIx (eName 2) (eC (.int 0))) aNil))))
    (sSeq (sIf (tOrD (tOf (eBin dEq (eSl (eName 1) (oSome (eC (.int 1))) oNone) (eSl (eName 2) (oSome (eC (.int 1))) oNone))) (tOf (eBin dEq (eName 4) (eC (.int 0))))) (sRet (eName 4)) sNil)
    apTail))) := rfl
/-- two ends, by one key more -/
def EndK (K K' : RunK) (o m M : Nat) (k : Fin 4) : Prop := max o (min (mine K.r k + m) M) ≠ max o (min (mine K'.r k + m) M)
theorem ap_key (K K' : RunK) (d0 d3 d4 : D) (M m o : Nat) (k : Option (Fin 4)) (x9 x10 : Slot) :
    ((∃ j, k = some j ∧ EndK K K' o m M j) ∧ apKey [.val d0, .val K.e, .val K'.e, .val d3, .val d4, .val (.int (M : Int)), .val (.int (m : Int)), .val (nE o), .val (.str (keyS k)), x9, x10] = .rt (.int (m : Int))) ∨
    ((∀ j, k = some j → ¬ EndK K K' o m M j) ∧ ∃ y9, apKey [.val d0, .val K.e, .val K'.e, .val d3, .val d4, .val (.int (M : Int)), .val (.int (m : Int)), .val (nE o), .val (.str (keyS k)), x9, x10] = .nx [.val d0, .val K.e, .val K'.e, .val d3, .val d4, .val (.int (M : Int)), .val (.int (m : Int)), .val (nE o), .val (.str (keyS k)), y9, x10]) := by
  cases k with
  | none =>
    right
    refine ⟨by simp, x9, ?_⟩
    simp [apKey, keyS]
  | some j =>
    have ne : (kS j == ("" : Str)) = false := by revert j; decide
    have c : cLoop (gN 10) tYesD (eCall dMax2 (aCons (eName 7) (aCons (eCall d_run_end (aCons (eName 10) (aCons (eName 8) (aCons (eName 6) (aCons (eName 5) aNil))))) aNil))) [.val d0, .val K.e, .val K'.e, .val d3, .val d4, .val (.int (M : Int)), .val (.int (m : Int)), .val (nE o), .val (.str (kS j)), x9, .emp] ([K, K'].map RunK.e) = .ok ([K, K'].map fun K => nE (max o (min (mine K.r j + m) M))) := by
      refine cLoop_all fun K _ => ⟨_, rfl, ?_⟩
      simp [m_run_end, nE]
      omega
    simp only [List.map_cons, List.map_nil] at c
    by_cases h : EndK K K' o m M j
    · left
      refine ⟨⟨j, rfl, h⟩, ?_⟩
      have h' : ¬ ((max o (min (mine K.r j + m) M) : Nat) : Int) = ((max o (min (mine K'.r j + m) M) : Nat) : Int) := by unfold EndK at h; omega
      simp [apKey, keyS, ne, c, nE]
      simp [nE] at c
      simp [c, h']
    · right
      refine ⟨fun i hi => by cases hi; exact h, ?_⟩
      have h' : ((max o (min (mine K.r j + m) M) : Nat) : Int) = ((max o (min (mine K'.r j + m) M) : Nat) : Int) := by unfold EndK at h; omega
      refine ⟨.val (.lst [nE (max o (min (mine K.r j + m) M)), nE (max o (min (mine K'.r j + m) M))]), ?_⟩
      simp [apKey, keyS, ne, c, nE]
      simp [nE] at c
      simp [c, h']
theorem ap_body (K K' : RunK) (d0 d4 : D) (s M m o : Nat) (h0 : (if 0 < s then K.l[m]? else K.l[0]?) = some o) (x7 x8 x9 x10 : Slot) :
    ((∃ j, (K.r.1 = some j ∨ K'.r.1 = some j) ∧ EndK K K' o m M j) ∧ apBody [.val d0, .val K.e, .val K'.e, .val (.int (s : Int)), .val d4, .val (.int (M : Int)), .val (.int (m : Int)), x7, x8, x9, x10] = .rt (.int (m : Int))) ∨
    ((∀ j, (K.r.1 = some j ∨ K'.r.1 = some j) → ¬ EndK K K' o m M j) ∧ ∃ y7 y8 y9, apBody [.val d0, .val K.e, .val K'.e, .val (.int (s : Int)), .val d4, .val (.int (M : Int)), .val (.int (m : Int)), x7, x8, x9, x10] = .nx [.val d0, .val K.e, .val K'.e, .val (.int (s : Int)), .val d4, .val (.int (M : Int)), .val (.int ((m + 1 : Nat) : Int)), y7, y8, y9, x10]) := by
  have k0 : dIx K.e (.int 0) = .ok (.tup (K.l.map nE)) := by simp [RunK.e]
  have k1 : dIx K.e (.int 1) = .ok (.str (keyS K.r.1)) := by simp [RunK.e]
  have k1' : dIx K'.e (.int 1) = .ok (.str (keyS K'.r.1)) := by simp [RunK.e]
  have old : (if 0 < s then dIx (.tup (K.l.map nE)) (.int (m : Int)) else dIx (.tup (K.l.map nE)) (.int 0)) = .ok (nE o) := by
    by_cases hs : 0 < s
    · rw [if_pos hs] at h0 ⊢
      exact dIx_tup (by rw [List.getElem?_map, h0]; rfl)
    · rw [if_neg hs] at h0 ⊢
      exact dIx_tup (n := 0) (by rw [List.getElem?_map, h0]; rfl)
  have body : apBody [.val d0, .val K.e, .val K'.e, .val (.int (s : Int)), .val d4, .val (.int (M : Int)), .val (.int (m : Int)), x7, x8, x9, x10] = nT (sLoop (gN 8) apKey [.str (keyS K.r.1), .str (keyS K'.r.1)] [.val d0, .val K.e, .val K'.e, .val (.int (s : Int)), .val d4, .val (.int (M : Int)), .val (.int (m : Int)), .val (nE o), x8, x9, x10]) (sAug (fun i j => i + j) 6 (eC (.int 1))) .mk := by
    by_cases hs : 0 < s
    · rw [if_pos hs] at old
      have hs' : (0 : Int) < s := by omega
      simp only [apBody, sSeq_ap, sSet_ap, eIf_ap, tOf_ap, eBin_ap, eName_ap, eC_ap, List.getElem?_cons_succ, List.getElem?_cons_zero, slE_val, bT_ok, dCmpI_int, dBl_bl, decide_eq_true hs', if_true, k0, old, rT_ok, nT_nx, sFor_ap, aItems_ap, eTup_ap, aCons_ap, aNil_ap, List.set_cons_succ, List.set_cons_zero, k1, k1', dItems_tup, lT_ok]
    · rw [if_neg hs] at old
      have hs' : ¬ (0 : Int) < s := by omega
      simp only [apBody, sSeq_ap, sSet_ap, eIf_ap, tOf_ap, eBin_ap, eName_ap, eC_ap, List.getElem?_cons_succ, List.getElem?_cons_zero, slE_val, bT_ok, dCmpI_int, dBl_bl, decide_eq_false hs', Bool.false_eq_true, if_false, k0, old, rT_ok, nT_nx, sFor_ap, aItems_ap, eTup_ap, aCons_ap, aNil_ap, List.set_cons_succ, List.set_cons_zero, k1, k1', dItems_tup, lT_ok]
  rw [body]
  rcases ap_key K K' d0 (.int (s : Int)) d4 M m o K.r.1 x9 x10 with ⟨⟨j, hj, hE⟩, e⟩ | ⟨hn, y9, e⟩
  · left
    refine ⟨⟨j, .inl hj, hE⟩, ?_⟩
    rw [sLoop]
    simp only [gN_ap, List.set_cons_succ, List.set_cons_zero, e, nT_rt]
  · rcases ap_key K K' d0 (.int (s : Int)) d4 M m o K'.r.1 y9 x10 with ⟨⟨j, hj, hE⟩, e2⟩ | ⟨hn2, z9, e2⟩
    · left
      refine ⟨⟨j, .inr hj, hE⟩, ?_⟩
      rw [sLoop]
      simp only [gN_ap, List.set_cons_succ, List.set_cons_zero, e]
      rw [sLoop]
      simp only [gN_ap, List.set_cons_succ, List.set_cons_zero, e2, nT_rt]
    · right
      refine ⟨fun j hj => hj.elim (hn j) (hn2 j), .val (nE o), .val (.str (keyS K'.r.1)), z9, ?_⟩
      rw [sLoop]
      simp only [gN_ap, List.set_cons_succ, List.set_cons_zero, e]
      rw [sLoop]
      simp only [gN_ap, List.set_cons_succ, List.set_cons_zero, e2]
      rw [sLoop]
      simp
end JK

/-! MirF3 -/
set_option Elab.async false
set_option linter.all false
set_option maxRecDepth 100000
set_option autoImplicit false
namespace JK
open PySem PySem.Spec PyProof.Rows L2
theorem runK_r (q : Qn) (a : List Rw) : (runK q a).r = rE q a := by unfold runK rE; split <;> rfl
theorem runK_l (q : Qn) (a : List Rw) : (runK q a).l = W (max 1 q.s) (fun n => rO q a (max 1 q.s - n)) := by
  unfold runK rO
  by_cases hs : q.s = 0
  · simp [hs, W]
  · simp only [if_neg hs]
    rw [show max 1 q.s = q.s by omega]
    exact W_congr fun n h1 h2 => by rw [show q.s - (q.s - n) = n by omega]
theorem W_get {α : Type} {f : Nat → α} : ∀ (t i : Nat), i < t → (W t f)[i]? = some (f (t - i))
  | 0, i, h => by omega
  | t + 1, 0, h => rfl
  | t + 1, i + 1, h => by
    rw [W, List.getElem?_cons_succ, W_get t i (by omega)]
    congr 2
    omega
theorem runK_at (q : Qn) (a : List Rw) {i : Nat} (h : i < max 1 q.s) : (runK q a).l[i]? = some (rO q a i) := by
  rw [runK_l, W_get _ _ h, show max 1 q.s - (max 1 q.s - i) = i by omega]
theorem chk_iff (q : Qn) (a b : List Rw) (m : Nat) : Chk q a b m ↔ ∃ j, ((runK q a).r.1 = some j ∨ (runK q b).r.1 = some j) ∧ EndK (runK q a) (runK q b) (rO q a m) m (rM q a b) j := by
  unfold Chk ChkK EndK
  rw [runK_r, runK_r]
/-- the loop: behind a number of rows at which nothing is found, at each -/
theorem ap_loop {q : Qn} {a b : List Rw} (d0 : D) (at' : Option Nat) {n : Nat} (h0 : n ≠ 0) (hn : n ≤ 1000) (hn' : at' = none ∨ at' = some n ∨ ∃ m, at' = some m ∧ n < m) (hs : q.s ≠ 0 → n ≤ q.s) (hc : ∀ i, i ≠ 0 → i < n → ¬ Chk q a b i) (x : Slot) :
    ∃ y7 y8 y9 y10, sWhileN apTest apBody 100000 [.val d0, .val (runK q a).e, .val (runK q b).e, .val (.int (q.s : Int)), .val (noE at'), .val (.int (rM q a b : Int)), .val (.int ((1 : Nat) : Int)), x, x, x, x] = sWhileN apTest apBody (100000 - n + 1) [.val d0, .val (runK q a).e, .val (runK q b).e, .val (.int (q.s : Int)), .val (noE at'), .val (.int (rM q a b : Int)), .val (.int (n : Int)), y7, y8, y9, y10] := by
  obtain ⟨ρ', ⟨y7, y8, y9, y10, rfl⟩, e⟩ := sWhileN_go (t := apTest) (F := apBody) (fun i ρ => ∃ y7 y8 y9 y10, ρ = [.val d0, .val (runK q a).e, .val (runK q b).e, .val (.int (q.s : Int)), .val (noE at'), .val (.int (rM q a b : Int)), .val (.int ((i + 1 : Nat) : Int)), y7, y8, y9, y10]) (m := n - 1) (by
    intro i hi ρ ⟨y7, y8, y9, y10, hρ⟩
    subst hρ
    refine ⟨?_, ?_⟩
    · rcases hn' with rfl | rfl | ⟨m, rfl, hm⟩
      · simp [apTest, noE]
      · have : ((i : Int) + 1) < n := by omega
        simp [apTest, noE, this]
      · have : ((i : Int) + 1) < m := by omega
        simp [apTest, noE, this]
    · have hb := ap_body (runK q a) (runK q b) d0 (noE at') q.s (rM q a b) (i + 1) (rO q a (i + 1)) (by
        by_cases z : q.s = 0
        · rw [if_neg (by omega), runK_at q a (by omega)]; unfold rO; rw [if_pos z, if_pos z]
        · have := hs z
          rw [if_pos (by omega), runK_at q a (by omega)]) y7 y8 y9 y10
      rcases hb with ⟨h1, _⟩ | ⟨_, z7, z8, z9, h1⟩
      · exact absurd ((chk_iff q a b (i + 1)).mpr h1) (hc _ (by omega) (by omega))
      · exact ⟨_, h1, z7, z8, z9, y10, rfl⟩) (n - 1) 0 (100000 - n + 1) [.val d0, .val (runK q a).e, .val (runK q b).e, .val (.int (q.s : Int)), .val (noE at'), .val (.int (rM q a b : Int)), .val (.int ((1 : Nat) : Int)), x, x, x, x] (by omega) ⟨x, x, x, x, rfl⟩
  refine ⟨y7, y8, y9, y10, ?_⟩
  rw [show n - 1 + (100000 - n + 1) = 100000 by omega] at e
  rw [e, show n - 1 + 1 = n by omega]
theorem ap_tail {q : Qn} (hq : q.ok) (hw : q.w = .run) {a b : List Rw} (ha : ∀ r ∈ a, r.ok) (hb : ∀ r ∈ b, r.ok) (la : a.length ≤ 900) (at' : Option Nat) (h1 : rE q a ≠ rE q b)
    (hn : at' = none → ∀ i, i < max 1 q.s → rO q a i = rO q b i) (hm : ∀ n, at' = some n → n ≠ 0 ∧ n < max 1 q.s ∧ rO q a n ≠ rO q b n ∧ ∀ i, i < n → rO q a i = rO q b i) :
    ∃ n, outR (apTail [.val q.e, .val (runK q a).e, .val (runK q b).e, .val (.int (q.s : Int)), .val (noE at'), .emp, .emp, .emp, .emp, .emp, .emp]) = .ok (.int ((n : Nat) : Int)) ∧ Sep q n a b ∧ n ≤ max q.s (lr q a) := by
  have e0 : rO q a 0 = rO q b 0 := by
    cases at' with
    | none => exact hn rfl 0 (by omega)
    | some n => exact (hm n rfl).2.2.2 0 (by have := (hm n rfl).1; omega)
  have hlr : q.s = 0 → lr q a = lr q b := fun z => by unfold rO at e0; simpa [z] using e0
  have top : ∀ o, outR (apTail [.val q.e, .val (runK q a).e, .val (runK q b).e, .val (.int (q.s : Int)), .val (noE at'), .emp, .emp, .emp, .emp, .emp, .emp]) = o ↔ outR (nT (sWhileN apTest apBody 100000 [.val q.e, .val (runK q a).e, .val (runK q b).e, .val (.int (q.s : Int)), .val (noE at'), .val (.int (rM q a b : Int)), .val (.int ((1 : Nat) : Int)), .emp, .emp, .emp, .emp]) (sRet (eName 4)) .mk) = o := by
    intro o
    by_cases z : q.s = 0
    · have k0 : ∀ c, dIx (runK q c).e (.int 0) = .ok (.tup [nE (lr q c)]) := fun c => by simp [RunK.e, runK, z]
      have e : ((max (lr q a) (lr q b) : Nat) : Int) = max (lr q a : Int) (lr q b : Int) := by omega
      simp [apTail, z, k0, rM, nE, e]
    · have z' : (0 : Int) < q.s := by omega
      have z2 : 0 < q.s := by omega
      simp [apTail, z, z', z2, rM]
  obtain ⟨m0, c1, c2, c3, c4⟩ := chk_ex hlr h1
  obtain ⟨m, hmm, cm, hmin⟩ := least_ex (p := fun m => m ≠ 0 ∧ Chk q a b m) m0 ⟨c1, c4⟩
  have hmin : ∀ i, i ≠ 0 → i < m → ¬ Chk q a b i := fun i h1 h2 h3 => hmin i h2 ⟨h1, h3⟩
  have ms' : q.s ≠ 0 → m < q.s := fun z => by have := c2 z; omega
  have ml : m ≤ 1000 := by have := hq.s; have := lr_len q a; omega
  by_cases hno : ∃ n, at' = some n ∧ n ≤ m
  · obtain ⟨n, rfl, hle⟩ := hno
    obtain ⟨n1, n2, n3, n4⟩ := hm n rfl
    have hs : q.s ≠ 0 := by omega
    obtain ⟨y7, y8, y9, y10, e⟩ := ap_loop (q := q) (a := a) (b := b) q.e (some n) n1 (by omega) (.inr (.inl rfl)) (fun _ => by omega) (fun i h1 h2 => hmin i h1 (by omega)) .emp
    refine ⟨n, ?_, sep_run_at hq hw hs ha hb n1 (by omega) n3 n4 (fun i h1 h2 => hmin i h1 (by omega)), by omega⟩
    rw [top, e, sWhileN_end (by simp [apTest, noE])]
    simp [noE]
  · have hlt : at' = none ∨ at' = some m ∨ ∃ n, at' = some n ∧ m < n := by
      cases at' with
      | none => exact .inl rfl
      | some n => exact .inr (.inr ⟨n, rfl, Nat.lt_of_not_le fun z => hno ⟨n, rfl, z⟩⟩)
    have heq : ∀ i, i ≤ m → rO q a i = rO q b i := by
      intro i hi
      rcases hlt with rfl | rfl | ⟨n, rfl, hn2⟩
      · by_cases z : q.s = 0
        · have := e0; unfold rO at this ⊢; simpa [z] using this
        · exact hn rfl i (by have := ms' z; omega)
      · exact absurd ⟨m, rfl, Nat.le_refl _⟩ hno
      · exact (hm n rfl).2.2.2 i (by omega)
    obtain ⟨y7, y8, y9, y10, e⟩ := ap_loop (q := q) (a := a) (b := b) q.e at' cm.1 ml hlt (fun z => by have := ms' z; omega) hmin .emp
    refine ⟨m, ?_, sep_run_chk hq hw cm.1 (fun z => by have := ms' z; omega) heq hmin cm.2, by omega⟩
    have hb := ap_body (runK q a) (runK q b) q.e (noE at') q.s (rM q a b) m (rO q a m) (by
        by_cases z : q.s = 0
        · rw [if_neg (by omega), runK_at q a (by omega)]; unfold rO; rw [if_pos z, if_pos z]
        · have := ms' z
          rw [if_pos (by omega), runK_at q a (by omega)]) y7 y8 y9 y10
    rcases hb with ⟨_, h2⟩ | ⟨h2, _⟩
    · rw [top, e, sWhileN_rt ?_ h2]
      · simp
      · rcases hlt with rfl | rfl | ⟨n, rfl, hn2⟩
        · simp [apTest, noE]
        · exact absurd ⟨m, rfl, Nat.le_refl _⟩ hno
        · have : (m : Int) < n := by omega
          simp [apTest, noE, this]
    · obtain ⟨j, h3, h4⟩ := (chk_iff q a b m).mp cm.2
      exact absurd h4 (h2 j h3)
theorem m_run_apart {q : Qn} (hq : q.ok) (hw : q.w = .run) {a b : List Rw} (ha : ∀ r ∈ a, r.ok) (hb : ∀ r ∈ b, r.ok) (la : a.length ≤ 900) (hn : runK q a ≠ runK q b) : ∃ n, d_run_apart [q.e, (runK q a).e, (runK q b).e] = .ok (.int ((n : Nat) : Int)) ∧ Sep q n a b ∧ n ≤ max 6 a.length := by
  have h6 := hq.s
  have hlr := lr_len q a
  have hl : ((runK q a).l.map nE).length = ((runK q b).l.map nE).length := by rw [runK_l, runK_l]; simp
  obtain ⟨o, h1, h2⟩ := m_first_unlike hl (fun x hx => by obtain ⟨y, _, rfl⟩ := List.mem_map.mp hx; simp [nE, D.sim, D.dep]) (fun x hx => by obtain ⟨y, _, rfl⟩ := List.mem_map.mp hx; simp [nE, D.sim])
  have gd : ∀ c i, i < max 1 q.s → ((runK q c).l.map nE).getD i .non = nE (rO q c i) := fun c i hi => by
    rw [List.getD_eq_getElem?_getD, List.getElem?_map, runK_at q c hi]; rfl
  have ln : ∀ c, ((runK q c).l.map nE).length = max 1 q.s := fun c => by rw [runK_l]; simp
  have k0 : ∀ c, dIx (runK q c).e (.int 0) = .ok (.tup ((runK q c).l.map nE)) := fun c => by simp [RunK.e]
  have sl : ∀ c, dSl (runK q c).e (some 1) none = .ok (.tup [.str (keyS (rE q c).1), .int ((rE q c).2 : Int)]) := fun c => by rw [← runK_r]; simp [RunK.e]
  have eq : dEq (.tup [.str (keyS (rE q a).1), .int ((rE q a).2 : Int)]) (.tup [.str (keyS (rE q b).1), .int ((rE q b).2 : Int)]) = .ok (.bl (decide (rE q a = rE q b))) := by
    refine dEq_sim (by simp [D.sim, D.simL]) (by simp [D.sim, D.simL]) (by simp [D.dep, D.depL]) ?_
    simp [keyS_inj]
    constructor
    · rintro ⟨h1, h2⟩; exact Prod.ext h1 (by omega)
    · intro h; rw [h]; exact ⟨rfl, rfl⟩
  have f1 : o = none → ∀ i, i < max 1 q.s → rO q a i = rO q b i := by
    rintro rfl i hi
    have h1 : (runK q a).l.map nE = (runK q b).l.map nE := h1
    have := gd a i hi
    rw [h1, gd b i hi, nE_inj] at this
    exact this.symm
  have f2 : ∀ n, o = some n → n < max 1 q.s ∧ rO q a n ≠ rO q b n ∧ ∀ i, i < n → rO q a i = rO q b i := by
    rintro n rfl
    obtain ⟨h3, h4, h5⟩ := h1
    rw [ln] at h3
    rw [gd _ _ h3, gd _ _ h3, Ne, nE_inj] at h4
    refine ⟨h3, h4, fun i hi => ?_⟩
    have := h5 i hi
    rw [gd _ _ (by omega), gd _ _ (by omega), nE_inj] at this
    exact this
  rw [run_apart_eq]
  by_cases hr : rE q a = rE q b
  · rw [decide_eq_true hr] at eq
    cases o with
    | none =>
      exfalso
      apply hn
      have h1 : (runK q a).l.map nE = (runK q b).l.map nE := h1
      have e1 : (runK q a).l = (runK q b).l := (List.map_inj_right (fun x y h => nE_inj.mp h)).mp h1
      have e2 : (runK q a).r = (runK q b).r := by rw [runK_r, runK_r, hr]
      cases ha' : runK q a; cases hb' : runK q b
      rw [ha', hb'] at e1 e2
      simp only at e1 e2
      rw [e1, e2]
    | some n =>
      obtain ⟨h3, h4, h5⟩ := f2 n rfl
      refine ⟨n, ?_, ?_, by omega⟩
      · simp [k0, h2, sl, eq, noE]
      · by_cases hz : n = 0
        · subst hz; exact sep_run0 hw h4
        · refine sep_run_at hq hw (by omega) ha hb hz (by omega) h4 h5 ?_
          rintro i _ _ ⟨k, _, hk⟩
          apply hk
          rw [hr]
  · by_cases hz : o = some 0
    · subst hz
      obtain ⟨h3, h4, h5⟩ := f2 0 rfl
      refine ⟨0, ?_, sep_run0 hw h4, by omega⟩
      simp [k0, h2, sl, eq, hr, noE]
    · obtain ⟨n, t1, t2, t3⟩ := ap_tail hq hw ha hb la o hr f1 (fun n hn => ⟨fun z => hz (by rw [hn, z]), f2 n hn⟩)
      refine ⟨n, ?_, t2, by omega⟩
      have z0 : dEq (noE o) (.int 0) = .ok (.bl false) := by
        cases o with
        | none => rfl
        | some m =>
          have : m ≠ 0 := fun z => hz (by rw [z])
          simp [noE, this]
      simp only [runD_3, List.replicate_succ, List.replicate_zero, sSeq_ap, sSet_ap, eBin_ap, eName_ap, eC_ap, List.getElem?_cons_succ, List.getElem?_cons_zero, slE_val, bT_ok, q_ix4, rT_ok, nT_nx, List.set_cons_succ, List.set_cons_zero, eCall_ap, aCons_ap, aNil_ap, k0, h2, sIf_ap, tOrD_ap, tOf_ap, eSl_ap, oSome_ap, oNone_ap, dInt_int, sl, eq, decide_eq_false hr, dBl_bl, Bool.false_eq_true, if_false, z0, tT_ok, sNil_ap]
      exact t1
end JK

/-! MirF4 -/
set_option Elab.async false
set_option linter.all false
set_option maxRecDepth 100000
set_option autoImplicit false
namespace JK
open PySem PySem.Spec PyProof.Rows L2
theorem sep_lt {q : Qn} (hs : q.s ≠ 0) {n : Nat} {a b : List Rw} (h : Sep q n a b) : n < q.s := by
  obtain ⟨x, h1, _, h2⟩ := h.ex
  refine Nat.lt_of_not_le fun z => h2 ?_
  unfold ans Qn.win
  rw [if_neg hs, if_neg hs, lastN_append _ _ (by omega), lastN_append _ _ (by omega)]
theorem Sep.uniq {q : Qn} {n m : Nat} {a b : List Rw} (h : Sep q n a b) (h' : Sep q m a b) : n = m := by
  obtain ⟨x, h1, _, h2⟩ := h.ex
  obtain ⟨y, h3, _, h4⟩ := h'.ex
  rcases Nat.lt_trichotomy n m with z | z | z
  · exact absurd (h'.no x (by omega)) h2
  · exact z
  · exact absurd (h.no y (by omega)) h4
theorem m_fewest_ne {q : Qn} (hq : q.ok) {a b : List Rw} (ha : ∀ r ∈ a, r.ok) (hb : ∀ r ∈ b, r.ok) (la : a.length ≤ 900) (hn : kpE q a ≠ kpE q b) : ∃ n, d_fewest_of [q.e, kpE q a, kpE q b] = .ok (.int ((n : Nat) : Int)) ∧ Sep q n a b ∧ n ≤ max 6 a.length := by
  have h6 := hq.s
  have e0 : dEq (kpE q a) (kpE q b) = .ok (.bl false) := by
    rw [dEq_sim (kpE_sim _ _) (kpE_sim _ _) (Nat.le_trans (kpE_dep _ _) (by omega)) (p := False) (by simpa using hn)]
    rfl
  have gat : q.w.gat = true → ∃ n, d_first_unlike [kpE q a, kpE q b] = .ok (.int ((n : Nat) : Int)) ∧ Sep q n a b ∧ n ≤ max 6 a.length := fun hg => by
    have ek : ∀ c, kpE q c = gatE (gatK q c) := fun c => by
      unfold kpE
      cases hw : q.w <;> simp [hw, Wd.gat] at hg ⊢
    rw [ek, ek] at hn
    obtain ⟨n, h1, h2⟩ := m_fu_gat hq hg ha hb hn
    refine ⟨n, by rw [ek, ek]; exact h1, h2, ?_⟩
    by_cases hs : q.s = 0
    · have hd : agg q a ≠ agg q b := fun z => hn (by unfold gatK; rw [if_pos hs, if_pos hs, z])
      have := h2.uniq (sep_gat0 hg hs hd)
      omega
    · have := sep_lt hs h2; omega
  cases hw : q.w
  case second =>
    have ek : ∀ c, kpE q c = (secK q c).e := fun c => by unfold kpE; rw [hw]
    rw [ek, ek] at hn e0 ⊢
    by_cases hs : q.s = 0
    · have es : ∀ c, (secK q c).e = prE (pr q c) := fun c => by unfold secK; rw [if_pos hs]; rfl
      rw [es, es] at hn e0 ⊢
      have i1 : ∀ c, dIx (prE (pr q c)) (.int 1) = .ok (oE (pr q c).2) := fun c => by simp [prE]
      have n1 := dNe_sim (a := oE (pr q a).2) (b := oE (pr q b).2) (p := (pr q a).2 = (pr q b).2) (oE_sim _) (oE_sim _) (by rw [oE_dep]; omega) oE_inj
      by_cases h2 : (pr q a).2 = (pr q b).2
      · refine ⟨1, ?_, sep_sec1 hq hw hs (fun z => hn (by rw [Prod.ext z h2])) h2, by omega⟩
        rw [decide_eq_true h2] at n1
        simp [d_fewest_of, e0, hw, hs, i1, n1]
      · refine ⟨0, ?_, sep_sec00 hw (by unfold Qn.win; rw [if_pos hs, if_pos hs]; exact h2), by omega⟩
        rw [decide_eq_false h2] at n1
        simp [d_fewest_of, e0, hw, hs, i1, n1]
    · obtain ⟨n, h1, h2⟩ := m_fu_sec hq hw hs ha hb hn
      refine ⟨n, ?_, h2, by have := sep_lt hs h2; omega⟩
      have hs' : (0 : Int) < q.s := by omega
      have hs2 : 0 < q.s := by omega
      have i0 : ∀ c, dIx (secK q c).e (.int 0) = .ok (oE (pr q (lastN q.s c)).2) := fun c => by unfold secK; rw [if_neg hs]; simp [SecK.e]
      have i1 : ∀ c, dIx (secK q c).e (.int 1) = .ok (.tup (W (q.s - 1) fun n => prE (pr q (lastN n c)))) := fun c => by unfold secK; rw [if_neg hs]; simp [SecK.e, W_map]
      have ad : ∀ c, dAdd (.tup [oE (pr q (lastN q.s c)).2]) (.tup (W (q.s - 1) fun n => prE (pr q (lastN n c)))) = .ok (.tup (oE (pr q (lastN q.s c)).2 :: (W (q.s - 1) fun n => prE (pr q (lastN n c))))) := fun c => by rw [dAdd_tup _ _ (by simp; omega)]; rfl
      simp [d_fewest_of, e0, hw, hs, hs', hs2, i0, i1, ad, h1]
  case kinds =>
    have ek : ∀ c, kpE q c = (kinK q c).e := fun c => by unfold kpE; rw [hw]
    rw [ek, ek] at hn e0 ⊢
    by_cases hs : q.s = 0
    · have es : ∀ c, (kinK q c).e = mkE (ms q c) := fun c => by unfold kinK; rw [if_pos hs]; rfl
      rw [es, es] at hn e0 ⊢
      have i1 : ∀ c, dLen [mkE (ms q c)] = .ok (.int ((ms q c).card : Int)) := fun c => by unfold mkE; exact dLen_txt _
      by_cases h2 : (ms q a).card = (ms q b).card
      · refine ⟨1, ?_, sep_kin1 hq hw hs (fun z => hn (by rw [z])) h2, by omega⟩
        simp [d_fewest_of, e0, hw, hs, i1, h2]
      · refine ⟨0, ?_, sep_kin00 hw (by unfold Qn.win; rw [if_pos hs, if_pos hs]; exact h2), by omega⟩
        have h2' : ¬ ((ms q a).card : Int) = ((ms q b).card : Int) := by omega
        simp [d_fewest_of, e0, hw, hs, i1, h2, h2']
    · obtain ⟨n, h1, h2⟩ := m_fu_kin hq hw hs ha hb hn
      refine ⟨n, ?_, h2, by have := sep_lt hs h2; omega⟩
      have hs' : (0 : Int) < q.s := by omega
      have hs2 : 0 < q.s := by omega
      have i0 : ∀ c, dIx (kinK q c).e (.int 0) = .ok (nE (ms q (lastN q.s c)).card) := fun c => by unfold kinK; rw [if_neg hs]; simp [KinK.e, nE]
      have i1 : ∀ c, dIx (kinK q c).e (.int 1) = .ok (.tup (W (q.s - 1) fun n => mkE (ms q (lastN n c)))) := fun c => by unfold kinK; rw [if_neg hs]; simp [KinK.e, W_map]
      have ad : ∀ c, dAdd (.tup [nE (ms q (lastN q.s c)).card]) (.tup (W (q.s - 1) fun n => mkE (ms q (lastN n c)))) = .ok (.tup (nE (ms q (lastN q.s c)).card :: (W (q.s - 1) fun n => mkE (ms q (lastN n c))))) := fun c => by rw [dAdd_tup _ _ (by simp; omega)]; rfl
      simp [d_fewest_of, e0, hw, hs, hs', hs2, i0, i1, ad, h1]
  case run =>
    have ek : ∀ c, kpE q c = (runK q c).e := fun c => by unfold kpE; rw [hw]
    rw [ek, ek] at hn e0 ⊢
    obtain ⟨n, h1, h2, h3⟩ := m_run_apart hq hw ha hb la (fun z => hn (by rw [z]))
    refine ⟨n, ?_, h2, h3⟩
    simp [d_fewest_of, e0, hw, h1]
  all_goals
    obtain ⟨n, h1, h2, h3⟩ := gat (by rw [hw]; rfl)
    refine ⟨n, ?_, h2, h3⟩
    simp [d_fewest_of, e0, hw, h1]
open Classical in
noncomputable def fewQ (q : Qn) (a b : List Rw) : Option Nat := if h : ∃ n, Sep q n a b then some (choose h) else none
theorem fewQ_some {q : Qn} {a b : List Rw} {n : Nat} (h : Sep q n a b) : fewQ q a b = some n := by
  unfold fewQ
  have hx : ∃ n, Sep q n a b := ⟨n, h⟩
  rw [dif_pos hx]
  congr 1
  exact (Classical.choose_spec hx).uniq h
theorem fewQ_none {q : Qn} (hq : q.ok) {a b : List Rw} (h : kpE q a = kpE q b) : fewQ q a b = none := by
  unfold fewQ
  rw [dif_neg]
  rintro ⟨n, hn⟩
  obtain ⟨x, _, _, h2⟩ := hn.ex
  exact h2 (kp_ans (kp_more hq h x))
theorem m_fewest_of {q : Qn} (hq : q.ok) {a b : List Rw} (ha : ∀ r ∈ a, r.ok) (hb : ∀ r ∈ b, r.ok) (la : a.length ≤ 900) : d_fewest_of [q.e, kpE q a, kpE q b] = .ok (noE (fewQ q a b)) := by
  by_cases hn : kpE q a = kpE q b
  · rw [fewQ_none hq hn, hn, m_fewest_of_eq]; rfl
  · obtain ⟨n, h1, h2, _⟩ := m_fewest_ne hq ha hb la hn
    rw [fewQ_some h2, h1]; rfl
theorem fewQ_iff {q : Qn} (hq : q.ok) {a b : List Rw} (ha : ∀ r ∈ a, r.ok) (hb : ∀ r ∈ b, r.ok) (la : a.length ≤ 900) : fewQ q a b = none ↔ kpE q a = kpE q b := by
  constructor
  · intro h
    by_cases hn : kpE q a = kpE q b
    · exact hn
    · obtain ⟨n, h1, h2, _⟩ := m_fewest_ne hq ha hb la hn
      rw [fewQ_some h2] at h; cases h
  · exact fewQ_none hq
theorem fewQ_sep {q : Qn} {a b : List Rw} {n : Nat} (h : fewQ q a b = some n) : Sep q n a b := by
  unfold fewQ at h
  split at h
  · rename_i hx
    injection h with h
    rw [← h]; exact Classical.choose_spec hx
  · cases h
theorem fewQ_le {q : Qn} (hq : q.ok) {a b : List Rw} (ha : ∀ r ∈ a, r.ok) (hb : ∀ r ∈ b, r.ok) (la : a.length ≤ 900) {n : Nat} (h : fewQ q a b = some n) : n ≤ max 6 a.length := by
  have hn : kpE q a ≠ kpE q b := fun z => by rw [fewQ_none hq z] at h; cases h
  obtain ⟨m, h1, h2, h3⟩ := m_fewest_ne hq ha hb la hn
  rw [fewQ_some h2] at h
  injection h with h; omega
open Classical in
noncomputable def fewP (qs : List Qn) (a b : List Rw) : Option Nat := if h : ∃ n, SepP qs n a b then some (choose h) else none
theorem fewP_some {q : List Qn} {a b : List Rw} {n : Nat} (h : SepP q n a b) : fewP q a b = some n := by
  unfold fewP
  have hx : ∃ n, SepP q n a b := ⟨n, h⟩
  rw [dif_pos hx]
  congr 1
  exact (Classical.choose_spec hx).uniq h
theorem fewP_sep {q : List Qn} {a b : List Rw} {n : Nat} (h : fewP q a b = some n) : SepP q n a b := by
  unfold fewP at h
  split at h
  · rename_i hx
    injection h with h
    rw [← h]; exact Classical.choose_spec hx
  · cases h
theorem fewP_none {qs : List Qn} (hq : ∀ q ∈ qs, q.ok) {a b : List Rw} (h : Alk qs a b) : fewP qs a b = none := by
  unfold fewP
  rw [dif_neg]
  rintro ⟨n, hn⟩
  obtain ⟨x, _, _, q, hqs, h2⟩ := hn.ex
  exact h2 (kp_ans (kp_more (hq q hqs) (alk_iff.mp h q hqs) x))
theorem minL_spec : ∀ (l : List Nat), l ≠ [] → ∃ m, m ∈ l ∧ (∀ x ∈ l, m ≤ x) ∧ minL (l.map fun n : Nat => (n : Int)) = some ((m : Nat) : Int) := by
  intro l hl
  cases l with
  | nil => exact absurd rfl hl
  | cons x l =>
    have : ∀ (l : List Nat) (x : Nat), ∃ m, (m = x ∨ m ∈ l) ∧ m ≤ x ∧ (∀ y ∈ l, m ≤ y) ∧ (l.map fun n : Nat => (n : Int)).foldl (fun a b => min a b) (x : Int) = (m : Int) := by
      intro l
      induction l with
      | nil => intro x; exact ⟨x, .inl rfl, Nat.le_refl _, by simp, rfl⟩
      | cons y l ih =>
        intro x
        obtain ⟨m, h1, h2, h3, h4⟩ := ih (min x y)
        refine ⟨m, ?_, by omega, ?_, ?_⟩
        · rcases h1 with h1 | h1
          · rw [h1]
            by_cases z : x ≤ y
            · left; omega
            · right; simp; left; omega
          · right; simp [h1]
        · intro z hz
          rcases List.mem_cons.mp hz with rfl | hz
          · omega
          · exact h3 z hz
        · simp only [List.map_cons, List.foldl_cons]
          rw [show min (x : Int) (y : Int) = ((min x y : Nat) : Int) by omega]
          exact h4
    obtain ⟨m, h1, h2, h3, h4⟩ := this l x
    refine ⟨m, by simp; exact h1, ?_, ?_⟩
    · intro y hy
      rcases List.mem_cons.mp hy with rfl | hy
      · exact h2
      · exact h3 y hy
    · rw [List.map_cons]
      show some _ = some _
      rw [← h4]
theorem intsOf_nats (l : List Nat) : intsOf (l.map nE) = some (l.map fun n : Nat => (n : Int)) := by
  induction l with
  | nil => rfl
  | cons x l ih => simp only [List.map_cons, nE] at *; simp only [intsOf, ih, Option.map_some]
theorem dMinL_nat (l : List Nat) (hl : l ≠ []) : ∃ m, m ∈ l ∧ (∀ x ∈ l, m ≤ x) ∧ dMinL [.lst (l.map nE)] = .ok (.int ((m : Nat) : Int)) := by
  obtain ⟨m, h1, h2, h3⟩ := minL_spec l hl
  refine ⟨m, h1, h2, ?_⟩
  show (match (intsOf (l.map nE)).bind minL with | some n => R.ok (D.int n) | none => R.no) = _
  rw [intsOf_nats, Option.bind_some, h3]
theorem filt_map (a b : List Rw) : ∀ (qs : List Qn), (qs.filter fun q => (fewQ q a b).isSome).map (fun q => noE (fewQ q a b)) = (qs.filterMap fun q => fewQ q a b).map nE
  | [] => rfl
  | q :: qs => by
    have ih := filt_map a b qs
    cases hf : fewQ q a b with
    | none => simp [hf, ih]
    | some n =>
      rw [List.filter_cons_of_pos (by simp [hf]), List.map_cons, ih, List.filterMap_cons_some (f := fun q => fewQ q a b) hf, List.map_cons, hf]
      rfl
theorem m_fewest_by {qs : List Qn} (hq : ∀ q ∈ qs, q.ok) {a b : List Rw} (ha : ∀ r ∈ a, r.ok) (hb : ∀ r ∈ b, r.ok) (la : a.length ≤ 900) :
    d_fewest_by [ePlan qs, keepE qs a, keepE qs b] = .ok (noE (fewP qs a b)) ∧ (fewP qs a b = none ↔ Alk qs a b) ∧ (∀ n, fewP qs a b = some n → n ≤ max 6 a.length) ∧ ((qs.filterMap fun q => fewQ q a b) ≠ [] → ∃ m, m ∈ (qs.filterMap fun q => fewQ q a b) ∧ (∀ x ∈ (qs.filterMap fun q => fewQ q a b), m ≤ x) ∧ fewP qs a b = some m) := by
  have c1 : ∀ s3 s7, cLoop (gT (gsCons (gN 4) (gsCons (gN 5) (gsCons (gN 6) gsNil)))) tYesD (eCall d_fewest_of (aCons (eName 4) (aCons (eName 5) (aCons (eName 6) aNil)))) [.val (ePlan qs), .val (keepE qs a), .val (keepE qs b), s3, .emp, .emp, .emp, s7] (qs.map fun q => .tup [q.e, kpE q a, kpE q b]) = .ok (qs.map fun q => noE (fewQ q a b)) := by
    intro s3 s7
    refine cLoop_all fun q hqs => ⟨_, rfl, ?_⟩
    simp [m_fewest_of (hq q hqs) ha hb la]
  have c2 : ∀ s4 s5 s6, cLoop (gN 7) (tOf (eBin dIsNot (eName 7) (eC .non))) (eName 7) [.val (ePlan qs), .val (keepE qs a), .val (keepE qs b), .val (.lst (qs.map fun q => noE (fewQ q a b))), s4, s5, s6, .emp] (qs.map fun q => noE (fewQ q a b)) = .ok ((qs.filterMap fun q => fewQ q a b).map nE) := by
    intro s4 s5 s6
    rw [cLoop_map (p := fun q => (fewQ q a b).isSome) (o := fun q => noE (fewQ q a b))]
    · rw [filt_map]
    · intro q hqs
      refine ⟨_, rfl, ?_, fun _ => by simp⟩
      cases hf : fewQ q a b with
      | none => simp [noE]
      | some n => simp [noE]
  have z : dZip3 [ePlan qs, keepE qs a, keepE qs b] = .ok (qs.map fun q => .tup [q.e, kpE q a, kpE q b]) := by
    simp [dZip3, srcs, ePlan, keepE, zip3_map]
  have mem : ∀ n, n ∈ (qs.filterMap fun q => fewQ q a b) ↔ ∃ q ∈ qs, fewQ q a b = some n := fun n => by rw [List.mem_filterMap]
  by_cases hnil : (qs.filterMap fun q => fewQ q a b) = []
  · have hA : Alk qs a b := by
      rw [alk_iff]
      intro q hqs
      rw [← fewQ_iff (hq q hqs) ha hb la]
      cases hf : fewQ q a b with
      | none => rfl
      | some n =>
        have := (mem n).mpr ⟨q, hqs, hf⟩
        rw [hnil] at this
        cases this
    have hN := fewP_none hq hA
    refine ⟨?_, ⟨fun _ => hA, fun _ => hN⟩, (fun n hn => by rw [hN] at hn; cases hn), fun h => absurd hnil h⟩
    have e1 := c1 .emp .emp
    have e2 := c2 .emp .emp .emp
    rw [hnil] at e2
    rw [hN]
    simp [d_fewest_by, z, e1, e2]
    rfl
  · obtain ⟨m, h1, h2, h3⟩ := dMinL_nat _ hnil
    obtain ⟨q, hqs, hf⟩ := (mem m).mp h1
    have hS : SepP qs m a b := by
      have s := fewQ_sep hf
      obtain ⟨x, x1, x2, x3⟩ := s.ex
      refine ⟨⟨x, x1, x2, q, hqs, x3⟩, fun y hy p hp => ?_⟩
      cases hfp : fewQ p a b with
      | none => exact kp_ans (kp_more (hq p hp) ((fewQ_iff (hq p hp) ha hb la).mp hfp) y)
      | some n => exact (fewQ_sep hfp).no y (by have := h2 n ((mem n).mpr ⟨p, hp, hfp⟩); omega)
    have hP := fewP_some hS
    refine ⟨?_, ⟨(fun h => by rw [hP] at h; cases h), fun h => fewP_none hq h⟩, fun n hn => ?_, fun _ => ⟨m, h1, h2, hP⟩⟩
    · have e1 := c1 .emp .emp
      have e2 := c2 .emp .emp .emp
      have ne : ((qs.filterMap fun q => fewQ q a b).map nE).isEmpty = false := by simpa using hnil
      rw [hP]
      simp only [d_fewest_by, runD_3, List.replicate_succ, List.replicate_zero, sSeq_ap, sSet_ap, eLst_ap, aComp_ap, aRng_ap, aCons_ap, aNil_ap, eName_ap, List.getElem?_cons_succ, List.getElem?_cons_zero, slE_val, bT_ok, z, wipeE_cons, wipeE_nil, List.set_cons_succ, List.set_cons_zero, e1, rT_ok, nT_nx, aItems_ap, dItems_lst, e2, sRet_ap, eIf_ap, tTru_ap, dTru_lst, ne, Bool.not_false, if_true, eCall_ap, h3, outR_rt]
      rfl
    · rw [hP] at hn
      injection hn with hn
      subst hn
      exact fewQ_le (hq q hqs) ha hb la hf
theorem m_fewest {qs : List Qn} (h : GoodP qs) {a b : List Rw} (ha : Good a) (hb : Good b) : d_fewest [ePlan qs, eRows a, eRows b] = .ok (noE (fewP qs a b)) := by
  have := (m_fewest_by h.1 ha.1 hb.1 (Nat.le_trans ha.2 (by decide))).1
  simp [d_fewest, m_look_two h ha, m_look_stream hb.1 hb.2, m_kept_of h.1, this]
theorem fewP_iff {qs : List Qn} (h : GoodP qs) {a b : List Rw} (ha : Good a) (hb : Good b) : fewP qs a b = none ↔ Alk qs a b := (m_fewest_by h.1 ha.1 hb.1 (Nat.le_trans ha.2 (by decide))).2.1
end JK

/-! MirF5 -/
set_option Elab.async false
set_option linter.all false
set_option maxRecDepth 100000
set_option autoImplicit false
namespace JK
open PySem PySem.Spec PyProof.Rows L2
theorem sLoop_find {α : Type} {g : Gx} {F : Sx} {f : α → D} {p : α → Bool} {z : α → D} (Inv : Env → Prop) : ∀ (xs : List α) (ρ : Env), Inv ρ → (∀ x ∈ xs, ∀ ρ, Inv ρ → ∃ ρ1, g (f x) ρ = .ok ρ1 ∧ (p x = true → F ρ1 = .rt (z x)) ∧ (p x = false → ∃ ρ2, F ρ1 = .nx ρ2 ∧ Inv ρ2)) → (∀ x, xs.find? p = some x → sLoop g F (xs.map f) ρ = .rt (z x)) ∧ (xs.find? p = none → ∃ ρ', sLoop g F (xs.map f) ρ = .nx ρ' ∧ Inv ρ')
  | [], ρ, hi, _ => ⟨by simp, fun _ => ⟨ρ, rfl, hi⟩⟩
  | x :: xs, ρ, hi, h => by
    obtain ⟨ρ1, h1, h2, h3⟩ := h x (by simp) ρ hi
    cases hp : p x with
    | true =>
      refine ⟨fun y hy => ?_, fun hn => ?_⟩
      · rw [List.find?_cons, hp] at hy
        injection hy with hy
        subst hy
        rw [List.map_cons, sLoop]
        simp only [h1, h2 hp]
      · rw [List.find?_cons, hp] at hn; cases hn
    | false =>
      obtain ⟨ρ2, h4, h5⟩ := h3 hp
      have ih := sLoop_find Inv xs ρ2 h5 fun y hy => h y (by simp [hy])
      rw [List.find?_cons, hp]
      refine ⟨fun y hy => ?_, fun hn => ?_⟩
      · rw [List.map_cons, sLoop]
        simp only [h1, h4]
        exact ih.1 y hy
      · obtain ⟨ρ', e1, e2⟩ := ih.2 hn
        refine ⟨ρ', ?_, e2⟩
        rw [List.map_cons, sLoop]
        simp only [h1, h4]
        exact e1
theorem dEq_noE (o : Option Nat) (n : Nat) : dEq (noE o) (.int (n : Int)) = .ok (.bl (decide (o = some n))) := by
  refine dEq_sim (oE_sim _) rfl (by unfold noE; rw [oE_dep]; omega) ?_
  cases o with
  | none => simp [noE]
  | some m => simp [noE]; omega
theorem sep_step {qs : List Qn} {a b : List Rw} {n : Nat} (h : fewP qs a b = some (n + 1)) : ∃ r : Rw, r.ok ∧ fewP qs (a ++ [r]) (b ++ [r]) = some n := by
  have s := fewP_sep h
  obtain ⟨x, h1, h2, q, hq, h3⟩ := s.ex
  cases x with
  | nil => simp at h1
  | cons r x =>
    refine ⟨r, h2 r (by simp), fewP_some ⟨⟨x, by simpa using h1, fun y hy => h2 y (by simp [hy]), q, hq, by simpa using h3⟩, fun y hy p hp => ?_⟩⟩
    have := s.no (r :: y) (by simp; omega) p hp
    simpa using this
open Classical in
noncomputable def nxt (qs : List Qn) (a b : List Rw) (n : Nat) : Rw := (allR.find? fun r => decide (fewP qs (a ++ [r]) (b ++ [r]) = some n)).getD ⟨0, 0⟩
open Classical in
theorem nxt_find {qs : List Qn} {a b : List Rw} {n : Nat} (h : fewP qs a b = some (n + 1)) : (allR.find? fun r => decide (fewP qs (a ++ [r]) (b ++ [r]) = some n)) = some (nxt qs a b n) := by
  obtain ⟨r, h1, h2⟩ := sep_step h
  unfold nxt
  cases hf : (allR.find? fun r => decide (fewP qs (a ++ [r]) (b ++ [r]) = some n)) with
  | some x => rfl
  | none =>
    rw [List.find?_eq_none] at hf
    have := hf r (allR_mem h1)
    simp [h2] at this
theorem nxt_few {qs : List Qn} {a b : List Rw} {n : Nat} (h : fewP qs a b = some (n + 1)) : fewP qs (a ++ [nxt qs a b n]) (b ++ [nxt qs a b n]) = some n ∧ (nxt qs a b n).ok := by
  have := nxt_find h
  exact ⟨by have := List.find?_some this; simpa using this, allR_ok _ (List.mem_of_find?_eq_some this)⟩
theorem m_next_row {qs : List Qn} (hq : ∀ q ∈ qs, q.ok) {a b : List Rw} (ha : ∀ r ∈ a, r.ok) (hb : ∀ r ∈ b, r.ok) (la : a.length < 900) {n : Nat} (h : fewP qs a b = some (n + 1)) :
    d_next_row [ePlan qs, keepE qs a, keepE qs b, .int (n : Int)] = .ok (.tup [(nxt qs a b n).e, keepE qs (a ++ [nxt qs a b n]), keepE qs (b ++ [nxt qs a b n])]) := by
  classical
  have l := (sLoop_find (g := gN 4) (F := (sSeq (sPar 5 6 (aCons (eCall d_behind (aCons (eName 0) (aCons (eName 1) (aCons (eName 4) aNil)))) (aCons (eCall d_behind (aCons (eName 0) (aCons (eName 2) (aCons (eName 4) aNil)))) aNil)))
    (sIf (tOf (eBin dEq (eCall d_fewest_by (aCons (eName 0) (aCons (eName 5) (aCons (eName 6) aNil)))) (eName 3))) (sRet (eTup (aCons (eName 4) (aCons (eName 5) (aCons (eName 6) aNil))))) sNil))) (f := Rw.e) (p := fun r => decide (fewP qs (a ++ [r]) (b ++ [r]) = some n)) (z := fun r => .tup [r.e, keepE qs (a ++ [r]), keepE qs (b ++ [r])])
    (fun ρ => ∃ s4 s5 s6, ρ = [.val (ePlan qs), .val (keepE qs a), .val (keepE qs b), .val (.int (n : Int)), s4, s5, s6]) allR [.val (ePlan qs), .val (keepE qs a), .val (keepE qs b), .val (.int (n : Int)), .emp, .emp, .emp] ⟨_, _, _, rfl⟩ (by
      rintro r hr ρ ⟨s4, s5, s6, rfl⟩
      have ok1 : ∀ c : List Rw, (∀ r ∈ c, r.ok) → ∀ x ∈ c ++ [r], x.ok := fun c hc x hx => by
        rcases List.mem_append.mp hx with hx | hx
        · exact hc x hx
        · simp at hx; subst hx; exact allR_ok _ hr
      have e1 := m_behind hq a r
      have e2 := m_behind hq b r
      have e3 := (m_fewest_by hq (ok1 a ha) (ok1 b hb) (by simp; omega)).1
      have e4 := dEq_noE (fewP qs (a ++ [r]) (b ++ [r])) n
      refine ⟨_, rfl, fun hp => ?_, fun hp => ⟨_, ?_, .val r.e, .val (keepE qs (a ++ [r])), .val (keepE qs (b ++ [r])), rfl⟩⟩
      · rw [show decide (fewP qs (a ++ [r]) (b ++ [r]) = some n) = true from hp] at e4
        simp [e1, e2, e3, e4]
      · rw [show decide (fewP qs (a ++ [r]) (b ++ [r]) = some n) = false from hp] at e4
        simp [e1, e2, e3, e4])).1 _ (nxt_find h)
  simp [d_next_row, m_all_rows, l]
noncomputable def gr (qs : List Qn) : Nat → List Rw → List Rw → List Rw
  | 0, _, _ => []
  | n + 1, a, b => nxt qs a b n :: gr qs n (a ++ [nxt qs a b n]) (b ++ [nxt qs a b n])
theorem gr_spec {qs : List Qn} : ∀ {n : Nat} {a b : List Rw}, fewP qs a b = some n → (gr qs n a b).length = n ∧ (∀ r ∈ gr qs n a b, r.ok) ∧ fewP qs (a ++ gr qs n a b) (b ++ gr qs n a b) = some 0
  | 0, a, b, h => by simp [gr, h]
  | n + 1, a, b, h => by
    have ⟨h1, h2⟩ := nxt_few h
    have ⟨h3, h4, h5⟩ := gr_spec h1
    refine ⟨by simp [gr, h3], ?_, ?_⟩
    · intro r hr
      rw [gr, List.mem_cons] at hr
      rcases hr with rfl | hr
      · exact h2
      · exact h4 r hr
    · rw [gr]
      simpa using h5
def apTest2 : Tx := (tOf (eBin dGt (eName 3) (eC (.int 0))))
def apStep : Sx := (sSeq (sAug (fun i j => i - j) 3 (eC (.int 1)))
    (sSeq (sAsg (eCall d_next_row (aCons (eName 0) (aCons (eName 1) (aCons (eName 2) (aCons (eName 3) aNil))))) (gT (gsCons (gN 5) (gsCons (gN 1) (gsCons (gN 2) gsNil)))))
    (sApp 4 (eName 5))))
theorem ap_while {qs : List Qn} (hq : ∀ q ∈ qs, q.ok) : ∀ (n : Nat) (a b : List Rw) (acc : List D) (s5 : Slot) (f : Nat), (∀ r ∈ a, r.ok) → (∀ r ∈ b, r.ok) → a.length + n ≤ 900 → acc.length + n ≤ 900 → n < f → fewP qs a b = some n →
    ∃ t5, sWhileN apTest2 apStep f [.val (ePlan qs), .val (keepE qs a), .val (keepE qs b), .val (.int (n : Int)), .own acc, s5, .emp, .emp] = .nx [.val (ePlan qs), .val (keepE qs (a ++ gr qs n a b)), .val (keepE qs (b ++ gr qs n a b)), .val (.int 0), .own (acc ++ (gr qs n a b).map Rw.e), t5, .emp, .emp] := by
  intro n
  induction n with
  | zero =>
    intro a b acc s5 f _ _ _ _ hf _
    refine ⟨s5, ?_⟩
    obtain ⟨g, rfl⟩ : ∃ g, f = g + 1 := ⟨f - 1, by omega⟩
    rw [sWhileN_end (by simp [apTest2])]
    simp [gr]
  | succ n ih =>
    intro a b acc s5 f ha hb la lc hf h
    obtain ⟨g, rfl⟩ : ∃ g, f = g + 1 := ⟨f - 1, by omega⟩
    have ⟨h1, h2⟩ := nxt_few h
    have ok1 : ∀ c : List Rw, (∀ r ∈ c, r.ok) → ∀ x ∈ c ++ [nxt qs a b n], x.ok := fun c hc x hx => by
      rcases List.mem_append.mp hx with hx | hx
      · exact hc x hx
      · simp at hx; subst hx; exact h2
    obtain ⟨t5, e⟩ := ih (a ++ [nxt qs a b n]) (b ++ [nxt qs a b n]) (acc ++ [(nxt qs a b n).e]) (.val (nxt qs a b n).e) g (ok1 a ha) (ok1 b hb) (by simp; omega) (by simp; omega) (by omega) h1
    refine ⟨t5, ?_⟩
    have e1 := m_next_row hq ha hb (by omega) h
    have e2 : ((n + 1 : Nat) : Int) - 1 = (n : Int) := by omega
    have t1 : apTest2 [.val (ePlan qs), .val (keepE qs a), .val (keepE qs b), .val (.int ((n + 1 : Nat) : Int)), .own acc, s5, .emp, .emp] = .ok true := by
      have : (0 : Int) < ((n + 1 : Nat) : Int) := by omega
      simp only [apTest2, tOf_ap, eBin_ap, eName_ap, eC_ap, List.getElem?_cons_succ, List.getElem?_cons_zero, slE_val, bT_ok, dCmpI_int, decide_eq_true this, dBl_bl]
    have hll : acc.length < 1000000 := by omega
    have s1 : apStep [.val (ePlan qs), .val (keepE qs a), .val (keepE qs b), .val (.int ((n + 1 : Nat) : Int)), .own acc, s5, .emp, .emp] = .nx [.val (ePlan qs), .val (keepE qs (a ++ [nxt qs a b n])), .val (keepE qs (b ++ [nxt qs a b n])), .val (.int (n : Int)), .own (acc ++ [(nxt qs a b n).e]), .val (nxt qs a b n).e, .emp, .emp] := by
      simp only [apStep, sSeq_ap, sAug_ap, List.getElem?_cons_succ, List.getElem?_cons_zero, slAug_ok, eC_ap, rT_ok, augI_ok, e2, List.set_cons_succ, List.set_cons_zero, nT_nx, sAsg_ap, eCall_ap, aCons_ap, aNil_ap, eName_ap, slE_val, bT_ok, e1, gT_tup, gsCons_ap, gN_ap, gsNil_ap, gTh_ok, sApp_ap, slApp_own, if_pos hll]
    rw [sWhileN]
    simp only [t1, tThen, if_true, s1]
    rw [e]
    simp [gr]
/-- question i answers unlike -/
def UnA (qs : List Qn) (a b : List Rw) (i : Nat) : Prop := ∃ q, qs[i]? = some q ∧ ans q a ≠ ans q b
noncomputable instance (qs : List Qn) (a b : List Rw) (i : Nat) : Decidable (UnA qs a b i) := Classical.propDecidable _
noncomputable def apI (qs : List Qn) (a b : List Rw) : Nat := ((List.range qs.length).find? fun i => decide (UnA qs a b i)).getD 0
theorem apI_find {qs : List Qn} {a b : List Rw} (h : fewP qs a b = some 0) : ((List.range qs.length).find? fun i => decide (UnA qs a b i)) = some (apI qs a b) := by
  unfold apI
  cases hf : ((List.range qs.length).find? fun i => decide (UnA qs a b i)) with
  | some x => rfl
  | none =>
    obtain ⟨x, h1, _, q, hq, h3⟩ := (fewP_sep h).ex
    have := List.eq_nil_of_length_eq_zero h1
    subst this
    obtain ⟨i, hi, e⟩ := List.getElem_of_mem hq
    rw [List.find?_eq_none] at hf
    have := hf i (by simpa using hi)
    exact absurd (decide_eq_true (show UnA qs a b i from ⟨q, by rw [List.getElem?_eq_getElem hi, e], by simpa using h3⟩)) this
theorem apI_spec {qs : List Qn} {a b : List Rw} (h : fewP qs a b = some 0) : apI qs a b < qs.length ∧ (∃ q, qs[apI qs a b]? = some q ∧ ans q a ≠ ans q b) ∧ ∀ j q, j < apI qs a b → qs[j]? = some q → ans q a = ans q b := by
  have := apI_find h
  rw [List.find?_range_eq_some] at this
  refine ⟨by simpa using this.2.1, (show UnA qs a b (apI qs a b) from of_decide_eq_true this.1), fun j q hj hq => ?_⟩
  have := this.2.2 j hj
  by_cases z : ans q a = ans q b
  · exact z
  · exact absurd (decide_eq_true (show UnA qs a b j from ⟨q, hq, z⟩)) (by simpa using this)
theorem m_apart_of {qs : List Qn} (hq : ∀ q ∈ qs, q.ok) {a b : List Rw} (ha : ∀ r ∈ a, r.ok) (hb : ∀ r ∈ b, r.ok) (la : a.length ≤ 400) {n : Nat} (h : fewP qs a b = some n) :
    d_apart_of [ePlan qs, keepE qs a, keepE qs b] = .ok (.tup [eRows (gr qs n a b), .int (apI qs (a ++ gr qs n a b) (b ++ gr qs n a b) : Int)]) := by
  obtain ⟨g1, g2, g3⟩ := gr_spec h
  have fb := m_fewest_by hq ha hb (by omega)
  have hn := fb.2.2.1 n h
  obtain ⟨t5, w⟩ := ap_while hq n a b [] .emp 100000 ha hb (by omega) (by simp; omega) (by omega) h
  have en : dEnum [ePlan qs] = .ok ((List.range qs.length).map fun i : Nat => .tup [.int (i : Int), (qs.map Qn.e).getD i .non]) := by
    simp [dEnum, srcs, ePlan, enum_rng]
  have l := (sLoop_find (g := gT (gsCons (gN 6) (gsCons (gN 7) gsNil))) (F := (sIf (tOf (eBin dNe (eCall d_told_by (aCons (eName 7) (aCons (eBin dIx (eName 1) (eName 6)) aNil))) (eCall d_told_by (aCons (eName 7) (aCons (eBin dIx (eName 2) (eName 6)) aNil))))) (sRel 4 (sRet (eTup (aCons (eName 4) (aCons (eName 6) aNil))))) sNil)) (f := fun i : Nat => .tup [.int (i : Int), (qs.map Qn.e).getD i .non]) (p := fun i => decide (UnA qs (a ++ gr qs n a b) (b ++ gr qs n a b) i)) (z := fun i => .tup [eRows (gr qs n a b), .int (i : Int)])
    (fun ρ => ∃ s6 s7, ρ = [.val (ePlan qs), .val (keepE qs (a ++ gr qs n a b)), .val (keepE qs (b ++ gr qs n a b)), .val (.int 0), .own ((gr qs n a b).map Rw.e), t5, s6, s7]) (List.range qs.length) [.val (ePlan qs), .val (keepE qs (a ++ gr qs n a b)), .val (keepE qs (b ++ gr qs n a b)), .val (.int 0), .own ((gr qs n a b).map Rw.e), t5, .emp, .emp] ⟨_, _, rfl⟩ (by
      rintro i hi ρ ⟨s6, s7, rfl⟩
      have hi : i < qs.length := by simpa using hi
      have q1 : qs[i]? = some qs[i] := List.getElem?_eq_getElem hi
      have qe : (qs.map Qn.e).getD i .non = qs[i].e := by rw [List.getD_eq_getElem?_getD, List.getElem?_map, q1]; rfl
      have kx : ∀ c, dIx (keepE qs c) (.int (i : Int)) = .ok (kpE qs[i] c) := fun c => dIx_tup (by rw [List.getElem?_map, q1]; rfl)
      have t1 := m_told_by qs[i] (a ++ gr qs n a b)
      have t2 := m_told_by qs[i] (b ++ gr qs n a b)
      have n3 := dNe_sim (a := oE (ans qs[i] (a ++ gr qs n a b))) (b := oE (ans qs[i] (b ++ gr qs n a b))) (p := ans qs[i] (a ++ gr qs n a b) = ans qs[i] (b ++ gr qs n a b)) (oE_sim _) (oE_sim _) (by rw [oE_dep]; omega) oE_inj
      have er : D.lst ((gr qs n a b).map Rw.e) = eRows (gr qs n a b) := rfl
      refine ⟨_, rfl, fun hp => ?_, fun hp => ⟨_, ?_, .val (.int (i : Int)), .val qs[i].e, rfl⟩⟩
      · have hp : ¬ ans qs[i] (a ++ gr qs n a b) = ans qs[i] (b ++ gr qs n a b) := by
          have := of_decide_eq_true hp
          obtain ⟨q, h1, h2⟩ := this
          rw [q1] at h1; injection h1 with h1; rw [h1]; exact h2
        rw [decide_eq_false hp] at n3
        simp only [qe, List.set_cons_succ, List.set_cons_zero, sIf_ap, tOf_ap, eBin_ap, eCall_ap, aCons_ap, aNil_ap, eName_ap, List.getElem?_cons_succ, List.getElem?_cons_zero, slE_val, bT_ok, kx, t1, t2, n3, dBl_bl, Bool.not_false, tT_ok, if_true, sRel_ap, slRel_own, sRet_ap, eTup_ap, rT_ok, er]
      · have hp : ans qs[i] (a ++ gr qs n a b) = ans qs[i] (b ++ gr qs n a b) := by
          have := of_decide_eq_false hp
          by_cases z : ans qs[i] (a ++ gr qs n a b) = ans qs[i] (b ++ gr qs n a b)
          · exact z
          · exact absurd ⟨qs[i], q1, z⟩ this
        rw [decide_eq_true hp] at n3
        simp only [qe, List.set_cons_succ, List.set_cons_zero, sIf_ap, tOf_ap, eBin_ap, eCall_ap, aCons_ap, aNil_ap, eName_ap, List.getElem?_cons_succ, List.getElem?_cons_zero, slE_val, bT_ok, kx, t1, t2, n3, dBl_bl, Bool.not_true, tT_ok, Bool.false_eq_true, if_false, sNil_ap])).1 _ (apI_find g3)
  have w' := w
  rw [List.nil_append] at w'
  have en' : ∀ t G, sWhile 100000 t G = sWhile 100000 t G := fun _ _ => rfl
  have t0 : noE (some n) = .int (n : Int) := rfl
  rw [h, t0] at fb
  have tail : d_apart_of = runD 8 3 (sSeq (sSet 3 (eCall d_fewest_by (aCons (eName 0) (aCons (eName 1) (aCons (eName 2) aNil)))))
    (sSeq (sIf (tOf (eBin dIs (eName 3) (eC .non))) (sRet (eC .non)) sNil)
    (sSeq (sOwn 4 aNil)
    (sSeq (sWhile 100000 apTest2 apStep)
    (sSeq (sFor (aRng dEnum (aCons (eName 0) aNil)) (gT (gsCons (gN 6) (gsCons (gN 7) gsNil)))
    (sIf (tOf (eBin dNe (eCall d_told_by (aCons (eName 7) (aCons (eBin dIx (eName 1) (eName 6)) aNil))) (eCall d_told_by (aCons (eName 7) (aCons (eBin dIx (eName 2) (eName 6)) aNil))))) (sRel 4 (sRet (eTup (aCons (eName 4) (aCons (eName 6) aNil))))) sNil))
    (sRet (eC .non))))))) := rfl
  rw [tail]
  simp only [runD_3, List.replicate_succ, List.replicate_zero, sSeq_ap, sSet_ap, eCall_ap, aCons_ap, aNil_ap, eName_ap, List.getElem?_cons_succ, List.getElem?_cons_zero, slE_val, bT_ok, fb.1, rT_ok, nT_nx, List.set_cons_succ, List.set_cons_zero, sIf_ap, tOf_ap, eBin_ap, eC_ap, dIs_non, isNon_int, dBl_bl, tT_ok, Bool.false_eq_true, if_false, sNil_ap, sOwn_ap, lT_ok, sWhile_ap, w', sFor_ap, aRng_ap, en, l, nT_rt, outR_rt]
theorem m_apart_of_none {qs : List Qn} (hq : ∀ q ∈ qs, q.ok) {a b : List Rw} (ha : ∀ r ∈ a, r.ok) (hb : ∀ r ∈ b, r.ok) (la : a.length ≤ 400) (h : fewP qs a b = none) : d_apart_of [ePlan qs, keepE qs a, keepE qs b] = .ok .non := by
  have fb := (m_fewest_by hq ha hb (by omega)).1
  rw [h] at fb
  have t0 : noE none = .non := rfl
  rw [t0] at fb
  simp [d_apart_of, fb]
theorem m_apart {qs : List Qn} (h : GoodP qs) {a b : List Rw} (ha : Good a) (hb : Good b) {n : Nat} (hn : fewP qs a b = some n) : d_apart [ePlan qs, eRows a, eRows b] = .ok (.tup [eRows (gr qs n a b), .int (apI qs (a ++ gr qs n a b) (b ++ gr qs n a b) : Int)]) := by
  have := m_apart_of h.1 ha.1 hb.1 (Nat.le_trans ha.2 (by decide)) hn
  simp [d_apart, m_look_two h ha, m_look_stream hb.1 hb.2, m_kept_of h.1, this]
theorem m_apart_none {qs : List Qn} (h : GoodP qs) {a b : List Rw} (ha : Good a) (hb : Good b) (hn : fewP qs a b = none) : d_apart [ePlan qs, eRows a, eRows b] = .ex ⟨"Alike", none⟩ := by
  have := m_apart_of_none h.1 ha.1 hb.1 (Nat.le_trans ha.2 (by decide)) hn
  simp [d_apart, m_look_two h ha, m_look_stream hb.1 hb.2, m_kept_of h.1, this]
end JK

/-! Mir13 -/
set_option Elab.async false
set_option linter.all false
set_option maxRecDepth 100000
set_option autoImplicit false
namespace JK
open PySem PySem.Spec PyProof.Rows L2
/-- told apart by rows -/
def ToldA (qs : List Qn) (a b x : List Rw) : Prop := ∃ q ∈ qs, ans q (a ++ x) ≠ ans q (b ++ x)
noncomputable instance (qs : List Qn) (a b x : List Rw) : Decidable (ToldA qs a b x) := Classical.propDecidable _
theorem m_told_apart (qs : List Qn) (a b x : List Rw) (ha : a.length + x.length ≤ 1000) (hb : b.length + x.length ≤ 1000) : d_law_told_apart [ePlan qs, eRows a, eRows b, eRows x] = .ok (.bl (decide (ToldA qs a b x))) := by
  have a1 := dAdd_rows a x ha
  have a2 := dAdd_rows b x hb
  have l := sLoop_stop (g := gN 4) (F := (sIf (tOf (eBin dNe (eCall d_law_answer (aCons (eName 4) (aCons (eBin dAdd (eName 1) (eName 3)) aNil))) (eCall d_law_answer (aCons (eName 4) (aCons (eBin dAdd (eName 2) (eName 3)) aNil))))) (sRet (eC (.bl true))) sNil)) (f := Qn.e) (p := fun q => decide (ans q (a ++ x) = ans q (b ++ x))) (z := .bl true)
    (fun o => [.val (ePlan qs), .val (eRows a), .val (eRows b), .val (eRows x), (o.map fun q => Slot.val (Qn.e q)).getD .emp]) qs none (by
      intro q hq o
      have n1 := m_law_answer q (a ++ x) (by simp; omega)
      have n2 := m_law_answer q (b ++ x) (by simp; omega)
      have n3 := dNe_sim (a := oE (ans q (a ++ x))) (b := oE (ans q (b ++ x))) (p := ans q (a ++ x) = ans q (b ++ x)) (oE_sim _) (oE_sim _) (by rw [oE_dep]; omega) oE_inj
      refine ⟨_, rfl, ?_⟩
      simp only [List.set_cons_succ, List.set_cons_zero, sIf_ap, tOf_ap, eBin_ap, eCall_ap, aCons_ap, aNil_ap, eName_ap, List.getElem?_cons_succ, List.getElem?_cons_zero, slE_val, bT_ok, a1, a2, n1, n2, n3, dBl_bl, tT_ok, sRet_ap, eC_ap, rT_ok, sNil_ap]
      by_cases h : ans q (a ++ x) = ans q (b ++ x)
      · simp [h]
      · simp [h])
  have i0 : dItems (ePlan qs) = .ok (qs.map Qn.e) := rfl
  have l' := l
  simp only [Option.map_none, Option.getD_none] at l'
  have e : (qs.all fun q => decide (ans q (a ++ x) = ans q (b ++ x))) = !decide (ToldA qs a b x) := by
    by_cases h : ToldA qs a b x
    · rw [decide_eq_true h, Bool.not_true, ← Bool.not_eq_true, List.all_eq_true]
      obtain ⟨q, h1, h2⟩ := h
      intro z
      exact h2 (of_decide_eq_true (z q h1))
    · rw [decide_eq_false h, Bool.not_false, List.all_eq_true]
      intro q hq
      refine decide_eq_true ?_
      by_cases z : ans q (a ++ x) = ans q (b ++ x)
      · exact z
      · exact absurd ⟨q, hq, z⟩ h
  rw [e] at l'
  by_cases h : ToldA qs a b x
  · rw [decide_eq_true h] at l' ⊢
    simp [d_law_told_apart, i0, l']
  · rw [decide_eq_false h] at l' ⊢
    simp [d_law_told_apart, i0, l']
theorem alk_told {qs : List Qn} (h : GoodP qs) {a b : List Rw} (e : Alk qs a b) (x : List Rw) : ¬ ToldA qs a b x := by
  rintro ⟨q, hq, h2⟩
  exact h2 (alk_ans (alk_more h e x) hq)
end JK

/-! Mir14 -/
set_option Elab.async false
set_option linter.all false
set_option maxRecDepth 100000
set_option autoImplicit false
namespace JK
open PySem PySem.Spec PyProof.Rows L2
/-- .. of another span -/
def Qn.at (q : Qn) (s : Nat) : Qn := ⟨q.w, q.m, q.lo, q.hi, s⟩
theorem q_cut (q : Qn) : dSl q.e none (some 4) = .ok (.tup [.str q.w.s, .str q.m.txt, .int q.lo, .int q.hi]) := by
  unfold Qn.e; rw [dSl_tup]; have := cut_to [D.str q.w.s, .str q.m.txt, .int q.lo, .int q.hi, .int q.s] 4; simp at this; rw [this]
theorem q_at (q : Qn) (s : Nat) : dAdd (.tup [.str q.w.s, .str q.m.txt, .int q.lo, .int q.hi]) (.tup [.int (s : Int)]) = .ok (q.at s).e := by
  rw [dAdd_tup _ _ (by simp)]; rfl
theorem at_ok {q : Qn} (h : q.ok) {s : Nat} (hs : s ≤ 6) : (q.at s).ok := ⟨h.key, h.lo, h.le, h.hi, hs⟩
theorem plan1 {q : Qn} (h : q.ok) : GoodP [q] := ⟨by simpa using h, by simp, by simp⟩
theorem ePlan1 (q : Qn) : ePlan [q] = .tup [q.e] := rfl
theorem sep1 {q : Qn} {n : Nat} {a b : List Rw} (h : SepP [q] n a b) : Sep q n a b := by
  obtain ⟨x, h1, h2, p, hp, h3⟩ := h.ex
  simp at hp
  subst hp
  exact ⟨⟨x, h1, h2, h3⟩, fun y hy => h.no y hy p (by simp)⟩
theorem dEq_noE2 (o o' : Option Nat) : dEq (noE o) (noE o') = .ok (.bl (decide (o = o'))) := by
  refine dEq_sim (oE_sim _) (oE_sim _) (by unfold noE; rw [oE_dep]; omega) ?_
  unfold noE
  rw [oE_inj]
  cases o <;> cases o' <;> simp <;> omega
theorem dNe_noE2 (o o' : Option Nat) : dNe (noE o) (noE o') = .ok (.bl (!decide (o = o'))) := by
  refine dNe_sim (oE_sim _) (oE_sim _) (by unfold noE; rw [oE_dep]; omega) ?_
  unfold noE
  rw [oE_inj]
  cases o <;> cases o' <;> simp <;> omega
theorem rng2 (m n : Nat) (h : n ≤ 1000000) (hm : m ≤ 1000000 := by decide) : dRng2 [.int (m : Int), .int (n : Int)] = .ok ((List.range (n - m)).map fun i => nE (m + i)) := by
  show (if _ then _ else _) = _
  rw [if_pos (by omega)]
  unfold rng nE
  rw [show ((n : Int) - (m : Int)).toNat = n - m by omega]
  simp
theorem good_app {a x : List Rw} (ha : Good a) (hx : ∀ r ∈ x, r.ok) (h : a.length + x.length ≤ 60) : Good (a ++ x) := ⟨fun r hr => (List.mem_append.mp hr).elim (ha.1 r) (hx r), by simp; exact h⟩
/-! how near streams are -/
theorem SepP.comm {qs : List Qn} {n : Nat} {a b : List Rw} (h : SepP qs n a b) : SepP qs n b a := by
  obtain ⟨x, h1, h2, q, hq, h3⟩ := h.ex
  exact ⟨⟨x, h1, h2, q, hq, fun z => h3 z.symm⟩, fun y hy p hp => (h.no y hy p hp).symm⟩
theorem fewP_comm (qs : List Qn) (a b : List Rw) : fewP qs a b = fewP qs b a := by
  cases h : fewP qs b a with
  | some n => exact fewP_some (fewP_sep h).comm
  | none =>
    cases h' : fewP qs a b with
    | none => rfl
    | some n => rw [fewP_some (fewP_sep h').comm] at h; cases h
/-- what tells apart is no fewer -/
theorem few_told {qs : List Qn} (h : GoodP qs) {a b x : List Rw} (ha : Good a) (hb : Good b) (ht : ToldA qs a b x) : ∃ m, m ≤ x.length ∧ fewP qs a b = some m := by
  cases hf : fewP qs a b with
  | none => exact absurd ht (alk_told h ((fewP_iff h ha hb).mp hf) x)
  | some m =>
    refine ⟨m, ?_, rfl⟩
    refine Nat.le_of_not_lt fun z => ?_
    obtain ⟨q, hq, h2⟩ := ht
    exact h2 ((fewP_sep hf).no x z q hq)
theorem few_le {qs : List Qn} (h : GoodP qs) {a b : List Rw} (ha : Good a) (hb : Good b) {n : Nat} (hn : fewP qs a b = some n) : n ≤ 60 := by
  have := (m_fewest_by h.1 ha.1 hb.1 (Nat.le_trans ha.2 (by decide))).2.2.1 n hn
  have := ha.2
  omega
def far (o : Option Nat) : Nat := o.getD 99
theorem far_le {qs : List Qn} (h : GoodP qs) {a b : List Rw} (ha : Good a) (hb : Good b) : far (fewP qs a b) ≤ 99 := by
  unfold far
  cases hn : fewP qs a b with
  | none => exact Nat.le_refl _
  | some n => have := few_le h ha hb hn; simp; omega
theorem far_tri {qs : List Qn} (h : GoodP qs) {a b c : List Rw} (ha : Good a) (hb : Good b) (hc : Good c) : min (far (fewP qs a b)) (far (fewP qs b c)) ≤ far (fewP qs a c) := by
  have l1 := far_le h ha hb
  cases hn : fewP qs a c with
  | none => simp [far] at *; omega
  | some n =>
    obtain ⟨x, h1, h2, q, hq, h3⟩ := (fewP_sep hn).ex
    by_cases z : ans q (a ++ x) = ans q (b ++ x)
    · obtain ⟨m, m1, m2⟩ := few_told h hb hc (x := x) ⟨q, hq, fun y => h3 (z.trans y)⟩
      rw [m2]; simp [far]; omega
    · obtain ⟨m, m1, m2⟩ := few_told h ha hb (x := x) ⟨q, hq, z⟩
      rw [m2]; simp [far]; omega
theorem row_sim (r : Rw) : r.e.sim = true ∧ r.e.dep ≤ 2 := by simp [Rw.e, D.sim, D.simL, D.dep, D.depL]
theorem rows_sim (a : List Rw) : (eRows a).sim = true ∧ (eRows a).dep ≤ 10 := by
  refine ⟨?_, ?_⟩
  · simp [eRows, D.sim, simL_iff]; exact fun r _ => (row_sim r).1
  · have := depL_le (n := 2) (a.map Rw.e) (by simp; exact fun r _ => (row_sim r).2)
    simp only [eRows, D.dep]; omega
end JK

/-! MirV -/
set_option Elab.async false
set_option linter.all false
set_option maxRecDepth 100000
set_option autoImplicit false
/-! sets of rows in order; rows compared -/
namespace JK
open PySem PySem.Spec PyProof.Rows L2
@[simp] theorem eSortRows_ap (a : Ex) (ρ : Env) : eSortRows a ρ = bT (a ρ) dSortRows .mk := rfl
def Rw.rt (r : Rw) : Rt := (kS r.k, r.n)
theorem rt_inj {r s : Rw} (h : r.rt = s.rt) : r = s := by
  cases r with
  | mk k n =>
    cases s with
    | mk j m =>
      simp only [Rw.rt, Prod.mk.injEq] at h
      rw [show k = j by simpa [kS_inj] using h.1, h.2]
theorem rtOf_rows : ∀ fs : List Rw, rtOf (fs.map Rw.e) = some (fs.map Rw.rt)
  | [] => rfl
  | r :: fs => by
    rw [List.map_cons, List.map_cons]
    show (rtOf (fs.map Rw.e)).map _ = _
    rw [rtOf_rows fs]
    rfl
/-- sorted(set(rows)): the rows, each once, rising -/
theorem m_sortRows (fs : List Rw) (h : fs.length ≤ 18) : ∃ gs : List Rw, (∀ r, r ∈ gs ↔ r ∈ fs) ∧ gs.Nodup ∧ gs.length ≤ fs.length ∧ (gs.map Rw.rt).Pairwise (fun a b => leR a b = true) ∧ dSortRows (eRows fs) = .ok (eRows gs) := by
  obtain ⟨nd, mem⟩ := onceR (fs.map Rw.rt)
  have pm := sortR_perm (onces (fs.map Rw.rt))
  have hx : ∀ x ∈ sortR (onces (fs.map Rw.rt)), ∃ r : Rw, r ∈ fs ∧ r.rt = x := fun x hx => by
    have := (mem x).mp (pm.mem_iff.mp hx)
    simpa using this
  have ex : ∀ ys : List Rt, (∀ x ∈ ys, ∃ r : Rw, r ∈ fs ∧ r.rt = x) → ∃ gs : List Rw, gs.map Rw.rt = ys := by
    intro ys
    induction ys with
    | nil => exact fun _ => ⟨[], rfl⟩
    | cons y ys ih =>
      intro hy
      obtain ⟨r, _, hr⟩ := hy y (by simp)
      obtain ⟨gs, hg⟩ := ih fun x hx => hy x (by simp [hx])
      exact ⟨r :: gs, by rw [List.map_cons, hr, hg]⟩
  obtain ⟨gs, hg⟩ := ex _ hx
  refine ⟨gs, fun r => ?_, ?_, ?_, ?_, ?_⟩
  · have : r.rt ∈ gs.map Rw.rt ↔ r.rt ∈ fs.map Rw.rt := by rw [hg, pm.mem_iff, mem]
    constructor
    · intro hr
      obtain ⟨s, hs, e⟩ := List.mem_map.mp (this.mp (List.mem_map.mpr ⟨r, hr, rfl⟩))
      rw [← rt_inj e]; exact hs
    · intro hr
      obtain ⟨s, hs, e⟩ := List.mem_map.mp (this.mpr (List.mem_map.mpr ⟨r, hr, rfl⟩))
      rw [← rt_inj e]; exact hs
  · have : (gs.map Rw.rt).Nodup := by rw [hg]; exact pm.nodup_iff.mpr nd
    rw [List.nodup_iff_pairwise_ne, List.pairwise_map] at this
    rw [List.nodup_iff_pairwise_ne]
    exact this.imp fun h e => h (by rw [e])
  · have e1 := congrArg List.length hg
    rw [List.length_map, pm.length_eq] at e1
    have := onces_le (fs.map Rw.rt)
    rw [List.length_map] at this
    omega
  · rw [hg]; exact sortR_le _
  · show dSortRows (.lst (fs.map Rw.e)) = _
    unfold dSortRows
    simp only [rtOf_rows]
    rw [if_pos (by rw [List.length_map]; exact h), ← hg]
    unfold eRows
    rw [List.map_map]
    rfl
theorem m_few6 {l : List Nat} (hl : RowOk l) {k : Int} (hk : 0 ≤ k) : ∃ fs : List Rw, fs.length = 6 ∧ (∀ r ∈ fs, r.ok) ∧ d_law_few [rowE l, .int k] = .ok (eRows fs) := by
  obtain ⟨x, _, hx⟩ := row_at hl (i := k % 60) (by omega) (by omega)
  obtain ⟨d, hd, e⟩ := lst_at (xs := allR.map Rw.e) (i := (x : Int) % 28) (by omega) (by rw [List.length_map, allR_len]; omega)
  obtain ⟨r, hr, rfl⟩ := List.mem_map.mp hd
  refine ⟨[⟨0, -3⟩, ⟨1, -3⟩, ⟨0, 3⟩, ⟨2, 0⟩, ⟨3, 3⟩, r], rfl, ?_, ?_⟩
  · intro y hy
    simp only [List.mem_cons, List.not_mem_nil, or_false] at hy
    rcases hy with rfl | rfl | rfl | rfl | rfl | rfl
    all_goals first | exact allR_ok _ hr | exact ⟨by decide, by decide⟩
  · simp [d_law_few, hx, m_law_all, eRows, e]
    simp [Rw.e, kS]
/-! order of rows -/
theorem row_alike (r s : Rw) : PySem.W.alike r.e.py s.e.py = true := rfl
theorem row_eqv {r s : Rw} (hr : r ∈ allR) (hs : s ∈ allR) : PyData.eqv r.e.py s.e.py = decide (r = s) := by
  have : ∀ r ∈ allR, ∀ s ∈ allR, PyData.eqv r.e.py s.e.py = decide (r = s) := by decide +kernel
  exact this r hr s hs
/-- the first of all rows is not above another one -/
theorem allR_rise : allR.Pairwise fun r s => PySem.W.dataLt s.e.py r.e.py = false := by decide +kernel
theorem find_le {p : Rw → Bool} {x : Rw} (h : allR.find? p = some x) {r : Rw} (hr : r ∈ allR) (hp : p r = true) : r = x ∨ PySem.W.dataLt r.e.py x.e.py = false := by
  obtain ⟨_, as, bs, e, no⟩ := List.find?_eq_some_iff_append.mp h
  have pw := allR_rise
  rw [e] at hr pw
  rcases List.mem_append.mp hr with hr | hr
  · have := no r hr
    rw [hp] at this
    cases this
  · rcases List.mem_cons.mp hr with hr | hr
    · exact .inl hr
    · have := (List.pairwise_append.mp pw).2.1
      exact .inr ((List.pairwise_cons.mp this).1 r hr)
theorem leD_two {x y r s : Rw} (hx : x ∈ allR) (hy : y ∈ allR) (hr : r ∈ allR) (hs : s ∈ allR) (h1 : r = x ∨ PySem.W.dataLt r.e.py x.e.py = false) (h2 : r = x → s = y ∨ PySem.W.dataLt s.e.py y.e.py = false) : dLeD (eRows [x, y]) (eRows [r, s]) = .ok (.bl true) := by
  unfold dLeD
  rw [if_pos ⟨⟨by simp [eRows, Rw.e, D.dep, D.depL], rfl, rfl⟩, rfl, rfl⟩]
  have e : PySem.W.dataLt (eRows [r, s]).py (eRows [x, y]).py = false := by
    show PySem.W.dataLt (.list [r.e.py, s.e.py]) (.list [x.e.py, y.e.py]) = false
    rw [PySem.W.dataLt_list, PySem.W.dataLt_cons (row_alike r x), row_eqv hr hx]
    by_cases e : r = x
    · rw [if_pos (decide_eq_true e), PySem.W.dataLt_cons (row_alike s y), row_eqv hs hy]
      by_cases e2 : s = y
      · rw [if_pos (decide_eq_true e2)]; rfl
      · rw [if_neg (by simpa using e2)]
        exact (h2 e).resolve_left e2
    · rw [if_neg (by simpa using e)]
      exact h1.resolve_left e
  rw [e]
  rfl
end JK

/-! Law_k06 -/
set_option Elab.async false
set_option linter.all false
set_option maxRecDepth 100000
set_option autoImplicit false
namespace JK
open PySem PySem.Spec PyProof.Rows L2
theorem find_same {α : Type} {p q : α → Bool} : ∀ {l : List α}, (∀ x ∈ l, p x = q x) → l.find? p = l.find? q
  | [], _ => rfl
  | x :: l, h => by
    rw [List.find?_cons, List.find?_cons, h x (by simp), find_same fun y hy => h y (by simp [hy])]
section
variable {qs : List Qn} {a b : List Rw}
theorem told_few {x : List Rw} (h : GoodP qs) (ha : Good a) (hb : Good b) (l : x.length ≤ 0) : ToldA qs a b x ↔ fewP qs a b = some 0 := by
  have e := List.eq_nil_of_length_eq_zero (Nat.le_zero.mp l)
  subst e
  constructor
  · intro t
    obtain ⟨m, hm, e⟩ := few_told h ha hb t
    have : m = 0 := by simpa using hm
    rw [e, this]
  · intro e
    obtain ⟨x, h1, _, q, hq, h3⟩ := (fewP_sep e).ex
    have := List.eq_nil_of_length_eq_zero h1
    subst this
    exact ⟨q, hq, h3⟩
/-- a single row tells apart, just if nothing more is wanted behind it -/
theorem told_one {r : Rw} (h : GoodP qs) (ha : Good (a ++ [r])) (hb : Good (b ++ [r])) : ToldA qs a b [r] ↔ fewP qs (a ++ [r]) (b ++ [r]) = some 0 := by
  rw [← told_few h ha hb (x := []) (by simp)]
  simp [ToldA]
theorem told_two {r s : Rw} : ToldA qs a b [r, s] ↔ ToldA qs (a ++ [r]) (b ++ [r]) [s] := by
  simp [ToldA]
/-- .. of two: the first of them is one behind which one is enough -/
theorem told_first {r s : Rw} (h : GoodP qs) (ha : Good (a ++ [r])) (hb : Good (b ++ [r])) (ho : r.ok) (h2 : fewP qs a b = some 2) (t : ToldA qs a b [r, s]) : fewP qs (a ++ [r]) (b ++ [r]) = some 1 := by
  obtain ⟨m, hm, e⟩ := few_told h ha hb (told_two.mp t)
  have : m ≤ 1 := by simpa using hm
  match m, this with
  | 1, _ => exact e
  | 0, _ =>
    have := (told_one h ha hb).mpr e
    obtain ⟨q, hq, h3⟩ := this
    exact absurd ((fewP_sep h2).no [r] (by simp) q hq) h3
theorem firsts_head {α β : Type} (P : α → β → Bool) (T : List β) : ∀ (S : List α) {x : α} {y : β}, S.find? (fun f => T.any (P f)) = some x → T.find? (P x) = some y → (S.flatMap fun f => (T.filter (P f)).map fun t => (f, t)).head? = some (x, y)
  | [], _, _, h, _ => by cases h
  | f :: S, x, y, h, h2 => by
    rw [List.flatMap_cons]
    rw [List.find?_cons] at h
    cases q : T.any (P f) with
    | true =>
      rw [q] at h
      injection h with h
      subst h
      rw [List.head?_append, List.head?_map, List.head?_filter, h2]
      rfl
    | false =>
      rw [q] at h
      have : T.filter (P f) = [] := by
        rw [List.filter_eq_nil_iff]
        intro t ht hp
        have : T.any (P f) = true := List.any_eq_true.mpr ⟨t, ht, hp⟩
        rw [q] at this
        cases this
      rw [this]
      exact firsts_head P T S h h2
end
/-- two rows as a list -/
def two (p : Rw × Rw) : D := eRows [p.1, p.2]
noncomputable def prs (qs : List Qn) (a b : List Rw) (S : List Rw) : List (Rw × Rw) := S.flatMap fun f => (S.filter fun t => decide (ToldA qs a b [f, t])).map fun t => (f, t)
def pairB : Sx := (sSet 10 (eBin dAdd (eName 10) (eLst (aComp (aItems (eName 9)) [12] (gN 12) (tTru (eCall d_law_told_apart (aCons (eName 2) (aCons (eName 3) (aCons (eName 4) (aCons (eLst (aCons (eName 11) (aCons (eName 12) aNil))) aNil)))))) (eLst (aCons (eName 11) (aCons (eName 12) aNil)))))))
theorem prs_len (qs : List Qn) (a b : List Rw) (S : List Rw) : ∀ T : List Rw, (T.flatMap fun f => (S.filter fun t => decide (ToldA qs a b [f, t])).map fun t => (f, t)).length ≤ T.length * S.length
  | [] => by simp
  | f :: T => by
    rw [List.flatMap_cons, List.length_append, List.length_map, List.length_cons, Nat.succ_mul]
    have := prs_len qs a b S T
    have := List.length_filter_le (fun t => decide (ToldA qs a b [f, t])) S
    omega
theorem pair_loop (qs : List Qn) {a b : List Rw} (la : a.length ≤ 50) (lb : b.length ≤ 50) (S : List Rw) (ls : S.length ≤ 30) (d0 d1 d5 d6 d8 : D) (s7 : Slot) :
    ∃ s11 s12, sLoop (gN 11) pairB (S.map Rw.e) [.val d0, .val d1, .val (ePlan qs), .val (eRows a), .val (eRows b), .val d5, .val d6, s7, .val d8, .val (eRows S), .val (.lst []), .emp, .emp, .emp] = .nx [.val d0, .val d1, .val (ePlan qs), .val (eRows a), .val (eRows b), .val d5, .val d6, s7, .val d8, .val (eRows S), .val (.lst ((prs qs a b S).map two)), s11, s12, .emp] := by
  let en : List Rw → Env := fun done => [.val d0, .val d1, .val (ePlan qs), .val (eRows a), .val (eRows b), .val d5, .val d6, s7, .val d8, .val (eRows S), .val (.lst ((done.flatMap fun f => (S.filter fun t => decide (ToldA qs a b [f, t])).map fun t => (f, t)).map two)), (done.getLast?.map fun r => Slot.val (Rw.e r)).getD .emp, .emp, .emp]
  have l := sLoop_inv (g := gN 11) (F := pairB) (f := Rw.e) en (done := []) S (by
    intro dn rs f e
    rw [List.nil_append] at e
    have ld : dn.length ≤ 30 := by
      have := congrArg List.length e
      rw [List.length_append] at this
      omega
    have pl := prs_len qs a b S dn
    have pl2 : dn.length * S.length ≤ 30 * 30 := Nat.mul_le_mul ld ls
    have i0 : dItems (eRows S) = .ok (S.map Rw.e) := rfl
    have cl := cLoop_map (g := gN 12) (t := tTru (eCall d_law_told_apart (aCons (eName 2) (aCons (eName 3) (aCons (eName 4) (aCons (eLst (aCons (eName 11) (aCons (eName 12) aNil))) aNil)))))) (el := eLst (aCons (eName 11) (aCons (eName 12) aNil))) (f := Rw.e) (p := fun t => decide (ToldA qs a b [f, t])) (o := fun t => two (f, t)) (xs := S)
      (ρ := [.val d0, .val d1, .val (ePlan qs), .val (eRows a), .val (eRows b), .val d5, .val d6, s7, .val d8, .val (eRows S), .val (.lst ((dn.flatMap fun f => (S.filter fun t => decide (ToldA qs a b [f, t])).map fun t => (f, t)).map two)), .val f.e, .emp, .emp]) (by
      intro t ht
      have e1 := m_told_apart qs a b [f, t] (by simp; omega) (by simp; omega)
      have e2 : D.lst [f.e, t.e] = eRows [f, t] := rfl
      exact ⟨_, rfl, by simp [e2, e1], fun _ => by simp [e2, two]⟩)
    have ad := dAdd_lst ((dn.flatMap fun f => (S.filter fun t => decide (ToldA qs a b [f, t])).map fun t => (f, t)).map two) ((S.filter fun t => decide (ToldA qs a b [f, t])).map fun t => two (f, t)) (by
      have := List.length_filter_le (fun t => decide (ToldA qs a b [f, t])) S
      rw [List.length_map, List.length_map]
      omega)
    refine ⟨_, rfl, ?_⟩
    have fin : ((dn ++ [f]).flatMap fun f => (S.filter fun t => decide (ToldA qs a b [f, t])).map fun t => (f, t)).map two = (dn.flatMap fun f => (S.filter fun t => decide (ToldA qs a b [f, t])).map fun t => (f, t)).map two ++ ((S.filter fun t => decide (ToldA qs a b [f, t])).map fun t => two (f, t)) := by
      rw [List.flatMap_append, List.map_append]
      congr 1
      simp
    simp only [en, fin]
    simp [pairB, i0, cl, ad])
  exact ⟨(S.getLast?.map fun r => Slot.val (Rw.e r)).getD .emp, .emp, l⟩
def tail6 : Sx := (sSeq (sSet 5 (eCall d_fewest (aCons (eName 2) (aCons (eName 3) (aCons (eName 4) aNil)))))
    (sSeq (sIf (tOf (eBin dNe (eCall d_law_told_apart (aCons (eName 2) (aCons (eName 3) (aCons (eName 4) (aCons (eLst aNil) aNil))))) (eBin dEq (eName 5) (eC (.int 0))))) (sRet (eC (.bl false))) sNil)
    (sSeq (sIf (tOf (eBin dEq (eName 5) (eC (.int 0)))) (sRet (eBin dEq (eBin dIx (eCall d_apart (aCons (eName 2) (aCons (eName 3) (aCons (eName 4) aNil)))) (eC (.int 0))) (eLst aNil))) sNil)
    (sSeq (sSet 6 (eLst (aComp (aItems (eCall d_law_all aNil)) [7] (gN 7) (tTru (eCall d_law_told_apart (aCons (eName 2) (aCons (eName 3) (aCons (eName 4) (aCons (eLst (aCons (eName 7) aNil)) aNil)))))) (eLst (aCons (eName 7) aNil)))))
    (sSeq (sIf (tOf (eBin dNe (eBin dEq (eName 5) (eC (.int 1))) (eBin dNe (eName 6) (eLst aNil)))) (sRet (eC (.bl false))) sNil)
    (sSeq (sIf (tOf (eBin dEq (eName 5) (eC (.int 1)))) (sRet (eBin dEq (eBin dIx (eCall d_apart (aCons (eName 2) (aCons (eName 3) (aCons (eName 4) aNil)))) (eC (.int 0))) (eBin dIx (eName 6) (eC (.int 0))))) sNil)
    (sSeq (sSet 8 (eAnd (eBin dEq (eName 5) (eC (.int 2))) (eBin dEq (eBin dMod (eBin dIx (eName 1) (eC (.int 1))) (eC (.int 4))) (eC (.int 0)))))
    (sSeq (sSet 9 (eIf (tTru (eName 8)) (eCall d_law_all aNil) (eSortRows (eCall d_law_few (aCons (eName 1) (aCons (eC (.int 9)) aNil))))))
    (sSeq (sSet 10 (eLst aNil))
    (sSeq (sFor (aItems (eName 9)) (gN 11)
    pairB)
    (sSeq (sIf (tOf (eBin dNe (eName 5) (eC (.int 2)))) (sRet (eBin dEq (eName 10) (eLst aNil))) sNil)
    (sSeq (sSet 13 (eBin dIx (eCall d_apart (aCons (eName 2) (aCons (eName 3) (aCons (eName 4) aNil)))) (eC (.int 0))))
    (sRet (eIf (tTru (eName 8)) (eBin dEq (eName 13) (eBin dIx (eName 10) (eC (.int 0)))) (eOr (eBin dEq (eName 10) (eLst aNil)) (eBin dLeD (eName 13) (eBin dIx (eName 10) (eC (.int 0)))))))))))))))))))
theorem law6_eq : d_law = runD 14 1 (sSeq (sSet 1 (eCall d_law_row (aCons (eName 0) (aCons (eC (.int 6)) aNil))))
    (sSeq (sSet 2 (eCall d_law_plan (aCons (eName 0) (aCons (eC (.int 3)) aNil))))
    (sSeq (sSet 3 (eCall d_law_stream (aCons (eName 0) (aCons (eC (.int 2)) aNil))))
    (sSeq (sSet 4 (eCall d_law_other (aCons (eName 0) (aCons (eC (.int 4)) (aCons (eName 3) aNil)))))
    (sSeq (sIf (tOf (eBin dGt (eBin dMod (eBin dIx (eName 1) (eC (.int 0))) (eC (.int 3))) (eC (.int 0)))) (sAsg (eCall d_law_twins (aCons (eName 1) (aCons (eName 3) aNil))) (gT (gsCons (gN 3) (gsCons (gN 4) gsNil)))) sNil)
    tail6))))) := rfl
theorem dEq_same {d : D} (h : d.sim = true) (hd : d.dep ≤ 60) : dEq d d = .ok (.bl true) := by
  rw [dEq_sim (p := True) h h hd (by simp)]; simp
theorem dEq_emp {xs : List (Rw × Rw)} : dEq (.lst (xs.map two)) (.lst []) = .ok (.bl xs.isEmpty) := by
  rw [dEq_sim (p := xs = []) ?_ rfl ?_ (by simp)]
  · cases xs <;> simp
  · simp only [D.sim, simL_iff, List.mem_map]
    rintro _ ⟨p, _, rfl⟩
    exact (rows_sim _).1
  · have := depL_le (n := 10) (xs.map two) (by simp only [List.mem_map]; rintro _ ⟨p, _, rfl⟩; exact (rows_sim _).2)
    simp only [D.dep]; omega
theorem dNe_emp1 {xs : List Rw} : dNe (.lst (xs.map fun r => eRows [r])) (.lst []) = .ok (.bl !xs.isEmpty) := by
  rw [dNe_sim (p := xs = []) ?_ rfl ?_ (by simp)]
  · cases xs <;> simp
  · simp only [D.sim, simL_iff, List.mem_map]
    rintro _ ⟨p, _, rfl⟩
    exact (rows_sim _).1
  · have := depL_le (n := 10) (xs.map fun r => eRows [r]) (by simp only [List.mem_map]; rintro _ ⟨p, _, rfl⟩; exact (rows_sim _).2)
    simp only [D.dep]; omega
theorem dNe_bb (x y : Bool) : dNe (.bl x) (.bl y) = .ok (.bl (x != y)) := by cases x <;> cases y <;> rfl
theorem tail_true {l : List Nat} (hl : RowOk l) {qs : List Qn} (h : GoodP qs) {a b : List Rw} (ha : Good a) (hb : Good b) (la : a.length ≤ 50) (lb : b.length ≤ 50) (d0 : D) :
    outR (tail6 [.val d0, .val (rowE l), .val (ePlan qs), .val (eRows a), .val (eRows b), .emp, .emp, .emp, .emp, .emp, .emp, .emp, .emp, .emp]) = .ok (.bl true) := by
  have okA : ∀ r ∈ allR, Good (a ++ [r]) := fun r hr => good_app ha (by simpa using allR_ok r hr) (by simp; omega)
  have okB : ∀ r ∈ allR, Good (b ++ [r]) := fun r hr => good_app hb (by simpa using allR_ok r hr) (by simp; omega)
  have f := m_fewest h ha hb
  have t0 : d_law_told_apart [ePlan qs, eRows a, eRows b, .lst []] = _ := m_told_apart qs a b [] (by simp; omega) (by simp; omega)
  have T0 : decide (ToldA qs a b []) = decide (fewP qs a b = some 0) := decide_eq_decide.mpr (told_few h ha hb (by simp))
  have q0 : dEq (noE (fewP qs a b)) (.int 0) = _ := dEq_noE (fewP qs a b) 0
  have q1 : dEq (noE (fewP qs a b)) (.int 1) = _ := dEq_noE (fewP qs a b) 1
  have q2 : dEq (noE (fewP qs a b)) (.int 2) = _ := dEq_noE (fewP qs a b) 2
  have n2 : dNe (noE (fewP qs a b)) (.int 2) = _ := dNe_noE2 (fewP qs a b) (some 2)
  have n0 := dNe_bb (decide (ToldA qs a b [])) (decide (fewP qs a b = some 0))
  rw [T0] at n0 t0
  simp only [bne_self_eq_false] at n0
  have i0 : dItems (eRows allR) = .ok (allR.map Rw.e) := rfl
  by_cases c0 : fewP qs a b = some 0
  · have e := m_apart h ha hb c0
    have g : gr qs 0 a b = [] := rfl
    rw [g] at e
    have dd : dEq (eRows []) (.lst []) = .ok (.bl true) := rfl
    rw [decide_eq_true c0] at q0 t0 n0
    simp [tail6, f, t0, q0, n0, e]
    exact dd
  · rw [decide_eq_false c0] at q0 t0 n0
    have cl := cLoop_map (g := gN 7) (t := tTru (eCall d_law_told_apart (aCons (eName 2) (aCons (eName 3) (aCons (eName 4) (aCons (eLst (aCons (eName 7) aNil)) aNil)))))) (el := eLst (aCons (eName 7) aNil)) (f := Rw.e) (p := fun t => decide (ToldA qs a b [t])) (o := fun t => eRows [t]) (xs := allR)
      (ρ := [.val d0, .val (rowE l), .val (ePlan qs), .val (eRows a), .val (eRows b), .val (noE (fewP qs a b)), .emp, .emp, .emp, .emp, .emp, .emp, .emp, .emp]) (by
      intro t ht
      have e1 := m_told_apart qs a b [t] (by simp; omega) (by simp; omega)
      have e2 : D.lst [t.e] = eRows [t] := rfl
      exact ⟨_, rfl, by simp [e2, e1], fun _ => by simp [e2]⟩)
    have ne := dNe_emp1 (xs := allR.filter fun t => decide (ToldA qs a b [t]))
    have one : (!(allR.filter fun t => decide (ToldA qs a b [t])).isEmpty) = decide (fewP qs a b = some 1) := by
      by_cases c1 : fewP qs a b = some 1
      · rw [decide_eq_true c1]
        obtain ⟨x, h1, h2, q, hq, h3⟩ := (fewP_sep c1).ex
        match x, h1 with
        | [r], _ =>
          cases z : allR.filter fun t => decide (ToldA qs a b [t]) with
          | cons y ys => rfl
          | nil =>
            rw [List.filter_eq_nil_iff] at z
            have := z r (allR_mem (h2 r (by simp)))
            exact absurd (decide_eq_true (show ToldA qs a b [r] from ⟨q, hq, h3⟩)) this
      · rw [decide_eq_false c1]
        have : (allR.filter fun t => decide (ToldA qs a b [t])) = [] := by
          rw [List.filter_eq_nil_iff]
          intro r hr ht
          obtain ⟨m, hm, e⟩ := few_told h ha hb (of_decide_eq_true ht)
          have : m ≤ 1 := by simpa using hm
          match m, this with
          | 0, _ => exact c0 e
          | 1, _ => exact c1 e
        rw [this]; rfl
    rw [one] at ne
    have nb := dNe_bb (decide (fewP qs a b = some 1)) (decide (fewP qs a b = some 1))
    rw [bne_self_eq_false] at nb
    by_cases c1 : fewP qs a b = some 1
    · have e := m_apart h ha hb c1
      have g : gr qs 1 a b = [nxt qs a b 0] := rfl
      rw [g] at e
      have fd := nxt_find (qs := qs) (a := a) (b := b) (n := 0) c1
      have hd : (allR.filter fun t => decide (ToldA qs a b [t])).head? = some (nxt qs a b 0) := by
        rw [List.head?_filter, ← fd]
        refine find_same ?_
        intro r hr
        exact decide_eq_decide.mpr (told_one h (okA r hr) (okB r hr))
      have hx : dIx (.lst ((allR.filter fun t => decide (ToldA qs a b [t])).map fun t => eRows [t])) (.int 0) = .ok (eRows [nxt qs a b 0]) := dIx_lst (n := 0) (by rw [List.getElem?_map, ← List.head?_eq_getElem?, hd]; rfl)
      have dd := dEq_same (rows_sim [nxt qs a b 0]).1 (Nat.le_trans (rows_sim [nxt qs a b 0]).2 (by decide))
      rw [decide_eq_true c1] at q1 ne nb
      generalize hS : ((allR.filter fun t => decide (ToldA qs a b [t])).map fun t => eRows [t]) = SS at cl ne hx
      simp [tail6, f, t0, q0, n0, m_law_all, i0, cl]
      simp [ne, q1, nb, e, hx, dd]
    · rw [decide_eq_false c1] at q1 ne nb
      obtain ⟨y, _, hy⟩ := row_at hl (i := 1) (by omega) (by omega)
      obtain ⟨fs, fl, fo, fe⟩ := m_few6 hl (k := 9) (by omega)
      obtain ⟨gs, gm, _, gl, _, ge⟩ := m_sortRows fs (by omega)
      have d4 := dMod_int (y : Int) 4 (by decide)
      have go : ∀ r ∈ gs, r ∈ allR := fun r hr => allR_mem (fo r ((gm r).mp hr))
      generalize hS : ((allR.filter fun t => decide (ToldA qs a b [t])).map fun t => eRows [t]) = SS at cl ne
      by_cases c2 : fewP qs a b = some 2
      · have e := m_apart h ha hb c2
        have g : gr qs 2 a b = [nxt qs a b 1, nxt qs (a ++ [nxt qs a b 1]) (b ++ [nxt qs a b 1]) 0] := rfl
        have fd := nxt_find (qs := qs) (a := a) (b := b) (n := 1) c2
        obtain ⟨f1, k1⟩ := nxt_few c2
        have fd2 := nxt_find f1
        obtain ⟨f2, k2⟩ := nxt_few f1
        rw [g] at e
        generalize nxt qs a b 1 = x1 at *
        generalize nxt qs (a ++ [x1]) (b ++ [x1]) 0 = x2 at *
        have m1 := allR_mem k1
        have m2 := allR_mem k2
        have gx := okA x1 m1
        have gy := okB x1 m1
        have P1 : ∀ r ∈ allR, (allR.any fun t => decide (ToldA qs a b [r, t])) = decide (fewP qs (a ++ [r]) (b ++ [r]) = some 1) := by
          intro r hr
          by_cases z : fewP qs (a ++ [r]) (b ++ [r]) = some 1
          · rw [decide_eq_true z, List.any_eq_true]
            obtain ⟨x, e1, e2, q, hq, e3⟩ := (fewP_sep z).ex
            match x, e1 with
            | [t], _ => exact ⟨t, allR_mem (e2 t (by simp)), decide_eq_true (told_two.mpr ⟨q, hq, e3⟩)⟩
          · rw [decide_eq_false z, Bool.eq_false_iff]
            intro w
            obtain ⟨t, _, ht⟩ := List.any_eq_true.mp w
            exact z (told_first h (okA r hr) (okB r hr) (allR_ok r hr) c2 (of_decide_eq_true ht))
        have P2 : ∀ t ∈ allR, decide (ToldA qs a b [x1, t]) = decide (fewP qs (a ++ [x1] ++ [t]) (b ++ [x1] ++ [t]) = some 0) := by
          intro t ht
          refine decide_eq_decide.mpr (told_two.trans (told_one h ?_ ?_))
          · exact good_app gx (by simpa using allR_ok t ht) (by simp; omega)
          · exact good_app gy (by simpa using allR_ok t ht) (by simp; omega)
        have F1 : allR.find? (fun r => allR.any fun t => decide (ToldA qs a b [r, t])) = some x1 := by
          rw [← fd]; exact find_same P1
        have F2 : allR.find? (fun t => decide (ToldA qs a b [x1, t])) = some x2 := by
          rw [← fd2]; exact find_same P2
        have dd := dEq_same (rows_sim [x1, x2]).1 (Nat.le_trans (rows_sim [x1, x2]).2 (by decide))
        rw [decide_eq_true c2] at q2
        rw [decide_eq_true c2] at n2
        by_cases c4 : (y : Int) % 4 = 0
        · obtain ⟨s11, s12, lp⟩ := pair_loop qs la lb allR (by rw [allR_len]; omega) d0 (rowE l) (noE (fewP qs a b)) (.lst SS) (.bl true) .emp
          have hd : (prs qs a b allR).head? = some (x1, x2) := firsts_head (fun f t => decide (ToldA qs a b [f, t])) allR allR F1 F2
          have hx : dIx (.lst ((prs qs a b allR).map two)) (.int 0) = .ok (eRows [x1, x2]) := dIx_lst (n := 0) (by rw [List.getElem?_map, ← List.head?_eq_getElem?, hd]; rfl)
          generalize (prs qs a b allR).map two = PP at lp hx
          simp [tail6, f, t0, q0, n0, m_law_all, i0, cl, ne, q1, nb, q2, hy, d4, c4, lp, n2, e, hx, dd]
        · obtain ⟨s11, s12, lp⟩ := pair_loop qs la lb gs (by omega) d0 (rowE l) (noE (fewP qs a b)) (.lst SS) (.bl false) .emp
          have i1 : dItems (eRows gs) = .ok (gs.map Rw.e) := rfl
          have em := dEq_emp (xs := prs qs a b gs)
          have le : prs qs a b gs ≠ [] → ∃ p, (prs qs a b gs).head? = some p ∧ dLeD (eRows [x1, x2]) (two p) = .ok (.bl true) := by
            intro hne
            obtain ⟨p, ps, hp⟩ := List.exists_cons_of_ne_nil hne
            refine ⟨p, by rw [hp]; rfl, ?_⟩
            have pm : p ∈ prs qs a b gs := by rw [hp]; simp
            obtain ⟨r, hr, hq⟩ := List.mem_flatMap.mp pm
            obtain ⟨s, hs, rfl⟩ := List.mem_map.mp hq
            obtain ⟨hs1, hs2⟩ := List.mem_filter.mp hs
            have hT := of_decide_eq_true hs2
            have hr := go r hr
            have hs1 := go s hs1
            refine leD_two m1 m2 hr hs1 (find_le F1 hr ?_) fun e => ?_
            · rw [P1 r hr, decide_eq_true (told_first h (okA r hr) (okB r hr) (allR_ok r hr) c2 hT)]
            · subst e
              exact find_le F2 hs1 hs2
          generalize prs qs a b gs = PP at lp em le
          have qq : ((y : Int) % 4 == 0) = false := beq_false_of_ne c4
          cases PP with
          | nil =>
            simp at em
            simp [tail6, f, t0, q0, n0, m_law_all, i0, cl, ne, q1, nb, q2, hy, d4, qq, fe, ge, i1, lp, n2, e, em]
          | cons p PP =>
            obtain ⟨p', hp', le⟩ := le (by simp)
            simp at hp'
            subst hp'
            simp at em
            simp [tail6, f, t0, q0, n0, m_law_all, i0, cl, ne, q1, nb, q2, hy, d4, qq, fe, ge, i1, lp, n2, e, em, le]
      · rw [decide_eq_false c2] at q2 n2
        obtain ⟨s11, s12, lp⟩ := pair_loop qs la lb gs (by omega) d0 (rowE l) (noE (fewP qs a b)) (.lst SS) (.bl false) .emp
        have i1 : dItems (eRows gs) = .ok (gs.map Rw.e) := rfl
        have em := dEq_emp (xs := prs qs a b gs)
        have hp : prs qs a b gs = [] := by
          cases hp : prs qs a b gs with
          | nil => rfl
          | cons p ps =>
            have pm : p ∈ prs qs a b gs := by rw [hp]; simp
            obtain ⟨r, hr, hq⟩ := List.mem_flatMap.mp pm
            obtain ⟨s, hs, rfl⟩ := List.mem_map.mp hq
            obtain ⟨hs1, hs2⟩ := List.mem_filter.mp hs
            obtain ⟨m, hm, e⟩ := few_told h ha hb (of_decide_eq_true hs2)
            have : m ≤ 2 := by simpa using hm
            match m, this with
            | 0, _ => exact absurd e c0
            | 1, _ => exact absurd e c1
            | 2, _ => exact absurd e c2
        rw [hp] at lp em
        simp at em lp
        simp [tail6, f, t0, q0, n0, m_law_all, i0, cl, ne, q1, nb, q2, fe, ge, i1, lp, n2, em]
theorem law_true : ∀ ns : List Int, ns.length ≤ 63 → d_law [.scr ns] = .ok (.bl true) := by
  intro ns _
  obtain ⟨l, hl, e6⟩ := m_row ns 6
  obtain ⟨qs, gq, e3⟩ := m_plan ns 3
  obtain ⟨rs, r1, r2, e2⟩ := m_stream ns 2
  obtain ⟨os, o1, o2, e4⟩ := m_other ns 4 rs r2 (by omega)
  obtain ⟨x, _, hx⟩ := row_at hl (i := 0) (by omega) (by omega)
  obtain ⟨ta, tb, t1, t2, t3, t4, e5⟩ := m_twins hl rs r2 (by omega)
  simp at e6 e3 e2 e4
  have g1 : Good rs := ⟨r2, by omega⟩
  have g2 : Good os := ⟨o2, by omega⟩
  have g3 : Good ta := ⟨t3, by omega⟩
  have g4 : Good tb := ⟨t4, by omega⟩
  have d3 := dMod_int (x : Int) 3 (by decide)
  rw [law6_eq]
  by_cases h3 : (0 : Int) < (x : Int) % 3
  · have st := tail_true hl gq g3 g4 (by omega) (by omega) (.scr ns)
    simp [e6, e3, e2, e4, hx, d3, h3, e5, st]
  · have st := tail_true hl gq g1 g2 (by omega) (by omega) (.scr ns)
    simp [e6, e3, e2, e4, hx, d3, h3, st]
end JK

/-! End_k06 -/
set_option Elab.async false
set_option linter.all false
set_option maxRecDepth 100000
set_option autoImplicit false
set_option maxHeartbeats 0
namespace JK
open PySem PySem.Spec PyProof.Rows L2
theorem all_of {K : PySem.W.Frag} {mg : Str → Option Value} {w : World} {h : Heap} (X : K.In h) (G : h.Ns mainGlobals mg) (c : He.SaysX fa fn ts [] exB w h K) : All w K mg := by
  have d := c.t.d
  have e0 := c.more
  exact {
    b_bool := He.free_ok X G (d.fact 0 (f := .free "bool") rfl),
    b_enumerate := He.free_ok X G (d.fact 1 (f := .free "enumerate") rfl),
    b_int := He.free_ok X G (d.fact 2 (f := .free "int") rfl),
    b_isinstance := He.free_ok X G (d.fact 3 (f := .free "isinstance") rfl),
    b_len := He.free_ok X G (d.fact 4 (f := .free "len") rfl),
    b_list := He.free_ok X G (d.fact 5 (f := .free "list") rfl),
    b_max := He.free_ok X G (d.fact 6 (f := .free "max") rfl),
    b_min := He.free_ok X G (d.fact 7 (f := .free "min") rfl),
    b_range := He.free_ok X G (d.fact 8 (f := .free "range") rfl),
    b_set := He.free_ok X G (d.fact 9 (f := .free "set") rfl),
    b_sorted := He.free_ok X G (d.fact 10 (f := .free "sorted") rfl),
    b_str := He.free_ok X G (d.fact 11 (f := .free "str") rfl),
    b_sum := He.free_ok X G (d.fact 12 (f := .free "sum") rfl),
    b_tuple := He.free_ok X G (d.fact 13 (f := .free "tuple") rfl),
    b_zip := He.free_ok X G (d.fact 14 (f := .free "zip") rfl),
    c_KEYS := const_str X G (d.fact 15 (f := .str "KEYS" "abcd") rfl),
    c_MOST := const_int X G (d.fact 16 (f := .int "MOST" 3) rfl),
    c_MOST_QUESTIONS := const_int X G (d.fact 17 (f := .int "MOST_QUESTIONS" 4) rfl),
    c_MOST_ROWS := const_int X G (d.fact 18 (f := .int "MOST_ROWS" 60) rfl),
    c_MOST_SPAN := const_int X G (d.fact 19 (f := .int "MOST_SPAN" 6) rfl),
    c_WORDS := const_strs (zs := ["many", "sum", "most", "least", "last", "second", "kinds", "run"]) X G (d.fact 20 (f := .glo "WORDS") rfl) e0,
    x_Alike := exc_cls X G (d.fact 21 (f := .glo "Alike") rfl) (d.fact 22 (f := .exc "Alike") rfl),
    x_BadPlan := exc_cls X G (d.fact 23 (f := .glo "BadPlan") rfl) (d.fact 24 (f := .exc "BadPlan") rfl),
    x_BadStream := exc_cls X G (d.fact 25 (f := .glo "BadStream") rfl) (d.fact 26 (f := .exc "BadStream") rfl),
    f_is_within := fun_of K X G (d.fact 27 (f := .glo "is_within") rfl) (d.def_ 0 (d := dd_is_within) rfl),
    f_is_row := fun_of K X G (d.fact 28 (f := .glo "is_row") rfl) (d.def_ 1 (d := dd_is_row) rfl),
    f_is_stream := fun_of K X G (d.fact 29 (f := .glo "is_stream") rfl) (d.def_ 2 (d := dd_is_stream) rfl),
    f_look_stream := fun_of K X G (d.fact 30 (f := .glo "look_stream") rfl) (d.def_ 3 (d := dd_look_stream) rfl),
    f_all_rows := fun_of K X G (d.fact 31 (f := .glo "all_rows") rfl) (d.def_ 4 (d := dd_all_rows) rfl),
    f_are_keys := fun_of K X G (d.fact 32 (f := .glo "are_keys") rfl) (d.def_ 5 (d := dd_are_keys) rfl),
    f_is_question := fun_of K X G (d.fact 33 (f := .glo "is_question") rfl) (d.def_ 6 (d := dd_is_question) rfl),
    f_is_plan := fun_of K X G (d.fact 34 (f := .glo "is_plan") rfl) (d.def_ 7 (d := dd_is_plan) rfl),
    f_look_plan := fun_of K X G (d.fact 35 (f := .glo "look_plan") rfl) (d.def_ 8 (d := dd_look_plan) rfl),
    f_sees := fun_of K X G (d.fact 36 (f := .glo "sees") rfl) (d.def_ 9 (d := dd_sees) rfl),
    f_greater := fun_of K X G (d.fact 37 (f := .glo "greater") rfl) (d.def_ 10 (d := dd_greater) rfl),
    f_lesser := fun_of K X G (d.fact 38 (f := .glo "lesser") rfl) (d.def_ 11 (d := dd_lesser) rfl),
    f_part_of := fun_of K X G (d.fact 39 (f := .glo "part_of") rfl) (d.def_ 12 (d := dd_part_of) rfl),
    f_joined := fun_of K X G (d.fact 40 (f := .glo "joined") rfl) (d.def_ 13 (d := dd_joined) rfl),
    f_nothing := fun_of K X G (d.fact 41 (f := .glo "nothing") rfl) (d.def_ 14 (d := dd_nothing) rfl),
    f_start := fun_of K X G (d.fact 42 (f := .glo "start") rfl) (d.def_ 15 (d := dd_start) rfl),
    f_after := fun_of K X G (d.fact 43 (f := .glo "after") rfl) (d.def_ 16 (d := dd_after) rfl),
    f_top_two := fun_of K X G (d.fact 44 (f := .glo "top_two") rfl) (d.def_ 17 (d := dd_top_two) rfl),
    f_two_start := fun_of K X G (d.fact 45 (f := .glo "two_start") rfl) (d.def_ 18 (d := dd_two_start) rfl),
    f_two_after := fun_of K X G (d.fact 46 (f := .glo "two_after") rfl) (d.def_ 19 (d := dd_two_after) rfl),
    f_with_key := fun_of K X G (d.fact 47 (f := .glo "with_key") rfl) (d.def_ 20 (d := dd_with_key) rfl),
    f_kinds_start := fun_of K X G (d.fact 48 (f := .glo "kinds_start") rfl) (d.def_ 21 (d := dd_kinds_start) rfl),
    f_kinds_after := fun_of K X G (d.fact 49 (f := .glo "kinds_after") rfl) (d.def_ 22 (d := dd_kinds_after) rfl),
    f_run_start := fun_of K X G (d.fact 50 (f := .glo "run_start") rfl) (d.def_ 23 (d := dd_run_start) rfl),
    f_run_after := fun_of K X G (d.fact 51 (f := .glo "run_after") rfl) (d.def_ 24 (d := dd_run_after) rfl),
    f_start_of := fun_of K X G (d.fact 52 (f := .glo "start_of") rfl) (d.def_ 25 (d := dd_start_of) rfl),
    f_after_of := fun_of K X G (d.fact 53 (f := .glo "after_of") rfl) (d.def_ 26 (d := dd_after_of) rfl),
    f_told_by := fun_of K X G (d.fact 54 (f := .glo "told_by") rfl) (d.def_ 27 (d := dd_told_by) rfl),
    f_starts_of := fun_of K X G (d.fact 55 (f := .glo "starts_of") rfl) (d.def_ 28 (d := dd_starts_of) rfl),
    f_behind := fun_of K X G (d.fact 56 (f := .glo "behind") rfl) (d.def_ 29 (d := dd_behind) rfl),
    f_kept_of := fun_of K X G (d.fact 57 (f := .glo "kept_of") rfl) (d.def_ 30 (d := dd_kept_of) rfl),
    f_look_two := fun_of K X G (d.fact 58 (f := .glo "look_two") rfl) (d.def_ 31 (d := dd_look_two) rfl),
    f_first_unlike := fun_of K X G (d.fact 59 (f := .glo "first_unlike") rfl) (d.def_ 32 (d := dd_first_unlike) rfl),
    f_run_end := fun_of K X G (d.fact 60 (f := .glo "run_end") rfl) (d.def_ 33 (d := dd_run_end) rfl),
    f_run_apart := fun_of K X G (d.fact 61 (f := .glo "run_apart") rfl) (d.def_ 34 (d := dd_run_apart) rfl),
    f_fewest_of := fun_of K X G (d.fact 62 (f := .glo "fewest_of") rfl) (d.def_ 35 (d := dd_fewest_of) rfl),
    f_fewest_by := fun_of K X G (d.fact 63 (f := .glo "fewest_by") rfl) (d.def_ 36 (d := dd_fewest_by) rfl),
    f_fewest := fun_of K X G (d.fact 64 (f := .glo "fewest") rfl) (d.def_ 37 (d := dd_fewest) rfl),
    f_next_row := fun_of K X G (d.fact 65 (f := .glo "next_row") rfl) (d.def_ 38 (d := dd_next_row) rfl),
    f_apart_of := fun_of K X G (d.fact 66 (f := .glo "apart_of") rfl) (d.def_ 39 (d := dd_apart_of) rfl),
    f_apart := fun_of K X G (d.fact 67 (f := .glo "apart") rfl) (d.def_ 40 (d := dd_apart) rfl),
    f_law_cell := fun_of K X G (d.fact 68 (f := .glo "_law_cell") rfl) (d.def_ 41 (d := dd_law_cell) rfl),
    f_law_row := fun_of K X G (d.fact 69 (f := .glo "_law_row") rfl) (d.def_ 42 (d := dd_law_row) rfl),
    f_law_all := fun_of K X G (d.fact 70 (f := .glo "_law_all") rfl) (d.def_ 43 (d := dd_law_all) rfl),
    f_law_line := fun_of K X G (d.fact 71 (f := .glo "_law_line") rfl) (d.def_ 44 (d := dd_law_line) rfl),
    f_law_stream := fun_of K X G (d.fact 72 (f := .glo "_law_stream") rfl) (d.def_ 45 (d := dd_law_stream) rfl),
    f_law_other := fun_of K X G (d.fact 73 (f := .glo "_law_other") rfl) (d.def_ 46 (d := dd_law_other) rfl),
    f_law_words := fun_of K X G (d.fact 74 (f := .glo "_law_words") rfl) (d.def_ 47 (d := dd_law_words) rfl),
    f_law_question := fun_of K X G (d.fact 75 (f := .glo "_law_question") rfl) (d.def_ 48 (d := dd_law_question) rfl),
    f_law_plan := fun_of K X G (d.fact 76 (f := .glo "_law_plan") rfl) (d.def_ 49 (d := dd_law_plan) rfl),
    f_law_sees := fun_of K X G (d.fact 77 (f := .glo "_law_sees") rfl) (d.def_ 50 (d := dd_law_sees) rfl),
    f_law_answer := fun_of K X G (d.fact 78 (f := .glo "_law_answer") rfl) (d.def_ 51 (d := dd_law_answer) rfl),
    f_law_few := fun_of K X G (d.fact 79 (f := .glo "_law_few") rfl) (d.def_ 52 (d := dd_law_few) rfl),
    f_law_twins := fun_of K X G (d.fact 80 (f := .glo "_law_twins") rfl) (d.def_ 53 (d := dd_law_twins) rfl),
    f_law_told_apart := fun_of K X G (d.fact 81 (f := .glo "_law_told_apart") rfl) (d.def_ 54 (d := dd_law_told_apart) rfl),
    f_law := fun_of K X G (d.fact 82 (f := .glo "law") rfl) (d.def_ 55 (d := dd_law) rfl) }
end JK
open PySem PySem.W PySem.Calls PyProof.Rows
theorem PySem.Challenge.cw_justkept_k06_whole_no_fewer_and_no_lesse_holds : PySem.Challenge.rw_justkept_k06_whole_no_fewer_and_no_lesse.Holds := by
  w_on; o_law
  refine HandSHeadRun.head_any (r := OpenLaw.row PySem.Challenge.rw_justkept_k06_whole_no_fewer_and_no_lesse) (q := view (OpenLaw.row PySem.Challenge.rw_justkept_k06_whole_no_fewer_and_no_lesse).prog [73]) (H := JK.hk) (ob := JK.ob) (M := 20000) (loose := JK.loose) (d := HandSHeadRun.topDef (OpenLaw.row PySem.Challenge.rw_justkept_k06_whole_no_fewer_and_no_lesse).prog 73) (kwd := []) JK.ob_eq
    (by kernel_rfl) (fun s => by kernel_rfl) JK.run (by kernel_rfl) (by kernel_rfl) (by kernel_rfl) (by rfl) (by first | assumption | decide +kernel) (by decide +kernel) ⟨rfl, rfl, rfl, rfl, rfl, by decide +kernel⟩ ?hw ?hc
  case hw => w_witness2
  case hc =>
    refine LamX.walk_ofTsE (l := PySem.Challenge.rw_justkept_k06_whole_no_fewer_and_no_lesse) (n := 63) (k := 10) (x := "script") (CX := fun w => L2.CX PySem.Challenge.rw_justkept_k06_whole_no_fewer_and_no_lesse.prog w) rfl (by decide) (by kernel_rfl) ⟨rfl, by decide, by decide⟩ ?F (fun w => JK.cx_false w)
    intro w mg fa h Y G hmg0
    obtain ⟨K, KX, c⟩ := Y
    have hmg : mg ("law" : PySem.Str) = some (.ref fa) := by
      have e : (HandSHeadRun.topDef (OpenLaw.row PySem.Challenge.rw_justkept_k06_whole_no_fewer_and_no_lesse).prog 73).name = ("law" : PySem.Str) := by kernel_rfl
      rw [← e]
      exact hmg0
    have T := JK.all_of KX G c
    obtain ⟨fd, sp, h1, h2, h3⟩ := JK.law_fn (P := PySem.Challenge.rw_justkept_k06_whole_no_fewer_and_no_lesse.prog) (w := w) (n := 63) (g := JK.d_law) (st := JK.st_law) hmg T.f_law (fun _ _ _ _ _ _ us hl => match us, hl with | [_], _ => rfl) (fun base f fd Fu _ => JK.L_law T Fu) JK.law_true
    exact ⟨K, KX, fd, [], sp, by simp, by simp, by simp, h1, fun H a ns hl _ _ hS => h2 H a ns hl hS, fun base _ _ _ => h3 base⟩

