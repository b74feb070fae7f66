import PyProof.Rows.All
import Wide.All
import OpenK.AllK
import Wide.FinOn
import KE.KStateDown
import HandS.Base
import HandS.Call
import HandS.Codes
import HandS.Defaults
import HandS.DictComp
import HandS.EndTab
import HandS.Ends
import HandS.ExcOwn
import HandS.Finally
import HandS.Flow
import HandS.ForMost
import HandS.Head0
import HandS.Head1
import HandS.Head2
import HandS.HeadEnd
import HandS.HeadHook1
import HandS.HeadHook2
import HandS.HeadHook4
import HandS.IsInst
import HandS.IterVal
import HandS.Lambda
import HandS.More
import HandS.OwnEq
import HandS.SortKw
import HandS.Style
import HandS.Text
import HandS.TryElse
import HandS.TupAny
import HandS.Words
import HandS.WordsExc
import HandS.Zip
import KE.GoesEnum
import KE.GoesMore
import KE.GoesNew
import KE.GoesNewDict
import KE.KDictWalk
import KE.KEqNest
import KE.KNestM
import KE.KOwnIter
import KE.KTupSum
import KE.LtData
import KE.SortData
import KE.SortKeyHeap
import Lean
import PyProof.InstSpecial
import PySem.Challenge.RW_endsmeet_k09_whole_closings
set_option Elab.async false
set_option linter.all false
set_option maxRecDepth 100000
set_option maxHeartbeats 0
namespace Em
open PySem PySem.Spec PyProof.Rows L2
/-! ### the text by places -/
def top (i : Nat) : Stmt := PySem.Challenge.pw_endsmeet_k09_whole_closings.main.body.getD i (.Pass ⟨0, 0, 0, 0⟩)
abbrev s_is_whole : Stmt := top 12
abbrev s_is_word : Stmt := top 13
abbrev s_are_partners : Stmt := top 14
abbrev s_are_blocks : Stmt := top 15
abbrev s_Sheet_init : Stmt := inClass (top 16) 0
abbrev s_Sheet_len : Stmt := inClass (top 16) 2
abbrev s_Sheet_contains : Stmt := inClass (top 16) 3
abbrev s_Sheet_iter : Stmt := inClass (top 16) 4
abbrev s_Sheet_partner : Stmt := inClass (top 16) 7
abbrev s_Sheet_ends : Stmt := inClass (top 16) 8
abbrev s_Sheet_joints : Stmt := inClass (top 16) 10
abbrev s_check_sheet : Stmt := top 17
abbrev s_check_amounts : Stmt := top 19
abbrev s_ends_at : Stmt := top 20
abbrev s_excess_at : Stmt := top 21
abbrev s_excess_of : Stmt := top 22
abbrev s_is_balanced : Stmt := top 23
abbrev s_check_balanced : Stmt := top 24
abbrev s_column_of : Stmt := top 29
abbrev s_columns_of : Stmt := top 30
abbrev s_product_of : Stmt := top 31
abbrev s_added : Stmt := top 32
abbrev s_is_within : Stmt := top 33
abbrev s_Growing_init : Stmt := inClass (top 34) 0
abbrev s_Growing_raised : Stmt := inClass (top 34) 1
abbrev s_Growing_is_let : Stmt := inClass (top 34) 2
abbrev s_Growing_run : Stmt := inClass (top 34) 3
abbrev s_Growing_later : Stmt := inClass (top 34) 4
abbrev s_closings_of : Stmt := top 35
abbrev s_least_closings : Stmt := top 36
abbrev s_row_of : Stmt := top 37
abbrev s_always_one : Stmt := top 38
abbrev s_check_sub : Stmt := top 39
abbrev s_law_cell_at : Stmt := top 41
abbrev s_law_draw : Stmt := top 42
abbrev s_law_number : Stmt := top 43
abbrev s_law_next : Stmt := top 44
abbrev s_law_pick : Stmt := top 45
abbrev s_law_word : Stmt := top 46
abbrev s_law_vocab : Stmt := top 47
abbrev s_law_partners : Stmt := top 48
abbrev s_law_blocks : Stmt := top 49
abbrev s_law_sheet : Stmt := top 50
abbrev s_law_joints : Stmt := top 51
abbrev s_law_copies : Stmt := top 52
abbrev s_law_ends : Stmt := top 53
abbrev s_law_excess : Stmt := top 54
abbrev s_law_balanced : Stmt := top 55
abbrev s_law_amounts : Stmt := top 56
abbrev s_law_sub_amounts : Stmt := top 57
abbrev s_law_total : Stmt := top 58
abbrev s_law_is_part : Stmt := top 59
abbrev s_law_least_within : Stmt := top 60
abbrev s_law_key : Stmt := top 61
abbrev s_law_told : Stmt := top 62
abbrev s_law_is_sum : Stmt := top 63
abbrev s_law_error : Stmt := top 64
abbrev s_law : Stmt := top 65
def d_is_whole : He.DefD := ⟨("is_whole", none), "is_whole", "is_whole", defArgs s_is_whole, defBody s_is_whole, defScope s_is_whole, [], []⟩
def d_is_word : He.DefD := ⟨("is_word", none), "is_word", "is_word", defArgs s_is_word, defBody s_is_word, defScope s_is_word, [], []⟩
def d_are_partners : He.DefD := ⟨("are_partners", none), "are_partners", "are_partners", defArgs s_are_partners, defBody s_are_partners, defScope s_are_partners, [], []⟩
def d_are_blocks : He.DefD := ⟨("are_blocks", none), "are_blocks", "are_blocks", defArgs s_are_blocks, defBody s_are_blocks, defScope s_are_blocks, [], []⟩
def d_Sheet_init : He.DefD := ⟨("Sheet", some "__init__"), "__init__", "Sheet.__init__", defArgs s_Sheet_init, defBody s_Sheet_init, defScope s_Sheet_init, [], []⟩
def d_Sheet_len : He.DefD := ⟨("Sheet", some "__len__"), "__len__", "Sheet.__len__", defArgs s_Sheet_len, defBody s_Sheet_len, defScope s_Sheet_len, [], []⟩
def d_Sheet_contains : He.DefD := ⟨("Sheet", some "__contains__"), "__contains__", "Sheet.__contains__", defArgs s_Sheet_contains, defBody s_Sheet_contains, defScope s_Sheet_contains, [], []⟩
def d_Sheet_iter : He.DefD := ⟨("Sheet", some "__iter__"), "__iter__", "Sheet.__iter__", defArgs s_Sheet_iter, defBody s_Sheet_iter, defScope s_Sheet_iter, [], []⟩
def d_Sheet_partner : He.DefD := ⟨("Sheet", some "partner"), "partner", "Sheet.partner", defArgs s_Sheet_partner, defBody s_Sheet_partner, defScope s_Sheet_partner, [], []⟩
def d_Sheet_ends : He.DefD := ⟨("Sheet", some "ends"), "ends", "Sheet.ends", defArgs s_Sheet_ends, defBody s_Sheet_ends, defScope s_Sheet_ends, [], []⟩
def d_Sheet_joints : He.DefD := ⟨("Sheet", some "joints"), "joints", "Sheet.joints", defArgs s_Sheet_joints, defBody s_Sheet_joints, defScope s_Sheet_joints, [], []⟩
def d_check_sheet : He.DefD := ⟨("check_sheet", none), "check_sheet", "check_sheet", defArgs s_check_sheet, defBody s_check_sheet, defScope s_check_sheet, [], []⟩
def d_check_amounts : He.DefD := ⟨("check_amounts", none), "check_amounts", "check_amounts", defArgs s_check_amounts, defBody s_check_amounts, defScope s_check_amounts, [], []⟩
def d_ends_at : He.DefD := ⟨("ends_at", none), "ends_at", "ends_at", defArgs s_ends_at, defBody s_ends_at, defScope s_ends_at, [], []⟩
def d_excess_at : He.DefD := ⟨("excess_at", none), "excess_at", "excess_at", defArgs s_excess_at, defBody s_excess_at, defScope s_excess_at, [], []⟩
def d_excess_of : He.DefD := ⟨("excess_of", none), "excess_of", "excess_of", defArgs s_excess_of, defBody s_excess_of, defScope s_excess_of, [], []⟩
def d_is_balanced : He.DefD := ⟨("is_balanced", none), "is_balanced", "is_balanced", defArgs s_is_balanced, defBody s_is_balanced, defScope s_is_balanced, [], []⟩
def d_check_balanced : He.DefD := ⟨("check_balanced", none), "check_balanced", "check_balanced", defArgs s_check_balanced, defBody s_check_balanced, defScope s_check_balanced, [], []⟩
def d_column_of : He.DefD := ⟨("column_of", none), "column_of", "column_of", defArgs s_column_of, defBody s_column_of, defScope s_column_of, [], []⟩
def d_columns_of : He.DefD := ⟨("columns_of", none), "columns_of", "columns_of", defArgs s_columns_of, defBody s_columns_of, defScope s_columns_of, [], []⟩
def d_product_of : He.DefD := ⟨("product_of", none), "product_of", "product_of", defArgs s_product_of, defBody s_product_of, defScope s_product_of, [], []⟩
def d_added : He.DefD := ⟨("added", none), "added", "added", defArgs s_added, defBody s_added, defScope s_added, [], []⟩
def d_is_within : He.DefD := ⟨("is_within", none), "is_within", "is_within", defArgs s_is_within, defBody s_is_within, defScope s_is_within, [], []⟩
def d_Growing_init : He.DefD := ⟨("Growing", some "__init__"), "__init__", "Growing.__init__", defArgs s_Growing_init, defBody s_Growing_init, defScope s_Growing_init, [], []⟩
def d_Growing_raised : He.DefD := ⟨("Growing", some "raised"), "raised", "Growing.raised", defArgs s_Growing_raised, defBody s_Growing_raised, defScope s_Growing_raised, [], []⟩
def d_Growing_is_let : He.DefD := ⟨("Growing", some "is_let"), "is_let", "Growing.is_let", defArgs s_Growing_is_let, defBody s_Growing_is_let, defScope s_Growing_is_let, [], []⟩
def d_Growing_run : He.DefD := ⟨("Growing", some "run"), "run", "Growing.run", defArgs s_Growing_run, defBody s_Growing_run, defScope s_Growing_run, [], []⟩
def d_Growing_later : He.DefD := ⟨("Growing", some "later"), "later", "Growing.later", defArgs s_Growing_later, defBody s_Growing_later, defScope s_Growing_later, [], []⟩
def d_closings_of : He.DefD := ⟨("closings_of", none), "closings_of", "closings_of", defArgs s_closings_of, defBody s_closings_of, defScope s_closings_of, [], []⟩
def d_least_closings : He.DefD := ⟨("least_closings", none), "least_closings", "least_closings", defArgs s_least_closings, defBody s_least_closings, defScope s_least_closings, [], []⟩
def d_row_of : He.DefD := ⟨("row_of", none), "row_of", "row_of", defArgs s_row_of, defBody s_row_of, defScope s_row_of, [], []⟩
def d_always_one : He.DefD := ⟨("always_one", none), "always_one", "always_one", defArgs s_always_one, defBody s_always_one, defScope s_always_one, [], []⟩
def d_check_sub : He.DefD := ⟨("check_sub", none), "check_sub", "check_sub", defArgs s_check_sub, defBody s_check_sub, defScope s_check_sub, [], []⟩
def d_law_cell_at : He.DefD := ⟨("_law_cell_at", none), "_law_cell_at", "_law_cell_at", defArgs s_law_cell_at, defBody s_law_cell_at, defScope s_law_cell_at, [], []⟩
def d_law_draw : He.DefD := ⟨("_law_draw", none), "_law_draw", "_law_draw", defArgs s_law_draw, defBody s_law_draw, defScope s_law_draw, [], []⟩
def d_law_number : He.DefD := ⟨("_law_number", none), "_law_number", "_law_number", defArgs s_law_number, defBody s_law_number, defScope s_law_number, [], []⟩
def d_law_next : He.DefD := ⟨("_law_next", none), "_law_next", "_law_next", defArgs s_law_next, defBody s_law_next, defScope s_law_next, [], []⟩
def d_law_pick : He.DefD := ⟨("_law_pick", none), "_law_pick", "_law_pick", defArgs s_law_pick, defBody s_law_pick, defScope s_law_pick, [], []⟩
def d_law_word : He.DefD := ⟨("_law_word", none), "_law_word", "_law_word", defArgs s_law_word, defBody s_law_word, defScope s_law_word, [], []⟩
def d_law_vocab : He.DefD := ⟨("_law_vocab", none), "_law_vocab", "_law_vocab", defArgs s_law_vocab, defBody s_law_vocab, defScope s_law_vocab, [], []⟩
def d_law_partners : He.DefD := ⟨("_law_partners", none), "_law_partners", "_law_partners", defArgs s_law_partners, defBody s_law_partners, defScope s_law_partners, [], []⟩
def d_law_blocks : He.DefD := ⟨("_law_blocks", none), "_law_blocks", "_law_blocks", defArgs s_law_blocks, defBody s_law_blocks, defScope s_law_blocks, [], []⟩
def d_law_sheet : He.DefD := ⟨("_law_sheet", none), "_law_sheet", "_law_sheet", defArgs s_law_sheet, defBody s_law_sheet, defScope s_law_sheet, [], []⟩
def d_law_joints : He.DefD := ⟨("_law_joints", none), "_law_joints", "_law_joints", defArgs s_law_joints, defBody s_law_joints, defScope s_law_joints, [], []⟩
def d_law_copies : He.DefD := ⟨("_law_copies", none), "_law_copies", "_law_copies", defArgs s_law_copies, defBody s_law_copies, defScope s_law_copies, [], []⟩
def d_law_ends : He.DefD := ⟨("_law_ends", none), "_law_ends", "_law_ends", defArgs s_law_ends, defBody s_law_ends, defScope s_law_ends, [], []⟩
def d_law_excess : He.DefD := ⟨("_law_excess", none), "_law_excess", "_law_excess", defArgs s_law_excess, defBody s_law_excess, defScope s_law_excess, [], []⟩
def d_law_balanced : He.DefD := ⟨("_law_balanced", none), "_law_balanced", "_law_balanced", defArgs s_law_balanced, defBody s_law_balanced, defScope s_law_balanced, [], []⟩
def d_law_amounts : He.DefD := ⟨("_law_amounts", none), "_law_amounts", "_law_amounts", defArgs s_law_amounts, defBody s_law_amounts, defScope s_law_amounts, [], []⟩
def d_law_sub_amounts : He.DefD := ⟨("_law_sub_amounts", none), "_law_sub_amounts", "_law_sub_amounts", defArgs s_law_sub_amounts, defBody s_law_sub_amounts, defScope s_law_sub_amounts, [], []⟩
def d_law_total : He.DefD := ⟨("_law_total", none), "_law_total", "_law_total", defArgs s_law_total, defBody s_law_total, defScope s_law_total, [], []⟩
def d_law_is_part : He.DefD := ⟨("_law_is_part", none), "_law_is_part", "_law_is_part", defArgs s_law_is_part, defBody s_law_is_part, defScope s_law_is_part, [], []⟩
def d_law_least_within : He.DefD := ⟨("_law_least_within", none), "_law_least_within", "_law_least_within", defArgs s_law_least_within, defBody s_law_least_within, defScope s_law_least_within, [], []⟩
def d_law_key : He.DefD := ⟨("_law_key", none), "_law_key", "_law_key", defArgs s_law_key, defBody s_law_key, defScope s_law_key, [], []⟩
def d_law_told : He.DefD := ⟨("_law_told", none), "_law_told", "_law_told", defArgs s_law_told, defBody s_law_told, defScope s_law_told, [], []⟩
def d_law_is_sum : He.DefD := ⟨("_law_is_sum", none), "_law_is_sum", "_law_is_sum", defArgs s_law_is_sum, defBody s_law_is_sum, defScope s_law_is_sum, [], []⟩
def d_law_error : He.DefD := ⟨("_law_error", none), "_law_error", "_law_error", defArgs s_law_error, defBody s_law_error, defScope s_law_error, [], []⟩
def d_law : He.DefD := ⟨("law", none), "law", "law", defArgs s_law, defBody s_law, defScope s_law, [], []⟩
def fn : List He.DefD := [d_is_whole, d_is_word, d_are_partners, d_are_blocks, d_Sheet_init, d_Sheet_len, d_Sheet_contains, d_Sheet_iter, d_Sheet_partner, d_Sheet_ends, d_Sheet_joints, d_check_sheet, d_check_amounts, d_ends_at, d_excess_at, d_excess_of, d_is_balanced, d_check_balanced, d_column_of, d_columns_of, d_product_of, d_added, d_is_within, d_Growing_init, d_Growing_raised, d_Growing_is_let, d_Growing_run, d_Growing_later, d_closings_of, d_least_closings, d_row_of, d_always_one, d_check_sub, d_law_cell_at, d_law_draw, d_law_number, d_law_next, d_law_pick, d_law_word, d_law_vocab, d_law_partners, d_law_blocks, d_law_sheet, d_law_joints, d_law_copies, d_law_ends, d_law_excess, d_law_balanced, d_law_amounts, d_law_sub_amounts, d_law_total, d_law_is_part, d_law_least_within, d_law_key, d_law_told, d_law_is_sum, d_law_error, d_law]
def fa : List He.Fa := [
  .glo "is_whole",
  .glo "is_word",
  .glo "are_partners",
  .glo "are_blocks",
  .glo "check_sheet",
  .glo "check_amounts",
  .glo "ends_at",
  .glo "excess_at",
  .glo "excess_of",
  .glo "is_balanced",
  .glo "check_balanced",
  .glo "column_of",
  .glo "columns_of",
  .glo "product_of",
  .glo "added",
  .glo "is_within",
  .glo "closings_of",
  .glo "least_closings",
  .glo "row_of",
  .glo "always_one",
  .glo "check_sub",
  .glo "_law_cell_at",
  .glo "_law_draw",
  .glo "_law_number",
  .glo "_law_next",
  .glo "_law_pick",
  .glo "_law_word",
  .glo "_law_vocab",
  .glo "_law_partners",
  .glo "_law_blocks",
  .glo "_law_sheet",
  .glo "_law_joints",
  .glo "_law_copies",
  .glo "_law_ends",
  .glo "_law_excess",
  .glo "_law_balanced",
  .glo "_law_amounts",
  .glo "_law_sub_amounts",
  .glo "_law_total",
  .glo "_law_is_part",
  .glo "_law_least_within",
  .glo "_law_key",
  .glo "_law_told",
  .glo "_law_is_sum",
  .glo "_law_error",
  .glo "law",
  .glo "Sheet",
  .cls "Sheet",
  .mkr "Sheet",
  .keep "Sheet",
  .glo "Growing",
  .cls "Growing",
  .mkr "Growing",
  .keep "Growing",
  .noat "Sheet" "_partners",
  .noat "Sheet" "_blocks",
  .noat "Growing" "columns",
  .noat "Growing" "many",
  .noat "Growing" "top",
  .noat "Growing" "found",
  .meth "Sheet" "__len__",
  .meth "Sheet" "__contains__",
  .meth "Sheet" "__iter__",
  .meth "Sheet" "partner",
  .meth "Sheet" "ends",
  .meth "Sheet" "joints",
  .meth "Growing" "raised",
  .meth "Growing" "is_let",
  .meth "Growing" "run",
  .meth "Growing" "later",
  .glo "BadSheet",
  .exc "BadSheet",
  .glo "BadBlock",
  .exc "BadBlock",
  .glo "BadKind",
  .exc "BadKind",
  .glo "BadAmounts",
  .exc "BadAmounts",
  .glo "NotBalanced",
  .exc "NotBalanced",
  .glo "TooLarge",
  .exc "TooLarge",
  .exm "BadSheet" "BadSheet" true,
  .exm "BadSheet" "BadAmounts" false,
  .exm "BadSheet" "NotBalanced" false,
  .exm "BadAmounts" "BadSheet" false,
  .exm "BadAmounts" "BadAmounts" true,
  .exm "BadAmounts" "NotBalanced" false,
  .exm "NotBalanced" "BadSheet" false,
  .exm "NotBalanced" "BadAmounts" false,
  .exm "NotBalanced" "NotBalanced" true,
  .int "LONGEST" 8,
  .int "MOST_ENDS" 4,
  .int "MOST_BLOCKS" 6,
  .int "MOST_JOINTS" 3,
  .int "MOST_SUB" 3000,
  .str "LETTERS" "abcdefghijklmnopqrstuvwxyz",
  .free "isinstance",
  .free "int",
  .free "bool",
  .free "str",
  .free "dict",
  .free "tuple",
  .free "list",
  .free "len",
  .free "all",
  .free "any",
  .free "sum",
  .free "sorted",
  .free "min",
  .free "zip",
  .free "enumerate",
  .free "range",
  .free "iter"]
abbrev R : PySem.W.OpenRow := PySem.W.OpenLaw.row PySem.Challenge.rw_endsmeet_k09_whole_closings
def loose : List PySem.Str := (["__name__", "EndsmeetError", "BadSheet", "BadBlock", "BadKind", "BadAmounts", "NotBalanced", "TooLarge", "LETTERS", "LONGEST", "MOST_ENDS", "is_whole"] : List PySem.Str) ++ (["is_word", "are_partners", "are_blocks", "Sheet", "check_sheet", "check_amounts", "ends_at", "excess_at", "excess_of", "is_balanced", "check_balanced", "MOST_BLOCKS"] : List PySem.Str) ++ (["MOST_JOINTS", "MOST_SUB", "column_of", "columns_of", "product_of", "added", "is_within", "Growing", "closings_of", "least_closings", "row_of", "always_one"] : List PySem.Str) ++ (["check_sub", "_law_cell_at", "_law_draw", "_law_number", "_law_next", "_law_pick", "_law_word", "_law_vocab", "_law_partners", "_law_blocks", "_law_sheet", "_law_joints"] : List PySem.Str) ++ (["_law_copies", "_law_ends", "_law_excess", "_law_balanced", "_law_amounts", "_law_sub_amounts", "_law_total", "_law_is_part", "_law_least_within", "_law_key", "_law_told", "_law_is_sum"] : List PySem.Str) ++ (["_law_error"] : List PySem.Str)
end Em
set_option maxHeartbeats 0
/-! The head: what is looked at where the module has been run; the run (ahead of all else: it takes the most memory). -/
namespace Em
open PySem PySem.Spec PyProof.Rows L2
/-- the defs that make lambdas -/
abbrev tf : List He.Defn := [("closings_of", none), ("law", none)]
def seen (K : PySem.W.Frag) : Bool :=
  He.eqO (PySem.W.findIn K (.ref (He.ga K "Sheet")) "__class__") (some (some (.builtin "object.__class__"))) &&
  (He.eqO (PySem.W.specialIn K (.builtin "object.__class__") "__get__") (some (some (.builtin "getset_descriptor.__get__"))) &&
  (decide (PySem.W.takesIn K (.builtin "object.__class__") = some true) && (decide (PySem.W.mroIn K (He.ga K "Sheet") (.type "object") = some true) &&
  (decide (PySem.W.kitOne K (.type "NoneType") (.ref (He.ga K "Sheet")) = some false) && !decide ((He.cT K ("closings_of", none)).2 = (He.cT K ("law", none)).2)))))
abbrev hk : PySem.W.Hook := He.hookX 4 fa fn [] tf seen
def ob (s : PySem.W.SharedT) : He.AlX := He.obsX 4 fa fn [] tf seen (HandSHeadRun.getT s)
theorem ob_eq (s : PySem.W.SharedT) : ob s = hk.obs s.abs := He.obsX_eq (HandSHeadRun.getT_eq s)
theorem run (w : World) : HandSHeadRun.RunEq R (PySem.W.view R.prog [65]) hk ob 6000 loose w := by
  intro os
  kernel_rfl
end Em
set_option maxHeartbeats 2000000
/-! Rules that the layer lacks (1): walks of pairs over the library's GoesN. -/
namespace Em
open PySem PySem.Spec PyProof.Rows L2
/-- a walk whose turns give new pairs: dat: the tracked things that it walks stand; n turns -/
def Itp (dat : Hp → Prop) (n : Nat) (xy : Nat → V → V → Hp → Prop) : It :=
  ⟨fun i H => dat H ∧ i < n, fun i H v H' => ∃ T x y, v = .ref T ∧ H T = none ∧ H' = upd H T (.tup [x, y]) ∧ xy i x y H, fun i H => dat H ∧ i = n⟩
/-- one look at the library's walk, at a state -/
structure Look1 (P : Program) (w : World) (A : Around) (tg : Expr) (I : Addr) (fp : List Addr) (n : Nat) (rec : Nat → Heap → Prop) (xy : Nat → V → V → Hp → Prop) (H : Hp) (s : Shared) (i : Nat) : Prop where
  ex : ∃ (fq wr : List Addr) (m : Nat) (Y : Nat → Heap → Value → Heap → Prop) (St : Nat → Heap → Prop), m = n ∧ GoesN P w A tg I fq wr m Y St ∧ St i s.heap ∧ (∀ j h, St j h → rec j h) ∧ (∀ b ∈ wr, b ∈ fp) ∧
    ∀ h₀ v h, Y i h₀ v h → ∃ T a b x y, v = .ref T ∧ h₀.objs.size ≤ T ∧ h.IsTuple T #[a, b] ∧ RelV x a ∧ RelV y b ∧ xy i x y H
theorem turn_pairs {P : Program} {w : World} {K : PySem.W.Frag} {elts : List Expr} {kk : Nat} {tpos : Pos} {I : Addr} {fp : List Addr} {n : Nat} {dat : Hp → Prop} {rec : Nat → Heap → Prop} {xy : Nat → V → V → Hp → Prop}
    (hI : I ∈ fp) (hob : ∀ i h, rec i h → ∀ b ∈ fp, ∃ o, h.get? b = some o ∧ ∀ v, o.data ≠ .cell v) (hkp : ∀ i h h', rec i h → (∀ b ∈ fp, ∀ o, h.get? b = some o → h'.get? b = some o) → rec i h')
    (look : ∀ (X : Cx), X.prog = P → X.w = w → X.K = K → X.A.handled = none → ∀ (i : Nat) (pins : List (Addr × Obj)) (s : Shared) (σ : L2.St) (H : Hp), Inv X pins σ H s → rec i s.heap → dat H → Look1 P w X.A (.Tuple elts kk tpos) I fp n rec xy H s i)
    (self : ∀ (A : Around) (i : Nat) (s : Shared) (Q : Value → Shared → Prop) (E : Value → Shared → Prop), rec i s.heap → Q (.ref I) s → wpAny (model P w) A (pyIter (.ref I)) Q E s) :
    Turn P w K (.Tuple elts kk tpos) (Itp dat n xy) fp I rec where
  mem := hI
  obj := hob
  keep := hkp
  self := self
  item := by
    intro X e1 e2 e3 hc i pins s σ H E J hf hrec hgo
    obtain ⟨hd, hi⟩ := hgo
    obtain ⟨fq, wr, m, Y, St, em, G, st, back, hw, hY⟩ := (look X e1 e2 e3 (J.ok.hd hc) i pins s σ H J hrec hd).ex
    subst em
    have hfw : ∀ b ∈ wr, FpOk X pins H b := fun b hb => hf b (hw b hb)
    refine wpAny_mono (G.goes i s (fun v s2 => ∃ x H', Inv X pins σ H' s2 ∧ RelV x v ∧ (∃ T x1 y1, x = .ref T ∧ H T = none ∧ H' = upd H T (.tup [x1, y1]) ∧ xy i x1 y1 H) ∧ rec (i + 1) s2.heap ∧ ∀ b ∈ fp, H' b = none) E hi st fun v h' tk hy st' hk _ => ?_) (fun r s1 h => h) fun _ _ h => h
    obtain ⟨T, a, b, x, y, rfl, hT, htup, rx, ry, hxy⟩ := hY _ _ _ hy
    have hn : H T = none := J.hok.fresh hT
    have new : ObjOk X.prog X.w (upd H T (.tup [x, y])) h' T (.tup [x, y]) := ⟨by show 2 ≤ sizeLine; decide, [a, b], .cons rx (.cons ry .nil), htup⟩
    have J' : Inv X pins σ (upd H T (.tup [x, y])) { s with heap := h', toks := tk } := J.turnedNew (ch := wr) hk hfw hT new
    refine ⟨.ref T, _, J', rfl, ⟨T, x, y, rfl, hn, rfl, hxy⟩, back _ _ st', fun b hb => ?_⟩
    obtain ⟨o, ho, _⟩ := hob _ _ hrec b hb
    rw [upd_ne (Nat.ne_of_lt (Nat.lt_of_lt_of_le (Heap.lt_size ho) hT))]
    exact (hf b hb).1
  done := by
    intro X e1 e2 e3 hc i pins s σ H E J hf hrec hstop
    obtain ⟨hd, hi⟩ := hstop
    obtain ⟨fq, wr, m, Y, St, em, G, st, back, hw, hY⟩ := (look X e1 e2 e3 (J.ok.hd hc) i pins s σ H J hrec hd).ex
    subst em
    subst hi
    exact G.stops s (fun s1 => Inv X pins σ H s1) E st fun h' tk hk _ => J.turnedL (ch := wr) hk fun b hb => hf b (hw b hb)
/-! ### enumerate(tuple) -/
def EnT (e it a : Addr) (i : Nat) (h : Heap) : Prop := (∃ old, IsEnum h e it ((i : Nat) : Int) old) ∧ h.IsTupleIter it a i
def xyT (xs : List V) : Nat → V → V → Hp → Prop := fun i x y _ => x = .int (i : Nat) ∧ xs[i]? = some y
def itEnT (K : PySem.W.Frag) (a : Addr) (xs : List V) : It := Itp (fun H => SqT K H a xs) xs.length (xyT xs)
theorem turn_enT {P : Program} {w : World} {K : PySem.W.Frag} {elts : List Expr} {kk : Nat} {tpos : Pos} {a e it : Addr} {xs : List V} (hei : e ≠ it) (hea : e ≠ a) (hia : a ≠ it) :
    Turn P w K (.Tuple elts kk tpos) (itEnT K a xs) [e, it] e (EnT e it a) := by
  refine turn_pairs (by simp) (fun i h hr b hb => ?_) (fun i h h' hr k => ?_) (fun X e1 e2 e3 hh i pins s σ H J hr hd => ?_) fun A i s Q E hr q => ?_
  · obtain ⟨⟨old, q1⟩, o, q2, _, q3⟩ := hr
    rcases List.mem_cons.mp hb with z | z
    · rw [z]
      exact ⟨_, q1, fun v q => nomatch q⟩
    · have z' : b = it := by simpa using z
      rw [z']
      exact ⟨o, q2, fun v q => by rw [q3] at q; cases q⟩
  · obtain ⟨⟨old, q1⟩, q2⟩ := hr
    exact ⟨⟨old, k e (by simp) _ q1⟩, q2.at fun o q => k it (by simp) o q⟩
  · subst e1 e2 e3
    obtain ⟨its, rv, p, hz⟩ := J.tuple hd
    have len := rv.length
    have D := Draws.tuple (prog := X.prog) (w := X.w) (A := X.A.in1) hh it a hia its.toArray
    have G := GoesN.enumFrom (elts := elts) (x1 := kk) (pos := tpos) 0 D e hei (by simp [hei, hea]) (by simp)
    obtain ⟨⟨old, q1⟩, q2⟩ := hr
    refine ⟨_, _, _, _, _, by simpa using len.symm, G, ⟨⟨old, by rw [Int.zero_add]; exact q1⟩, q2, p⟩, fun j h st => ?_, fun b hb => by simpa using hb, fun h₀ v h hy => ?_⟩
    · obtain ⟨⟨o2, r1⟩, r2, _⟩ := st
      rw [Int.zero_add] at r1
      exact ⟨⟨o2, r1⟩, r2⟩
    · obtain ⟨T, t, u, ev, hT, hu, htup⟩ := hy
      have hi : i < its.length := by
        have : i < its.toArray.size := (Array.getElem?_eq_some_iff.mp hu).1
        simpa using this
      have hx : xs[i]? = some (xs[i]'(by omega)) := List.getElem?_eq_getElem (by omega)
      obtain ⟨u2, hu2, ru⟩ := rv.get hx
      have e : u2 = u := by
        have hu' : its[i]? = some u := by simpa using hu
        exact Option.some.inj (hu2.symm.trans hu')
      subst e
      exact ⟨T, _, _, .int i, _, ev, hT, htup, ⟨t, by rw [Int.zero_add]⟩, ru, rfl, hx⟩
  · obtain ⟨⟨old, q1⟩, _⟩ := hr
    exact wpAny_pyIter_enum q1 q
set_option maxHeartbeats 4000000 in
theorem meets_enum_begin {v : Value} {o : Obj} {B : Heap → Prop} (b : Begins v o B) :
    Meets (Builtin.«enumerate.__new__» ⟨[.type "enumerate", v], []⟩) (fun _ R s => B s.heap ∧ R (.ok (.ret (.ref (s.heap.push o).objs.size))) { s with heap := (s.heap.push o).push { cls := .type "enumerate", data := .fields #[.none, .bool false, .ref s.heap.objs.size, rawInt 0, .none, .none] } }) :=
  .of_wp fun prog w A R s h => by
    obtain ⟨hp, g, d, tk, os⟩ := s
    obtain ⟨hb, hr⟩ := h
    have hsub := sub_enumerate
    have it : ∀ {A' : Around} {E : Value → Shared → Prop} {Q : Value → Shared → Prop}, Q (.ref hp.objs.size) ⟨hp.push o, g, d, tk, os⟩ → wpAny (model prog w) A' (pyIter v) Q E ⟨hp, g, d, tk, os⟩ := fun q => b.iter prog w _ _ _ _ hb q
    wp_walk using it
    refine wpAny_stack_any fun st => wpAny_pure ?_
    split
    · rename_i c _ _ _ _ _
      cases hcc : (c == Value.type "enumerate") <;> (wp_walk using it; exact ⟨_, rfl, hr⟩)
    · wp_walk using it
      exact ⟨_, rfl, hr⟩
theorem call_enum_tuple {prog : Program} {w : World} {A : Around} {E : Value → Shared → Prop} {s : Shared} {a : Addr} {items : Array Value} {Q : Value → Shared → Prop} (ht : s.heap.IsTuple a items)
    (h : ∀ h', IsEnum h' (s.heap.objs.size + 1) s.heap.objs.size 0 .none → h'.IsTupleIter s.heap.objs.size a 0 → (∀ b o, s.heap.get? b = some o → h'.get? b = some o) → Q (.ref (s.heap.objs.size + 1)) { s with heap := h' }) :
    wpAny (model prog w) A (call (.type "enumerate") [.ref a]) Q E s := by
  refine callType_new F.called_enumerate (by decide) (F.typeCall_enumerate_1 _) (F.newCall_enumerate_1 _) (fun obj => F.args_object_init_2 obj _) F.entry_enumerate_new (meets_enum_begin (begins_tuple a items)) ⟨ht, ?_⟩
  have z : ∀ o : Obj, (s.heap.push o).objs.size = s.heap.objs.size + 1 := fun o => Heap.size_push ..
  have en : IsEnum ((s.heap.push { cls := .type "tuple_iterator", data := .fields #[.ref a, .int 0 0] }).push { cls := .type "enumerate", data := .fields #[.none, .bool false, .ref s.heap.objs.size, rawInt 0, .none, .none] }) (s.heap.objs.size + 1) s.heap.objs.size 0 .none := by
    have q := Heap.get?_push_size (s.heap.push { cls := .type "tuple_iterator", data := .fields #[.ref a, .int 0 0] }) (o := { cls := .type "enumerate", data := .fields #[.none, .bool false, .ref s.heap.objs.size, rawInt 0, .none, .none] }) rfl
    rw [z] at q
    exact q
  show _ ∧ _
  rw [z]
  exact ⟨⟨_, en, rfl⟩, h _ en ⟨_, Heap.get?_push_of_some _ (Heap.get?_push_size _ rfl), rfl, rfl⟩ fun b o x => Heap.get?_push_of_some _ (Heap.get?_push_of_some _ x)⟩
def iEnT (K : PySem.W.Frag) (ta : TA) : TI := fun σ H R => ta σ H fun vs H1 => ∃ a xs, vs = [.ref a] ∧ SqT K H1 a xs ∧ R (itEnT K a xs) H1
theorem pi_enT {X : Cx} {e : Expr} {ta : TA} {p pos tpos : Pos} {elts : List Expr} {kk : Nat} (hg : Gl X "enumerate") (hm : X.mg "enumerate" = none) (ha : PA X [e] ta) (hs : starEach [e] X.env = [(false, eval e X.env)] := by rfl) :
    PI X (.Tuple elts kk tpos) (.Call (.Name "enumerate" p) [e] [] pos) (iEnT X.K ta) := by
  refine ⟨fun pins s σ H R I h => ?_⟩
  refine Call_ (ld_blt I hg hm boot_enumerate (PyProof.Rows.callWith_type1 (thn (ha.run pos pins s σ H _ I h) fun us s1 ⟨vs, H1, I1, r1, q1⟩ => ?_) hs rfl))
  obtain ⟨a, xs, ex, hq, q⟩ := q1
  subst ex
  obtain ⟨u, us', rfl⟩ : ∃ u us', us = u :: us' := by
    cases r1 with
    | cons _ _ => exact ⟨_, _, rfl⟩
  have l1 := r1.length
  have eu : us' = [] := by
    cases us' with
    | nil => rfl
    | cons _ _ => simp at l1
  subst eu
  obtain ⟨u2, hu2, ru⟩ := r1.get (i := 0) (x := .ref a) rfl
  have e0 : u = Value.ref a := (Option.some.inj hu2).trans ru
  subst e0
  obtain ⟨its, rv, tp, hz⟩ := I1.tuple hq
  have la : a < s1.heap.objs.size := tp.lt
  refine call_enum_tuple tp fun h' en itr kk' => wpAny_pyIter_enum en ?_
  have I2 : Inv X pins σ H1 { s1 with heap := h' } := I1.kept (t' := s1.toks) kk'
  have n1 : s1.heap.objs.size + 1 ≠ s1.heap.objs.size := Nat.succ_ne_self _
  have n2 : s1.heap.objs.size + 1 ≠ a := Nat.ne_of_gt (Nat.lt_succ_of_lt la)
  have n3 : a ≠ s1.heap.objs.size := Nat.ne_of_lt la
  refine ⟨s1.heap.objs.size + 1, [s1.heap.objs.size + 1, s1.heap.objs.size], _, _, H1, rfl, I2, turn_enT (xs := xs) n1 n2 n3, ⟨⟨_, en⟩, itr⟩, fun b hb => ?_, q⟩
  have hle : s1.heap.objs.size ≤ b := by
    rcases List.mem_cons.mp hb with z | z
    · rw [z]; exact Nat.le_succ _
    · rw [List.mem_singleton.mp z]; exact Nat.le_refl _
  exact I1.fpOk hle (I1.hok.fresh hle)
/-! ### d.items(), the keys tuples -/
def xyD (kvs : List (List Key × V)) : Nat → V → V → Hp → Prop := fun i x y H => ∃ k q, kvs[i]? = some (k, y) ∧ x = .ref q ∧ H q = some (.tup (k.map kV))
def itItT (d : Addr) (o : Obj) (kvs : List (List Key × V)) : It := Itp (fun H => H d = some (.frz o (.dT kvs))) kvs.length (xyD kvs)
theorem raw_of {X : Cx} {pins : List (Addr × Obj)} {σ : L2.St} {H : Hp} {s : Shared} {d : Addr} {o : Obj} {kvs : List (List Key × V)} (I : Inv X pins σ H s) (h : H d = some (.frz o (.dT kvs))) :
    (d == sysModules) = false ∧ ∃ es ep, o.data = .dict es ep ∧ s.heap.DictRaw d es ep ∧ es.size = kvs.length ∧ ∀ i (hi : i < es.size), ∃ k q y, kvs[i]? = some (k, y) ∧ es[i].key = .ref q ∧ H q = some (.tup (k.map kV)) ∧ RelV y es[i].val := by
  obtain ⟨hd, z, hs, xs, pr, o', es, ep, ho, hx, hdt, he, _⟩ := I.hok d _ h
  rw [hd] at ho
  cases ho
  have l1 : es.size = xs.length := by
    have := congrArg List.length he
    simpa using this
  have l2 : kvs.length = xs.length := Paired.length pr
  refine ⟨hs, es, ep, hdt, ⟨o, hd, hx, hdt⟩, by omega, fun i hi => ?_⟩
  obtain ⟨⟨k, y⟩, hk⟩ : ∃ p, kvs[i]? = some p := ⟨kvs[i]'(by omega), List.getElem?_eq_getElem (by omega)⟩
  obtain ⟨b, hb, e1, e2, e3⟩ := paired_get pr hk
  have e4 : es.toList[i]? = some (entryOfKey (tupleKind (mixKind X.prog X.w)) b) := by rw [he, List.getElem?_map, hb]; rfl
  have e5 : es[i] = entryOfKey (tupleKind (mixKind X.prog X.w)) b := by
    rw [Array.getElem?_toList] at e4
    exact Option.some.inj ((Array.getElem?_eq_getElem hi).symm.trans e4)
  exact ⟨k, b.2.1, y, hk, by rw [e5]; rfl, e2, by rw [e5]; exact e3⟩
def ItR (d : Addr) (n ep : Nat) (it : Addr) (i : Nat) (h : Heap) : Prop := ∃ ok ov, IsItemIter h it d i n ep ok ov
theorem turn_itT {P : Program} {w : World} {K : PySem.W.Frag} {elts : List Expr} {kk : Nat} {tpos : Pos} {d it : Addr} {o : Obj} {es : Array DictEntry} {ep : Nat} {kvs : List (List Key × V)} (hne : d ≠ it) (ho : o.data = .dict es ep) (hz : es.size = kvs.length) :
    Turn P w K (.Tuple elts kk tpos) (itItT d o kvs) [it] it (ItR d kvs.length ep it) := by
  refine turn_pairs (by simp) (fun i h hr b hb => ?_) (fun i h h' hr k => ?_) (fun X e1 e2 e3 hh i pins s σ H J hr hd => ?_) fun A i s Q E hr q => ?_
  · obtain ⟨ok, ov, q1⟩ := hr
    rw [List.mem_singleton.mp hb]
    exact ⟨_, q1, fun v q => nomatch q⟩
  · obtain ⟨ok, ov, q1⟩ := hr
    exact ⟨ok, ov, k it (by simp) _ q1⟩
  · subst e1 e2 e3
    obtain ⟨hs, es', ep', hdt, raw, hz', ent⟩ := raw_of J hd
    rw [ho] at hdt
    cases hdt
    have G := GoesN.rawItems (prog := X.prog) (w := X.w) (A := X.A) (elts := elts) (x1 := kk) (pos := tpos) hh it d hne es ep
    refine ⟨_, _, _, _, _, hz, G, ⟨by rw [hz]; exact hr, raw⟩, fun j h st => by have := st.1; rw [hz] at this; exact this, fun b hb => hb, fun h₀ v h hy => ?_⟩
    obtain ⟨T, hi, ev, hT, htup⟩ := hy
    obtain ⟨k, q, y, h1, h2, h3, h4⟩ := ent i hi
    refine ⟨T, _, _, .ref q, y, ev, hT, htup, h2, h4, k, q, h1, rfl, h3⟩
  · obtain ⟨ok, ov, q1⟩ := hr
    exact PySem.W.kcp_self q1 q
def iItT (td : TE) : TI := fun σ H R => td σ H fun x H1 => ∃ d o kvs, x = .ref d ∧ H1 d = some (.frz o (.dT kvs)) ∧ R (itItT d o kvs) H1
theorem pi_itT {X : Cx} {e : Expr} {td : TE} {apos cpos : Pos} {elts : List Expr} {kk : Nat} {tpos : Pos} (he : PE X e td) (hbase : attributeBase e "items" X.env (eval e X.env) = eval e X.env := by rfl) (hline : (apos.endLine == cpos.line) = true := by rfl) :
    PI X (.Tuple elts kk tpos) (.Call (.Attribute e "items" apos) [] [] cpos) (iItT td) := by
  refine ⟨fun pins s σ H R I h => ?_⟩
  refine wpAny_Call_method (T := "dict") (id := "dict.items") hbase rfl hline F.plainAttrs_dict F.slot_dict_items F.type_dict_items (thn (he.run pins s σ H _ I h) fun u s1 ⟨x, H1, I1, rx, d, o, kvs, ex, hd, q⟩ => ?_)
  subst ex
  obtain rfl : u = Value.ref d := rx
  obtain ⟨hs, es, ep, hdt, raw, hz, ent⟩ := raw_of I1 hd
  have hty := raw.typeIs
  obtain ⟨ob, hob, hex, _⟩ := id raw
  have hlt : d < s1.heap.objs.size := Heap.lt_size hob
  refine ⟨hty, fun b eb => ?_, ?_⟩
  · cases eb
    exact ⟨ob, hob, hex.2.1⟩
  have kd : ∀ b o, s1.heap.get? b = some o → (s1.heap.push { cls := .type "dict_items", data := .fields #[.ref d] }).get? b = some o := fun b o z => Heap.get?_push_of_some _ z
  have I2 : Inv X pins σ H1 { s1 with heap := s1.heap.push { cls := .type "dict_items", data := .fields #[.ref d] } } := I1.kept (t' := s1.toks) kd
  have fin : wpAny (model X.prog X.w) X.A (pyIter (.ref s1.heap.objs.size)) (PIE X pins σ (.Tuple elts kk tpos) R) X.xe { s1 with heap := s1.heap.push { cls := .type "dict_items", data := .fields #[.ref d] } } := by
    have hne : d ≠ (s1.heap.push { cls := .type "dict_items", data := .fields #[.ref d] }).objs.size := by
      rw [Heap.size_push]
      exact Nat.ne_of_lt (Nat.lt_succ_of_lt hlt)
    refine wpAny_pyIter_items_raw (d := d) ⟨_, Heap.get?_push_size _ rfl, rfl, rfl⟩ (raw.at fun o z => kd d o z) (pi_one (tk := s1.toks) I2 _ (turn_itT hne hdt hz) ⟨.none, .none, ?_⟩ q)
    rw [hz]
    exact Heap.get?_push_size _ rfl
  show wpAny _ _ (callWith cpos (.builtin "dict.items") [.ref d] [] []) _ X.xe s1
  exact method_meetsIn F.slot_dict_items F.entry_dict_items rfl (PySem.evalArgs_none ⟨rfl, hty, F.args_dict_items_1 _, _, meets_dict_items_raw d hs, ⟨es, ep, raw⟩, fin⟩)
end Em
set_option maxHeartbeats 2000000
/-! Rules that the layer lacks (2): an own class's __len__, __contains__, __iter__ (that hands out its dict's iterator). -/
namespace Em
open PySem PySem.Spec PyProof.Rows L2
section
variable {X : Cx} {pins : List (Addr × Obj)} {σ : L2.St} {H : Hp} {s : Shared} {n : Nat} {A1 : Around} {f C a dx : Addr} {fd : FuncData} {ps : List Str} {sp : Sp} {m : Str} {fs : List (Str × V)}
/-- a def run at another place of the same stack -/
theorem run_at {Q : VK} {us : List Value} {vs : List V} (sb : Sub X n A1) (F : FnOk X.prog X.w X.K X.mg X.base CX0 n f fd ps sp) (hb : Binds X.K fd ps []) (I : Inv X pins σ H s) (r : Vals vs us) (h : sp vs H Q E0) :
    wpAny (model X.prog X.w) A1 (call (.ref f) us) (EP X pins σ Q) X.xe s := by
  have e := I.env0
  have e0 : Env0 X.prog X.w X.K X.mg X.base A1 X.stack s H := ⟨sb.fr.trans e.frames, e.mod, e.bs, e.bsz, e.funs, e.frf, e.hok, e.bare⟩
  have hl : us.length = ps.length := r.length.symm.trans (F.len _ _ _ _ h)
  have bt := hb s us I.kIn (by rw [List.append_nil]; exact hl)
  rw [List.append_nil] at bt
  refine wpAny_call (codeAny_mono (F.run A1 X.stack s H ⟨us, []⟩ us vs Q E0 sb.room e0 bt r h) fun r s' hq => ?_)
  match r, hq with
  | .ok (.ret u), hq => exact I.after hq
/-- len(o) -/
theorem call_lenOwn (me : Meth X.K C "__len__" f) (F : FnOk X.prog X.w X.K X.mg X.base CX0 n f fd ps sp) (hb : Binds X.K fd ps []) (hr : Room (n + 1) X.A) :
    CallR X (.builtin "len") (fun xs H Q => ∃ a dx fs, xs = [.ref a] ∧ H a = some (.ins C dx fs) ∧ sp [.ref a] H (fun v H' => ∃ k : Nat, v = .int k ∧ k < 2 ^ 62 ∧ Q (.int k) H') E0) := by
  intro pins s σ H xs us Q I r h
  obtain ⟨a, dx, fs, rfl, ha, q⟩ := h
  obtain ⟨u, rfl, ru⟩ := r.one
  cases ru
  obtain ⟨mA, J, _⟩ := ins_get I.hok ha
  obtain ⟨od, J, _⟩ := J.look
  have sb : Sub X n X.A.in1 := Sub.in1 ⟨hr, rfl⟩
  refine Calls.call_function_entry kind_len plain_len entry_len (args_len1 _) ?_
  unfold Builtin.«len»
  refine wpAny_bind (m := oneArg "len" _) (wpAny_pure ?_)
  refine wpAny_bind (PySem.W.special_fn (name := "__len__") (args := []) I.kIn J me.at_ (beq_iff_eq.mp me.fn) (thn (run_at sb F hb I (.cons (show L2.RelV (.ref a) (.ref a) from rfl) .nil) q) fun v s1 hv => ?_))
  obtain ⟨x, H1, I1, rx, k, ex, hk, q1⟩ := hv
  subst ex
  obtain ⟨t, rfl⟩ := rx
  refine wpAny_bind (wpAny_holding (wpAny_pure (wpAny_bind (wpAny_letGo ?_))))
  show wpAny _ _ (if (k : Int) < 0 then _ else _) _ _ _
  rw [if_neg (by omega)]
  show wpAny _ _ (if (k : Int) ≥ 2 ^ 63 then _ else _) _ _ _
  rw [if_neg (by omega)]
  exact wpAny_bind (wpAny_mkInt (wpAny_pure ⟨_, rfl, .int k, H1, I1.tok _, ⟨_, rfl⟩, q1⟩))
/-- x in o -/
theorem contains_own {xv : Value} {x : V} {Q : Bool → Hp → Prop} (me : Meth X.K C "__contains__" f) (F : FnOk X.prog X.w X.K X.mg X.base CX0 n f fd ps sp) (hb : Binds X.K fd ps []) (hr : Room n X.A) (I : Inv X pins σ H s) (ha : H a = some (.ins C dx fs)) (rx : RelV x xv)
    (q : sp [.ref a, x] H (fun v H' => ∃ b, v = .bl b ∧ Q b H') E0) : wpAny (model X.prog X.w) X.A (contains (.ref a) xv) (fun b s' => ∃ H', Inv X pins σ H' s' ∧ Q b H') X.xe s := by
  obtain ⟨mA, J, _⟩ := ins_get I.hok ha
  obtain ⟨od, J, _⟩ := J.look
  unfold contains
  refine wpAny_holding ?_
  dsimp only [stdlibNamesSay?]
  refine wpAny_bind (wpAny_bind (J.type.here ((PySem.W.looks_findIn I.kIn me.at_).here ?_)))
  have e1 : ((some (Value.ref f) : Option Value) == some Value.none) = false := rfl
  rw [e1]
  simp only [Bool.false_eq_true, if_false]
  refine wpAny_bind (m := callSpecialUnlessNone? _ _ _ _) ?_
  unfold callSpecialUnlessNone?
  refine wpAny_bind (wpAny_bind (J.type.here ((PySem.W.looks_findIn I.kIn me.at_).here ?_)))
  refine wpAny_holding (wpAny_bind ((PySem.W.bind_fn I.kIn _ (beq_iff_eq.mp me.fn)).here ?_))
  dsimp only
  rw [if_neg (show ¬ ((Value.ref f == Value.none) = true) from Bool.false_ne_true)]
  refine wpAny_bind (thn (run_at (us := [.ref a, xv]) ⟨hr, rfl⟩ F hb I (.cons (show L2.RelV (.ref a) (.ref a) from rfl) (.cons rx .nil)) q) fun v s1 hv => wpAny_pure ?_)
  obtain ⟨y, H1, I1, ry, b, ey, q1⟩ := hv
  subst ey
  cases ry
  exact wpAny_truthy_bool ⟨H1, I1, q1⟩
theorem op_inOwn (me : Meth X.K C "__contains__" f) (F : FnOk X.prog X.w X.K X.mg X.base CX0 n f fd ps sp) (hb : Binds X.K fd ps []) (hr : Room n X.A) :
    OpR X (compareOp .In) (fun x y H Q => ∃ a dx fs, y = .ref a ∧ H a = some (.ins C dx fs) ∧ sp [.ref a, x] H (fun v H' => ∃ b, v = .bl b ∧ Q (.bl b) H') E0) := by
  intro pins s σ H x y v u Q I rx ry h
  obtain ⟨a, dx, fs, rfl, ha, q⟩ := h
  cases ry
  show wpAny _ _ (contains (.ref a) v >>= fun b => pure (Value.bool b)) _ _ _
  refine wpAny_bind (thn (contains_own (Q := fun b H' => Q (.bl b) H') me F hb hr I ha rx q) fun b s1 ⟨H1, I1, q1⟩ => wpAny_pure ⟨.bl b, H1, I1, rfl, q1⟩)
end
/-! ### iter(d), the dict locked -/
def KeyO (it d n ep : Nat) : HO := .ext fun h => Heap.IsKeyIter h it d 0 n ep
theorem keyO_ok {P : Program} {w : World} {H : Hp} {h : Heap} {it d n ep : Nat} (e : h.IsKeyIter it d 0 n ep) : ObjOk P w H h it (KeyO it d n ep) := by
  obtain ⟨o, ho, r⟩ := id e
  exact ⟨e, ⟨o, ho⟩, fun h1 h2 q k => q.at fun o e => k o e⟩
/-- what iter(d) gives, d locked with the pairs kvs -/
def rIterD (lo : Nat) : List V → Hp → VK → Prop := fun xs H Q => ∃ (d : Addr) (o : Obj) (kvs : List (Key × V)), xs = [.ref d] ∧ H d = some (.frz o (.dK kvs)) ∧
  ∀ it es ep, H it = none → lo ≤ it → o.data = .dict es ep → Q (.ref it) (upd H it (KeyO it d kvs.length ep))
theorem call_iterD {X : Cx} : CallR X (.builtin "iter") (rIterD X.s_0.heap.objs.size) := by
  intro pins s σ H xs us Q I r h
  obtain ⟨d, o, kvs, rfl, hd, q⟩ := h
  obtain ⟨u, rfl, ru⟩ := vals1 r
  cases ru
  obtain ⟨hs, hgd, hx, es, ep, vs, hdt, hsz, kv, hm⟩ := I.frzK hd
  refine Calls.call_function_entry (by decide +kernel) (by decide +kernel) PySem.W.kdk_entry_iter (PySem.W.kdk_args_iter _) ?_
  unfold Builtin.«iter»
  refine wpAny_bind (m := someArgs "iter" 1 2 _) (wpAny_of_eq (a := [Value.ref d]) (by first | rfl | kernel_rfl!) ?_)
  show wpAny _ _ (pyIter (.ref d) >>= _) _ _ _
  refine wpAny_bind (iter_keys hs hgd hx hdt (wpAny_pure ⟨_, rfl, ?_⟩))
  have st : (s.heap.push { cls := .type "dict_keyiterator", data := .fields #[.ref d, .int 0 0, .int es.size 0, .int ep 0] }).IsKeyIter s.heap.objs.size d 0 kvs.length ep := ⟨_, Heap.get?_push_size _ rfl, rfl, by rw [hsz]; rfl⟩
  exact ⟨.ref s.heap.objs.size, _, I.laid (t' := s.toks) (fun b u e => Heap.get?_push_of_some _ e) (Nat.le_refl _) (keyO_ok st), rfl, q _ es ep (I.hok.fresh (Nat.le_refl _)) I.sz hdt⟩
/-! ### an own __iter__ that says: return iter(self.f) -/
/-- what the text says of it -/
structure OwnIt (P : Program) (w : World) (K : PySem.W.Frag) (mg : Str → Option Value) (base : Heap) (C : Addr) (fld : Str) : Prop where
  cl : Cls K C
  no : NoAttr K C fld
  ex : ∃ (f : Addr) (name qual : Str) (params : Arguments) (body : List Stmt) (sc : Scope) (dV kV doc pm cdv ct oc : Value) (an od : Option Addr) (osl : Array (Option Value)), Meth K C "__iter__" f ∧
    K.lookup f = some ⟨oc, od, .func (PySem.W.fnOf name qual params body sc dV kV doc pm an cdv ct), osl⟩ ∧ PySem.W.codeIn K cdv qual = true ∧ FnScope ["self"] ["self"] sc ∧ Binds K (PySem.W.fnOf name qual params body sc dV kV doc pm an cdv ct) ["self"] [] ∧
    ∀ (A : Around) (outer : List Env) (s : Shared) (H : Hp), PSs (cxOf CX0 P w K mg base ["self"] qual sc f cdv A outer s H E0).nox body (tRet (tCB (rIterD s.heap.objs.size) (tCons (tFld K (tVar 0) fld) tNil)))
def iOwn (C : Addr) (fld : Str) (te : TE) : TI := fun σ H R => te σ H fun x H1 => ∃ (a dx : Addr) (fs : List (Str × V)) (d : Addr) (o : Obj) (kvs : List (Key × V)), x = .ref a ∧ H1 a = some (.ins C dx fs) ∧ fs.lookup fld = some (.ref d) ∧ H1 d = some (.frz o (.dK kvs)) ∧ R (Itk d o kvs) H1
/-- iter(o), at any place of the stack -/
theorem iter_own {X : Cx} {pins : List (Addr × Obj)} {σ : L2.St} {H : Hp} {s : Shared} {A1 : Around} {C a dx d : Addr} {fld : Str} {fs : List (Str × V)} {o : Obj} {kvs : List (Key × V)} {Q : Value → Shared → Prop} (O : OwnIt X.prog X.w X.K X.mg X.base C fld) (sb : Sub X 1 A1)
    (I : Inv X pins σ H s) (ha : H a = some (.ins C dx fs)) (hl : fs.lookup fld = some (.ref d)) (hd : H d = some (.frz o (.dK kvs)))
    (h : ∀ (it : Addr) (es : Array DictEntry) (ep : Nat) (s1 : Shared), o.data = .dict es ep → Inv X pins σ (upd H it (KeyO it d kvs.length ep)) s1 → s1.heap.IsKeyIter it d 0 kvs.length ep → H it = none → s.heap.objs.size ≤ it → Q (.ref it) s1) :
    wpAny (model X.prog X.w) A1 (pyIter (.ref a)) Q X.xe s := by
  obtain ⟨f, name, qual, params, body, sc, dV, kV, doc, pm, cdv, ct, oc, an, od, osl, me, lk, hcd, S, hb, hbody⟩ := O.ex
  obtain ⟨mA, J, _⟩ := ins_get I.hok ha
  obtain ⟨od', J, _⟩ := J.look
  obtain ⟨m0, hF⟩ := I.fr
  have e := I.env0
  have e0 : Env0 X.prog X.w X.K X.mg X.base A1 X.stack s H := ⟨sb.fr.trans e.frames, e.mod, e.bs, e.bsz, e.funs, e.frf, e.hok, e.bare⟩
  refine PySem.W.owit_iter hF I.ok.mod.kin J me.at_ me.fn ?_
  have bt := hb s [.ref a] I.kIn rfl
  refine wpAny_call (codeAny_mono (LamX.run_ofS (CX := CX0) (N := ["self"]) (ps := ["self"]) (us := [.ref a]) (vs := [.ref a]) (H := H) (E := E0) (k := 0) (Q := fun v H' => ∃ it es ep, v = .ref it ∧ H it = none ∧ s.heap.objs.size ≤ it ∧ o.data = .dict es ep ∧ H' = upd H it (KeyO it d kvs.length ep))
    lk hcd S sb.room e0 bt (.cons (show L2.RelV (.ref a) (.ref a) from rfl) .nil) rfl fun _ => ⟨_, (hbody _ _ _ _).nox, ?_⟩) fun r s' hq => ?_)
  · exact ⟨.ref a, rfl, a, C, dx, fs, .ref d, rfl, ha, O.cl, O.no, hl, d, o, kvs, rfl, hd, fun it es ep h1 h2 h3 => ⟨it, es, ep, rfl, h1, h2, h3, rfl⟩⟩
  · match r, hq with
    | .ok (.ret u), hq =>
      obtain ⟨v, H', I', rv, it, es, ep, ev, hn, hlo, hdt, eH⟩ := I.after hq
      subst ev eH
      cases rv
      have st : s'.heap.IsKeyIter it d 0 kvs.length ep := (I'.hok it _ upd_same).1
      unfold PySem.W.OwitIt
      refine wpAny_specialOf (name := Str.ofString "__next__") st.typeIs F.slot_dict_keyiterator_next.lookup ?_
      exact h it es ep s' hdt I' st hn hlo
theorem pi_own {X : Cx} {tg e : Expr} {te : TE} {C : Addr} {fld : Str} (O : OwnIt X.prog X.w X.K X.mg X.base C fld) (hr : Room 1 X.A) (he : PE X e te) : PI X tg e (iOwn C fld te) := by
  refine ⟨fun pins s σ H R I h => ?_⟩
  refine thn (he.run pins s σ H _ I h) fun u s1 ⟨x, H1, I1, rx, a, dx, fs, d, o, kvs, ex, ha, hl, hd, q⟩ => ?_
  subst ex
  cases rx
  refine iter_own O ⟨hr, rfl⟩ I1 ha hl hd fun it es ep s2 hdt I2 st hn hlo => ?_
  have e0 : ItX.dropH (upd H1 it (KeyO it d kvs.length ep)) it = H1 := ItX.dropH_upd hn
  have hn2 : X.s_0.heap.objs.size ≤ it := Nat.le_trans I1.sz hlo
  have fp := ItX.inv_fp I2 upd_same hn2
  have I3 := ItX.inv_drop (φ := fun h => Heap.IsKeyIter h it d 0 kvs.length ep) I2 upd_same
  rw [e0] at fp I3
  exact ⟨it, [it], _, _, H1, rfl, I3, turn_keys it hdt, st, fun b hb => by rw [List.mem_singleton.mp hb]; exact fp, q⟩
end Em
set_option maxHeartbeats 4000000
/-! Rules that the layer lacks (3): zip(an own iterable over its dict, a tuple). -/
namespace Em
open PySem PyProof.Rows L2
section
variable {prog : Program} {w : World} {A : Around} {E : Value → Shared → Prop} {s : Shared} {it d : Addr} {i n ep : Nat} {od : Obj} {es : Array DictEntry}
/-- the places where both ways part -/
theorem keyit_body {P : PySem.Fin → Shared → Prop} (hit : s.heap.IsKeyIter it d i n ep) (hod : s.heap.get? d = some od) (hdd : od.data = .dict es ep) (hz : es.size = n)
    (go : ∀ (hlt : i < es.size) h', h'.IsKeyIter it d (i + 1) n ep → Heap.SameBut it s.heap h' → P (.done (.ret es[i].key)) { s with heap := h' })
    (end_ : es.size ≤ i → A.handled = none ∧ ∀ h' e, Heap.ExtBut it s.heap h' → (∃ o, h'.get? e = some o ∧ o.cls = .type "StopIteration") → E (.ref e) { s with heap := h' }) :
    wpAny (model prog w) A (Builtin.«dict_keyiterator.__next__» ⟨[.ref it], []⟩) P E s := by
  obtain ⟨o, ho, hc, hd⟩ := id hit
  refine wpAny_bind (wpAny_pure ?_)
  refine wpAny_bind ?_
  refine wpAny_bind ?_
  first | refine wpAny_bind (wpAny_typeNameOfWhole_keyiter hit.typeIs (wpAny_pure ?_)) | refine wpAny_bind (wpAny_typeNameOf_keyiter hit.typeIs (wpAny_pure ?_))
  refine wpAny_bind (wpAny_fieldsOf ho hd ?_)
  simp only [show Builtin.Dict_items.ownsTuple "dict_keyiterator" = false from by decide, Bool.false_eq_true, if_false]
  show wpAny _ _ (if (Value.ref d == Value.none) = true then _ else _) _ _ s
  rw [if_neg (show ¬ ((Value.ref d == Value.none) = true) from Bool.false_ne_true)]
  refine wpAny_bind (wpAny_pure (wpAny_bind (wpAny_dictEntries hod hdd ?_)))
  rw [if_neg (by rw [hz]; simp)]
  refine wpAny_bind (wpAny_pure (wpAny_bind (wpAny_dictEpoch hod hdd ?_)))
  rw [if_neg (by simp)]
  refine wpAny_pure ?_
  by_cases hlt : i < es.size
  · simp only [show ¬ ((i : Int) < 0) from by omega, if_false, Int.toNat_natCast, Array.getElem?_eq_getElem hlt]
    refine wpAny_bind ?_
    first | refine wpAny_bind (wpAny_typeNameOfWhole_keyiter hit.typeIs (wpAny_pure ?_)) | refine wpAny_bind (wpAny_typeNameOf_keyiter hit.typeIs (wpAny_pure ?_))
    refine wpAny_bind (wpAny_isOneOf_keyiter hit.typeIs ?_)
    show wpAny _ _ (setField (.ref it) 1 (rawInt ((i : Int) + 1)) >>= _) _ _ s
    refine wpAny_bind (wpAny_setField ho hd (by simp) ?_)
    have on : (s.heap.update it (Obj.mapFields (·.setIfInBounds 1 (rawInt ((i : Int) + 1))))).IsKeyIter it d (i + 1) n ep :=
      ⟨_, Heap.get?_update_self _ ho (Obj.isFreed_of_fields (Obj.data_mapFields hd _)), (Obj.cls_mapFields ..).trans hc, by rw [Obj.data_mapFields hd]; simp [rawInt]⟩
    refine wpAny_bind (wpAny_holding (wpAny_bind (wpAny_isOneOf_keyiter (s := { s with heap := s.heap.update it (Obj.mapFields (·.setIfInBounds 1 (rawInt ((i : Int) + 1)))) }) on.typeIs ?_)))
    exact wpAny_pure (wpAny_pure (go hlt _ on (Heap.SameBut.update ..)))
  · have hge : es.size ≤ i := Nat.le_of_not_lt hlt
    obtain ⟨hh, fin⟩ := end_ hge
    simp only [show ¬ ((i : Int) < 0) from by omega, if_false, Int.toNat_natCast, Array.getElem?_eq_none hge]
    refine wpAny_bind ?_
    first | refine wpAny_bind (wpAny_typeNameOfWhole_keyiter hit.typeIs (wpAny_pure ?_)) | refine wpAny_bind (wpAny_typeNameOf_keyiter hit.typeIs (wpAny_pure ?_))
    show wpAny _ _ (setField (.ref it) 0 .none >>= _) _ _ s
    refine wpAny_bind (wpAny_setField ho hd (by simp) ?_)
    show wpAny _ _ (newExc (.type "StopIteration") [] >>= _) _ _ _
    refine wpAny_bind ?_
    simp only [newExc, newTuple]
    refine wpAny_bind (wpAny_newObj_type ?_ (by size_fits))
    refine wpAny_bind (m := firstArgMember _ _) (wpAny_of_eq (a := Value.none) (by first | rfl | (simp only [firstArgMember]; rfl)) ?_)
    refine wpAny_newObj_type ?_ (by size_fits)
    simp only [raiseNew]
    refine wpAny_bind (wpAny_handled ?_)
    rw [hh]
    refine wpAny_bind (wpAny_pure (wpAny_throw ?_))
    exact fin _ _ (((Heap.SameBut.update ..).extBut.push _).push _) ⟨_, Heap.get?_push_size _ rfl, rfl⟩
theorem nextOf_key {Q : Value → Shared → Prop} (hit : s.heap.IsKeyIter it d i n ep) (hod : s.heap.get? d = some od) (hdd : od.data = .dict es ep) (hz : es.size = n)
    (go : ∀ (hlt : i < es.size) h', h'.IsKeyIter it d (i + 1) n ep → Heap.SameBut it s.heap h' → Q es[i].key { s with heap := h' })
    (end_ : es.size ≤ i → A.handled = none ∧ ∀ h' e, Heap.ExtBut it s.heap h' → (∃ o, h'.get? e = some o ∧ o.cls = .type "StopIteration") → E (.ref e) { s with heap := h' }) :
    wpAny (model prog w) A (Builtin.SmallTypes.nextOf (.ref it)) Q E s := by
  unfold Builtin.SmallTypes.nextOf
  refine wpAny_bind (wpAny_callSpecial?_slot (name := Str.ofString "__next__") hit.typeIs F.slot_dict_keyiterator_next (wpAny_call_entry F.slot_dict_keyiterator_next hit.typeIs F.entry_dict_keyiterator_next ?_ (F.args_dict_keyiterator_next_1 _)))
  refine keyit_body hit hod hdd hz (fun hlt h' on sb => ⟨_, rfl, wpAny_pure (go hlt h' on sb)⟩) fun hge => ?_
  obtain ⟨hh, fin⟩ := end_ hge
  exact ⟨hh, fin⟩
end
theorem draws_keys {prog : Program} {w : World} {A : Around} (hh : A.handled = none) (it d : Addr) (hne : d ≠ it) (es : Array DictEntry) (ep : Nat) :
    Draws prog w A it [it, d] es.size (fun i v => ∃ hi : i < es.size, v = es[i].key) (fun i h => h.IsKeyIter it d i es.size ep ∧ h.DictRaw d es ep) where
  live := fun _ _ st => let ⟨o, ho, _⟩ := st.1; ⟨o, ho⟩
  frame := fun _ _ _ st hk => ⟨st.1.at fun o e => hk it (by simp) o e, st.2.at fun o e => hk d (by simp) o e⟩
  item := fun i s Q E hi st hQ => by
    obtain ⟨o, ho, hx, hd⟩ := id st.2
    exact nextOf_key st.1 ho hd rfl (fun hlt h' on sb => hQ _ h' s.toks ⟨hlt, rfl⟩ ⟨on, st.2.at fun o e => (sb.2 d hne).trans e⟩ sb) fun hge => absurd hi (by omega)
  done := fun s Q E st hE => by
    obtain ⟨o, ho, hx, hd⟩ := id st.2
    exact nextOf_key st.1 ho hd rfl (fun hlt => absurd hlt (by omega)) fun _ => ⟨hh, hE⟩
theorem zip_new_of {prog : Program} {w : World} {A : Around} {R : Result → Shared → Prop} {s : Shared} {v1 v2 : Value} {o2 : Obj} {B2 : Heap → Prop} (P1 : Addr → Shared → Prop)
    (h1 : ∀ Q : Value → Shared → Prop, (∀ it s1, P1 it s1 → Q (.ref it) s1) → wpAny (model prog w) A.in1 (pyIter v1) Q (fun e s' => R (.error e) s') s) (b2 : Begins v2 o2 B2) (hb : ∀ it s1, P1 it s1 → B2 s1.heap)
    (hR : ∀ it s1, P1 it s1 → R (.ok (.ret (.ref (((s1.heap.push o2).push { cls := .type "tuple", data := .seq #[.ref it, .ref s1.heap.objs.size] }).push { cls := .type "tuple", data := .seq #[.none, .none] }).objs.size)))
      { s1 with heap := (((s1.heap.push o2).push { cls := .type "tuple", data := .seq #[.ref it, .ref s1.heap.objs.size] }).push { cls := .type "tuple", data := .seq #[.none, .none] }).push { cls := .type "zip", data := .fields #[.none, .bool false, .bool false, .ref (s1.heap.push o2).objs.size, .ref ((s1.heap.push o2).push { cls := .type "tuple", data := .seq #[.ref it, .ref s1.heap.objs.size] }).objs.size] } }) :
    wpAny (model prog w) A.in1 (Builtin.«zip.__new__» ⟨[.type "zip", v1, v2], []⟩) (fun fin s' => ∃ v, fin = .done (.ret v) ∧ R (.ok (.ret v)) s') (fun e s' => R (.error e) s') s := by
  have hsub := sub_zip
  obtain ⟨hp, g, d, tk, os⟩ := s
  have q1 : ∀ {Q : Value → Shared → Prop}, (∀ it s1, P1 it s1 → Q (.ref it) s1) → wpAny (model prog w) A.in1 (pyIter v1) Q (fun e s' => R (.error e) s') ⟨hp, g, d, tk, os⟩ := fun q => h1 _ q
  wp_walk using q1
  intro it s1 hp1
  have r := hR it s1 hp1
  have b := hb it s1 hp1
  obtain ⟨hp', g', d', tk', os'⟩ := s1
  have q2 : ∀ {E : Value → Shared → Prop} {Q : Value → Shared → Prop}, Q (.ref hp'.objs.size) ⟨hp'.push o2, g', d', tk', os'⟩ → wpAny (model prog w) A.in1 (pyIter v2) Q E ⟨hp', g', d', tk', os'⟩ := fun q => b2.iter prog w _ _ _ _ b q
  wp_walk using q2
  exact ⟨_, rfl, r⟩
/-! ### zip over a locked dict's keys and a tuple -/
def xyZ (kvs : List (Key × V)) (ys : List V) : Nat → V → V → Hp → Prop := fun i x y _ => (∃ k v, kvs[i]? = some (k, v) ∧ x = kV k) ∧ ys[i]? = some y
def itZK (K : PySem.W.Frag) (d : Addr) (o : Obj) (kvs : List (Key × V)) (b : Addr) (ys : List V) : It := Itp (fun H => H d = some (.frz o (.dK kvs)) ∧ SqT K H b ys) (min kvs.length ys.length) (xyZ kvs ys)
def ZkR (z TI TO i1 i2 d n ep b : Nat) (i : Nat) (h : Heap) : Prop := IsZip h z TI TO .none ∧ IsTupOf2 h TI (.ref i1) (.ref i2) ∧ (∃ a1 a2, IsTupOf2 h TO a1 a2) ∧ h.IsKeyIter i1 d i n ep ∧ h.IsTupleIter i2 b i
theorem turn_zk {P : Program} {w : World} {K : PySem.W.Frag} {elts : List Expr} {kk : Nat} {tpos : Pos} {z TI TO i1 i2 d b ep : Addr} {o : Obj} {es : Array DictEntry} {kvs : List (Key × V)} {ys : List V} (S : ZipSep2 z TI TO i1 i2 [i1, d] [i2, b]) (h1 : d ≠ i1) (h2 : b ≠ i2)
    (ho : o.data = .dict es ep) : Turn P w K (.Tuple elts kk tpos) (itZK K d o kvs b ys) [z, TI, TO, i1, i2] z (ZkR z TI TO i1 i2 d kvs.length ep b) := by
  refine turn_pairs (by simp) (fun i h hr c hc => ?_) (fun i h h' hr k => ?_) (fun X e1 e2 e3 hh i pins s σ H J hr hd => ?_) fun A i s Q E hr q => ?_
  · obtain ⟨q1, q2, ⟨a1, a2, q3⟩, ⟨o1, q4, _, d4⟩, ⟨o2, q5, _, d5⟩⟩ := hr
    have e : c = z ∨ c = TI ∨ c = TO ∨ c = i1 ∨ c = i2 := by simpa using hc
    rcases e with e | e | e | e | e
    · exact ⟨_, e ▸ q1, fun v q => by cases q⟩
    · exact ⟨_, e ▸ q2, fun v q => by cases q⟩
    · exact ⟨_, e ▸ q3, fun v q => by cases q⟩
    · exact ⟨o1, e ▸ q4, fun v q => by rw [d4] at q; cases q⟩
    · exact ⟨o2, e ▸ q5, fun v q => by rw [d5] at q; cases q⟩
  · obtain ⟨q1, q2, ⟨a1, a2, q3⟩, q4, q5⟩ := hr
    exact ⟨k z (by simp) _ q1, k TI (by simp) _ q2, ⟨a1, a2, k TO (by simp) _ q3⟩, q4.at fun o q => k i1 (by simp) o q, q5.at fun o q => k i2 (by simp) o q⟩
  · subst e1 e2 e3
    obtain ⟨hd1, hd2⟩ := hd
    obtain ⟨hs, hgd, hx, es', ep', vs, hdt, hsz, kv, hm⟩ := J.frzK hd1
    rw [ho] at hdt
    cases hdt
    obtain ⟨its, rv, p, hz⟩ := J.tuple hd2
    have len := rv.length
    have D1 := draws_keys (prog := X.prog) (w := X.w) (A := X.A.in1) hh i1 d h1 es ep
    have D2 := Draws.tuple (prog := X.prog) (w := X.w) (A := X.A.in1) hh i2 b h2 its.toArray
    have G := GoesN.zip2 (elts := elts) (x1 := kk) (pos := tpos) S D1 D2
    obtain ⟨q1, q2, q3, q4, q5⟩ := hr
    refine ⟨_, _, _, _, _, by rw [hsz, List.size_toArray, len], G, ⟨q1, q2, q3, ⟨by rw [hsz]; exact q4, ⟨o, hgd, hx, ho⟩⟩, q5, p⟩, fun j h st => ?_, fun b hb => ?_, fun h₀ v h hy => ?_⟩
    · obtain ⟨r1, r2, r3, ⟨r4, _⟩, r5, _⟩ := st
      rw [hsz] at r4
      exact ⟨r1, r2, r3, r4, r5⟩
    · have e : b = z ∨ b = TO ∨ b = i1 ∨ b = i2 := by simpa using hb
      rcases e with e | e | e | e <;> simp [e]
    · obtain ⟨T, x, y, ev, hT, ⟨hi, ex⟩, hy2, htup⟩ := hy
      obtain ⟨⟨k, v0⟩, hk⟩ : ∃ p, kvs[i]? = some p := ⟨kvs[i]'(by omega), List.getElem?_eq_getElem (by omega)⟩
      obtain ⟨u, hu, ru⟩ := kv_get kv hk
      have hkey : keyIs k es[i].key = true := by
        obtain ⟨o', es2, ep2, g1, _, g2, g3⟩ := hm.dictOf
        rw [hgd] at g1
        cases g1
        rw [ho] at g2
        cases g2
        obtain ⟨_, hp, _⟩ := g3
        exact (hp.get? (e := es[i]) (by simp [hi]) hu).1
      have hi2 : i < its.length := by
        have : i < its.toArray.size := (Array.getElem?_eq_some_iff.mp hy2).1
        simpa using this
      have hys : ys[i]? = some (ys[i]'(by omega)) := List.getElem?_eq_getElem (by omega)
      obtain ⟨u2, hu2, ru2⟩ := rv.get hys
      have e : u2 = y := Option.some.inj (hu2.symm.trans (by simpa using hy2))
      subst e
      subst ex
      exact ⟨T, _, _, kV k, _, ev, hT, htup, relV_key hkey, ru2, ⟨k, v0, hk, rfl⟩, hys⟩
  · exact wpAny_pyIter_zip hr.1 q
theorem nm2 {a b c : Nat} (h1 : a ≠ b) (h2 : a ≠ c) : a ∉ [b, c] := by simp [h1, h2]
theorem sep_of {N M z TI TO i1 d b : Nat} (h1 : TI = N + 1) (h2 : TO = N + 2) (h3 : z = N + 3) (hi : i1 < N) (hd : d < N) (hb : b < M) (hM : M ≤ i1) : ZipSep2 z TI TO i1 N [i1, d] [N, b] where
  TIz := show (TI : Nat) ≠ z by omega
  TOz := show (TO : Nat) ≠ z by omega
  TITO := show (TI : Nat) ≠ TO by omega
  TIi1 := show (TI : Nat) ≠ i1 by omega
  mem1 := by simp
  zf1 := nm2 (by omega) (by omega)
  Tf1 := nm2 (by omega) (by omega)
  TIi2 := show (TI : Nat) ≠ N by omega
  mem2 := by simp
  zf2 := nm2 (by omega) (by omega)
  Tf2 := nm2 (by omega) (by omega)
  sep1_2 := nm2 (by omega) (by omega)
  sep2_1 := nm2 (by omega) (by omega)
def iZO (K : PySem.W.Frag) (C : Addr) (fld : Str) (ta : TA) : TI := fun σ H R => ta σ H fun vs H1 => ∃ (a dx : Addr) (fs : List (Str × V)) (d : Addr) (o : Obj) (kvs : List (Key × V)) (b : Addr) (ys : List V), vs = [.ref a, .ref b] ∧ H1 a = some (.ins C dx fs) ∧ fs.lookup fld = some (.ref d) ∧ H1 d = some (.frz o (.dK kvs)) ∧
  SqT K H1 b ys ∧ R (itZK K d o kvs b ys) H1
theorem pi_zipOwn {X : Cx} {e e2 : Expr} {ta : TA} {p pos tpos : Pos} {elts : List Expr} {kk : Nat} {C : Addr} {fld : Str} (O : OwnIt X.prog X.w X.K X.mg X.base C fld) (hr : Room 3 X.A) (hg : Gl X "zip") (hm : X.mg "zip" = none) (ha : PA X [e, e2] ta)
    (hs : starEach [e, e2] X.env = (false, eval e X.env) :: starEach [e2] X.env := by rfl) (hpl : (backTo pos (starEach [e2] X.env)).any (·.1) = false := by rfl) :
    PI X (.Tuple elts kk tpos) (.Call (.Name "zip" p) [e, e2] [] pos) (iZO X.K C fld ta) := by
  refine ⟨fun pins s σ H R I h => ?_⟩
  refine Call_ (ld_blt I hg hm PyProof.Rows.boot_zip (PyProof.Rows.callWith_type1 (thn (ha.run pos pins s σ H _ I h) fun us s1 ⟨vs, H1, I1, r1, q1⟩ => ?_) hs hpl))
  obtain ⟨a, dx, fs, d, o, kvs, b, ys, ex, hia, hl, hd, hb, q⟩ := q1
  subst ex
  obtain ⟨u1, u2, rfl, ru1, ru2⟩ := vals2 r1
  cases ru1
  cases ru2
  have sb : Sub X 1 X.A.in1.in1 := Sub.in1 (Sub.in1 (⟨hr, rfl⟩ : Sub X 3 X.A))
  let P1 : Addr → Shared → Prop := fun it s2 => ∃ (es : Array DictEntry) (ep : Nat), o.data = .dict es ep ∧ Inv X pins σ (upd H1 it (KeyO it d kvs.length ep)) s2 ∧ s2.heap.IsKeyIter it d 0 kvs.length ep ∧ H1 it = none ∧ s1.heap.objs.size ≤ it
  have kp : ∀ it s2, P1 it s2 → ∃ items, s2.heap.IsTuple b items := fun it s2 ⟨es, ep, _, I2, _, hn, _⟩ => by
    have hb2 : SqT X.K (upd H1 it (KeyO it d kvs.length ep)) b ys := by
      rcases hb with hb | hb
      · rcases hb with hb | ⟨o', hb⟩
        · exact .inl (.inl (by rw [upd_ne (ne_of_none hb hn)]; exact hb))
        · exact .inl (.inr ⟨o', by rw [upd_ne (ne_of_none hb hn)]; exact hb⟩)
      · exact .inr hb
    obtain ⟨its2, _, tp2, _⟩ := I2.tuple hb2
    exact ⟨_, tp2⟩
  have bT : Begins (.ref b) { cls := .type "tuple_iterator", data := .fields #[.ref b, .int 0 0] } (fun h => ∃ items, h.IsTuple b items) :=
    ⟨fun prog w A E s Q ⟨items, ht⟩ h => wpAny_pyIter_tuple ht h, fun h h' ⟨items, ht⟩ k => ⟨items, ht.at fun o e => k _ o e⟩, rfl⟩
  refine PySem.callType_newIn (S := fun A R s => A = X.A.in1 ∧ s = s1 ∧ (∀ e s', X.xe e s' → R (.error e) s') ∧ ∀ it s2, P1 it s2 → R (.ok (.ret (.ref (((s2.heap.push { cls := .type "tuple_iterator", data := .fields #[.ref b, .int 0 0] }).push { cls := .type "tuple", data := .seq #[.ref it, .ref s2.heap.objs.size] }).push { cls := .type "tuple", data := .seq #[.none, .none] }).objs.size)))
      { s2 with heap := (((s2.heap.push { cls := .type "tuple_iterator", data := .fields #[.ref b, .int 0 0] }).push { cls := .type "tuple", data := .seq #[.ref it, .ref s2.heap.objs.size] }).push { cls := .type "tuple", data := .seq #[.none, .none] }).push { cls := .type "zip", data := .fields #[.none, .bool false, .bool false, .ref (s2.heap.push { cls := .type "tuple_iterator", data := .fields #[.ref b, .int 0 0] }).objs.size, .ref ((s2.heap.push { cls := .type "tuple_iterator", data := .fields #[.ref b, .int 0 0] }).push { cls := .type "tuple", data := .seq #[.ref it, .ref s2.heap.objs.size] }).objs.size] } })
    F.called_zip (by decide) (F.typeCall_zip_2 _ _) (F.newCall_zip_2 _ _) (fun obj => F.args_object_init_3 obj _ _) F.entry_zip_new (.of_wp fun A R s hS => ?_) ⟨rfl, rfl, fun e s' z => z, fun it s2 hp => ?_⟩
  · obtain ⟨rfl, rfl, hE, hR⟩ := hS
    refine zip_new_of P1 (fun Q hQ => ?_) bT kp hR
    exact wpAny_mono (iter_own O sb I1 hia hl hd fun it es ep s2 hdt I2 st hn hlo => hQ it s2 ⟨es, ep, hdt, I2, st, hn, hlo⟩) (fun _ _ z => z) hE
  · obtain ⟨es, ep, hdt, I2, st, hn, hlo⟩ := id hp
    obtain ⟨items, tp2⟩ := kp it s2 hp
    have hit : it < s2.heap.objs.size := by
      obtain ⟨o', q, _⟩ := id st
      exact Heap.lt_size q
    have hb1 : b < s1.heap.objs.size := by
      obtain ⟨_, _, tp1, _⟩ := I1.tuple hb
      exact tp1.lt
    have hdl : d < s2.heap.objs.size := I2.hok.lt (show upd H1 it (KeyO it d kvs.length ep) d = some (.frz o (.dK kvs)) by rw [upd_ne (ne_of_none hd hn)]; exact hd)
    have hbl : b < s2.heap.objs.size := by
      obtain ⟨o', q, _⟩ := id tp2
      exact Heap.lt_size q
    have e0 : ItX.dropH (upd H1 it (KeyO it d kvs.length ep)) it = H1 := ItX.dropH_upd hn
    have hn2 : X.s_0.heap.objs.size ≤ it := Nat.le_trans I1.sz hlo
    have fp := ItX.inv_fp I2 upd_same hn2
    have I3 := ItX.inv_drop (φ := fun h => Heap.IsKeyIter h it d 0 kvs.length ep) I2 upd_same
    rw [e0] at fp I3
    have dn : d ≠ it := ne_of_none hd hn
    have zN : ∀ (h : Heap) (o : Obj), (h.push o).objs.size = h.objs.size + 1 := fun h o => Heap.size_push ..
    have z1 := zN s2.heap { cls := .type "tuple_iterator", data := .fields #[.ref b, .int 0 0] }
    generalize hA1 : s2.heap.push { cls := .type "tuple_iterator", data := .fields #[.ref b, .int 0 0] } = h1 at *
    have g1 : h1.get? s2.heap.objs.size = some { cls := .type "tuple_iterator", data := .fields #[.ref b, .int 0 0] } := by rw [← hA1]; exact Heap.get?_push_size _ rfl
    have k1 : ∀ c o, s2.heap.get? c = some o → h1.get? c = some o := fun c o q => by rw [← hA1]; exact Heap.get?_push_of_some _ q
    have z2 := zN h1 { cls := .type "tuple", data := .seq #[.ref it, .ref s2.heap.objs.size] }
    generalize hA2 : h1.push { cls := .type "tuple", data := .seq #[.ref it, .ref s2.heap.objs.size] } = h2 at *
    have g2 : h2.get? h1.objs.size = some { cls := .type "tuple", data := .seq #[.ref it, .ref s2.heap.objs.size] } := by rw [← hA2]; exact Heap.get?_push_size _ rfl
    have k2 : ∀ c o, h1.get? c = some o → h2.get? c = some o := fun c o q => by rw [← hA2]; exact Heap.get?_push_of_some _ q
    have z3 := zN h2 { cls := .type "tuple", data := .seq #[.none, .none] }
    generalize hA3 : h2.push { cls := .type "tuple", data := .seq #[.none, .none] } = h3 at *
    have g3 : h3.get? h2.objs.size = some { cls := .type "tuple", data := .seq #[.none, .none] } := by rw [← hA3]; exact Heap.get?_push_size _ rfl
    have k3 : ∀ c o, h2.get? c = some o → h3.get? c = some o := fun c o q => by rw [← hA3]; exact Heap.get?_push_of_some _ q
    generalize hA4 : h3.push { cls := .type "zip", data := .fields #[.none, .bool false, .bool false, .ref h1.objs.size, .ref h2.objs.size] } = h4 at *
    have g4 : IsZip h4 h3.objs.size h1.objs.size h2.objs.size .none := by rw [← hA4]; exact Heap.get?_push_size _ rfl
    have k4 : ∀ c o, h3.get? c = some o → h4.get? c = some o := fun c o q => by rw [← hA4]; exact Heap.get?_push_of_some _ q
    have k04 : ∀ c o, s2.heap.get? c = some o → h4.get? c = some o := fun c o q => k4 c o (k3 c o (k2 c o (k1 c o q)))
    have I4 : Inv X pins σ H1 { s2 with heap := h4 } := I3.kept (t' := s2.toks) k04
    refine ⟨⟨_, g4, rfl⟩, wpAny_pyIter_zip g4 ?_⟩
    have S : ZipSep2 h3.objs.size h1.objs.size h2.objs.size it s2.heap.objs.size [it, d] [s2.heap.objs.size, b] := sep_of (M := s1.heap.objs.size) z1 (by rw [z2, z1]) (by rw [z3, z2, z1]) hit hdl hb1 hlo
    refine ⟨h3.objs.size, [h3.objs.size, h1.objs.size, h2.objs.size, it, s2.heap.objs.size], _, _, H1, rfl, I4, turn_zk (ys := ys) S dn (Nat.ne_of_lt hbl) hdt, ⟨g4, k4 _ _ (k3 _ _ g2), ⟨_, _, k4 _ _ g3⟩, st.at fun o q => k04 _ o q, ⟨_, k4 _ _ (k3 _ _ (k2 _ _ g1)), rfl, rfl⟩⟩, fun c hc => ?_, q⟩
    have e : c = it ∨ s2.heap.objs.size ≤ c := by
      have e : c = h3.objs.size ∨ c = h1.objs.size ∨ c = h2.objs.size ∨ c = it ∨ c = s2.heap.objs.size := by simpa using hc
      rcases e with e | e | e | e | e
      · exact .inr (by rw [e, z3, z2, z1]; exact Nat.le_add_right _ 3)
      · exact .inr (by rw [e, z1]; exact Nat.le_add_right _ 1)
      · exact .inr (by rw [e, z2, z1]; exact Nat.le_add_right _ 2)
      · exact .inl e
      · exact .inr (by rw [e]; exact Nat.le_refl _)
    rcases e with e | e
    · rw [e]; exact fp
    · exact I3.fpOk e (I3.hok.fresh e)
end Em
set_option maxHeartbeats 1000000
/-! The logic over plain data (1): data, what represents them in the abstract heap, the parts of the heap, the judgements. -/
namespace Em
open PySem PySem.Spec PyProof.Rows L2

/-- plain data -/
inductive Da where
  | v (x : V)
  | tup (xs : List Da)
  | lst (xs : List Da)
  | dct (kvs : List (Key × Da))
  | dtt (kvs : List (List Key × Da))
  | ins (C : Addr) (fs : List (Str × Da))
  /-- what draws are taken from: a list of some numbers, of 0 and of a number that grows -/
  | drw (x : Da)
  /-- these data at this very place -/
  | nm (v : V) (x : Da)
  /-- these data, and the tables of code objects are as told -/
  | tb (a : Addr) (T : List (Addr × Str)) (x : Da)
/-- a list [w, 0, some number from 0] -/
def DrawO (a : Addr) (w : V) : HO := .ext fun h => ∃ (n : Nat) (its : List Value) (cap : Nat), Vals [w, .int 0, .int (n : Int)] its ∧ h.get? a = some { cls := .type "list", data := .seq its.toArray cap }
/-- how S tells of tables -/
def encT (T : List (Addr × Str)) : Array Value := (T.flatMap fun p => [Value.ref p.1, Value.str p.2 0]).toArray
theorem encT_inj {T T' : List (Addr × Str)} (h : encT T = encT T') : T = T' := by
  replace h : (T.flatMap fun p => [Value.ref p.1, Value.str p.2 0]) = T'.flatMap fun p => [Value.ref p.1, Value.str p.2 0] := List.toArray_inj h
  induction T generalizing T' with
  | nil => cases T' with
    | nil => rfl
    | cons p T' => simp at h
  | cons p T ih => cases T' with
    | nil => simp at h
    | cons p' T' =>
      simp only [List.flatMap_cons, List.cons_append, List.nil_append, List.cons.injEq, Value.ref.injEq, Value.str.injEq, and_true] at h
      obtain ⟨h1, h2, h3⟩ := h
      have e : p = p' := by cases p; cases p'; simp_all
      rw [e, ih h3]
abbrev dI (i : Int) : Da := .v (.int i)
abbrev dS (x : Str) : Da := .v (.str x)
abbrev dB (b : Bool) : Da := .v (.bl b)
abbrev dN : Da := .v .non

/-- x stands for the data d, by the objects of S -/
inductive Rp (S : Hp) : V → Da → Prop
  | v (x : V) : Rp S x (.v x)
  | tup {a : Addr} {vs : List V} {xs : List Da} (h : S a = some (.tup vs)) (l : vs.length = xs.length) (e : ∀ (i : Nat) (v : V) (x : Da), vs[i]? = some v → xs[i]? = some x → Rp S v x) : Rp S (.ref a) (.tup xs)
  | lst {a : Addr} {vs : List V} {xs : List Da} (h : S a = some (.lst vs)) (l : vs.length = xs.length) (e : ∀ (i : Nat) (v : V) (x : Da), vs[i]? = some v → xs[i]? = some x → Rp S v x) : Rp S (.ref a) (.lst xs)
  | dct {a : Addr} {vs : List (Key × V)} {xs : List (Key × Da)} (h : S a = some (.dK vs)) (l : vs.map (·.1) = xs.map (·.1)) (e : ∀ (i : Nat) (v : Key × V) (x : Key × Da), vs[i]? = some v → xs[i]? = some x → Rp S v.2 x.2) : Rp S (.ref a) (.dct xs)
  | dtt {a : Addr} {vs : List (List Key × V)} {xs : List (List Key × Da)} (h : S a = some (.dT vs)) (l : vs.map (·.1) = xs.map (·.1)) (e : ∀ (i : Nat) (v : List Key × V) (x : List Key × Da), vs[i]? = some v → xs[i]? = some x → Rp S v.2 x.2) : Rp S (.ref a) (.dtt xs)
  | ins {a C dx : Addr} {vs : List (Str × V)} {xs : List (Str × Da)} (h : S a = some (.ins C dx vs)) (l : vs.map (·.1) = xs.map (·.1)) (e : ∀ (i : Nat) (v : Str × V) (x : Str × Da), vs[i]? = some v → xs[i]? = some x → Rp S v.2 x.2) : Rp S (.ref a) (.ins C xs)
  | drw {a : Addr} {w : V} {x : Da} (h : S a = some (DrawO a w)) (e : Rp S w x) : Rp S (.ref a) (.drw x)
  | nm {v : V} {x : Da} (e : Rp S v x) : Rp S v (.nm v x)
  | tb {v : V} {a : Addr} {T : List (Addr × Str)} {x : Da} (h : S a = some (.tbl (encT T))) (e : Rp S v x) : Rp S v (.tb a T x)

def RpL (S : Hp) (vs : List V) (xs : List Da) : Prop := vs.length = xs.length ∧ ∀ (i : Nat) (v : V) (x : Da), vs[i]? = some v → xs[i]? = some x → Rp S v x
def RpK {κ : Type} (S : Hp) (vs : List (κ × V)) (xs : List (κ × Da)) : Prop := vs.map (·.1) = xs.map (·.1) ∧ ∀ (i : Nat) (v : κ × V) (x : κ × Da), vs[i]? = some v → xs[i]? = some x → Rp S v.2 x.2
/-- more objects -/
def Gr (S S' : Hp) : Prop := ∀ a o, S a = some o → S' a = some o
theorem Gr.refl (S : Hp) : Gr S S := fun _ _ h => h
theorem Gr.trans {S T U : Hp} (a : Gr S T) (b : Gr T U) : Gr S U := fun x o h => b x o (a x o h)
theorem Gr.new {S : Hp} {p : Addr} {o : HO} (h : S p = none) : Gr S (upd S p o) := fun a u e => by rw [upd_ne (ne_of_none e h)]; exact e
theorem Rp.mono {S S' : Hp} {v : V} {d : Da} (g : Gr S S') (h : Rp S v d) : Rp S' v d := by
  induction h with
  | v x => exact .v x
  | tup h l _ ih => exact .tup (g _ _ h) l ih
  | lst h l _ ih => exact .lst (g _ _ h) l ih
  | dct h l _ ih => exact .dct (g _ _ h) l ih
  | dtt h l _ ih => exact .dtt (g _ _ h) l ih
  | ins h l _ ih => exact .ins (g _ _ h) l ih
  | drw h _ ih => exact .drw (g _ _ h) ih
  | nm _ ih => exact .nm ih
  | tb h _ ih => exact .tb (g _ _ h) ih
theorem RpL.mono {S S' : Hp} {vs : List V} {xs : List Da} (g : Gr S S') (h : RpL S vs xs) : RpL S' vs xs := ⟨h.1, fun i v x a b => (h.2 i v x a b).mono g⟩
theorem RpK.mono {κ : Type} {S S' : Hp} {vs : List (κ × V)} {xs : List (κ × Da)} (g : Gr S S') (h : RpK S vs xs) : RpK S' vs xs := ⟨h.1, fun i v x a b => (h.2 i v x a b).mono g⟩
theorem RpL.nil {S : Hp} : RpL S [] [] := ⟨rfl, fun i v x a _ => by simp at a⟩
theorem RpL.cons {S : Hp} {v : V} {x : Da} {vs : List V} {xs : List Da} (h : Rp S v x) (t : RpL S vs xs) : RpL S (v :: vs) (x :: xs) := ⟨by simp [t.1], fun i w y a b => by
  cases i with
  | zero => simp at a b; subst a b; exact h
  | succ i => exact t.2 i w y (by simpa using a) (by simpa using b)⟩
theorem RpL.append {S : Hp} {vs ws : List V} {xs ys : List Da} (h : RpL S vs xs) (t : RpL S ws ys) : RpL S (vs ++ ws) (xs ++ ys) := by
  refine ⟨by simp [h.1, t.1], fun i w y a b => ?_⟩
  by_cases hi : i < vs.length
  · rw [List.getElem?_append_left hi] at a
    rw [List.getElem?_append_left (by rw [← h.1]; exact hi)] at b
    exact h.2 i w y a b
  · rw [List.getElem?_append_right (by omega)] at a
    rw [List.getElem?_append_right (by rw [← h.1]; omega), ← h.1] at b
    exact t.2 _ w y a b
theorem RpL.snoc {S : Hp} {v : V} {x : Da} {vs : List V} {xs : List Da} (t : RpL S vs xs) (h : Rp S v x) : RpL S (vs ++ [v]) (xs ++ [x]) := t.append (.cons h .nil)
theorem RpL.get {S : Hp} {vs : List V} {xs : List Da} {i : Nat} {x : Da} (h : RpL S vs xs) (hx : xs[i]? = some x) : ∃ v, vs[i]? = some v ∧ Rp S v x := by
  have hi : i < xs.length := (List.getElem?_eq_some_iff.mp hx).1
  have hv : vs[i]? = some (vs[i]'(by rw [h.1]; exact hi)) := List.getElem?_eq_getElem _
  exact ⟨_, hv, h.2 i _ x hv hx⟩
theorem Rp.tupL {S : Hp} {a : Addr} {vs : List V} {xs : List Da} (h : S a = some (.tup vs)) (r : RpL S vs xs) : Rp S (.ref a) (.tup xs) := .tup h r.1 r.2
theorem Rp.lstL {S : Hp} {a : Addr} {vs : List V} {xs : List Da} (h : S a = some (.lst vs)) (r : RpL S vs xs) : Rp S (.ref a) (.lst xs) := .lst h r.1 r.2
theorem Rp.dctK {S : Hp} {a : Addr} {vs : List (Key × V)} {xs : List (Key × Da)} (h : S a = some (.dK vs)) (r : RpK S vs xs) : Rp S (.ref a) (.dct xs) := .dct h r.1 r.2
theorem Rp.dttK {S : Hp} {a : Addr} {vs : List (List Key × V)} {xs : List (List Key × Da)} (h : S a = some (.dT vs)) (r : RpK S vs xs) : Rp S (.ref a) (.dtt xs) := .dtt h r.1 r.2
theorem Rp.insK {S : Hp} {a C dx : Addr} {vs : List (Str × V)} {xs : List (Str × Da)} (h : S a = some (.ins C dx vs)) (r : RpK S vs xs) : Rp S (.ref a) (.ins C xs) := .ins h r.1 r.2
theorem Rp.v_inv {S : Hp} {v x : V} (h : Rp S v (.v x)) : v = x := by cases h; rfl
theorem Rp.tup_inv {S : Hp} {v : V} {xs : List Da} (h : Rp S v (.tup xs)) : ∃ a vs, v = .ref a ∧ S a = some (.tup vs) ∧ RpL S vs xs := by cases h with | tup h l e => exact ⟨_, _, rfl, h, l, e⟩
theorem Rp.lst_inv {S : Hp} {v : V} {xs : List Da} (h : Rp S v (.lst xs)) : ∃ a vs, v = .ref a ∧ S a = some (.lst vs) ∧ RpL S vs xs := by cases h with | lst h l e => exact ⟨_, _, rfl, h, l, e⟩
theorem Rp.dct_inv {S : Hp} {v : V} {xs : List (Key × Da)} (h : Rp S v (.dct xs)) : ∃ a vs, v = .ref a ∧ S a = some (.dK vs) ∧ RpK S vs xs := by cases h with | dct h l e => exact ⟨_, _, rfl, h, l, e⟩
theorem Rp.dtt_inv {S : Hp} {v : V} {xs : List (List Key × Da)} (h : Rp S v (.dtt xs)) : ∃ a vs, v = .ref a ∧ S a = some (.dT vs) ∧ RpK S vs xs := by cases h with | dtt h l e => exact ⟨_, _, rfl, h, l, e⟩
theorem Rp.tb_inv {S : Hp} {v : V} {a : Addr} {T : List (Addr × Str)} {x : Da} (h : Rp S v (.tb a T x)) : S a = some (.tbl (encT T)) ∧ Rp S v x := by cases h with | tb h e => exact ⟨h, e⟩
theorem Rp.nm_inv {S : Hp} {v w : V} {x : Da} (h : Rp S v (.nm w x)) : v = w ∧ Rp S v x := by cases h with | nm e => exact ⟨rfl, e⟩
theorem Rp.drw_inv {S : Hp} {v : V} {x : Da} (h : Rp S v (.drw x)) : ∃ a w, v = .ref a ∧ S a = some (DrawO a w) ∧ Rp S w x := by cases h with | drw h e => exact ⟨_, _, rfl, h, e⟩
theorem Rp.ins_inv {S : Hp} {v : V} {C : Addr} {xs : List (Str × Da)} (h : Rp S v (.ins C xs)) : ∃ a dx vs, v = .ref a ∧ S a = some (.ins C dx vs) ∧ RpK S vs xs := by cases h with | ins h l e => exact ⟨_, _, _, rfl, h, l, e⟩
/-- a list of atoms -/
theorem RpL.atoms {S : Hp} {α : Type} {f : α → V} : ∀ {xs : List α} {vs : List V}, RpL S vs (xs.map fun x => Da.v (f x)) → vs = xs.map f := by
  intro xs vs h
  refine List.ext_getElem? fun i => ?_
  rw [List.getElem?_map]
  cases hx : xs[i]? with
  | none =>
    have : vs.length ≤ i := by rw [h.1, List.length_map]; exact List.getElem?_eq_none_iff.mp hx
    rw [List.getElem?_eq_none this]; rfl
  | some x =>
    obtain ⟨v, hv, r⟩ := h.get (i := i) (x := Da.v (f x)) (by rw [List.getElem?_map, hx]; rfl)
    rw [hv, r.v_inv]; rfl
theorem RpL.of_atoms {S : Hp} {α : Type} (f : α → V) (xs : List α) : RpL S (xs.map f) (xs.map fun x => Da.v (f x)) := ⟨by simp, fun i v x a b => by
  rw [List.getElem?_map] at a b
  cases hx : xs[i]? with
  | none => rw [hx] at a; cases a
  | some y => rw [hx] at a b; cases a; cases b; exact .v _⟩

/-! ### the parts of the heap: S what is public (only grows), F what is one's own (exact) -/
def isDic : HO → Prop
  | .dK _ => True
  | .dT _ => True
  | _ => False
/-- as it stands; a dict may be locked -/
def At (H : Hp) (a : Addr) (o : HO) : Prop := H a = some o ∨ (isDic o ∧ ∃ ob, H a = some (.frz ob o))
/-- what the tables and the code objects are told by -/
def isTE : HO → Prop
  | .tbl _ => True
  | .ext _ => True
  | _ => False
theorem isDic.nt {o : HO} (h : isDic o) : ∀ ps, o ≠ .tbl ps := fun ps z => by subst z; exact h
theorem isDic.nte {o : HO} (h : isDic o) : ¬ isTE o := by cases o <;> first | exact h.elim | exact fun z => z
structure Sep (S F H : Hp) : Prop where
  pub0 : ∀ a o, S a = some o → (∀ ps, o ≠ .tbl ps) → At H a o
  tab : ∀ a ps, S a = some (.tbl ps) → ∃ T, ps = encT T ∧ LamX.Tabs T H ∧ ∃ q, (a, q) ∈ T
  one : ∀ a b ps qs, S a = some (.tbl ps) → S b = some (.tbl qs) → ps = qs
  prv : ∀ a o, F a = some o → H a = some o
  apart : ∀ a o, S a = some o → F a = none
  ntup : ∀ a vs, F a ≠ some (.tup vs)
  nte : ∀ a o, F a = some o → ¬ isTE o
theorem Sep.pub {S F H : Hp} (s : Sep S F H) (a : Addr) (o : HO) (h : S a = some o) (n : ∀ ps, o ≠ .tbl ps := by exact fun _ z => nomatch z) : At H a o := s.pub0 a o h n
theorem tabs_upd {T : List (Addr × Str)} {H : Hp} {p : Addr} {o' : HO} (t : LamX.Tabs T H) (h : ∀ o, H p = some o → ¬ isTE o) : LamX.Tabs T (upd H p o') := fun q hq => by
  obtain ⟨ps, h1, h2, h3⟩ := t q hq
  have n1 : q.1 ≠ p := fun z => by rw [z] at h1; exact h _ h1 True.intro
  refine ⟨ps, by rw [upd_ne n1]; exact h1, h2, fun pos cv hc => ?_⟩
  obtain ⟨c, e1, e2⟩ := h3 pos cv hc
  have n2 : c ≠ p := fun z => by rw [z] at e2; exact h _ e2 True.intro
  exact ⟨c, e1, by rw [upd_ne n2]; exact e2⟩
theorem Sep.tabU {S F H : Hp} {p : Addr} {o' : HO} (s : Sep S F H) (h : ∀ o, H p = some o → ¬ isTE o) : ∀ a ps, S a = some (.tbl ps) → ∃ T, ps = encT T ∧ LamX.Tabs T (upd H p o') ∧ ∃ q, (a, q) ∈ T := fun a ps e => by
  obtain ⟨T, h3, h4, h5⟩ := s.tab a ps e
  exact ⟨T, h3, tabs_upd h4 h, h5⟩
theorem Sep.tabAt {S F H : Hp} {a : Addr} {ps : Array Value} (s : Sep S F H) (e : S a = some (.tbl ps)) : ∃ qs, H a = some (.tbl qs) := by
  obtain ⟨T, _, h4, q, h5⟩ := s.tab a ps e
  obtain ⟨qs, h, _⟩ := h4 _ h5
  exact ⟨qs, h⟩
theorem Sep.tabs {S F H : Hp} {a : Addr} {T : List (Addr × Str)} (s : Sep S F H) (e : S a = some (.tbl (encT T))) : LamX.Tabs T H := by
  obtain ⟨T', h3, h4, _⟩ := s.tab a _ e
  rw [encT_inj h3]; exact h4
/-- what is known stays known -/
def Loose (H : Hp) (a : Addr) : Prop := H a = none ∨ ∃ ps, H a = some (.tbl ps)
def Kf (H H' : Hp) : Prop := ∀ a, Loose H a ∨ (¬ Loose H' a ∧ ∀ o u, H a = some (.frz o u) ↔ H' a = some (.frz o u))
theorem loose_no {H : Hp} {a : Addr} {o : HO} (h : H a = some o) (n : ∀ ps, o ≠ .tbl ps) : ¬ Loose H a := fun z => by
  rcases z with z | ⟨ps, z⟩
  · rw [h] at z; cases z
  · rw [h] at z; exact n ps (Option.some.inj z)
theorem Kf.keep {H H' : Hp} {a : Addr} {o : Obj} {u : HO} (k : Kf H H') (h : H a = some (.frz o u)) : H' a = some (.frz o u) := by
  rcases k a with z | ⟨_, z⟩
  · exact absurd z (loose_no h fun _ z => nomatch z)
  · exact (z o u).mp h
theorem Kf.back {H H' : Hp} {a : Addr} {o : Obj} {u w : HO} (k : Kf H H') (h : H' a = some (.frz o u)) (h0 : H a = some w) (n : ∀ ps, w ≠ .tbl ps) : H a = some (.frz o u) := by
  rcases k a with z | ⟨_, z⟩
  · exact absurd z (loose_no h0 n)
  · exact (z o u).mpr h
theorem Kf.of {H H' : Hp} {a : Addr} (e : H' a = H a) : Loose H a ∨ (¬ Loose H' a ∧ ∀ o u, H a = some (.frz o u) ↔ H' a = some (.frz o u)) := by
  by_cases q : Loose H a
  · exact .inl q
  · refine .inr ⟨fun z => q ?_, fun o u => by rw [e]⟩
    unfold Loose at z ⊢
    rwa [e] at z
theorem Kf.refl (H : Hp) : Kf H H := fun _ => Kf.of rfl
theorem Kf.trans {H H1 H2 : Hp} (a : Kf H H1) (b : Kf H1 H2) : Kf H H2 := fun x => by
  rcases a x with z | ⟨z1, z2⟩
  · exact .inl z
  · rcases b x with y | ⟨y1, y2⟩
    · exact absurd y z1
    · exact .inr ⟨y1, fun o u => (z2 o u).trans (y2 o u)⟩
theorem Kf.new {H : Hp} {p : Addr} {o : HO} (h : H p = none) (n : ∀ b v, o ≠ .frz b v := by exact fun _ _ z => nomatch z) : Kf H (upd H p o) := fun a => by
  by_cases e : a = p
  · subst e
    exact .inl (.inl h)
  · exact Kf.of (upd_ne e)
theorem Kf.put {H : Hp} {p : Addr} {o u : HO} (h : H p = some o) (n : ∀ ob v, o ≠ .frz ob v) (n' : ∀ b v, u ≠ .frz b v := by exact fun _ _ z => nomatch z) (n2 : ∀ ps, u ≠ .tbl ps := by exact fun _ z => nomatch z) : Kf H (upd H p u) := fun a => by
  by_cases e : a = p
  · subst e
    refine .inr ⟨loose_no upd_same n2, fun ob v => ?_⟩
    rw [upd_same, h]
    exact ⟨fun z => absurd (Option.some.inj z) (n ob v), fun z => absurd (Option.some.inj z) (n' ob v)⟩
  · exact Kf.of (upd_ne e)
section
variable {S F H : Hp} {p : Addr} {o : HO}
theorem At.rd {H : Hp} {a : Addr} {u : HO} (r : At H a u) : Rd H a u := by
  rcases r with r | ⟨_, r⟩
  · exact .inl r
  · exact .inr r
theorem rd_get {H : Hp} {a : Addr} {u : HO} (r : At H a u) : ∃ o, H a = some o := by
  rcases r with r | ⟨_, o, r⟩
  · exact ⟨_, r⟩
  · exact ⟨_, r⟩
theorem rd_ne {H : Hp} {a p : Addr} {u o : HO} (r : At H a u) (h : a ≠ p) : At (upd H p o) a u := by
  rcases r with r | ⟨d, ob, r⟩
  · exact .inl (by rw [upd_ne h]; exact r)
  · exact .inr ⟨d, ob, by rw [upd_ne h]; exact r⟩
theorem rd_nn {H : Hp} {a p : Addr} {u : HO} (r : At H a u) (h : H p = none) : a ≠ p := by
  obtain ⟨o, e⟩ := rd_get r
  exact ne_of_none e h
theorem Sep.freeS (s : Sep S F H) (h : H p = none) : S p = none := by
  cases e : S p with
  | none => rfl
  | some o =>
    by_cases ht : ∃ ps, o = .tbl ps
    · obtain ⟨ps, rfl⟩ := ht
      obtain ⟨_, q⟩ := s.tabAt e
      rw [h] at q; cases q
    · obtain ⟨u, q⟩ := rd_get (s.pub0 p o e fun ps z => ht ⟨ps, z⟩); rw [h] at q; cases q
theorem Sep.freeF (s : Sep S F H) (h : H p = none) : F p = none := by
  cases e : F p with
  | none => rfl
  | some o => rw [s.prv p o e] at h; cases h
theorem none_nte (h : H p = none) : ∀ o, H p = some o → ¬ isTE o := fun o e => by rw [h] at e; cases e
/-- a new public object -/
theorem Sep.new (s : Sep S F H) (h : H p = none) (n : ∀ ps, o ≠ .tbl ps := by exact fun _ z => nomatch z) : Sep (upd S p o) F (upd H p o) where
  pub0 := fun a u e nt => by
    by_cases ha : a = p
    · subst ha; rw [upd_same] at e; cases e; exact .inl upd_same
    · rw [upd_ne ha] at e; exact rd_ne (s.pub0 a u e nt) ha
  tab := fun a ps e => by
    by_cases ha : a = p
    · subst ha; rw [upd_same] at e; exact absurd (Option.some.inj e) (n ps)
    · rw [upd_ne ha] at e; exact s.tabU (none_nte h) a ps e
  one := fun a b ps qs e e' => by
    have ha : a ≠ p := fun z => by subst z; rw [upd_same] at e; exact n ps (Option.some.inj e)
    have hb : b ≠ p := fun z => by subst z; rw [upd_same] at e'; exact n qs (Option.some.inj e')
    rw [upd_ne ha] at e; rw [upd_ne hb] at e'
    exact s.one a b ps qs e e'
  prv := fun a u e => by rw [upd_ne (ne_of_none e (s.freeF h))]; exact s.prv a u e
  apart := fun a u e => by
    by_cases ha : a = p
    · subst ha; exact s.freeF h
    · rw [upd_ne ha] at e; exact s.apart a u e
  ntup := s.ntup
  nte := s.nte
theorem ntup_upd {F : Hp} {p : Addr} {o : HO} (h : ∀ a vs, F a ≠ some (.tup vs)) (n : ∀ vs, o ≠ .tup vs) : ∀ a vs, upd F p o a ≠ some (.tup vs) := fun a vs e => by
  by_cases ha : a = p
  · subst ha; rw [upd_same] at e; exact n vs (Option.some.inj e)
  · rw [upd_ne ha] at e; exact h a vs e
theorem nte_upd {F : Hp} {p : Addr} {o : HO} (h : ∀ a u, F a = some u → ¬ isTE u) (n : ¬ isTE o) : ∀ a u, upd F p o a = some u → ¬ isTE u := fun a u e => by
  by_cases ha : a = p
  · subst ha; rw [upd_same] at e; cases e; exact n
  · rw [upd_ne ha] at e; exact h a u e
/-- a new object of one's own -/
theorem Sep.newF (s : Sep S F H) (h : H p = none) (n : ∀ vs, o ≠ .tup vs := by exact fun _ z => nomatch z) (n2 : ¬ isTE o := by exact fun z => z) : Sep S (upd F p o) (upd H p o) where
  pub0 := fun a u e nt => rd_ne (s.pub0 a u e nt) (ne_of_none e (s.freeS h))
  tab := s.tabU (none_nte h)
  one := s.one
  prv := fun a u e => by
    by_cases ha : a = p
    · subst ha; rw [upd_same] at e ⊢; exact e
    · rw [upd_ne ha] at e ⊢; exact s.prv a u e
  apart := fun a u e => by rw [upd_ne (ne_of_none e (s.freeS h))]; exact s.apart a u e
  ntup := ntup_upd s.ntup n
  nte := nte_upd s.nte n2
/-- an object of one's own is changed -/
theorem Sep.put {u : HO} (s : Sep S F H) (h : F p = some o) (n : ∀ vs, u ≠ .tup vs := by exact fun _ z => nomatch z) (n2 : ¬ isTE u := by exact fun z => z) : Sep S (upd F p u) (upd H p u) where
  pub0 := fun a v e nt => rd_ne (s.pub0 a v e nt) fun z => by subst z; rw [s.apart a v e] at h; cases h
  tab := s.tabU fun o' e => by rw [s.prv p o h] at e; cases e; exact s.nte p o h
  one := s.one
  prv := fun a v e => by
    by_cases ha : a = p
    · subst ha; rw [upd_same] at e ⊢; exact e
    · rw [upd_ne ha] at e ⊢; exact s.prv a v e
  apart := fun a v e => by rw [upd_ne (fun z => by subst z; rw [s.apart a v e] at h; cases h)]; exact s.apart a v e
  ntup := ntup_upd s.ntup n
  nte := nte_upd s.nte n2
/-- without an object of one's own -/
def rem (F : Hp) (p : Addr) : Hp := fun a => if a = p then none else F a
theorem rem_upd {F : Hp} {p : Addr} {o : HO} (h : F p = none) : rem (upd F p o) p = F := by
  funext a; unfold rem upd; split
  · next e => rw [e, h]
  · rfl
/-- an object of one's own is made public -/
theorem Sep.tell (s : Sep S F H) (h : F p = some o) : Sep (upd S p o) (rem F p) H where
  pub0 := fun a u e nt => by
    by_cases ha : a = p
    · subst ha; rw [upd_same] at e; cases e; exact .inl (s.prv _ _ h)
    · rw [upd_ne ha] at e; exact s.pub0 a u e nt
  tab := fun a ps e => by
    by_cases ha : a = p
    · subst ha; rw [upd_same] at e; cases e; exact absurd True.intro (s.nte _ _ h)
    · rw [upd_ne ha] at e; exact s.tab a ps e
  one := fun a b ps qs e e' => by
    have ha : a ≠ p := fun z => by subst z; rw [upd_same] at e; cases e; exact absurd True.intro (s.nte _ _ h)
    have hb : b ≠ p := fun z => by subst z; rw [upd_same] at e'; cases e'; exact absurd True.intro (s.nte _ _ h)
    rw [upd_ne ha] at e; rw [upd_ne hb] at e'
    exact s.one a b ps qs e e'
  prv := fun a u e => by
    unfold rem at e; split at e
    · cases e
    · exact s.prv a u e
  apart := fun a u e => by
    unfold rem; split
    · rfl
    · next ha => rw [upd_ne ha] at e; exact s.apart a u e
  ntup := fun a vs e => by
    unfold rem at e; split at e
    · cases e
    · exact s.ntup a vs e
  nte := fun a u e => by
    unfold rem at e; split at e
    · cases e
    · exact s.nte a u e
theorem Sep.freeSF (s : Sep S F H) (h : F p = some o) : S p = none := by
  cases e : S p with
  | none => rfl
  | some u => rw [s.apart p u e] at h; cases h
theorem at_nte (d : isDic o) (r : At H p o) : ∀ u, H p = some u → ¬ isTE u := fun u e => by
  rcases r with r | ⟨_, ob, r⟩
  · rw [r] at e; cases e; exact d.nte
  · rw [r] at e; cases e; exact fun z => z
/-- a lock -/
theorem Sep.lock {ob : Obj} (s : Sep S F H) (h : S p = some o) (d : isDic o) : Sep S F (upd H p (.frz ob o)) where
  pub0 := fun a u e nt => by
    by_cases ha : a = p
    · subst ha; rw [h] at e; cases e; exact .inr ⟨d, ob, upd_same⟩
    · exact rd_ne (s.pub0 a u e nt) ha
  tab := s.tabU (at_nte d (s.pub0 p o h d.nt))
  one := s.one
  prv := fun a u e => by rw [upd_ne (fun z => by subst z; rw [s.apart a o h] at e; cases e)]; exact s.prv a u e
  apart := s.apart
  ntup := s.ntup
  nte := s.nte
theorem Sep.unlock (s : Sep S F H) (h : S p = some o) (d : isDic o := by exact True.intro) : Sep S F (upd H p o) where
  pub0 := fun a u e nt => by
    by_cases ha : a = p
    · subst ha; rw [h] at e; cases e; exact .inl upd_same
    · exact rd_ne (s.pub0 a u e nt) ha
  tab := s.tabU (at_nte d (s.pub0 p o h d.nt))
  one := s.one
  prv := fun a u e => by rw [upd_ne (fun z => by subst z; rw [s.apart a o h] at e; cases e)]; exact s.prv a u e
  apart := s.apart
  ntup := s.ntup
  nte := s.nte
/-- a tuple that stands is made public -/
theorem Sep.seen {vs : List V} (s : Sep S F H) (h : H p = some (.tup vs)) : ∃ S', Gr S S' ∧ Sep S' F H ∧ S' p = some (.tup vs) := by
  have hF : F p = none := by
    cases e : F p with
    | none => rfl
    | some o => have := s.prv p o e; rw [h] at this; cases this; exact absurd e (s.ntup p vs)
  cases e : S p with
  | some o =>
    refine ⟨S, Gr.refl S, s, ?_⟩
    by_cases ht : ∃ ps, o = .tbl ps
    · obtain ⟨ps, rfl⟩ := ht
      obtain ⟨_, q⟩ := s.tabAt e
      rw [h] at q; cases q
    · rcases s.pub0 p o e (fun ps z => ht ⟨ps, z⟩) with z | ⟨d, ob, z⟩
      · rw [h] at z; cases z; exact e
      · rw [h] at z; cases z
  | none => exact ⟨upd S p (.tup vs), Gr.new e, ⟨fun a u q nt => by
      by_cases ha : a = p
      · subst ha; rw [upd_same] at q; cases q; exact .inl h
      · rw [upd_ne ha] at q; exact s.pub0 a u q nt, fun a ps q => by
      by_cases ha : a = p
      · subst ha; rw [upd_same] at q; cases q
      · rw [upd_ne ha] at q; exact s.tab a ps q, fun a b ps qs q q' => by
      have ha : a ≠ p := fun z => by subst z; rw [upd_same] at q; cases q
      have hb : b ≠ p := fun z => by subst z; rw [upd_same] at q'; cases q'
      rw [upd_ne ha] at q; rw [upd_ne hb] at q'
      exact s.one a b ps qs q q', s.prv, fun a u q => by
      by_cases ha : a = p
      · subst ha; exact hF
      · rw [upd_ne ha] at q; exact s.apart a u q, s.ntup, s.nte⟩, upd_same⟩
theorem Sep.sql {K : PySem.W.Frag} {vs : List V} (s : Sep S F H) (h : S p = some (.lst vs)) : SqL K H p vs := .inl (s.pub p _ h).rd
theorem Sep.sqt {K : PySem.W.Frag} {vs : List V} (s : Sep S F H) (h : S p = some (.tup vs)) : SqT K H p vs := .inl (s.pub p _ h).rd
theorem Sep.rd (s : Sep S F H) (h : S p = some o) (n : ∀ ps, o ≠ .tbl ps := by exact fun _ z => nomatch z) : Rd H p o := (s.pub p o h n).rd
theorem Sep.at (s : Sep S F H) (h : S p = some o) (n : ¬ isDic o := by exact fun z => z) (n2 : ∀ ps, o ≠ .tbl ps := by exact fun _ z => nomatch z) : H p = some o := by
  rcases s.pub p o h n2 with z | ⟨d, _⟩
  · exact z
  · exact absurd d n
end
/-- instances and tuples are never frozen: read as they stand -/
theorem Kf.unlock {H H' : Hp} {p : Addr} {o : HO} {ob : Obj} (h : H p = some o) (n : ∀ b v, o ≠ .frz b v) (k : Kf (upd H p (.frz ob o)) H') (n2 : ∀ ps, o ≠ .tbl ps := by exact fun _ z => nomatch z) : Kf H (upd H' p o) := fun a => by
  by_cases e : a = p
  · subst e
    refine .inr ⟨loose_no upd_same n2, fun b v => ?_⟩
    rw [upd_same, h]
  · have := k a
    unfold Loose at this ⊢
    rw [upd_ne e] at this ⊢
    exact this

/-! ### the slots -/
abbrev En := List (Option Da)
def SlE (S : Hp) (σ : L2.St) (env : En) : Prop := σ.length = env.length ∧ ∀ (i : Nat) (d : Da), env[i]? = some (some d) → ∃ v, σ[i]? = some (some v) ∧ Rp S v d
section
variable {S S' : Hp} {σ : L2.St} {env : En}
theorem SlE.mono (g : Gr S S') (h : SlE S σ env) : SlE S' σ env := ⟨h.1, fun i d e => let ⟨v, a, b⟩ := h.2 i d e; ⟨v, a, b.mono g⟩⟩
theorem SlE.set {v : V} {d : Da} (i : Nat) (h : SlE S σ env) (r : Rp S v d) : SlE S (σ.set i (some v)) (env.set i (some d)) := ⟨by rw [List.length_set, List.length_set]; exact h.1, fun j e q => by
  by_cases hj : i = j
  · subst hj
    have hl : i < env.length := by
      have := (List.getElem?_eq_some_iff.mp q).1
      rwa [List.length_set] at this
    rw [List.getElem?_set_self hl] at q
    cases q
    exact ⟨v, List.getElem?_set_self (by rw [h.1]; exact hl), r⟩
  · rw [List.getElem?_set_ne hj] at q ⊢
    exact h.2 j e q⟩
/-- the slot is forgotten -/
theorem SlE.none {v : Option V} (i : Nat) (h : SlE S σ env) : SlE S (σ.set i v) (env.set i none) := ⟨by rw [List.length_set, List.length_set]; exact h.1, fun j e q => by
  by_cases hj : i = j
  · subst hj
    by_cases hl : i < env.length
    · rw [List.getElem?_set_self hl] at q; cases q
    · rw [List.getElem?_eq_none (by rw [List.length_set]; omega)] at q; cases q
  · rw [List.getElem?_set_ne hj] at q ⊢
    exact h.2 j e q⟩
def wipeE (env : En) : List Nat → En
  | [] => env
  | v :: vs => (wipeE env vs).set v none
theorem SlE.wipe (h : SlE S σ env) : ∀ vs : List Nat, SlE S (wipe σ vs) (wipeE env vs)
  | [] => h
  | v :: vs => (SlE.wipe h vs).none v
theorem SlE.weak {env' : En} (h : SlE S σ env) (l : env'.length = env.length) (w : ∀ (i : Nat) (d : Da), env'[i]? = some (some d) → env[i]? = some (some d)) : SlE S σ env' := ⟨h.1.trans l.symm, fun i d e => h.2 i d (w i d e)⟩
theorem wipe_set {σ : L2.St} {j : Nat} {x : Option V} : ∀ {vs : List Nat}, j ∈ vs → L2.wipe (σ.set j x) vs = L2.wipe σ vs
  | [], h => by simp at h
  | v :: vs, h => by
    unfold L2.wipe
    by_cases hj : j ∈ vs
    · rw [wipe_set hj]
    · have e : j = v := by rcases List.mem_cons.mp h with e | e; exact e; exact absurd e hj
      subst e
      have : ∀ ws : List Nat, (L2.wipe (σ.set j x) ws).set j none = (L2.wipe σ ws).set j none := by
        intro ws
        induction ws with
        | nil => show (σ.set j x).set j none = σ.set j none; rw [List.set_set]
        | cons w ws ih =>
          show ((L2.wipe (σ.set j x) ws).set w none).set j none = ((L2.wipe σ ws).set w none).set j none
          by_cases hw : w = j
          · subst hw; rw [List.set_set, List.set_set]; exact ih
          · rw [List.set_comm _ _ hw, List.set_comm _ _ hw, ih]
      exact this vs
theorem wipe_wipe {σ : L2.St} : ∀ {ws vs : List Nat}, (∀ i ∈ ws, i ∈ vs) → L2.wipe (L2.wipe σ ws) vs = L2.wipe σ vs
  | [], vs, _ => rfl
  | w :: ws, vs, h => by
    show L2.wipe ((L2.wipe σ ws).set w none) vs = _
    rw [wipe_set (h w List.mem_cons_self)]
    exact wipe_wipe fun i hi => h i (List.mem_cons_of_mem _ hi)
end
end Em
set_option maxHeartbeats 1000000
/-! The logic over plain data (2): what an expression gives. -/
namespace Em
open PySem PySem.Spec PyProof.Rows L2

structure Fr where
  P : Program
  w : World
  K : PySem.W.Frag
  mg : Str → Option Value
  base : Heap
  N : List Str
  sc : Scope
  k : Nat
  pv : List (Addr × HO)
  own : Str → Bool
  /-- the def's code object, its qualified name -/
  cq : Option (Addr × Str)
/-- the objects of one's own that are looked at -/
def Fr.pf (f : Fr) (F : Hp) : Prop := ∀ p ∈ f.pv, F p.1 = some p.2
theorem Fr.pf_mono {f : Fr} {F F' : Hp} (g : Gr F F') (h : f.pf F) : f.pf F' := fun p hp => g _ _ (h p hp)
/-- a context of such a def (or of a block within it) -/
structure Okx (f : Fr) (X : Cx) : Prop where
  prog : X.prog = f.P
  w : X.w = f.w
  K : X.K = f.K
  mg : X.mg = f.mg
  base : X.base = f.base
  N : X.N = f.N
  sc : X.env.scope = f.sc
  calm : X.calm = true
  room : Room f.k X.A
  nox : X.xe = fun _ _ => False
  fn : ∀ x, f.own x = true → X.fn x = true
  nd : f.N.Nodup
  code : ∀ p, f.cq = some p → X.env.code = .ref p.1 ∧ X.env.qual = p.2
/-- the block of a comprehension -/
abbrev Fr.blk (f : Fr) (scope : Scope) : Fr := { f with sc := relS scope f.sc, own := fun x => scope.names.lookup x == some .cell }
theorem Okx.blk {f : Fr} {X : Cx} (h : Okx f X) (s : Shared) (H : Hp) (scope : Scope) (C : Addr) (cl : List (Str × Addr)) (fp : List Addr) : Okx (f.blk scope) (X.blk s H scope (compEnvC scope cl C X.env) fp) where
  prog := h.prog
  w := h.w
  K := h.K
  mg := h.mg
  base := h.base
  N := h.N
  sc := by show relS scope X.env.scope = relS scope f.sc; rw [h.sc]
  calm := h.calm
  room := h.room
  nox := rfl
  fn := fun x e => e
  nd := h.nd
  code := h.code

/-! ### the weakest readings -/
section
variable (f : Fr)
def wE (e : Expr) : TE := fun σ H Q => ∀ X pins s, Okx f X → Inv X pins σ H s → wpAny (model X.prog X.w) X.A (eval e X.env) (EP X pins σ Q) X.xe s
def wT (e : Expr) : TT := fun σ H Q => ∀ X pins s, Okx f X → Inv X pins σ H s → wpAny (model X.prog X.w) X.A (isTrue e X.env (eval e X.env)) (TP X pins σ Q) X.xe s
def wW (e : Expr) : TT := fun σ H Q => ∀ X pins s whole, Okx f X → Inv X pins σ H s → wpAny (model X.prog X.w) X.A (isTrue e X.env whole) (TP X pins σ Q) X.xe s
def wA (es : List Expr) : TA := fun σ H Q => ∀ X pins s pos, Okx f X → Inv X pins σ H s → wpAny (model X.prog X.w) X.A (spliced (backTo pos (starEach es X.env))) (AP X pins σ Q) X.xe s
def wO (m : Value → Value → Sem Value) : R2 := fun x y H Q => ∀ X pins s σ v u, Okx f X → Inv X pins σ H s → RelV x v → RelV y u → wpAny (model X.prog X.w) X.A (m v u) (EP X pins σ Q) X.xe s
end
section
variable {f : Fr} {X : Cx}
theorem pw_e {e : Expr} (h : Okx f X) : PE X e (wE f e) := ⟨fun pins s σ H Q I q => q X pins s h I⟩
theorem pw_t {e : Expr} (h : Okx f X) : PT X e (wT f e) := ⟨fun pins s σ H Q I q => q X pins s h I⟩
theorem pw_w {e : Expr} (h : Okx f X) : PW X e (wW f e) := ⟨fun wh pins s σ H Q I q => q X pins s wh h I⟩
theorem pw_a {es : List Expr} (h : Okx f X) : PA X es (wA f es) := ⟨fun pos pins s σ H Q I q => q X pins s pos h I⟩
theorem wE_of {e : Expr} {te : TE} (h : ∀ X, Okx f X → PE X e te) {σ : L2.St} {H : Hp} {Q : VK} (q : te σ H Q) : wE f e σ H Q := fun X pins s hX I => (h X hX).run pins s σ H Q I q
theorem wT_of {e : Expr} {te : TT} (h : ∀ X, Okx f X → PT X e te) {σ : L2.St} {H : Hp} {Q : Bool → Hp → Prop} (q : te σ H Q) : wT f e σ H Q := fun X pins s hX I => (h X hX).run pins s σ H Q I q
theorem wW_of {e : Expr} {te : TT} (h : ∀ X, Okx f X → PW X e te) {σ : L2.St} {H : Hp} {Q : Bool → Hp → Prop} (q : te σ H Q) : wW f e σ H Q := fun X pins s wh hX I => (h X hX).run wh pins s σ H Q I q
theorem wA_of {es : List Expr} {ta : TA} (h : ∀ X, Okx f X → PA X es ta) {σ : L2.St} {H : Hp} {Q : List V → Hp → Prop} (q : ta σ H Q) : wA f es σ H Q := fun X pins s pos hX I => (h X hX).run pos pins s σ H Q I q
theorem wO_op {m : Value → Value → Sem Value} (h : Okx f X) : OpR X m (wO f m) := fun pins s σ H x y v u Q I rx ry q => q X pins s σ v u h I rx ry
theorem wO_of {m : Value → Value → Sem Value} {r : R2} (h : ∀ X, Okx f X → OpR X m r) {x y : V} {H : Hp} {Q : VK} (q : r x y H Q) : wO f m x y H Q := fun X pins s σ v u hX I rx ry => h X hX pins s σ H x y v u Q I rx ry q
end

/-! ### what is wanted of an end -/
def PQ (S F H : Hp) (z : Da) (Q : VK) : Prop := ∀ v S' H', Gr S S' → Sep S' F H' → Kf H H' → Rp S' v z → Q v H'
def PB (S F H : Hp) (b : Bool) (Q : Bool → Hp → Prop) : Prop := ∀ S' H', Gr S S' → Sep S' F H' → Kf H H' → Q b H'
def PL (S F H : Hp) (zs : List Da) (Q : List V → Hp → Prop) : Prop := ∀ vs S' H', Gr S S' → Sep S' F H' → Kf H H' → RpL S' vs zs → Q vs H'
theorem PQ.step {S F H S1 H1 : Hp} {z : Da} {Q : VK} (p : PQ S F H z Q) (g : Gr S S1) (k : Kf H H1) : PQ S1 F H1 z Q := fun v S' H' g' s' k' r => p v S' H' (g.trans g') s' (k.trans k') r
theorem PB.step {S F H S1 H1 : Hp} {z : Bool} {Q : Bool → Hp → Prop} (p : PB S F H z Q) (g : Gr S S1) (k : Kf H H1) : PB S1 F H1 z Q := fun S' H' g' s' k' => p S' H' (g.trans g') s' (k.trans k')
theorem PL.step {S F H S1 H1 : Hp} {z : List Da} {Q : List V → Hp → Prop} (p : PL S F H z Q) (g : Gr S S1) (k : Kf H H1) : PL S1 F H1 z Q := fun v S' H' g' s' k' r => p v S' H' (g.trans g') s' (k.trans k') r
theorem PQ.here {S F H : Hp} {z : Da} {Q : VK} {v : V} (p : PQ S F H z Q) (s : Sep S F H) (r : Rp S v z) : Q v H := p v S H (Gr.refl _) s (Kf.refl _) r
theorem PB.here {S F H : Hp} {b : Bool} {Q : Bool → Hp → Prop} (p : PB S F H b Q) (s : Sep S F H) : Q b H := p S H (Gr.refl _) s (Kf.refl _)
theorem PL.here {S F H : Hp} {z : List Da} {Q : List V → Hp → Prop} {v : List V} (p : PL S F H z Q) (s : Sep S F H) (r : RpL S v z) : Q v H := p v S H (Gr.refl _) s (Kf.refl _) r
/-- a new public object is the answer -/
theorem PQ.fresh {S F H : Hp} {z : Da} {Q : VK} {p : Addr} {o : HO} (q : PQ S F H z Q) (s : Sep S F H) (hp : H p = none) (r : Rp (upd S p o) (.ref p) z) (n : ∀ b v, o ≠ .frz b v := by exact fun _ _ z => nomatch z) (n2 : ∀ ps, o ≠ .tbl ps := by exact fun _ z => nomatch z) : Q (.ref p) (upd H p o) :=
  q _ _ _ (Gr.new (s.freeS hp)) (s.new hp n2) (Kf.new hp n) r

def EX (f : Fr) (env : En) (e : Expr) (d : Da) : Prop := ∀ S F σ H, f.pf F → SlE S σ env → Sep S F H → ∀ Q, PQ S F H d Q → wE f e σ H Q
def ET (f : Fr) (env : En) (e : Expr) (b : Bool) : Prop := ∀ S F σ H, f.pf F → SlE S σ env → Sep S F H → ∀ Q, PB S F H b Q → wT f e σ H Q
/-- a test whatever its whole is (within and, or) -/
def EW (f : Fr) (env : En) (e : Expr) (b : Bool) : Prop := ∀ S F σ H, f.pf F → SlE S σ env → Sep S F H → ∀ Q, PB S F H b Q → wW f e σ H Q
def EA (f : Fr) (env : En) (es : List Expr) (ds : List Da) : Prop := ∀ S F σ H, f.pf F → SlE S σ env → Sep S F H → ∀ Q, PL S F H ds Q → wA f es σ H Q
def OD (f : Fr) (m : Value → Value → Sem Value) (x y z : Da) : Prop := ∀ S F H vx vy, f.pf F → Sep S F H → Rp S vx x → Rp S vy y → ∀ Q, PQ S F H z Q → wO f m vx vy H Q

section
variable {f : Fr} {env : En} {pos : Pos}
theorem EX.cast {e : Expr} {d d' : Da} (h : EX f env e d) (q : d = d') : EX f env e d' := q ▸ h
theorem ET.cast {e : Expr} {d d' : Bool} (h : ET f env e d) (q : d = d') : ET f env e d' := q ▸ h
/-- fewer known slots suffice -/
theorem EX.weak {env' : En} {e : Expr} {d : Da} (h : EX f env' e d) (l : env'.length = env.length) (w : ∀ (i : Nat) (d : Da), env'[i]? = some (some d) → env[i]? = some (some d)) : EX f env e d := fun S F σ H hp hσ hs Q q => h S F σ H hp (hσ.weak l w) hs Q q

/-! ### names, constants -/
theorem ex_var (i : Nat) {x : Str} {d : Da} (he : env[i]? = some (some d) := by rfl) (hN : f.N[i]? = some x := by rfl) (hv : Vis f.sc x := by first | exact .inl rfl | exact .inr (.inl rfl) | exact .inr (.inr rfl))
    (hd : (x == ("__debug__" : Str)) = false := by decide) (hcd : (x == ("__classdict__" : Str)) = false := by decide) : EX f env (.Name x pos) d := fun S F σ H hp hσ hs Q q => by
  obtain ⟨v, a, b⟩ := hσ.2 i d he
  exact wE_of (fun X hX => pe_var (i := i) (by rw [hX.N]; exact hN) (by rw [hX.sc]; exact hv) hd hcd) ⟨v, a, q.here hs b⟩
theorem ex_int {i : Int} {j : Nat} : EX f env (.Constant (.int i) j pos) (dI i) := fun S F σ H hp hσ hs Q q => wE_of (fun X hX => pe_int) (q.here hs (.v _))
theorem ex_bl {i : Bool} {j : Nat} : EX f env (.Constant (.bool i) j pos) (dB i) := fun S F σ H hp hσ hs Q q => wE_of (fun X hX => pe_bl) (q.here hs (.v _))
theorem ex_str {i : Str} {j : Nat} : EX f env (.Constant (.str i) j pos) (dS i) := fun S F σ H hp hσ hs Q q => wE_of (fun X hX => pe_str) (q.here hs (.v _))
theorem ex_non {j : Nat} : EX f env (.Constant .none j pos) dN := fun S F σ H hp hσ hs Q q => wE_of (fun X hX => pe_non) (q.here hs (.v _))
def GlS (f : Fr) (x : Str) : Prop := f.sc.names.lookup x = some .globalImplicit
theorem GlS.gl {x : Str} {X : Cx} (h : GlS f x) (hX : Okx f X) : Gl X x := by show X.env.scope.names.lookup x = _; rw [hX.sc]; exact h
/-- a name of the module -/
theorem ex_glob {x : Str} {v : V} {u : Value} (hm : f.mg x = some u) (r : RelV v u) (hg : GlS f x := by rfl) (hd : (x == ("__debug__" : Str)) = false := by decide) : EX f env (.Name x pos) (.v v) := fun S F σ H hp hσ hs Q q =>
  wE_of (fun X hX => pe_glob (hg.gl hX) (by rw [hX.mg]; exact hm) r hd) (q.here hs (.v _))
/-- a builtin's name as a value -/
theorem ex_bltn {x : Str} {v : V} {u : Value} (hm : f.mg x = none) (hv : bootBuiltins x = some u) (r : RelV v u) (hg : GlS f x := by rfl) (hn : x ≠ "__name__" := by decide) (hd : (x == ("__debug__" : Str)) = false := by decide) : EX f env (.Name x pos) (.v v) := fun S F σ H hp hσ hs Q q =>
  wE_of (fun X hX => pe_bltn (hg.gl hX) (by rw [hX.mg]; exact hm) hv r hn hd) (q.here hs (.v _))

/-! ### operators -/
theorem OD.of {m : Value → Value → Sem Value} {x y z : Da} (r : R2) (h : ∀ X, Okx f X → OpR X m r) (q : ∀ S F H vx vy, f.pf F → Sep S F H → Rp S vx x → Rp S vy y → ∀ Q, PQ S F H z Q → r vx vy H Q) : OD f m x y z := fun S F H vx vy hp hs rx ry Q k =>
  wO_of h (q S F H vx vy hp hs rx ry Q k)
theorem tOp_run {m : Value → Value → Sem Value} {a b : Expr} {x y z : Da} (o : OD f m x y z) (ha : EX f env a x) (hb : EX f env b y) {S F : Hp} {σ : L2.St} {H : Hp} {Q : VK} (hp : f.pf F) (hσ : SlE S σ env) (hs : Sep S F H) (q : PQ S F H z Q) : tOp (wO f m) (wE f a) (wE f b) σ H Q :=
  ha S F σ H hp hσ hs _ fun v1 S1 H1 g1 s1 k1 r1 => hb S1 F σ H1 hp (hσ.mono g1) s1 _ fun v2 S2 H2 g2 s2 k2 r2 => o S2 F H2 v1 v2 hp s2 (r1.mono g2) r2 Q (q.step (g1.trans g2) (k1.trans k2))
theorem ex_op {op : Operator} {a b : Expr} {x y z : Da} (o : OD f (binaryOp op) x y z) (ha : EX f env a x) (hb : EX f env b y) : EX f env (.BinOp a op b pos) z := fun S F σ H hp hσ hs Q q =>
  wE_of (fun X hX => pe_op (wO_op hX) (pw_e hX) (pw_e hX)) (tOp_run o ha hb hp hσ hs q)
theorem ex_cmp {op : CmpOp} {a b : Expr} {x y z : Da} (o : OD f (compareOp op) x y z) (ha : EX f env a x) (hb : EX f env b y) (hm : behindInMarks op b = false := by first | exact nomark _ | rfl) : EX f env (.Compare a [op] [b] pos) z := fun S F σ H hp hσ hs Q q =>
  wE_of (fun X hX => pe_cmpR (wO_op hX) (pw_e hX) (pw_e hX) hm) (tOp_run o ha hb hp hσ hs q)
theorem et_cmp {op : CmpOp} {a b : Expr} {x y : Da} {c : Bool} (o : OD f (compareOp op) x y (dB c)) (ha : EX f env a x) (hb : EX f env b y) (hm : behindInMarks op b = false := by first | exact nomark _ | rfl) : ET f env (.Compare a [op] [b] pos) c := fun S F σ H hp hσ hs Q q =>
  wT_of (fun X hX => pt_cmpR (wO_op hX) (pw_e hX) (pw_e hX) hm) (tOp_run (z := dB c) o ha hb hp hσ hs fun v S' H' g s k r => by obtain rfl := r.v_inv; exact ⟨c, rfl, q S' H' g s k⟩)
theorem od_I0 {m : Value → Value → Sem Value} {g : Int → Int → V} (h : ∀ X : Cx, OpR X m (rI0 g)) (i j : Int) : OD f m (dI i) (dI j) (.v (g i j)) := .of _ (fun X _ => h X) fun S F H vx vy hp hs rx ry Q k => by
  obtain rfl := rx.v_inv; obtain rfl := ry.v_inv; exact ⟨i, j, rfl, rfl, k.here hs (.v _)⟩
theorem od_I {m : Value → Value → Sem Value} {C : Int → Int → Prop} {g : Int → Int → V} (h : ∀ X : Cx, OpR X m (rI C g)) {i j : Int} (c : C i j) : OD f m (dI i) (dI j) (.v (g i j)) := .of _ (fun X _ => h X) fun S F H vx vy hp hs rx ry Q k => by
  obtain rfl := rx.v_inv; obtain rfl := ry.v_inv; exact ⟨i, j, rfl, rfl, c, k.here hs (.v _)⟩
section
variable {a b : Expr} {i j : Int}
theorem ex_add (ha : EX f env a (dI i)) (hb : EX f env b (dI j)) : EX f env (.BinOp a .Add b pos) (dI (i + j)) := ex_op (od_I0 (g := fun i j => .int (i + j)) (fun X => op_add) i j) ha hb
theorem ex_sub (ha : EX f env a (dI i)) (hb : EX f env b (dI j)) : EX f env (.BinOp a .Sub b pos) (dI (i - j)) := ex_op (od_I0 (g := fun i j => .int (i - j)) (fun X => op_sub) i j) ha hb
theorem ex_mul (ha : EX f env a (dI i)) (hb : EX f env b (dI j)) (c : CMul i j) : EX f env (.BinOp a .Mult b pos) (dI (i * j)) := ex_op (od_I (g := fun i j => .int (i * j)) (fun X => op_mul) c) ha hb
theorem ex_mod (ha : EX f env a (dI i)) (hb : EX f env b (dI j)) (c : 0 < j) : EX f env (.BinOp a .Mod b pos) (dI (i % j)) := ex_op (od_I (g := fun i j => .int (i % j)) (fun X => op_mod) c) ha hb
theorem ex_fdiv (ha : EX f env a (dI i)) (hb : EX f env b (dI j)) (c : CDiv i j) : EX f env (.BinOp a .FloorDiv b pos) (dI (i / j)) := ex_op (od_I (g := fun i j => .int (i / j)) (fun X => op_fdiv) c) ha hb
theorem ex_pow (ha : EX f env a (dI i)) (hb : EX f env b (dI j)) (c : CPow i j) : EX f env (.BinOp a .Pow b pos) (dI (i ^ j.toNat)) := ex_op (od_I (g := fun i j => .int (i ^ j.toNat)) (fun X => op_pow) c) ha hb
theorem ex_lt (ha : EX f env a (dI i)) (hb : EX f env b (dI j)) : EX f env (.Compare a [.Lt] [b] pos) (dB (decide (i < j))) := ex_cmp (od_I0 (g := fun i j => .bl (decide (i < j))) (fun X => op_lt) i j) ha hb
theorem ex_le (ha : EX f env a (dI i)) (hb : EX f env b (dI j)) : EX f env (.Compare a [.LtE] [b] pos) (dB (decide (i ≤ j))) := ex_cmp (od_I0 (g := fun i j => .bl (decide (i ≤ j))) (fun X => op_le) i j) ha hb
theorem ex_gt (ha : EX f env a (dI i)) (hb : EX f env b (dI j)) : EX f env (.Compare a [.Gt] [b] pos) (dB (decide (j < i))) := ex_cmp (od_I0 (g := fun i j => .bl (decide (j < i))) (fun X => op_gt) i j) ha hb
theorem ex_ge (ha : EX f env a (dI i)) (hb : EX f env b (dI j)) : EX f env (.Compare a [.GtE] [b] pos) (dB (decide (j ≤ i))) := ex_cmp (od_I0 (g := fun i j => .bl (decide (j ≤ i))) (fun X => op_ge) i j) ha hb
theorem et_lt (ha : EX f env a (dI i)) (hb : EX f env b (dI j)) : ET f env (.Compare a [.Lt] [b] pos) (decide (i < j)) := et_cmp (od_I0 (g := fun i j => .bl (decide (i < j))) (fun X => op_lt) i j) ha hb
theorem et_le (ha : EX f env a (dI i)) (hb : EX f env b (dI j)) : ET f env (.Compare a [.LtE] [b] pos) (decide (i ≤ j)) := et_cmp (od_I0 (g := fun i j => .bl (decide (i ≤ j))) (fun X => op_le) i j) ha hb
theorem et_gt (ha : EX f env a (dI i)) (hb : EX f env b (dI j)) : ET f env (.Compare a [.Gt] [b] pos) (decide (j < i)) := et_cmp (od_I0 (g := fun i j => .bl (decide (j < i))) (fun X => op_gt) i j) ha hb
theorem et_ge (ha : EX f env a (dI i)) (hb : EX f env b (dI j)) : ET f env (.Compare a [.GtE] [b] pos) (decide (j ≤ i)) := et_cmp (od_I0 (g := fun i j => .bl (decide (j ≤ i))) (fun X => op_ge) i j) ha hb
end
theorem od_eq {x y : V} (h : scal x y = true) : OD f (compareOp .Eq) (.v x) (.v y) (dB (decide (x = y))) := .of _ (fun X _ => op_eq) fun S F H vx vy hp hs rx ry Q k => by
  obtain rfl := rx.v_inv; obtain rfl := ry.v_inv; exact ⟨h, k.here hs (.v _)⟩
theorem od_ne {x y : V} (h : scal x y = true) : OD f (compareOp .NotEq) (.v x) (.v y) (dB (!decide (x = y))) := .of _ (fun X _ => op_ne) fun S F H vx vy hp hs rx ry Q k => by
  obtain rfl := rx.v_inv; obtain rfl := ry.v_inv; exact ⟨h, k.here hs (.v _)⟩
section
variable {a b : Expr}
theorem ex_eqI {i j : Int} (ha : EX f env a (dI i)) (hb : EX f env b (dI j)) : EX f env (.Compare a [.Eq] [b] pos) (dB (decide (i = j))) := (ex_cmp (od_eq (x := .int i) (y := .int j) rfl) ha hb).cast (by simp)
theorem et_eqI {i j : Int} (ha : EX f env a (dI i)) (hb : EX f env b (dI j)) : ET f env (.Compare a [.Eq] [b] pos) (decide (i = j)) := (et_cmp (od_eq (x := .int i) (y := .int j) rfl) ha hb).cast (by simp)
theorem et_neI {i j : Int} (ha : EX f env a (dI i)) (hb : EX f env b (dI j)) : ET f env (.Compare a [.NotEq] [b] pos) (!decide (i = j)) := (et_cmp (od_ne (x := .int i) (y := .int j) rfl) ha hb).cast (by simp)
theorem ex_eqS {i j : Str} (ha : EX f env a (dS i)) (hb : EX f env b (dS j)) : EX f env (.Compare a [.Eq] [b] pos) (dB (decide (i = j))) := (ex_cmp (od_eq (x := .str i) (y := .str j) rfl) ha hb).cast (by simp)
theorem et_eqS {i j : Str} (ha : EX f env a (dS i)) (hb : EX f env b (dS j)) : ET f env (.Compare a [.Eq] [b] pos) (decide (i = j)) := (et_cmp (od_eq (x := .str i) (y := .str j) rfl) ha hb).cast (by simp)
end
/-- a <= b of texts -/
def strLe (i j : Str) : Bool := !decide (j.cps.toList < i.cps.toList)
theorem od_leS {i j : Str} : OD f (compareOp .LtE) (dS i) (dS j) (dB (strLe i j)) := .of _ (fun X _ => op_le_str) fun S F H vx vy hp hs rx ry Q k => by
  obtain rfl := rx.v_inv; obtain rfl := ry.v_inv; exact ⟨i, j, rfl, rfl, k.here hs (.v _)⟩
/-- -a -/
theorem ex_neg {a : Expr} {i : Int} (ha : EX f env a (dI i)) : EX f env (.UnaryOp .USub a pos) (dI (-i)) := fun S F σ H hp hσ hs Q q =>
  wE_of (fun X hX => pe_un un_neg (pw_e hX)) (ha S F σ H hp hσ hs _ fun v S1 H1 g1 s1 k1 r1 => by obtain rfl := r1.v_inv; exact ⟨i, rfl, q _ S1 H1 g1 s1 k1 (.v _)⟩)

/-! ### tests -/
theorem et_val {e : Expr} {b : Bool} (h : EX f env e (dB b)) (he : ∀ env whole, isTrue e env whole = (do let v ← whole; standAt e.pos; holding [v] (truthy v)) := by intro _ _; rfl) : ET f env e b := fun S F σ H hp hσ hs Q q =>
  wT_of (fun X hX => pt_val (pw_e hX) (he _)) (h S F σ H hp hσ hs _ fun v S1 H1 g1 s1 k1 r1 => by obtain rfl := r1.v_inv; exact ⟨b, rfl, q S1 H1 g1 s1 k1⟩)
theorem et_w {e : Expr} {b : Bool} (h : EW f env e b) : ET f env e b := fun S F σ H hp hσ hs Q q => wT_of (fun X hX => (pw_w hX).pt) (h S F σ H hp hσ hs Q q)
theorem ew_and1 {a : Expr} {b : Bool} (h : ET f env a b) : EW f env (.BoolOp .And [a] pos) b := fun S F σ H hp hσ hs Q q => wW_of (fun X hX => pw_and1 (pw_t hX)) (h S F σ H hp hσ hs Q q)
theorem ew_or1 {a : Expr} {b : Bool} (h : ET f env a b) : EW f env (.BoolOp .Or [a] pos) b := fun S F σ H hp hσ hs Q q => wW_of (fun X hX => pw_or1 (pw_t hX)) (h S F σ H hp hσ hs Q q)
theorem ew_and {a c : Expr} {rest : List Expr} {x y : Bool} (h : ET f env a x) (t : x = true → EW f env (.BoolOp .And (c :: rest) pos) y) : EW f env (.BoolOp .And (a :: c :: rest) pos) (x && y) := fun S F σ H hp hσ hs Q q =>
  wW_of (fun X hX => pw_and (pw_t hX) (pw_w hX)) (h S F σ H hp hσ hs _ fun S1 H1 g1 s1 k1 => by
    cases x with
    | true => exact t rfl S1 F σ H1 hp (hσ.mono g1) s1 Q (q.step g1 k1)
    | false => exact q S1 H1 g1 s1 k1)
theorem ew_or {a c : Expr} {rest : List Expr} {x y : Bool} (h : ET f env a x) (t : x = false → EW f env (.BoolOp .Or (c :: rest) pos) y) : EW f env (.BoolOp .Or (a :: c :: rest) pos) (x || y) := fun S F σ H hp hσ hs Q q =>
  wW_of (fun X hX => pw_or (pw_t hX) (pw_w hX)) (h S F σ H hp hσ hs _ fun S1 H1 g1 s1 k1 => by
    cases x with
    | false => exact t rfl S1 F σ H1 hp (hσ.mono g1) s1 Q (q.step g1 k1)
    | true => exact q S1 H1 g1 s1 k1)
theorem et_not {a : Expr} {x : Bool} (h : ET f env a x) : ET f env (.UnaryOp .Not a pos) (!x) := fun S F σ H hp hσ hs Q q =>
  wT_of (fun X hX => pt_not (pw_t hX)) (h S F σ H hp hσ hs _ fun S1 H1 g1 s1 k1 => q S1 H1 g1 s1 k1)
theorem ex_if {c a b : Expr} {x : Bool} {d : Da} (h : ET f env c x) (h1 : x = true → EX f env a d) (h2 : x = false → EX f env b d) : EX f env (.IfExp c a b pos) d := fun S F σ H hp hσ hs Q q =>
  wE_of (fun X hX => pe_ifExp (pw_t hX) (pw_e hX) (pw_e hX)) (h S F σ H hp hσ hs _ fun S1 H1 g1 s1 k1 => by
    cases x with
    | true => exact h1 rfl S1 F σ H1 hp (hσ.mono g1) s1 Q (q.step g1 k1)
    | false => exact h2 rfl S1 F σ H1 hp (hσ.mono g1) s1 Q (q.step g1 k1))
/-! ### bools as values -/
theorem ex_one {op : BoolOp} {a : Expr} {d : Da} (h : EX f env a d) : EX f env (.BoolOp op [a] pos) d := fun S F σ H hp hσ hs Q q => wE_of (fun X hX => pe_one (pw_e hX)) (h S F σ H hp hσ hs Q q)
theorem ex_and {a c : Expr} {rest : List Expr} {x y : Bool} (h : EX f env a (dB x)) (t : x = true → EX f env (.BoolOp .And (c :: rest) pos) (dB y)) : EX f env (.BoolOp .And (a :: c :: rest) pos) (dB (x && y)) := fun S F σ H hp hσ hs Q q =>
  wE_of (fun X hX => pe_and (pw_e hX) (pw_e hX)) (h S F σ H hp hσ hs _ fun v S1 H1 g1 s1 k1 r1 => by
    obtain rfl := r1.v_inv
    refine ⟨x, rfl, ?_⟩
    cases x with
    | true => exact t rfl S1 F σ H1 hp (hσ.mono g1) s1 Q (q.step g1 k1)
    | false => exact q _ S1 H1 g1 s1 k1 (.v _))
theorem ex_or {a c : Expr} {rest : List Expr} {x y : Bool} (h : EX f env a (dB x)) (t : x = false → EX f env (.BoolOp .Or (c :: rest) pos) (dB y)) : EX f env (.BoolOp .Or (a :: c :: rest) pos) (dB (x || y)) := fun S F σ H hp hσ hs Q q =>
  wE_of (fun X hX => pe_or (pw_e hX) (pw_e hX)) (h S F σ H hp hσ hs _ fun v S1 H1 g1 s1 k1 r1 => by
    obtain rfl := r1.v_inv
    refine ⟨x, rfl, ?_⟩
    cases x with
    | false => exact t rfl S1 F σ H1 hp (hσ.mono g1) s1 Q (q.step g1 k1)
    | true => exact q _ S1 H1 g1 s1 k1 (.v _))
theorem ex_not {a : Expr} {x : Bool} (h : EX f env a (dB x)) : EX f env (.UnaryOp .Not a pos) (dB (!x)) := fun S F σ H hp hσ hs Q q =>
  wE_of (fun X hX => pe_not (pw_e hX)) (h S F σ H hp hσ hs _ fun v S1 H1 g1 s1 k1 r1 => by
    obtain rfl := r1.v_inv
    exact ⟨x, rfl, q _ S1 H1 g1 s1 k1 (.v _)⟩)

/-! ### arguments, displays -/
theorem ea_nil : EA f env [] [] := fun S F σ H hp hσ hs Q q => wA_of (fun X hX => pa_nil) (q.here hs .nil)
theorem ea_cons {e : Expr} {es : List Expr} {d : Da} {ds : List Da} (h : EX f env e d) (t : EA f env es ds) (hs : ∀ env, starEach (e :: es) env = (false, eval e env) :: starEach es env := by intro _; rfl) : EA f env (e :: es) (d :: ds) := fun S F σ H hp hσ hsep Q q =>
  wA_of (fun X hX => pa_cons (pw_e hX) (pw_a hX) (hs _)) (h S F σ H hp hσ hsep _ fun v S1 H1 g1 s1 k1 r1 => t S1 F σ H1 hp (hσ.mono g1) s1 _ fun vs S2 H2 g2 s2 k2 r2 => q _ S2 H2 (g1.trans g2) s2 (k1.trans k2) (.cons (r1.mono g2) r2))
theorem big_ok {n : Nat} (h : n ≤ 10000000) : n ≤ sizeLine := Nat.le_trans h (by decide)
theorem ex_tup {es : List Expr} {ds : List Da} {k : Nat} (h : EA f env es ds) (hl : ds.length ≤ 10000000 := by decide) : EX f env (.Tuple es k pos) (.tup ds) := fun S F σ H hp hσ hs Q q =>
  wE_of (fun X hX => pe_tup (pw_a hX)) (h S F σ H hp hσ hs _ fun vs S1 H1 g1 s1 k1 r1 => ⟨by rw [r1.1]; exact big_ok hl, fun p hpn => (q.step g1 k1).fresh s1 hpn (.tupL upd_same (r1.mono (Gr.new (s1.freeS hpn))))⟩)
theorem ex_lst {es : List Expr} {ds : List Da} (h : EA f env es ds) (hl : ds.length ≤ 10000000 := by decide) : EX f env (.List es pos) (.lst ds) := fun S F σ H hp hσ hs Q q =>
  wE_of (fun X hX => pe_lst (pw_a hX)) (h S F σ H hp hσ hs _ fun vs S1 H1 g1 s1 k1 r1 => ⟨by rw [r1.1]; exact big_ok hl, fun p hpn => (q.step g1 k1).fresh s1 hpn (.lstL upd_same (r1.mono (Gr.new (s1.freeS hpn))))⟩)
theorem ex_dnew : EX f env (.Dict [] [] pos) (.dct []) := fun S F σ H hp hσ hs Q q =>
  wE_of (fun X hX => pe_dnewK) fun p hpn => q.fresh hs hpn (.dctK upd_same ⟨rfl, fun i v x a _ => by simp at a⟩)
theorem ex_dnewT : EX f env (.Dict [] [] pos) (.dtt []) := fun S F σ H hp hσ hs Q q =>
  wE_of (fun X hX => pe_dnewT) fun p hpn => q.fresh hs hpn (.dttK upd_same ⟨rfl, fun i v x a _ => by simp at a⟩)

theorem RpK.lookup_none {S : Hp} : ∀ {vs : List (Str × V)} {xs : List (Str × Da)} {m : Str}, RpK S vs xs → xs.lookup m = none → vs.lookup m = none
  | [], [], _, _, _ => rfl
  | [], x :: xs, _, h, _ => by have := h.1; simp at this
  | v :: vs, [], _, h, _ => by have := h.1; simp at this
  | (a, v) :: vs, (b, x) :: xs, m, h, e => by
    have h1 := h.1
    simp only [List.map_cons, List.cons.injEq] at h1
    obtain ⟨rfl, h1⟩ := h1
    rw [List.lookup_cons] at e ⊢
    split at e
    · cases e
    · exact RpK.lookup_none ⟨h1, fun i v x p q => h.2 (i + 1) v x (by simpa using p) (by simpa using q)⟩ e
theorem RpK.lookup {S : Hp} : ∀ {vs : List (Str × V)} {xs : List (Str × Da)} {m : Str} {d : Da}, RpK S vs xs → xs.lookup m = some d → ∃ v, vs.lookup m = some v ∧ Rp S v d
  | [], [], _, _, _, e => by cases e
  | [], x :: xs, _, _, h, _ => by have := h.1; simp at this
  | v :: vs, [], _, _, h, _ => by have := h.1; simp at this
  | (a, v) :: vs, (b, x) :: xs, m, d, h, e => by
    have h1 := h.1
    simp only [List.map_cons, List.cons.injEq] at h1
    obtain ⟨rfl, h1⟩ := h1
    rw [List.lookup_cons] at e ⊢
    split at e
    · cases e; exact ⟨v, rfl, h.2 0 (a, v) (a, x) rfl rfl⟩
    · exact RpK.lookup ⟨h1, fun i v x p q => h.2 (i + 1) v x (by simpa using p) (by simpa using q)⟩ e

/-! ### calls -/
/-- a promise over data: nothing that is known changes -/
def spR (R : List Da → Da → Prop) : Sp := fun vs H Q _ => ∃ S F ds d, Sep S F H ∧ RpL S vs ds ∧ R ds d ∧ PQ S F H d Q
theorem ex_call {x : Str} {p : Pos} {e : Expr} {es : List Expr} {R : List Da → Da → Prop} {k : Nat} {ds : List Da} {d : Da} (c : C8.Cal f.P f.w f.K f.mg f.base k x (spR R) []) (ha : EA f env (e :: es) ds) (hR : R ds d) (hk : k ≤ f.k := by exact Nat.le_of_ble_eq_true rfl) (hg : GlS f x := by rfl)
    (hdb : (x == ("__debug__" : Str)) = false := by decide) (he : ∀ env, starEach (e :: es) env = (false, eval e env) :: starEach es env := by intro _; rfl) (hpl : ∀ env, (backTo pos (starEach es env)).any (·.1) = false := by intro _; rfl) :
    EX f env (.Call (.Name x p) (e :: es) [] pos) d := fun S F σ H hp hσ hs Q q =>
  wE_of (fun X hX => C8.pe_c (k := k) (sp := spR R) (dvs := []) (by rw [hX.prog, hX.w, hX.K, hX.mg, hX.base]; exact c) hX.room hk (hg.gl hX) (pw_a hX) hdb (he _) (hpl _))
    (ha S F σ H hp hσ hs _ fun vs S1 H1 g1 s1 k1 r1 => ⟨S1, F, ds, d, s1, by rw [List.append_nil]; exact r1, hR, q.step g1 k1⟩)
/-- o.m(..) of an instance -/
theorem ex_meth {o e : Expr} {es : List Expr} {C : Addr} {m : Str} {apos : Pos} {R : List Da → Da → Prop} {k : Nat} {fs : List (Str × Da)} {ds : List Da} {d : Da} {pl : Env → Sem Bool} (c : C8.Met f.P f.w f.K f.mg f.base k C m (spR R) []) (ho : EX f env o (.ins C fs)) (ha : EA f env (e :: es) ds) (hm : fs.lookup m = none) (hR : R (.ins C fs :: ds) d) (hk : k ≤ f.k := by exact Nat.le_of_ble_eq_true rfl)
    (hst : ∀ env, starEach (e :: es) env = (false, eval e env) :: starEach es env := by intro _; rfl) (hpl : ∀ env, (backTo pos (starEach es env)).any (·.1) = false := by intro _; rfl)
    (ht : ∀ env, eval (.Call (.Attribute o m apos) (e :: es) [] pos) env = (do
      let ov ← eval o env
      standAt apos.atName
      let (g, first) ← holding [ov] (getMethod ov m (pl env))
      callWith pos g first (backTo pos (starEach (e :: es) env)) (backToKw pos (keywordEach [] env))) := by intro _; rfl) :
    EX f env (.Call (.Attribute o m apos) (e :: es) [] pos) d := fun S F σ H hp hσ hs Q q =>
  wE_of (fun X hX => C8.pe_mt (C := C) (k := k) (sp := spR R) (dvs := []) (pl := pl X.env) (by rw [hX.prog, hX.w, hX.K, hX.mg, hX.base]; exact c) hX.room hk (pw_e hX) (pw_a hX) (hst _) (hpl _) (ht _))
    (ho S F σ H hp hσ hs _ fun v S1 H1 g1 s1 k1 r1 => by
      obtain ⟨a, dx, vs, rfl, h1, hv⟩ := r1.ins_inv
      refine ⟨a, dx, vs, rfl, s1.at h1, ?_, ha S1 F σ H1 hp (hσ.mono g1) s1 _ fun us S2 H2 g2 s2 k2 r2 => ⟨S2, F, .ins C fs :: ds, d, s2, .cons ((Rp.insK h1 hv).mono g2) (by rw [List.append_nil]; exact r2), hR, q.step (g1.trans g2) (k1.trans k2)⟩⟩
      exact RpK.lookup_none hv hm)
end
end Em
set_option maxHeartbeats 1000000
/-! The logic over plain data (3): what is walked, targets, comprehensions. -/
namespace Em
open PySem PySem.Spec PyProof.Rows L2 RZ

section
variable (f : Fr)
def wI (tg it : Expr) : TI := fun σ H R => ∀ X pins s, Okx f X → Inv X pins σ H s → wpAny (model X.prog X.w) X.A (eval it X.env) (fun v s1 => wpAny (model X.prog X.w) X.A (pyIter v) (PIE X pins σ tg R) X.xe s1) X.xe s
def wG (tg : Expr) : TG := fun x σ H k => ∀ X pins s u, Okx f X → Inv X pins σ H s → RelV x u → wpAny (model X.prog X.w) X.A (assign tg X.env u) (fun _ s' => ∃ σ' H', Inv X pins σ' H' s' ∧ k σ' H') X.xe s
def wF (ifs : List Expr) : TT := fun σ H Q => ∀ X pins s, Okx f X → Inv X pins σ H s → wpAny (model X.prog X.w) X.A (forIn ifs true fun c r => if r = true then do let ok ← isTrue c X.env (eval c X.env); pure (ForInStep.yield ok) else pure (ForInStep.yield r)) (TP X pins σ Q) X.xe s
end
section
variable {f : Fr} {X : Cx}
theorem pw_i {tg it : Expr} (h : Okx f X) : PI X tg it (wI f tg it) := ⟨fun pins s σ H R I q => q X pins s h I⟩
theorem pw_g {tg : Expr} (h : Okx f X) : PG X tg (wG f tg) := ⟨fun pins s σ H v u Q I r q => q X pins s u h I r⟩
theorem pw_f {ifs : List Expr} (h : Okx f X) : PTs X ifs (wF f ifs) := ⟨fun pins s σ H Q I q => q X pins s h I⟩
theorem wI_of {tg it : Expr} {wi : TI} (h : ∀ X, Okx f X → PI X tg it wi) {σ : L2.St} {H : Hp} {R : It → Hp → Prop} (q : wi σ H R) : wI f tg it σ H R := fun X pins s hX I => (h X hX).run pins s σ H R I q
theorem wG_of {tg : Expr} {g : TG} (h : ∀ X, Okx f X → PG X tg g) {x : V} {σ : L2.St} {H : Hp} {k : L2.St → Hp → Prop} (q : g x σ H k) : wG f tg x σ H k := fun X pins s u hX I r => (h X hX).run pins s σ H x u k I r q
theorem wF_of {ifs : List Expr} {t : TT} (h : ∀ X, Okx f X → PTs X ifs t) {σ : L2.St} {H : Hp} {Q : Bool → Hp → Prop} (q : t σ H Q) : wF f ifs σ H Q := fun X pins s hX I => (h X hX).run pins s σ H Q I q
end

/-- what is walked gives ds -/
def Wk (J : It) (S H : Hp) (ds : List Da) : Prop := ∀ S2 F2 H2, Gr S S2 → Sep S2 F2 H2 → Kf H H2 → J.stop ds.length H2 ∧ ∀ (i : Nat) (d : Da), ds[i]? = some d → J.go i H2 ∧ ∀ x H3, J.yld i H2 x H3 → ∃ S3, Gr S2 S3 ∧ Sep S3 F2 H3 ∧ Kf H2 H3 ∧ Rp S3 x d
abbrev Pre := L2.St → Hp → Hp → Prop
def yes : Pre := fun _ _ _ => True
def IT (pre : Pre) (f : Fr) (env : En) (tg it : Expr) (ds : List Da) : Prop := ∀ S F σ H, f.pf F → SlE S σ env → Sep S F H → pre σ S H → ∀ R, (∀ J S1 H1, Gr S S1 → Sep S1 F H1 → Kf H H1 → Wk J S1 H1 ds → R J H1) → wI f tg it σ H R
def EXp (pre : Pre) (f : Fr) (env : En) (e : Expr) (d : Da) : Prop := ∀ S F σ H, f.pf F → SlE S σ env → Sep S F H → pre σ S H → ∀ Q, PQ S F H d Q → wE f e σ H Q
theorem EXp.ex {f : Fr} {env : En} {e : Expr} {d : Da} (h : EXp yes f env e d) : EX f env e d := fun S F σ H hp hσ hs Q q => h S F σ H hp hσ hs True.intro Q q
/-- the target of a for -/
def TGT (f : Fr) (tg : Expr) (d : Da) (env env' : En) (vs : List Nat) : Prop := ∀ S F σ H x, SlE S σ env → Sep S F H → Rp S x d → ∀ k, (∀ σ', SlE S σ' env' → (∀ ws, (∀ i ∈ vs, i ∈ ws) → wipe σ' ws = wipe σ ws) → k σ' H) → wG f tg x σ H k
theorem IT.cast {pre : Pre} {f : Fr} {env : En} {tg it : Expr} {ds ds' : List Da} (h : IT pre f env tg it ds) (e : ds = ds') : IT pre f env tg it ds' := e ▸ h
def EF (f : Fr) (env : En) (ifs : List Expr) (b : Bool) : Prop := ∀ S F σ H, f.pf F → SlE S σ env → Sep S F H → ∀ Q, PB S F H b Q → wF f ifs σ H Q

section
variable {f : Fr} {env : En} {pos : Pos}
theorem ef_nil : EF f env [] true := fun S F σ H hp hσ hs Q q => wF_of (fun X hX => pts_nil) (q.here hs)
theorem ef_one {c : Expr} {b : Bool} (h : ET f env c b) : EF f env [c] b := fun S F σ H hp hσ hs Q q => wF_of (fun X hX => pts_one (pw_t hX)) (h S F σ H hp hσ hs Q q)
def LocS (f : Fr) (x : Str) : Prop := f.sc.names.lookup x = some .local ∨ (f.sc.names.lookup x = some .cell ∧ f.own x = true)
theorem LocS.loc {x : Str} {X : Cx} (h : LocS f x) (hX : Okx f X) : Loc X.env.scope x := by rw [hX.sc]; exact h.imp id And.left
theorem LocS.fn {x : Str} {X : Cx} (h : LocS f x) (hX : Okx f X) : X.fn x = true ∨ X.env.scope.names.lookup x = some .local := by
  rcases h with h | h
  · exact .inr (by rw [hX.sc]; exact h)
  · exact .inl (hX.fn x h.2)
theorem pw_name {X : Cx} {i : Nat} {x : Str} (hX : Okx f X) (hi : f.N[i]? = some x) (hx : LocS f x) : PG X (.Name x pos) (gName i) := pg_name (by rw [hX.N]; exact hX.nd) (by rw [hX.N]; exact hi) (hx.loc hX) (hx.fn hX)
theorem tg_name (i : Nat) {x : Str} {d : Da} (hi : f.N[i]? = some x := by rfl) (hx : LocS f x := by first | exact .inl rfl | exact .inr ⟨rfl, rfl⟩) : TGT f (.Name x pos) d env (env.set i (some d)) [i] := fun S F σ H v hσ hs r k hk =>
  wG_of (fun X hX => pw_name hX hi hx) (hk _ (hσ.set i r) fun ws hw => wipe_set (hw i (by simp)))
theorem tg_two (i j : Nat) {x y : Str} {d e : Da} {px py : Pos} {kk : Nat} (hi : f.N[i]? = some x := by rfl) (hx : LocS f x := by first | exact .inl rfl | exact .inr ⟨rfl, rfl⟩) (hj : f.N[j]? = some y := by rfl) (hy : LocS f y := by first | exact .inl rfl | exact .inr ⟨rfl, rfl⟩) :
    TGT f (.Tuple [.Name x px, .Name y py] kk pos) (.tup [d, e]) env ((env.set i (some d)).set j (some e)) [i, j] := fun S F σ H v hσ hs r k hk => by
  obtain ⟨a, vs, rfl, h1, h2⟩ := r.tup_inv
  obtain ⟨v1, v2, rfl⟩ : ∃ v1 v2, vs = [v1, v2] := by
    have := h2.1
    match vs, this with
    | [v1, v2], _ => exact ⟨v1, v2, rfl⟩
  refine wG_of (g := gTup f.K 2 (gCons (gName i) (gCons (gName j) gNil))) (fun X hX => by rw [← hX.K]; exact pg_tup (n := 2) hX.calm (pgs_cons (pw_name hX hi hx) (pgs_cons (pw_name hX hj hy) pgs_nil))) ?_
  refine ⟨a, [v1, v2], rfl, hs.sqt h1, rfl, v1, [v2], rfl, v2, [], rfl, rfl, ?_⟩
  refine hk _ ((hσ.set i (h2.2 0 _ _ rfl rfl)).set j (h2.2 1 _ _ rfl rfl)) fun ws hw => ?_
  rw [wipe_set (hw j (by simp)), wipe_set (hw i (by simp))]

/-! ### a lock while an expression is evaluated -/
def Lkd (sel : L2.St → Hp → Addr → HO → Prop) : Pre := fun σ S H => ∃ a u ob, sel σ S a u ∧ S a = some u ∧ isDic u ∧ H a = some (.frz ob u)
theorem isDic.mut {u : HO} (h : isDic u) : Mut (some u) := by cases u <;> first | exact h.elim | exact True.intro
theorem isDic.nofrz {u : HO} (h : isDic u) : ∀ b v, u ≠ .frz b v := fun b v z => by subst z; exact h
theorem ex_lock {e : Expr} {d : Da} {sel : L2.St → Hp → Addr → HO → Prop} (h : EXp (Lkd sel) f env e d) (hs : ∀ S σ, SlE S σ env → ∃ a u, sel σ S a u ∧ S a = some u ∧ isDic u) : EX f env e d := fun S F σ H hp hσ hsep Q q => by
  obtain ⟨a, u, hsel, hSa, hd⟩ := hs S σ hσ
  rcases hsep.pub a u hSa hd.nt with z | ⟨_, ob, z⟩
  · refine wE_of (fun X hX => pe_lock (pw_e hX)) ?_
    refine ⟨a, u, z, hd.mut, fun od => ?_⟩
    refine h S F σ _ hp hσ (hsep.lock hSa hd) ⟨a, u, od, hsel, hSa, hd, upd_same⟩ _ fun v S' H' g s k r => ?_
    exact ⟨k.keep upd_same, q v S' _ g (s.unlock (g _ _ hSa) hd) (Kf.unlock z hd.nofrz k hd.nt) r⟩
  · exact h S F σ H hp hσ hsep ⟨a, u, ob, hsel, hSa, hd, z⟩ Q q

/-! ### walks -/
theorem it_lst {pre : Pre} {tg e : Expr} {ds : List Da} (h : EX f env e (.lst ds)) : IT pre f env tg e ds := fun S F σ H hp hσ hs _ R hR =>
  wI_of (wi := iList f.K (wE f e)) (fun X hX => by rw [← hX.K]; exact pi_list (pw_e hX)) (by
    refine h S F σ H hp hσ hs _ fun v S1 H1 g1 s1 k1 r1 => ?_
    obtain ⟨a, vs, rfl, h1, h2⟩ := r1.lst_inv
    refine ⟨a, rfl, ⟨vs, s1.sql h1⟩, hR _ S1 H1 g1 s1 k1 ?_⟩
    intro S2 F2 H2 g2 s2 k2
    refine ⟨⟨vs, s2.sql (g2 _ _ h1), by rw [h2.1]; exact Nat.le_refl _⟩, fun i d hd => ?_⟩
    obtain ⟨v, hv, rv⟩ := h2.get hd
    refine ⟨⟨vs, v, s2.sql (g2 _ _ h1), hv⟩, fun x H3 y => ?_⟩
    obtain ⟨rfl, y⟩ := y
    have := y vs (s2.sql (g2 _ _ h1))
    rw [hv] at this; cases this
    exact ⟨S2, Gr.refl _, s2, Kf.refl _, rv.mono g2⟩)
theorem it_tup {pre : Pre} {tg e : Expr} {ds : List Da} (h : EX f env e (.tup ds)) : IT pre f env tg e ds := fun S F σ H hp hσ hs _ R hR =>
  wI_of (wi := iTup f.K (wE f e)) (fun X hX => by rw [← hX.K]; exact pi_tup (pw_e hX)) (by
    refine h S F σ H hp hσ hs _ fun v S1 H1 g1 s1 k1 r1 => ?_
    obtain ⟨a, vs, rfl, h1, h2⟩ := r1.tup_inv
    refine ⟨a, rfl, ⟨vs, s1.sqt h1⟩, hR _ S1 H1 g1 s1 k1 ?_⟩
    intro S2 F2 H2 g2 s2 k2
    refine ⟨⟨vs, s2.sqt (g2 _ _ h1), by rw [h2.1]; exact Nat.le_refl _⟩, fun i d hd => ?_⟩
    obtain ⟨v, hv, rv⟩ := h2.get hd
    refine ⟨⟨vs, v, s2.sqt (g2 _ _ h1), hv⟩, fun x H3 y => ?_⟩
    obtain ⟨rfl, y⟩ := y
    have := y vs (s2.sqt (g2 _ _ h1))
    rw [hv] at this; cases this
    exact ⟨S2, Gr.refl _, s2, Kf.refl _, rv.mono g2⟩)
/-- range(n), n not negative -/
theorem it_rng {pre : Pre} {tg e : Expr} {p : Pos} {n : Nat} (h : EX f env e (dI n)) (hm : f.mg "range" = none) (hn : n < 2 ^ 62) (hg : GlS f "range" := by rfl) (hse : ∀ env, starEach [e] env = [(false, eval e env)] := by intro _; rfl) :
    IT pre f env tg (.Call (.Name "range" p) [e] [] pos) ((List.range n).map fun i => dI (i : Nat)) := fun S F σ H hp hσ hs _ R hR =>
  wI_of (fun X hX => pi_range1 (hg.gl hX) (by rw [hX.mg]; exact hm) (pw_a hX) (hse _)) (by
    refine ea_cons (d := dI n) h ea_nil hse S F σ H hp hσ hs _ fun v S1 H1 g1 s1 k1 r1 => ?_
    have := r1.1
    obtain ⟨v1, rfl⟩ : ∃ v1, v = [v1] := by match v, this with | [v1], _ => exact ⟨v1, rfl⟩
    obtain rfl := (r1.2 0 _ _ rfl rfl).v_inv
    refine ⟨(n : Int), rfl, by omega, by omega, hR _ S1 H1 g1 s1 k1 ?_⟩
    intro S2 F2 H2 g2 s2 k2
    refine ⟨by show (n : Int).toNat ≤ _; simp, fun i d hd => ?_⟩
    have hi : i < n := by have := (List.getElem?_eq_some_iff.mp hd).1; simpa using this
    rw [List.getElem?_map, List.getElem?_range hi] at hd
    cases hd
    refine ⟨by show i < (n : Int).toNat; omega, fun x H3 y => ?_⟩
    obtain ⟨rfl, rfl⟩ := y
    refine ⟨S2, Gr.refl _, s2, Kf.refl _, ?_⟩
    show Rp S2 (.int (0 + (i : Int))) (dI (i : Int))
    rw [Int.zero_add]; exact .v _)
theorem it_str {pre : Pre} {tg e : Expr} {x : Str} (h : EX f env e (dS x)) : IT pre f env tg e (x.cps.toList.map fun c => dS ⟨#[c]⟩) := fun S F σ H hp hσ hs _ R hR =>
  wI_of (wi := iStr (wE f e)) (fun X hX => pi_str (pw_e hX)) (by
    refine h S F σ H hp hσ hs _ fun v S1 H1 g1 s1 k1 r1 => ?_
    obtain rfl := r1.v_inv
    refine ⟨x, rfl, hR _ S1 H1 g1 s1 k1 ?_⟩
    intro S2 F2 H2 g2 s2 k2
    refine ⟨by show x.cps.size ≤ _; simp, fun i d hd => ?_⟩
    have hi : i < x.cps.size := by have := (List.getElem?_eq_some_iff.mp hd).1; simpa using this
    refine ⟨hi, fun y H3 yy => ?_⟩
    obtain ⟨rfl, c, hc, rfl⟩ := yy
    rw [List.getElem?_map] at hd
    have hc2 : x.cps.toList[i]? = some c := by simpa using hc
    rw [hc2] at hd
    cases hd
    exact ⟨S2, Gr.refl _, s2, Kf.refl _, .v _⟩)
/-- a new pair -/
theorem pair_new {S F H : Hp} {T : Addr} {x y : V} {d e : Da} (s : Sep S F H) (hT : H T = none) (hx : Rp S x d) (hy : Rp S y e) : ∃ S3, Gr S S3 ∧ Sep S3 F (upd H T (.tup [x, y])) ∧ Kf H (upd H T (.tup [x, y])) ∧ Rp S3 (.ref T) (.tup [d, e]) :=
  ⟨upd S T (.tup [x, y]), Gr.new (s.freeS hT), s.new hT, Kf.new hT, .tupL upd_same ((RpL.cons hx (.cons hy .nil)).mono (Gr.new (s.freeS hT)))⟩
def enumD (i : Nat) : List Da → List Da
  | [] => []
  | d :: ds => .tup [dI i, d] :: enumD (i + 1) ds
theorem enumD_get : ∀ (ds : List Da) (k i : Nat), (enumD k ds)[i]? = (ds[i]?).map fun d => Da.tup [dI ((k + i : Nat) : Int), d]
  | [], k, i => by simp [enumD]
  | d :: ds, k, 0 => by simp [enumD]
  | d :: ds, k, i + 1 => by
    show (enumD (k + 1) ds)[i]? = _
    rw [enumD_get ds (k + 1) i]
    have : k + 1 + i = k + (i + 1) := by omega
    rw [this]; rfl
theorem enumD_len : ∀ (ds : List Da) (k : Nat), (enumD k ds).length = ds.length
  | [], k => rfl
  | d :: ds, k => by simp [enumD, enumD_len ds (k + 1)]
theorem it_enumL {pre : Pre} {e : Expr} {p tpos : Pos} {elts : List Expr} {kk : Nat} {ds : List Da} (h : EX f env e (.lst ds)) (hm : f.mg "enumerate" = none) (hg : GlS f "enumerate" := by rfl) (hse : ∀ env, starEach [e] env = [(false, eval e env)] := by intro _; rfl) :
    IT pre f env (.Tuple elts kk tpos) (.Call (.Name "enumerate" p) [e] [] pos) (enumD 0 ds) := fun S F σ H hp hσ hs _ R hR =>
  wI_of (wi := iEnum f.K (wA f [e])) (fun X hX => by rw [← hX.K]; exact pi_enum (hg.gl hX) (by rw [hX.mg]; exact hm) (pw_a hX) (hse _)) (by
    refine ea_cons h ea_nil hse S F σ H hp hσ hs _ fun v S1 H1 g1 s1 k1 r1 => ?_
    have := r1.1
    obtain ⟨v1, rfl⟩ : ∃ v1, v = [v1] := by match v, this with | [v1], _ => exact ⟨v1, rfl⟩
    obtain ⟨a, vs, rfl, h1, h2⟩ := (r1.2 0 _ _ rfl rfl).lst_inv
    refine ⟨a, vs, rfl, s1.sql h1, hR _ S1 H1 g1 s1 k1 ?_⟩
    intro S2 F2 H2 g2 s2 k2
    refine ⟨⟨vs, s2.sql (g2 _ _ h1), by rw [h2.1, enumD_len]; exact Nat.le_refl _⟩, fun i d hd => ?_⟩
    rw [enumD_get, Nat.zero_add] at hd
    cases hi : ds[i]? with
    | none => rw [hi] at hd; cases hd
    | some d0 =>
      rw [hi] at hd; cases hd
      obtain ⟨v, hv, rv⟩ := h2.get hi
      refine ⟨⟨vs, v, s2.sql (g2 _ _ h1), hv⟩, fun x H3 y => ?_⟩
      obtain ⟨T, x, rfl, hT, rfl, y⟩ := y
      have := y vs (s2.sql (g2 _ _ h1))
      rw [hv] at this; cases this
      exact pair_new s2 hT (.v _) (rv.mono g2))
theorem it_enumT {pre : Pre} {e : Expr} {p tpos : Pos} {elts : List Expr} {kk : Nat} {ds : List Da} (h : EX f env e (.tup ds)) (hm : f.mg "enumerate" = none) (hg : GlS f "enumerate" := by rfl) (hse : ∀ env, starEach [e] env = [(false, eval e env)] := by intro _; rfl) :
    IT pre f env (.Tuple elts kk tpos) (.Call (.Name "enumerate" p) [e] [] pos) (enumD 0 ds) := fun S F σ H hp hσ hs _ R hR =>
  wI_of (wi := iEnT f.K (wA f [e])) (fun X hX => by rw [← hX.K]; exact pi_enT (hg.gl hX) (by rw [hX.mg]; exact hm) (pw_a hX) (hse _)) (by
    refine ea_cons h ea_nil hse S F σ H hp hσ hs _ fun v S1 H1 g1 s1 k1 r1 => ?_
    have := r1.1
    obtain ⟨v1, rfl⟩ : ∃ v1, v = [v1] := by match v, this with | [v1], _ => exact ⟨v1, rfl⟩
    obtain ⟨a, vs, rfl, h1, h2⟩ := (r1.2 0 _ _ rfl rfl).tup_inv
    refine ⟨a, vs, rfl, s1.sqt h1, hR _ S1 H1 g1 s1 k1 ?_⟩
    intro S2 F2 H2 g2 s2 k2
    refine ⟨⟨s2.sqt (g2 _ _ h1), by rw [enumD_len]; exact h2.1.symm⟩, fun i d hd => ?_⟩
    rw [enumD_get, Nat.zero_add] at hd
    cases hi : ds[i]? with
    | none => rw [hi] at hd; cases hd
    | some d0 =>
      rw [hi] at hd; cases hd
      obtain ⟨v, hv, rv⟩ := h2.get hi
      refine ⟨⟨s2.sqt (g2 _ _ h1), (List.getElem?_eq_some_iff.mp hv).1⟩, fun x H3 y => ?_⟩
      obtain ⟨T, x, y, rfl, hT, rfl, e1, e2⟩ := y
      subst e1
      rw [hv] at e2; cases e2
      exact pair_new s2 hT (.v _) (rv.mono g2))
def zipD : List Da → List Da → List Da
  | d :: ds, e :: es => .tup [d, e] :: zipD ds es
  | _, _ => []
theorem zipD_get : ∀ (ds es : List Da) (i : Nat) (z : Da), (zipD ds es)[i]? = some z → ∃ d e, ds[i]? = some d ∧ es[i]? = some e ∧ z = .tup [d, e]
  | d :: ds, e :: es, 0, z, h => by
    simp only [zipD, List.getElem?_cons_zero, Option.some.injEq] at h
    exact ⟨d, e, rfl, rfl, h.symm⟩
  | d :: ds, e :: es, i + 1, z, h => by
    obtain ⟨a, b, h1, h2, h3⟩ := zipD_get ds es i z (by simpa [zipD] using h)
    exact ⟨a, b, by simpa using h1, by simpa using h2, h3⟩
  | [], es, i, z, h => by simp [zipD] at h
  | d :: ds, [], i, z, h => by simp [zipD] at h
theorem zipD_len : ∀ (ds es : List Da), (zipD ds es).length = min ds.length es.length
  | d :: ds, e :: es => by simp [zipD, zipD_len ds es]
  | [], es => by simp [zipD]
  | d :: ds, [] => by simp [zipD]
theorem two_args {vs : List V} {S : Hp} {d e : Da} (r : RpL S vs [d, e]) : ∃ v1 v2, vs = [v1, v2] ∧ Rp S v1 d ∧ Rp S v2 e := by
  have := r.1
  match vs, this with
  | [v1, v2], _ => exact ⟨v1, v2, rfl, r.2 0 _ _ rfl rfl, r.2 1 _ _ rfl rfl⟩
theorem one_arg1 {vs : List V} {S : Hp} {d : Da} (r : RpL S vs [d]) : ∃ v1, vs = [v1] ∧ Rp S v1 d := by
  have := r.1
  match vs, this with
  | [v1], _ => exact ⟨v1, rfl, r.2 0 _ _ rfl rfl⟩
theorem it_zipL {pre : Pre} {e e2 : Expr} {p tpos : Pos} {elts : List Expr} {kk : Nat} {ds es : List Da} (h : EX f env e (.lst ds)) (h2 : EX f env e2 (.lst es)) (hm : f.mg "zip" = none) (hg : GlS f "zip" := by rfl)
    (hse : ∀ env, starEach [e, e2] env = (false, eval e env) :: starEach [e2] env := by intro _; rfl) (hs2 : ∀ env, starEach [e2] env = [(false, eval e2 env)] := by intro _; rfl) (hpl : ∀ env, (backTo pos (starEach [e2] env)).any (·.1) = false := by intro _; rfl) :
    IT pre f env (.Tuple elts kk tpos) (.Call (.Name "zip" p) [e, e2] [] pos) (zipD ds es) := fun S F σ H hp hσ hs _ R hR =>
  wI_of (wi := iZip f.K (wA f [e, e2])) (fun X hX => by rw [← hX.K]; exact pi_zip (hg.gl hX) (by rw [hX.mg]; exact hm) (pw_a hX) (hse _) (hpl _)) (by
    refine ea_cons h (ea_cons h2 ea_nil hs2) hse S F σ H hp hσ hs _ fun v S1 H1 g1 s1 k1 r1 => ?_
    obtain ⟨v1, v2, rfl, r1, r2⟩ := two_args r1
    obtain ⟨a, vs, rfl, a1, a2⟩ := r1.lst_inv
    obtain ⟨b, ws, rfl, b1, b2⟩ := r2.lst_inv
    refine ⟨a, b, vs, ws, rfl, s1.sql a1, s1.sql b1, hR _ S1 H1 g1 s1 k1 ?_⟩
    intro S2 F2 H2 g2 s2 k2
    refine ⟨⟨vs, ws, s2.sql (g2 _ _ a1), s2.sql (g2 _ _ b1), by rw [a2.1, b2.1, zipD_len]; omega⟩, fun i d hd => ?_⟩
    obtain ⟨d1, d2, e1, e2, rfl⟩ := zipD_get _ _ _ _ hd
    obtain ⟨v, hv, rv⟩ := a2.get e1
    obtain ⟨w, hw, rw'⟩ := b2.get e2
    refine ⟨⟨vs, ws, v, w, s2.sql (g2 _ _ a1), s2.sql (g2 _ _ b1), hv, hw⟩, fun x H3 y => ?_⟩
    obtain ⟨T, x, y, rfl, hT, rfl, y1, y2⟩ := y
    have q1 := y1 vs (s2.sql (g2 _ _ a1))
    have q2 := y2 ws (s2.sql (g2 _ _ b1))
    rw [hv] at q1; cases q1
    rw [hw] at q2; cases q2
    exact pair_new s2 hT (rv.mono g2) (rw'.mono g2))
theorem it_zipT {pre : Pre} {e e2 : Expr} {p tpos : Pos} {elts : List Expr} {kk : Nat} {ds es : List Da} (h : EX f env e (.tup ds)) (h2 : EX f env e2 (.tup es)) (hm : f.mg "zip" = none) (hg : GlS f "zip" := by rfl)
    (hse : ∀ env, starEach [e, e2] env = (false, eval e env) :: starEach [e2] env := by intro _; rfl) (hs2 : ∀ env, starEach [e2] env = [(false, eval e2 env)] := by intro _; rfl) (hpl : ∀ env, (backTo pos (starEach [e2] env)).any (·.1) = false := by intro _; rfl) :
    IT pre f env (.Tuple elts kk tpos) (.Call (.Name "zip" p) [e, e2] [] pos) (zipD ds es) := fun S F σ H hp hσ hs _ R hR =>
  wI_of (wi := iZipA f.K (wA f [e, e2])) (fun X hX => by rw [← hX.K]; exact pi_zipA (hg.gl hX) (by rw [hX.mg]; exact hm) (pw_a hX) (hse _) (hpl _)) (by
    refine ea_cons h (ea_cons h2 ea_nil hs2) hse S F σ H hp hσ hs _ fun v S1 H1 g1 s1 k1 r1 => ?_
    obtain ⟨v1, v2, rfl, r1, r2⟩ := two_args r1
    obtain ⟨a, vs, rfl, a1, a2⟩ := r1.tup_inv
    obtain ⟨b, ws, rfl, b1, b2⟩ := r2.tup_inv
    refine ⟨a, b, vs, ws, rfl, .inr ⟨s1.sqt a1, s1.sqt b1, hR _ S1 H1 g1 s1 k1 ?_⟩⟩
    intro S2 F2 H2 g2 s2 k2
    refine ⟨⟨vs, ws, s2.sqt (g2 _ _ a1), s2.sqt (g2 _ _ b1), by rw [a2.1, b2.1, zipD_len]; omega⟩, fun i d hd => ?_⟩
    obtain ⟨d1, d2, e1, e2, rfl⟩ := zipD_get _ _ _ _ hd
    obtain ⟨v, hv, rv⟩ := a2.get e1
    obtain ⟨w, hw, rw'⟩ := b2.get e2
    refine ⟨⟨vs, ws, v, w, s2.sqt (g2 _ _ a1), s2.sqt (g2 _ _ b1), hv, hw⟩, fun x H3 y => ?_⟩
    obtain ⟨T, x, y, rfl, hT, rfl, y1, y2⟩ := y
    have q1 := y1 vs (s2.sqt (g2 _ _ a1))
    have q2 := y2 ws (s2.sqt (g2 _ _ b1))
    rw [hv] at q1; cases q1
    rw [hw] at q2; cases q2
    exact pair_new s2 hT (rv.mono g2) (rw'.mono g2))

/-! ### comprehensions -/
def filtered {α : Type} (b : α → Bool) (r : α → Da) (xs : List α) : List Da := (xs.filter b).map r
theorem filtered_snoc {α : Type} {b : α → Bool} {r : α → Da} {xs : List α} {i : Nat} {a : α} (h : xs[i]? = some a) : filtered b r (xs.take (i + 1)) = filtered b r (xs.take i) ++ (if b a = true then [r a] else []) := by
  unfold filtered
  rw [List.take_add_one, h, List.filter_append, List.map_append]
  simp only [Option.toList_some, List.filter_cons, List.filter_nil]
  split <;> rfl
theorem filtered_len {α : Type} (b : α → Bool) (r : α → Da) (xs : List α) : (filtered b r xs).length ≤ xs.length := by
  unfold filtered; rw [List.length_map]; exact List.length_filter_le ..
theorem ex_lcP {pre : Pre} {α : Type} (xs : List α) {enc : α → Da} {b : α → Bool} {r : α → Da} {envA : α → En} {own : List (Str × Nat)} {vs : List Nat} {elt tg iter : Expr} {ifs : List Expr} {scope : Scope} (hi : IT pre f env tg iter (xs.map enc)) (hl : xs.length ≤ 10000000)
    (ht : ∀ a ∈ xs, TGT (f.blk scope) tg (enc a) (wipeE env (own.map (·.2))) (envA a) vs) (hc : ∀ a ∈ xs, EF (f.blk scope) (envA a) ifs (b a)) (he : ∀ a ∈ xs, b a = true → EX (f.blk scope) (envA a) elt (r a))
    (ok : blkC f.N f.sc scope own = true := by (try dsimp only [Fr.blk]); decide +kernel) (hv : ∀ i ∈ vs, i ∈ own.map (·.2) := by decide) (hfs : ∀ env x, foldedSetIterable iter env x = pure x := by intro _ _; rfl) :
    EXp pre f env (.ListComp elt [⟨tg, iter, ifs, 0⟩] scope pos) (.lst (filtered b r xs)) := fun S F σ H hp hσ hs hpre Q q =>
  wE_of (fun X hX => pe_lc (own := own) hX.calm (by rw [hX.N]; exact hX.nd) (pw_i hX) (by rw [hX.N, hX.sc]; exact blkOk_by ok)
    (fun s H C cl fp => pw_g (hX.blk s H scope C cl fp)) (fun s H C cl fp => pw_f (hX.blk s H scope C cl fp)) (fun s H C cl fp => pw_e (hX.blk s H scope C cl fp)) (hfs _)) (by
    refine hi S F σ H hp hσ hs hpre _ fun J S1 H1 g1 s1 k1 wk D hD => ?_
    refine ⟨fun i m H' => m = xs.length - i ∧ i ≤ xs.length ∧ ∃ S' acc, Gr S1 S' ∧ Sep S' (upd F D (.lst acc)) H' ∧ Kf H1 H' ∧ RpL S' acc (filtered b r (xs.take i)), ⟨_, rfl, Nat.zero_le _, S1, [], Gr.refl _, s1.newF hD, Kf.new hD, by simpa [filtered] using RpL.nil⟩, ?_⟩
    rintro i m H' ⟨rfl, hi, S', acc, g', s', k', ra⟩
    obtain ⟨stop, turn⟩ := wk S' _ H' g' s' k'
    by_cases hlt : i < xs.length
    · refine .inr ?_
      obtain ⟨a, ha⟩ : ∃ a, xs[i]? = some a := ⟨_, List.getElem?_eq_getElem hlt⟩
      have hmem : a ∈ xs := List.mem_of_getElem? ha
      obtain ⟨go, yl⟩ := turn i (enc a) (by rw [List.getElem?_map, ha]; rfl)
      refine ⟨go, fun H4 => ∃ S4 acc4, Gr S1 S4 ∧ Sep S4 (upd F D (.lst acc4)) H4 ∧ Kf H1 H4 ∧ RpL S4 acc4 (filtered b r (xs.take (i + 1))), fun H4 ⟨S4, acc4, h1, h2, h3, h4⟩ => ⟨xs.length - (i + 1), by omega, rfl, hlt, S4, acc4, h1, h2, h3, h4⟩, fun x H3 yy => ?_⟩
      obtain ⟨S3, g3, s3, k3, r3⟩ := yl x H3 yy
      refine ht a hmem S3 _ _ H3 x (((hσ.mono g1).mono (g'.trans g3)).wipe _) s3 r3 _ fun σ2 hσ2 hw => ⟨?_, ?_⟩
      · rw [hw (own.map (·.2)) hv, wipe_wipe (fun i hi => hi)]
      have hF : F D = none := s1.freeF hD
      have hpf : (f.blk scope).pf (upd F D (.lst acc)) := Fr.pf_mono (f := f.blk scope) (Gr.new hF) hp
      refine hc a hmem S3 _ σ2 H3 hpf hσ2 s3 _ fun S5 H5 g5 s5 k5 => ?_
      have fs := filtered_snoc (b := b) (r := r) ha
      cases hb : b a with
      | false =>
        rw [if_neg (by decide)]
        refine ⟨S5, acc, g'.trans (g3.trans g5), s5, (k'.trans k3).trans k5, ?_⟩
        rw [fs, hb, if_neg (by decide), List.append_nil]
        exact ra.mono (g3.trans g5)
      | true =>
        rw [if_pos rfl]
        refine he a hmem hb S5 _ σ2 H5 hpf (hσ2.mono g5) s5 _ fun v S6 H6 g6 s6 k6 r6 => ?_
        have hz : acc.length < sizeLine := by
          have := ra.1
          have h2 := filtered_len b r (xs.take i)
          rw [List.length_take] at h2
          exact Nat.lt_of_lt_of_le (show acc.length < 10000001 by omega) (by decide)
        refine ⟨acc, s6.prv D _ upd_same, hz, S6, acc ++ [v], g'.trans (g3.trans (g5.trans g6)), ?_, ((k'.trans k3).trans (k5.trans k6)).trans (Kf.put (s6.prv D _ upd_same) fun _ _ z => nomatch z), ?_⟩
        · have := s6.put (u := .lst (acc ++ [v])) upd_same
          rw [upd_upd] at this
          exact this
        · rw [fs, hb, if_pos rfl]
          exact (ra.mono (g3.trans (g5.trans g6))).snoc r6
    · refine .inl ?_
      have hi : i = xs.length := by omega
      subst hi
      rw [List.length_map] at stop
      refine ⟨stop, ?_⟩
      rw [List.take_length] at ra
      have hF : F D = none := s1.freeF hD
      have hT := s'.tell (p := D) upd_same
      rw [rem_upd hF] at hT
      have hSD : S' D = none := s'.freeSF upd_same
      exact q (.ref D) _ H' (g1.trans (g'.trans (Gr.new hSD))) hT (k1.trans k') (.lstL upd_same (ra.mono (Gr.new hSD))))
end
end Em
set_option maxHeartbeats 1000000
/-! The logic over plain data (4): dicts, fields, places, built-in calls. -/
namespace Em
open PySem PySem.Spec PyProof.Rows L2 RZ

/-- what a dict holds at k -/
def valD {κ : Type} [DecidableEq κ] (kvs : List (κ × Da)) (k : κ) : Option Da := (kvs.find? fun kv => decide (kv.1 = k)).map (·.2)
def putD {κ : Type} [DecidableEq κ] (kvs : List (κ × Da)) (k : κ) (d : Da) : List (κ × Da) := if kvs.any (fun kv => decide (kv.1 = k)) then kvs.map fun kv => if kv.1 = k then (kv.1, d) else kv else kvs ++ [(k, d)]
theorem RpK.nil {κ : Type} {S : Hp} : RpK (κ := κ) S [] [] := ⟨rfl, fun i v x a _ => by simp at a⟩
theorem RpK.uncons {κ : Type} {S : Hp} {a b : κ} {v : V} {x : Da} {vs : List (κ × V)} {xs : List (κ × Da)} (h : RpK S ((a, v) :: vs) ((b, x) :: xs)) : a = b ∧ Rp S v x ∧ RpK S vs xs := by
  have h1 := h.1
  simp only [List.map_cons, List.cons.injEq] at h1
  exact ⟨h1.1, h.2 0 _ _ rfl rfl, h1.2, fun i w y p q => h.2 (i + 1) w y (by simpa using p) (by simpa using q)⟩
theorem RpK.cons {κ : Type} {S : Hp} {a : κ} {v : V} {x : Da} {vs : List (κ × V)} {xs : List (κ × Da)} (h : Rp S v x) (t : RpK S vs xs) : RpK S ((a, v) :: vs) ((a, x) :: xs) := ⟨by simp [t.1], fun i w y p q => by
  cases i with
  | zero => simp at p q; subst p q; exact h
  | succ i => exact t.2 i w y (by simpa using p) (by simpa using q)⟩
theorem RpK.length {κ : Type} {S : Hp} {vs : List (κ × V)} {xs : List (κ × Da)} (h : RpK S vs xs) : vs.length = xs.length := by simpa using congrArg List.length h.1
theorem RpK.ind {κ : Type} {S : Hp} {M : List (κ × V) → List (κ × Da) → Prop} (h0 : M [] []) (hc : ∀ k v x vs xs, Rp S v x → RpK S vs xs → M vs xs → M ((k, v) :: vs) ((k, x) :: xs)) : ∀ {vs : List (κ × V)} {xs : List (κ × Da)}, RpK S vs xs → M vs xs
  | [], [], _ => h0
  | [], x :: xs, h => by have := h.length; simp at this
  | v :: vs, [], h => by have := h.length; simp at this
  | (a, v) :: vs, (b, x) :: xs, h => by
    obtain ⟨rfl, h1, h2⟩ := h.uncons
    exact hc _ _ _ _ _ h1 h2 (RpK.ind h0 hc h2)
section
variable {κ : Type} [DecidableEq κ] {S : Hp} {vs : List (κ × V)} {xs : List (κ × Da)} {k : κ}
theorem RpK.val_some {d : Da} (h : RpK S vs xs) (e : valD xs k = some d) : ∃ v, valV vs k = some v ∧ Rp S v d := by
  revert e
  refine RpK.ind (M := fun vs xs => valD xs k = some d → ∃ v, valV vs k = some v ∧ Rp S v d) (fun e => by cases e) (fun a v x vs xs h1 _ ih e => ?_) h
  unfold valD valV at *
  rw [List.find?_cons] at e ⊢
  by_cases hk : a = k
  · rw [decide_eq_true hk] at e ⊢; cases e; exact ⟨v, rfl, h1⟩
  · rw [decide_eq_false hk] at e ⊢; exact ih e
theorem RpK.val_none (h : RpK S vs xs) (e : valD xs k = none) : valV vs k = none := by
  revert e
  refine RpK.ind (M := fun vs xs => valD xs k = none → valV vs k = none) (fun _ => rfl) (fun a v x vs xs h1 _ ih e => ?_) h
  unfold valD valV at *
  rw [List.find?_cons] at e ⊢
  by_cases hk : a = k
  · rw [decide_eq_true hk] at e; cases e
  · rw [decide_eq_false hk] at e ⊢; exact ih e
theorem RpK.isSome (h : RpK S vs xs) : (valV vs k).isSome = (valD xs k).isSome := by
  cases e : valD xs k with
  | none => rw [h.val_none e]; rfl
  | some d => obtain ⟨v, q, _⟩ := h.val_some e; rw [q]; rfl
theorem RpK.put {v : V} {d : Da} (h : RpK S vs xs) (r : Rp S v d) : RpK S (putK vs k v) (putD xs k d) := by
  have h1 : vs.any (fun kv => decide (kv.1 = k)) = xs.any fun kv => decide (kv.1 = k) := by
    have e1 : ∀ {β : Type} (l : List (κ × β)), l.any (fun kv => decide (kv.1 = k)) = (l.map (·.1)).any fun y => decide (y = k) := fun l => by rw [List.any_map]; rfl
    rw [e1, e1, h.1]
  unfold putK putD
  rw [h1]
  by_cases hc : (xs.any fun kv => decide (kv.1 = k)) = true
  · rw [if_pos hc, if_pos hc]
    refine RpK.ind (M := fun vs xs => RpK S (vs.map fun kv => if kv.1 = k then (kv.1, v) else kv) (xs.map fun kv => if kv.1 = k then (kv.1, d) else kv)) RpK.nil (fun a w x vs xs q _ ih => ?_) h
    rw [List.map_cons, List.map_cons]
    by_cases hk : a = k
    · rw [if_pos hk, if_pos hk]; exact ih.cons r
    · rw [if_neg hk, if_neg hk]; exact ih.cons q
  · rw [if_neg hc, if_neg hc]
    exact RpK.ind (M := fun vs xs => RpK S (vs ++ [(k, v)]) (xs ++ [(k, d)])) (RpK.cons r RpK.nil) (fun a w x vs xs q _ ih => ih.cons q) h
end
theorem putD_len {κ : Type} [DecidableEq κ] (xs : List (κ × Da)) (k : κ) (d : Da) : (putD xs k d).length ≤ xs.length + 1 := by
  unfold putD; split <;> simp

/-- where a reading gives a fixed thing and nothing changes: a name, a field of a name -/
def ES (f : Fr) (env : En) (e : Expr) (sel : L2.St → Hp → V → Prop) : Prop := ∀ S F σ H, f.pf F → SlE S σ env → Sep S F H → ∃ v, sel σ S v ∧ ∀ Q : VK, Q v H → wE f e σ H Q

section
variable {f : Fr} {env : En} {pos : Pos}
/-! ### fields -/
theorem ex_fld {o : Expr} {m : Str} {C : Addr} {fs : List (Str × Da)} {d : Da} (h : EX f env o (.ins C fs)) (hl : fs.lookup m = some d) (c : Cls f.K C) (n : NoAttr f.K C m) (hb : ∀ env, attributeBase o m env (eval o env) = eval o env := by intro _; rfl) : EX f env (.Attribute o m pos) d := fun S F σ H hp hσ hs Q q =>
  wE_of (te := tFld f.K (wE f o) m) (fun X hX => by rw [← hX.K]; exact pe_fld (pw_e hX) (hb _)) (h S F σ H hp hσ hs _ fun v S1 H1 g1 s1 k1 r1 => by
    obtain ⟨a, dx, vs, rfl, h1, h2⟩ := r1.ins_inv
    obtain ⟨v, hv, rv⟩ := h2.lookup hl
    exact ⟨a, C, dx, vs, v, rfl, s1.at h1, c, n, hv, q v S1 H1 g1 s1 k1 rv⟩)

/-! ### places -/
theorem ex_ixL {a b : Expr} {xs : List Da} {i : Int} {d : Da} (ha : EX f env a (.lst xs)) (hb : EX f env b (dI i)) (hi : atI xs i = some d) (hpi : PlainIx b := by exact fun _ _ => rfl) : EX f env (.Subscript a b pos) d := fun S F σ H hp hσ hs Q q =>
  wE_of (te := tOp (rIxL f.K) (wE f a) (wE f b)) (fun X hX => by rw [← hX.K]; exact pe_ix ix_list (pw_e hX) (pw_e hX) hpi) (ha S F σ H hp hσ hs _ fun v1 S1 H1 g1 s1 k1 r1 => hb S1 F σ H1 hp (hσ.mono g1) s1 _ fun v2 S2 H2 g2 s2 k2 r2 => by
    obtain ⟨a, vs, rfl, h1, h2⟩ := (r1.mono g2).lst_inv
    obtain rfl := r2.v_inv
    unfold atI at hi
    rw [← h2.1] at hi
    cases hx : ixN vs.length i with
    | none => rw [hx] at hi; cases hi
    | some j =>
      rw [hx] at hi
      obtain ⟨v, hv, rv⟩ := h2.get (show xs[j]? = some d from hi)
      exact ⟨a, vs, i, v, rfl, rfl, s2.sql h1, by unfold atI; rw [hx]; exact hv, q v S2 H2 (g1.trans g2) s2 (k1.trans k2) rv⟩)
theorem ex_ixT {a b : Expr} {xs : List Da} {i : Int} {d : Da} (ha : EX f env a (.tup xs)) (hb : EX f env b (dI i)) (hi : atI xs i = some d) (hpi : PlainIx b := by exact fun _ _ => rfl) : EX f env (.Subscript a b pos) d := fun S F σ H hp hσ hs Q q =>
  wE_of (te := tOp (rIxT f.K) (wE f a) (wE f b)) (fun X hX => by rw [← hX.K]; exact pe_ix ix_tup (pw_e hX) (pw_e hX) hpi) (ha S F σ H hp hσ hs _ fun v1 S1 H1 g1 s1 k1 r1 => hb S1 F σ H1 hp (hσ.mono g1) s1 _ fun v2 S2 H2 g2 s2 k2 r2 => by
    obtain ⟨a, vs, rfl, h1, h2⟩ := (r1.mono g2).tup_inv
    obtain rfl := r2.v_inv
    unfold atI at hi
    rw [← h2.1] at hi
    cases hx : ixN vs.length i with
    | none => rw [hx] at hi; cases hi
    | some j =>
      rw [hx] at hi
      obtain ⟨v, hv, rv⟩ := h2.get (show xs[j]? = some d from hi)
      exact ⟨a, vs, i, v, rfl, rfl, s2.sqt h1, by unfold atI; rw [hx]; exact hv, q v S2 H2 (g1.trans g2) s2 (k1.trans k2) rv⟩)
theorem ex_ixS {a b : Expr} {x : Str} {i : Int} {c : Nat} (ha : EX f env a (dS x)) (hb : EX f env b (dI i)) (hi : atI x.cps.toList i = some c) (hl : x.length ≤ 10000000 := by decide) (hpi : PlainIx b := by exact fun _ _ => rfl) : EX f env (.Subscript a b pos) (dS ⟨#[c]⟩) := fun S F σ H hp hσ hs Q q =>
  wE_of (te := tOp rIxS (wE f a) (wE f b)) (fun X hX => pe_ix ix_str (pw_e hX) (pw_e hX) hpi) (ha S F σ H hp hσ hs _ fun v1 S1 H1 g1 s1 k1 r1 => hb S1 F σ H1 hp (hσ.mono g1) s1 _ fun v2 S2 H2 g2 s2 k2 r2 => by
    obtain rfl := r1.v_inv
    obtain rfl := r2.v_inv
    exact ⟨x, i, c, rfl, rfl, big_ok hl, hi, q _ S2 H2 (g1.trans g2) s2 (k1.trans k2) (.v _)⟩)
/-- t[:n] of a tuple -/
theorem ex_slT {a b : Expr} {xs : List Da} {n : Nat} {p2 : Pos} (ha : EX f env a (.tup xs)) (hb : EX f env b (dI n)) : EX f env (.Subscript a (.Slice none (some b) none p2) pos) (.tup (xs.take n)) := fun S F σ H hp hσ hs Q q =>
  wE_of (te := tSl (rSlA f.K) (wE f a) tNoPart (tPart (wE f b))) (fun X hX => by rw [← hX.K]; exact pe_slice sl_tupA (pw_e hX) po_none (po_some (pw_e hX))) (ha S F σ H hp hσ hs _ fun v1 S1 H1 g1 s1 k1 r1 => hb S1 F σ H1 hp (hσ.mono g1) s1 _ fun v2 S2 H2 g2 s2 k2 r2 => by
    obtain ⟨a, vs, rfl, h1, h2⟩ := (r1.mono g2).tup_inv
    obtain rfl := r2.v_inv
    have e1 : HT.sIx vs.length 0 none = 0 := rfl
    have e2 : HT.sIx vs.length vs.length (some (n : Int)) = min n vs.length := by
      unfold HT.sIx; simp only; split <;> omega
    have ec : cutV vs none (some (n : Int)) = vs.take n := by
      unfold cutV; rw [e1, e2]; simp
    refine ⟨(n : Int), rfl, a, vs, rfl, s2.sqt h1, fun ⟨_, hw⟩ => ?_, fun _ p hpn => ?_⟩
    · rw [e2] at hw
      refine q _ S2 H2 (g1.trans g2) s2 (k1.trans k2) ?_
      rw [List.take_of_length_le (by rw [← h2.1]; omega)]
      exact .tupL h1 h2
    · rw [ec]
      refine (q.step (g1.trans g2) (k1.trans k2)).fresh s2 hpn (.tupL upd_same ⟨by rw [List.length_take, List.length_take, h2.1], fun i v x e1 e2 => ?_⟩)
      rw [List.getElem?_take] at e1 e2
      split at e1
      · rw [if_pos (by assumption)] at e2; exact (h2.2 i v x e1 e2).mono (Gr.new (s2.freeS hpn))
      · cases e1)

/-! ### dicts with text keys -/
theorem room1 {X : Cx} (hX : Okx f X) : X.A.units + 1 < cLine := by have := hX.room.un; omega
theorem ex_dget {o i : Expr} {kvs : List (Key × Da)} {k : Str} {d : Da} (ho : EX f env o (.dct kvs)) (hi : EX f env i (dS k)) (hv : valD kvs (.inr k) = some d) (hsl : NoSl i := by exact fun _ _ => rfl) : EX f env (.Subscript o i pos) d := fun S F σ H hp hσ hs Q q =>
  wE_of (fun X hX => pe_dget (room1 hX) (pw_e hX) (pw_e hX) hsl) (ho S F σ H hp hσ hs _ fun v1 S1 H1 g1 s1 k1 r1 => hi S1 F σ H1 hp (hσ.mono g1) s1 _ fun v2 S2 H2 g2 s2 k2 r2 => by
    obtain ⟨a, vs, rfl, h1, h2⟩ := (r1.mono g2).dct_inv
    obtain rfl := r2.v_inv
    obtain ⟨v, e, rv⟩ := h2.val_some hv
    exact ⟨a, v, rfl, .inl ⟨vs, .inr k, s2.rd h1, rfl, e.symm⟩, q v S2 H2 (g1.trans g2) s2 (k1.trans k2) rv⟩)
theorem din_run {o i : Expr} {kvs : List (Key × Da)} {k : Str} (ho : EX f env o (.dct kvs)) (hi : EX f env i (dS k)) {S F : Hp} {σ : L2.St} {H : Hp} {Q : Bool → VK} (hp : f.pf F) (hσ : SlE S σ env) (hs : Sep S F H) (q : ∀ b S' H', b = (valD kvs (.inr k)).isSome → Gr S S' → Sep S' F H' → Kf H H' → ∀ v, Q b v H') :
    wE f i σ H fun y H1 => wE f o σ H1 fun x H2 => ∃ a ov, x = .ref a ∧ DGet H2 a y ov ∧ ∀ v, Q ov.isSome v H2 :=
  hi S F σ H hp hσ hs _ fun v2 S1 H1 g1 s1 k1 r1 => ho S1 F σ H1 hp (hσ.mono g1) s1 _ fun v1 S2 H2 g2 s2 k2 r2 => by
    obtain ⟨a, vs, rfl, h1, h2⟩ := r2.dct_inv
    obtain rfl := r1.v_inv
    exact ⟨a, _, rfl, .inl ⟨vs, .inr k, s2.rd h1, rfl, rfl⟩, q _ S2 H2 h2.isSome (g1.trans g2) s2 (k1.trans k2)⟩
theorem ex_din {o i : Expr} {kvs : List (Key × Da)} {k : Str} (hi : EX f env i (dS k)) (ho : EX f env o (.dct kvs)) (hm : behindInMarks .In o = false := by rfl) : EX f env (.Compare i [.In] [o] pos) (dB (valD kvs (.inr k)).isSome) := fun S F σ H hp hσ hs Q q =>
  wE_of (fun X hX => pe_cmp (pc_din (room1 hX) (pw_e hX) (pw_e hX)) hm) (hi S F σ H hp hσ hs _ fun v2 S1 H1 g1 s1 k1 r1 => ho S1 F σ H1 hp (hσ.mono g1) s1 _ fun v1 S2 H2 g2 s2 k2 r2 => by
    obtain ⟨a, vs, rfl, h1, h2⟩ := r2.dct_inv
    obtain rfl := r1.v_inv
    refine ⟨a, _, rfl, .inl ⟨vs, .inr k, s2.rd h1, rfl, rfl⟩, q _ S2 H2 (g1.trans g2) s2 (k1.trans k2) ?_⟩
    rw [h2.isSome]; exact .v _)
theorem et_din {o i : Expr} {kvs : List (Key × Da)} {k : Str} (hi : EX f env i (dS k)) (ho : EX f env o (.dct kvs)) (hm : behindInMarks .In o = false := by rfl) : ET f env (.Compare i [.In] [o] pos) (valD kvs (.inr k)).isSome := fun S F σ H hp hσ hs Q q =>
  wT_of (fun X hX => pt_cmp (pc_din (room1 hX) (pw_e hX) (pw_e hX)) hm) (hi S F σ H hp hσ hs _ fun v2 S1 H1 g1 s1 k1 r1 => ho S1 F σ H1 hp (hσ.mono g1) s1 _ fun v1 S2 H2 g2 s2 k2 r2 => by
    obtain ⟨a, vs, rfl, h1, h2⟩ := r2.dct_inv
    obtain rfl := r1.v_inv
    refine ⟨a, _, rfl, .inl ⟨vs, .inr k, s2.rd h1, rfl, rfl⟩, _, rfl, ?_⟩
    rw [h2.isSome]; exact q S2 H2 (g1.trans g2) s2 (k1.trans k2))
theorem et_dnin {o i : Expr} {kvs : List (Key × Da)} {k : Str} (hi : EX f env i (dS k)) (ho : EX f env o (.dct kvs)) (hm : behindInMarks .NotIn o = false := by rfl) : ET f env (.Compare i [.NotIn] [o] pos) (!(valD kvs (.inr k)).isSome) := fun S F σ H hp hσ hs Q q =>
  wT_of (fun X hX => pt_cmp (pc_dnotin (room1 hX) (pw_e hX) (pw_e hX)) hm) (hi S F σ H hp hσ hs _ fun v2 S1 H1 g1 s1 k1 r1 => ho S1 F σ H1 hp (hσ.mono g1) s1 _ fun v1 S2 H2 g2 s2 k2 r2 => by
    obtain ⟨a, vs, rfl, h1, h2⟩ := r2.dct_inv
    obtain rfl := r1.v_inv
    refine ⟨a, _, rfl, .inl ⟨vs, .inr k, s2.rd h1, rfl, rfl⟩, _, rfl, ?_⟩
    rw [h2.isSome]; exact q S2 H2 (g1.trans g2) s2 (k1.trans k2))
/-- d.get(k, x) -/
theorem ex_get2 {o e e2 : Expr} {kvs : List (Key × Da)} {k : Str} {d d2 : Da} {apos : Pos} (ho : EX f env o (.dct kvs)) (he : EX f env e (dS k)) (he2 : EX f env e2 d2) (hd : (valD kvs (.inr k)).getD d2 = d) (m : ∀ X, Okx f X → M2 X o "get" apos e e2 pos) : EX f env (.Call (.Attribute o "get" apos) [e, e2] [] pos) d := fun S F σ H hp hσ hs Q q =>
  wE_of (fun X hX => pe_dget2 (room1 hX) (pw_e hX) (pw_e hX) (pw_e hX) (m X hX)) (ho S F σ H hp hσ hs _ fun v1 S1 H1 g1 s1 k1 r1 => by
    obtain ⟨a, vs, rfl, h1, h2⟩ := r1.dct_inv
    refine ⟨a, rfl, .inl ⟨vs, s1.rd h1⟩, he S1 F σ H1 hp (hσ.mono g1) s1 _ fun v2 S2 H2 g2 s2 k2 r2 => he2 S2 F σ H2 hp (hσ.mono (g1.trans g2)) s2 _ fun v3 S3 H3 g3 s3 k3 r3 => ?_⟩
    obtain rfl := r2.v_inv
    refine ⟨valV vs (.inr k), .inl ⟨vs, .inr k, s3.rd (g3 _ _ (g2 _ _ h1)), rfl, rfl⟩, q _ S3 H3 (g1.trans (g2.trans g3)) s3 (k1.trans (k2.trans k3)) ?_⟩
    cases hv : valD kvs (.inr k) with
    | none => rw [hv] at hd; rw [h2.val_none hv]; subst hd; exact r3
    | some z => rw [hv] at hd; obtain ⟨v, e, rv⟩ := h2.val_some hv; rw [e]; subst hd; exact rv.mono (g2.trans g3))

/-! ### built-ins by their names -/
def wC (f : Fr) (fv : Value) : List V → Hp → VK → Prop := fun vs H Q => ∀ X pins s σ us, Okx f X → Inv X pins σ H s → Vals vs us → wpAny (model X.prog X.w) X.A (call fv us) (EP X pins σ Q) X.xe s
theorem wC_r {fv : Value} {X : Cx} (h : Okx f X) : CallR X fv (wC f fv) := fun pins s σ H xs us Q I r q => q X pins s σ us h I r
theorem wC_of {fv : Value} {r : List V → Hp → VK → Prop} (h : ∀ X, Okx f X → CallR X fv r) {vs : List V} {H : Hp} {Q : VK} (q : r vs H Q) : wC f fv vs H Q := fun X pins s σ us hX I rv => h X hX pins s σ H vs us Q I rv q
/-- the call of fv with ds gives z -/
def CD (f : Fr) (fv : Value) (ds : List Da) (z : Da) : Prop := ∀ S F H vs, f.pf F → Sep S F H → RpL S vs ds → ∀ Q, PQ S F H z Q → wC f fv vs H Q
theorem ex_callB {x : Str} {id : String} {p : Pos} {e : Expr} {es : List Expr} {ds : List Da} {z : Da} (c : CD f (.builtin id) ds z) (ha : EA f env (e :: es) ds) (hm : f.mg x = none) (hv : bootBuiltins x = some (.builtin id)) (hg : GlS f x := by rfl) (hn : x ≠ "__name__" := by decide) (hdb : (x == ("__debug__" : Str)) = false := by decide)
    (he : ∀ env, starEach (e :: es) env = (false, eval e env) :: starEach es env := by intro _; rfl) (hpl : ∀ env, (backTo pos (starEach es env)).any (·.1) = false := by intro _; rfl) : EX f env (.Call (.Name x p) (e :: es) [] pos) z := fun S F σ H hp hσ hs Q q =>
  wE_of (fun X hX => pe_callB (wC_r hX) (hg.gl hX) (by rw [hX.mg]; exact hm) hv (pw_a hX) hn hdb (he _) (hpl _)) (ha S F σ H hp hσ hs _ fun vs S1 H1 g1 s1 k1 r1 => c S1 F H1 vs hp s1 r1 Q (q.step g1 k1))
theorem ex_callTy {x : Str} {T : String} {p : Pos} {e : Expr} {es : List Expr} {ds : List Da} {z : Da} (c : CD f (.type T) ds z) (ha : EA f env (e :: es) ds) (hm : f.mg x = none) (hv : bootBuiltins x = some (.type T)) (hg : GlS f x := by rfl) (hn : x ≠ "__name__" := by decide) (hdb : (x == ("__debug__" : Str)) = false := by decide)
    (he : ∀ env, starEach (e :: es) env = (false, eval e env) :: starEach es env := by intro _; rfl) (hpl : ∀ env, (backTo pos (starEach es env)).any (·.1) = false := by intro _; rfl) : EX f env (.Call (.Name x p) (e :: es) [] pos) z := fun S F σ H hp hσ hs Q q =>
  wE_of (fun X hX => pe_callTy (wC_r hX) (hg.gl hX) (by rw [hX.mg]; exact hm) hv (pw_a hX) hn hdb (he _) (hpl _)) (ha S F σ H hp hσ hs _ fun vs S1 H1 g1 s1 k1 r1 => c S1 F H1 vs hp s1 r1 Q (q.step g1 k1))
theorem CD.of {fv : Value} {ds : List Da} {z : Da} (r : List V → Hp → VK → Prop) (h : ∀ X, Okx f X → CallR X fv r) (q : ∀ S F H vs, Sep S F H → RpL S vs ds → ∀ Q, PQ S F H z Q → r vs H Q) : CD f fv ds z := fun S F H vs hp hs r Q k => wC_of h (q S F H vs hs r Q k)
theorem cd_len_lst {xs : List Da} : CD f (.builtin "len") [.lst xs] (dI xs.length) := .of (fun xs H Q => ∃ p ys, xs = [.ref p] ∧ (SqL f.K H p ys ∨ SqT f.K H p ys) ∧ Q (.int ys.length) H) (fun X hX => by rw [← hX.K]; exact call_len_seq) fun S F H vs hs r Q k => by
  obtain ⟨v, rfl, r1⟩ := one_arg1 r
  obtain ⟨a, vs, rfl, h1, h2⟩ := r1.lst_inv
  exact ⟨a, vs, rfl, .inl (hs.sql h1), by rw [h2.1]; exact k.here hs (.v _)⟩
theorem cd_len_tup {xs : List Da} : CD f (.builtin "len") [.tup xs] (dI xs.length) := .of (fun xs H Q => ∃ p ys, xs = [.ref p] ∧ (SqL f.K H p ys ∨ SqT f.K H p ys) ∧ Q (.int ys.length) H) (fun X hX => by rw [← hX.K]; exact call_len_seq) fun S F H vs hs r Q k => by
  obtain ⟨v, rfl, r1⟩ := one_arg1 r
  obtain ⟨a, vs, rfl, h1, h2⟩ := r1.tup_inv
  exact ⟨a, vs, rfl, .inr (hs.sqt h1), by rw [h2.1]; exact k.here hs (.v _)⟩
theorem cd_len_str {x : Str} (hl : x.length ≤ 10000000) : CD f (.builtin "len") [dS x] (dI x.length) := .of (fun xs H Q => ∃ x n, xs = [x] ∧ LenV f.K x H n ∧ Q (.int n) H) (fun X hX => by rw [← hX.K]; exact call_len) fun S F H vs hs r Q k => by
  obtain ⟨v, rfl, r1⟩ := one_arg1 r
  obtain rfl := r1.v_inv
  exact ⟨_, x.length, rfl, ⟨big_ok hl, rfl⟩, k.here hs (.v _)⟩
theorem sum_map {ns : List Int} : (ns.map fun n => dI n) = ns.map fun n => Da.v (V.int n) := rfl
theorem cd_sum {ns : List Int} : CD f (.builtin "sum") [.lst (ns.map fun n => dI n)] (dI ns.sum) := .of (rSum f.K) (fun X hX => by rw [← hX.K]; exact cr_sum hX.calm) fun S F H vs hs r Q k => by
  obtain ⟨v, rfl, r1⟩ := one_arg1 r
  obtain ⟨a, vs, rfl, h1, h2⟩ := r1.lst_inv
  obtain rfl := h2.atoms
  exact ⟨a, ns, rfl, hs.sql h1, k.here hs (.v _)⟩
theorem cd_all {bs : List Bool} : CD f (.builtin "all") [.lst (bs.map fun n => dB n)] (dB (bs.all id)) := .of (rAll f.K) (fun X hX => by rw [← hX.K]; exact cr_all hX.calm) fun S F H vs hs r Q k => by
  obtain ⟨v, rfl, r1⟩ := one_arg1 r
  obtain ⟨a, vs, rfl, h1, h2⟩ := r1.lst_inv
  obtain rfl := h2.atoms
  exact ⟨a, bs, rfl, hs.sql h1, k.here hs (.v _)⟩
theorem cd_any {bs : List Bool} : CD f (.builtin "any") [.lst (bs.map fun n => dB n)] (dB (bs.any id)) := .of (rAny f.K) (fun X hX => by rw [← hX.K]; exact cr_any hX.calm) fun S F H vs hs r Q k => by
  obtain ⟨v, rfl, r1⟩ := one_arg1 r
  obtain ⟨a, vs, rfl, h1, h2⟩ := r1.lst_inv
  obtain rfl := h2.atoms
  exact ⟨a, bs, rfl, hs.sql h1, k.here hs (.v _)⟩
theorem cd_list {xs : List Da} : CD f (.type "list") [.lst xs] (.lst xs) := .of (fun xs H Q => ∃ p ys, xs = [.ref p] ∧ (SqL f.K H p ys ∨ SqT f.K H p ys) ∧ ∀ l, H l = none → Q (.ref l) (upd H l (.lst ys))) (fun X hX => by rw [← hX.K]; exact call_list_of) fun S F H vs hs r Q k => by
  obtain ⟨v, rfl, r1⟩ := one_arg1 r
  obtain ⟨a, vs, rfl, h1, h2⟩ := r1.lst_inv
  exact ⟨a, vs, rfl, .inl (hs.sql h1), fun p hp => k.fresh hs hp (.lstL upd_same (h2.mono (Gr.new (hs.freeS hp))))⟩
theorem cd_tuple {xs : List Da} : CD f (.type "tuple") [.lst xs] (.tup xs) := .of (fun xs H Q => ∃ p ys, xs = [.ref p] ∧ ((SqL f.K H p ys ∧ ∀ l, H l = none → Q (.ref l) (upd H l (.tup ys))) ∨ (SqT f.K H p ys ∧ Q (.ref p) H))) (fun X hX => by rw [← hX.K]; exact call_tuple_of) fun S F H vs hs r Q k => by
  obtain ⟨v, rfl, r1⟩ := one_arg1 r
  obtain ⟨a, vs, rfl, h1, h2⟩ := r1.lst_inv
  exact ⟨a, vs, rfl, .inl ⟨hs.sql h1, fun p hp => k.fresh hs hp (.tupL upd_same (h2.mono (Gr.new (hs.freeS hp))))⟩⟩
theorem cd_dict {xs : List (Key × Da)} : CD f (.type "dict") [.dct xs] (.dct xs) := .of _ (fun X hX => call_dictD) fun S F H vs hs r Q k => by
  obtain ⟨v, rfl, r1⟩ := one_arg1 r
  obtain ⟨a, vs, rfl, h1, h2⟩ := r1.dct_inv
  exact ⟨a, vs, rfl, hs.rd h1, fun p hp => k.fresh hs hp (.dctK upd_same (h2.mono (Gr.new (hs.freeS hp))))⟩
/-- list(d): its keys -/
theorem cd_listD {xs : List (Key × Da)} : CD f (.type "list") [.dct xs] (.lst (xs.map fun kv => Da.v (kV kv.1))) := .of _ (fun X hX => call_listD hX.calm) fun S F H vs hs r Q k => by
  obtain ⟨v, rfl, r1⟩ := one_arg1 r
  obtain ⟨a, vs, rfl, h1, h2⟩ := r1.dct_inv
  refine ⟨a, vs, rfl, hs.rd h1, fun p hp => k.fresh hs hp (.lstL upd_same ?_)⟩
  have e : (vs.map fun kv => kV kv.1) = xs.map fun kv => kV kv.1 := by
    have := congrArg (List.map kV) h2.1
    simpa [List.map_map, Function.comp_def] using this
  rw [e]
  exact RpL.of_atoms (fun kv : Key × Da => kV kv.1) xs
theorem cd_int {i : Int} : CD f (.type "int") [dI i] (dI i) := .of _ (fun X hX => call_int1) fun S F H vs hs r Q k => by
  obtain ⟨v, rfl, r1⟩ := one_arg1 r
  obtain rfl := r1.v_inv
  exact .inl ⟨i, rfl, k.here hs (.v _)⟩
/-- sorted(texts), sorted(a dict of texts): an ascending order, whichever -/
theorem cd_sortS {xs ys : List Str} (h64 : xs.length < 64) (hu : ∀ zs : List Str, zs.Perm xs → sortedS zs = true → zs = ys) : CD f (.builtin "sorted") [.lst (xs.map fun x => dS x)] (.lst (ys.map fun x => dS x)) := .of (rSortedS f.K) (fun X hX => by rw [← hX.K]; exact cr_sortedS) fun S F H vs hs r Q k => by
  obtain ⟨v, rfl, r1⟩ := one_arg1 r
  obtain ⟨a, vs, rfl, h1, h2⟩ := r1.lst_inv
  obtain rfl := h2.atoms
  refine ⟨a, xs, rfl, hs.sql h1, h64, fun zs p hz hz2 hp => ?_⟩
  obtain rfl := hu zs hz hz2
  exact k.fresh hs hp (.lstL upd_same (RpL.of_atoms V.str zs))
theorem cd_sortD {kvs : List (Key × Da)} {xs ys : List Str} (hk : kvs.map (·.1) = xs.map Sum.inr) (h64 : xs.length < 64) (hu : ∀ zs : List Str, zs.Perm xs → sortedS zs = true → zs = ys) : CD f (.builtin "sorted") [.dct kvs] (.lst (ys.map fun x => dS x)) := .of _ (fun X hX => call_sortedD hX.calm) fun S F H vs hs r Q k => by
  obtain ⟨v, rfl, r1⟩ := one_arg1 r
  obtain ⟨a, vs, rfl, h1, h2⟩ := r1.dct_inv
  refine ⟨a, vs, xs, rfl, hs.rd h1, h2.1.trans hk, h64, fun zs p hz hz2 hp => ?_⟩
  obtain rfl := hu zs hz hz2
  exact k.fresh hs hp (.lstL upd_same (RpL.of_atoms V.str zs))
/-- isinstance(x, T) -/
theorem tyx_rp {S F H : Hp} {v : V} {d : Da} (K : PySem.W.Frag) (hs : Sep S F H) (r : Rp S v d) : (∀ xs, d = .lst xs → TyX K H v (.type "list")) ∧ (∀ xs, d = .tup xs → TyX K H v (.type "tuple")) ∧ (∀ xs, d = .dct xs → TyX K H v (.type "dict")) := by
  refine ⟨fun xs e => ?_, fun xs e => ?_, fun xs e => ?_⟩ <;> subst e
  · obtain ⟨a, vs, rfl, h1, _⟩ := r.lst_inv; exact .base (.lst (hs.at h1))
  · obtain ⟨a, vs, rfl, h1, _⟩ := r.tup_inv; exact .base (.tup (hs.at h1))
  · obtain ⟨a, vs, rfl, h1, _⟩ := r.dct_inv
    rcases hs.pub a _ h1 with z | ⟨_, ob, z⟩
    · exact .base (.dK z)
    · exact .fDict z
/-- the type of plain data -/
def tyD : Da → Option String
  | .v .non => some "NoneType"
  | .v (.int _) => some "int"
  | .v (.bl _) => some "bool"
  | .v (.str _) => some "str"
  | .lst _ => some "list"
  | .tup _ => some "tuple"
  | .dct _ => some "dict"
  | _ => none
theorem cd_isi {d : Da} {t T : String} {b : Bool} (ht : tyD d = some t) (hk : PySem.W.kitOne f.K (.type t) (.type T) = some b) : CD f (.builtin "isinstance") [d, .v (.ty T)] (dB b) := .of (rIsi f.K) (fun X hX => by rw [← hX.K]; exact call_isi) fun S F H vs hs r Q k => by
  obtain ⟨v, w, rfl, r1, r2⟩ := two_args r
  obtain rfl := r2.v_inv
  obtain ⟨q1, q2, q3⟩ := tyx_rp f.K hs r1
  have ty : TyX f.K H v (.type t) := by
    cases d with
    | v x =>
      obtain rfl := r1.v_inv
      cases v <;> cases ht
      · exact .base .non
      · exact .base (.bl _)
      · exact .base (.int _)
      · exact .base (.str _)
    | lst xs => cases ht; exact q1 xs rfl
    | tup xs => cases ht; exact q2 xs rfl
    | dct xs => cases ht; exact q3 xs rfl
    | dtt _ => cases ht
    | ins _ _ => cases ht
    | drw _ => cases ht
    | nm _ _ => cases ht
    | tb _ _ _ => cases ht
  exact ⟨v, .ty T, .type t, .type T, b, rfl, .ty T, ty, hk, k.here hs (.v _)⟩
theorem ex_isi {e : Expr} {d : Da} {t T : String} {b : Bool} {p q : Pos} {x : Str} (h : EX f env e d) (ht : tyD d = some t) (hk : kitB t T = some b) (hm : f.mg "isinstance" = none) (hmT : f.mg x = none) (hT : bootBuiltins x = some (.type T)) (hi : bootBuiltins "isinstance" = some (.builtin "isinstance") := by decide +kernel)
    (hg : GlS f "isinstance" := by rfl) (hgT : GlS f x := by rfl) (hn : x ≠ "__name__" := by decide) (hdb : (x == ("__debug__" : Str)) = false := by decide)
    (he : ∀ env, starEach [e, .Name x q] env = (false, eval e env) :: starEach [.Name x q] env := by intro _; rfl) (hpl : ∀ env, (backTo pos (starEach [.Name x q] env)).any (·.1) = false := by intro _; rfl) : EX f env (.Call (.Name "isinstance" p) [e, .Name x q] [] pos) (dB b) :=
  ex_callB (cd_isi ht (kit_ty hk)) (ea_cons h (ea_cons (ex_bltn (v := .ty T) hmT hT rfl hgT hn hdb) ea_nil (fun _ => rfl)) he) hm hi hg (by decide) (by decide) he hpl
end
end Em
set_option maxHeartbeats 1000000
/-! The logic over plain data (5): statements, loops, defs. -/
namespace Em
open PySem PySem.Spec PyProof.Rows L2 RZ

abbrev Pr := Hp → Hp → L2.St → Prop
abbrev Rr := Hp → Hp → V → Prop
abbrev Cd := Hp → Hp → Prop
/-- the slots' data, and a word on one's own objects that stays true while public ones are added -/
def Up (C : Cd) : Cd := fun S F => ∃ S0, Gr S0 S ∧ C S0 F
def Pv (env : En) (C : Cd) : Pr := fun S F σ => SlE S σ env ∧ Up C S F
def Rv (d : Da) (C : Cd) : Rr := fun S F v => Rp S v d ∧ Up C S F
theorem Up.mono {C : Cd} {S S' F : Hp} (g : Gr S S') (h : Up C S F) : Up C S' F := let ⟨S0, a, b⟩ := h; ⟨S0, a.trans g, b⟩
theorem Up.of {C : Cd} {S F : Hp} (h : C S F) : Up C S F := ⟨S, Gr.refl S, h⟩
theorem Pv.mono {env : En} {C : Cd} {S S' F : Hp} {σ : L2.St} (g : Gr S S') (h : Pv env C S F σ) : Pv env C S' F σ := ⟨h.1.mono g, h.2.mono g⟩
def none_ : Pr := fun _ _ _ => False
section
variable (f : Fr)
def wS (st : Stmt) : TS := fun D σ H => ∀ X pins s, Okx f X → Inv X pins σ H s → wpAny (model X.prog X.w) X.A (exec st X.env) (SP X pins D) X.xe s
def wSs (st : List Stmt) : TS := fun D σ H => ∀ X pins s, Okx f X → Inv X pins σ H s → wpAny (model X.prog X.w) X.A (execs st X.env) (SP X pins D) X.xe s
end
section
variable {f : Fr} {X : Cx}
theorem pw_s {st : Stmt} (h : Okx f X) : PS X st (wS f st) := ⟨fun pins s σ H D I q => q X pins s h I⟩
theorem pw_ss {st : List Stmt} (h : Okx f X) : PSs X st (wSs f st) := ⟨fun pins s σ H D I q => q X pins s h I⟩
theorem wS_of {st : Stmt} {t : TS} (h : ∀ X, Okx f X → PS X st t) {D : Ends} {σ : L2.St} {H : Hp} (q : t D σ H) : wS f st D σ H := fun X pins s hX I => (h X hX).run pins s σ H D I q
theorem wSs_of {st : List Stmt} {t : TS} (h : ∀ X, Okx f X → PSs X st t) {D : Ends} {σ : L2.St} {H : Hp} (q : t D σ H) : wSs f st D σ H := fun X pins s hX I => (h X hX).run pins s σ H D I q
end
/-- what follows is reached from these ends -/
structure DN (S H : Hp) (D : Ends) (Nx : Pr) (Rt : Rr) : Prop where
  nx : ∀ S' F' σ' H', Gr S S' → Sep S' F' H' → Kf H H' → Nx S' F' σ' → D.nx σ' H'
  rt : ∀ S' F' v H', Gr S S' → Sep S' F' H' → Kf H H' → Rt S' F' v → D.rt v H'
theorem DN.step {S H S1 H1 : Hp} {D : Ends} {Nx : Pr} {Rt : Rr} (d : DN S H D Nx Rt) (g : Gr S S1) (k : Kf H H1) : DN S1 H1 D Nx Rt := ⟨fun S' F' σ' H' a b c e => d.nx S' F' σ' H' (g.trans a) b (k.trans c) e, fun S' F' v H' a b c e => d.rt S' F' v H' (g.trans a) b (k.trans c) e⟩
def Tr1 (pre : Pre) (f : Fr) (P : Pr) (st : Stmt) (Nx : Pr) (Rt : Rr) : Prop := ∀ S F σ H D, P S F σ → Sep S F H → pre σ S H → DN S H D Nx Rt → wS f st D σ H
def Tr (f : Fr) (P : Pr) (st : List Stmt) (Nx : Pr) (Rt : Rr) : Prop := ∀ S F σ H D, P S F σ → Sep S F H → DN S H D Nx Rt → wSs f st D σ H
abbrev T1 (f : Fr) (P : Pr) (st : Stmt) (Nx : Pr) (Rt : Rr) : Prop := Tr1 yes f P st Nx Rt

section
variable {f : Fr} {env : En} {C : Cd} {P Q Mid Nx Nx' : Pr} {Rt Rt' : Rr} {st : Stmt} {ss : List Stmt} {pos : Pos}
theorem tr_nil (h : ∀ S F σ, P S F σ → Nx S F σ) : Tr f P [] Nx Rt := fun S F σ H D hp hs d => wSs_of (fun X hX => pss_nil) (d.nx S F σ H (Gr.refl _) hs (Kf.refl _) (h _ _ _ hp))
theorem tr_cons (h : T1 f P st Mid Rt) (t : Tr f Mid ss Nx Rt) : Tr f P (st :: ss) Nx Rt := fun S F σ H D hp hs d =>
  wSs_of (fun X hX => pss_cons (pw_s hX) (pw_ss hX)) (h S F σ H _ hp hs True.intro ⟨fun S' F' σ' H' a b c e => t S' F' σ' H' D e b (d.step a c), d.rt⟩)
theorem tr_one (h : T1 f P st Nx Rt) : Tr f P [st] Nx Rt := fun S F σ H D hp hs d => wSs_of (fun X hX => pss_one (pw_s hX)) (h S F σ H D hp hs True.intro d)
theorem tr_pre (h : Tr f Q ss Nx Rt) (w : ∀ S F σ, P S F σ → Q S F σ) : Tr f P ss Nx Rt := fun S F σ H D hp hs d => h S F σ H D (w _ _ _ hp) hs d
theorem tr_ex {α : Type} {Pa : α → Pr} (h : ∀ a, Tr f (Pa a) ss Nx Rt) : Tr f (fun S F σ => ∃ a, Pa a S F σ) ss Nx Rt := fun S F σ H D ⟨a, hp⟩ hs d => h a S F σ H D hp hs d
theorem tr_and {φ : Prop} (h : φ → Tr f P ss Nx Rt) : Tr f (fun S F σ => φ ∧ P S F σ) ss Nx Rt := fun S F σ H D ⟨a, hp⟩ hs d => h a S F σ H D hp hs d
theorem tr_no : Tr f none_ ss Nx Rt := fun S F σ H D hp _ _ => hp.elim
theorem tr_post (h : Tr f P ss Nx Rt) (w : ∀ S F σ, Nx S F σ → Nx' S F σ) (w2 : ∀ S F v, Rt S F v → Rt' S F v) : Tr f P ss Nx' Rt' := fun S F σ H D hp hs d => h S F σ H D hp hs ⟨fun S' F' σ' H' a b c e => d.nx S' F' σ' H' a b c (w _ _ _ e), fun S' F' v H' a b c e => d.rt S' F' v H' a b c (w2 _ _ _ e)⟩
/-- the word on one's own objects holds what is looked at -/
def Sees (f : Fr) (C : Cd) : Prop := ∀ S F, C S F → f.pf F
theorem Sees.up (h : Sees f C) {S F : Hp} (u : Up C S F) : f.pf F := let ⟨_, _, b⟩ := u; h _ _ b
theorem Sees.nil {C : Cd} (h : f.pv = []) : Sees f C := fun S F _ p hp => by rw [h] at hp; cases hp

theorem t1_ret {e : Expr} {d : Da} (h : EX f env e d) (hc : Sees f C := by exact Sees.nil rfl) : T1 f (Pv env C) (.Return (some e) pos) Nx (Rv d C) := fun S F σ H D hp hs _ d =>
  wS_of (fun X hX => ps_ret (pw_e hX)) (h S F σ H (hc.up hp.2) hp.1 hs _ fun v S' H' g s k r => d.rt S' F v H' g s k ⟨r, hp.2.mono g⟩)
theorem t1_expr {e : Expr} {d : Da} (h : EX f env e d) (hc : Sees f C := by exact Sees.nil rfl) (hsw : ∀ l env, swapsWith e none l env = pure false := by intro _ _; rfl) : T1 f (Pv env C) (.Expr e pos) (Pv env C) Rt := fun S F σ H D hp hs _ d =>
  wS_of (fun X hX => ps_expr (pw_e hX) (hsw _ _)) (h S F σ H (hc.up hp.2) hp.1 hs _ fun v S' H' g s k r => d.nx S' F σ H' g s k (hp.mono g))
/-- x = e -/
theorem t1_set (i : Nat) {x : Str} {e : Expr} {d : Da} {px : Pos} (h : EX f env e d) (hc : Sees f C := by exact Sees.nil rfl) (hi : f.N[i]? = some x := by rfl) (hx : LocS f x := by first | exact .inl rfl | exact .inr ⟨rfl, rfl⟩) (hsw : ∀ l env, swapsWith e (some (.Name x px)) l env = pure false := by intro _ _; rfl) :
    T1 f (Pv env C) (.Assign [.Name x px] e pos) (Pv (env.set i (some d)) C) Rt := fun S F σ H D hp hs _ dn =>
  wS_of (fun X hX => ps_set (i := i) (by rw [hX.N]; exact hX.nd) (by rw [hX.N]; exact hi) (hx.loc hX) (pw_e hX) (hsw _ _) (hx.fn hX)) (h S F σ H (hc.up hp.2) hp.1 hs _ fun v S' H' g s k r => dn.nx S' F _ H' g s k ⟨(hp.1.mono g).set i r, hp.2.mono g⟩)
theorem sw_cell {elt : Expr} {gs : List Comprehension} {scope : Scope} {p py : Pos} {y : Str} {l : Nat} {env : Env} (hy : env.scope.names.lookup y = some .cell) : swapsWith (.ListComp elt gs scope p) (some (.Name y py)) l env = pure false := by
  have ky : env.kindOf y = some .cell := hy
  unfold swapsWith
  simp only [ky]
  have e : (some NameKind.cell == some NameKind.local) = false := rfl
  simp only [e, Bool.and_false, Bool.false_and]
/-- a name that is a cell = [..] -/
theorem t1_setC (i : Nat) {x : Str} {elt : Expr} {gs : List Comprehension} {scope : Scope} {pl : Pos} {d : Da} {px : Pos} (h : EX f env (.ListComp elt gs scope pl) d) (hc : Sees f C := by exact Sees.nil rfl) (hi : f.N[i]? = some x := by rfl) (hx : f.sc.names.lookup x = some .cell := by rfl) (ho : f.own x = true := by rfl) :
    T1 f (Pv env C) (.Assign [.Name x px] (.ListComp elt gs scope pl) pos) (Pv (env.set i (some d)) C) Rt := fun S F σ H D hp hs _ dn =>
  wS_of (fun X hX => ps_set (i := i) (by rw [hX.N]; exact hX.nd) (by rw [hX.N]; exact hi) (LocS.loc (.inr ⟨hx, ho⟩) hX) (pw_e hX) (sw_cell (by rw [hX.sc]; exact hx)) (LocS.fn (.inr ⟨hx, ho⟩) hX)) (h S F σ H (hc.up hp.2) hp.1 hs _ fun v S' H' g s k r => dn.nx S' F _ H' g s k ⟨(hp.1.mono g).set i r, hp.2.mono g⟩)
/-- a, b = x, y (both plain locals) -/
theorem t1_par (i j : Nat) {x y : Str} {a b : Expr} {d e : Da} {px py pt : Pos} {kt k2 : Nat} {pt2 : Pos} (ha : EX f env a d) (hb : EX f env b e) (hij : i ≠ j := by decide) (hc : Sees f C := by exact Sees.nil rfl) (hi : f.N[i]? = some x := by rfl) (hj : f.N[j]? = some y := by rfl)
    (hx : f.sc.names.lookup x = some .local := by rfl) (hy : f.sc.names.lookup y = some .local := by rfl) (hse : ∀ env, starEach [a, b] env = (false, eval a env) :: starEach [b] env := by intro _; rfl) (hs2 : ∀ env, starEach [b] env = [(false, eval b env)] := by intro _; rfl)
    (hw : ∀ env : Env, env.scope = f.sc → swappedStores [.Tuple [.Name x px, .Name y py] kt pt] (.Tuple [a, b] k2 pt2) env = pure (some [x, y])) (hsw : ∀ l env, swapsWithSole [.Tuple [.Name x px, .Name y py] kt pt] (.Tuple [a, b] k2 pt2) l env = pure false := by intro _ _; rfl) :
    T1 f (Pv env C) (.Assign [.Tuple [.Name x px, .Name y py] kt pt] (.Tuple [a, b] k2 pt2) pos) (Pv ((env.set i (some d)).set j (some e)) C) Rt := fun S F σ H D hp hs _ dn =>
  wS_of (fun X hX => ps_par hX.calm (by rw [hX.N]; exact hX.nd) (by rw [hX.N]; exact hi) (by rw [hX.N]; exact hj) hij (by rw [hX.sc]; exact hx) (by rw [hX.sc]; exact hy) (pw_a hX) (hw _ hX.sc) (hsw _ _))
    (ea_cons ha (ea_cons hb ea_nil hs2) hse S F σ H (hc.up hp.2) hp.1 hs _ fun vs S' H' g s k r => by
      obtain ⟨v1, v2, rfl, r1, r2⟩ := two_args r
      exact ⟨v1, v2, rfl, dn.nx S' F _ H' g s k ⟨((hp.1.mono g).set i r1).set j r2, hp.2.mono g⟩⟩)
/-- a, b = e, a tuple -/
theorem t1_unp (i j : Nat) {x y : Str} {d e : Da} {px py pt : Pos} {kt : Nat} {v : Expr} (h : EX f env v (.tup [d, e])) (hc : Sees f C := by exact Sees.nil rfl) (hi : f.N[i]? = some x := by rfl) (hx : LocS f x := by first | exact .inl rfl | exact .inr ⟨rfl, rfl⟩) (hj : f.N[j]? = some y := by rfl) (hy : LocS f y := by first | exact .inl rfl | exact .inr ⟨rfl, rfl⟩)
    (hw : ∀ env : Env, env.scope = f.sc → swappedStores [.Tuple [.Name x px, .Name y py] kt pt] v env = pure none := by intro _ _; rfl) (hsw : ∀ l env, swapsWithSole [.Tuple [.Name x px, .Name y py] kt pt] v l env = pure false := by intro _ _; rfl) (h1 : ∀ env, (assignEach [.Tuple [.Name x px, .Name y py] kt pt] env).map (·.2) = [assign (.Tuple [.Name x px, .Name y py] kt pt) env] := by intro _; rfl) :
    T1 f (Pv env C) (.Assign [.Tuple [.Name x px, .Name y py] kt pt] v pos) (Pv ((env.set i (some d)).set j (some e)) C) Rt := fun S F σ H D hp hs _ dn =>
  wS_of (fun X hX => ps_asg (pw_e hX) (pw_g hX) (hsw _ _) (hw _ hX.sc) (h1 _)) (h S F σ H (hc.up hp.2) hp.1 hs _ fun v S' H' g s k r =>
    tg_two i j hi hx hj hy S' F σ H' v (hp.1.mono g) s r _ fun σ' hσ' _ => dn.nx S' F _ H' g s k ⟨hσ', hp.2.mono g⟩)
theorem t1_if {c : Expr} {a b : List Stmt} {x : Bool} (h : ET f env c x) (h1 : x = true → Tr f (Pv env C) a Nx Rt) (h2 : x = false → Tr f (Pv env C) b Nx Rt) (hc : Sees f C := by exact Sees.nil rfl) : T1 f (Pv env C) (.If c a b pos) Nx Rt := fun S F σ H D hp hs _ dn =>
  wS_of (fun X hX => ps_if (pw_t hX) (pw_ss hX) (pw_ss hX)) (h S F σ H (hc.up hp.2) hp.1 hs _ fun S' H' g s k => by
    cases x with
    | true => exact h1 rfl S' F σ H' D (hp.mono g) s (dn.step g k)
    | false => exact h2 rfl S' F σ H' D (hp.mono g) s (dn.step g k))
/-- x op= e, numbers -/
theorem t1_aug (i : Nat) {x : Str} {e : Expr} {op : Operator} {g : Int → Int → Int} {a b : Int} {px : Pos} (h : EX f env e (dI b)) (he : env[i]? = some (some (dI a))) (ho : ∀ X : Cx, PIp X op (ipI g)) (hc : Sees f C := by exact Sees.nil rfl) (hi : f.N[i]? = some x := by rfl) (hx : LocS f x := by first | exact .inl rfl | exact .inr ⟨rfl, rfl⟩) :
    T1 f (Pv env C) (.AugAssign (.Name x px) op e pos) (Pv (env.set i (some (dI (g a b)))) C) Rt := fun S F σ H D hp hs _ dn => by
  obtain ⟨v, hv, rv⟩ := hp.1.2 i _ he
  obtain rfl := rv.v_inv
  exact wS_of (fun X hX => ps_aug (i := i) (by rw [hX.N]; exact hX.nd) (by rw [hX.N]; exact hi) (hx.loc hX) (pw_e hX) (ho X) (hx.fn hX)) ⟨_, hv, h S F σ H (hc.up hp.2) hp.1 hs _ fun v S' H' g s k r => by
    obtain rfl := r.v_inv
    exact ⟨a, b, rfl, rfl, dn.nx S' F _ H' g s k ⟨(hp.1.mono g).set i (.v _), hp.2.mono g⟩⟩⟩

/-! ### loops -/
theorem never_own {X : Cx} (hX : Okx f X) : PassesOwn (model X.prog X.w) X.A X.env X.xe := by rw [hX.nox]; exact PassesOwn.never
theorem t1_forP {pre : Pre} {tg it : Expr} {body : List Stmt} {ds : List Da} (env' : Nat → En) (env2 : Nat → En) (Ci : Nat → Cd) {vs : List Nat} (hi : IT pre f (env' 0) tg it ds) (ht : ∀ i d, ds[i]? = some d → TGT f tg d (env' i) (env2 i) vs)
    (hb : ∀ i d, ds[i]? = some d → Tr f (Pv (env2 i) (Ci i)) body (Pv (env' (i + 1)) (Ci (i + 1))) Rt) (hc : Sees f (Ci 0) := by exact Sees.nil rfl) (hfs : ∀ env x, foldedSetIterable it env x = pure x := by intro _ _; rfl) :
    Tr1 pre f (Pv (env' 0) (Ci 0)) (.For tg it body [] pos) (Pv (env' ds.length) (Ci ds.length)) Rt := fun S F σ H D hp hs hpre dn =>
  wS_of (fun X hX => ps_for (never_own hX) hX.calm (pw_i hX) (pw_g hX) (pw_ss hX) (hfs _)) (hi S F σ H (hc.up hp.2) hp.1 hs hpre _ fun J S1 H1 g1 s1 k1 wk => by
    refine ⟨fun i m σ' H' => m = ds.length - i ∧ i ≤ ds.length ∧ ∃ S' F', Gr S1 S' ∧ Sep S' F' H' ∧ Kf H1 H' ∧ Pv (env' i) (Ci i) S' F' σ', ⟨_, rfl, Nat.zero_le _, S1, F, Gr.refl _, s1, Kf.refl _, hp.mono g1⟩, ?_⟩
    rintro i m σ' H' ⟨rfl, hil, S', F', g', s', k', pv⟩
    obtain ⟨stop, turn⟩ := wk S' F' H' g' s' k'
    by_cases hlt : i < ds.length
    · refine .inr ?_
      have hd : ds[i]? = some ds[i] := List.getElem?_eq_getElem hlt
      obtain ⟨go, yl⟩ := turn i _ hd
      refine ⟨go, fun σ4 H4 => ∃ S4 F4, Gr S1 S4 ∧ Sep S4 F4 H4 ∧ Kf H1 H4 ∧ Pv (env' (i + 1)) (Ci (i + 1)) S4 F4 σ4, fun σ4 H4 ⟨S4, F4, h1, h2, h3, h4⟩ => ⟨ds.length - (i + 1), by omega, rfl, hlt, S4, F4, h1, h2, h3, h4⟩, fun x H3 yy => ?_⟩
      obtain ⟨S3, g3, s3, k3, r3⟩ := yl x H3 yy
      refine ht i _ hd S3 F' σ' H3 x (pv.1.mono g3) s3 r3 _ fun σ2 hσ2 _ => ?_
      refine hb i _ hd S3 F' σ2 H3 _ ⟨hσ2, pv.2.mono g3⟩ s3 ⟨fun S4 F4 σ4 H4 a b c e => ⟨S4, F4, g'.trans (g3.trans a), b, (k'.trans k3).trans c, e⟩, fun S4 F4 v H4 a b c e => dn.rt S4 F4 v H4 (g1.trans (g'.trans (g3.trans a))) b (k1.trans ((k'.trans k3).trans c)) e⟩
    · have e : i = ds.length := by omega
      subst e
      exact .inl ⟨stop, dn.nx S' F' σ' H' (g1.trans g') s' (k1.trans k') pv⟩)
/-- a lock while a statement runs -/
theorem t1_lock {sel : L2.St → Hp → Addr → HO → Prop} (h : Tr1 (Lkd sel) f P st Nx Rt) (hs : ∀ S F σ, P S F σ → ∃ a u, sel σ S a u ∧ S a = some u ∧ isDic u) : T1 f P st Nx Rt := fun S F σ H D hp hsep _ dn => by
  obtain ⟨a, u, hsel, hSa, hd⟩ := hs S F σ hp
  rcases hsep.pub a u hSa hd.nt with z | ⟨_, ob, z⟩
  · refine wS_of (fun X hX => ps_lock (pw_s hX)) ?_
    refine ⟨a, u, z, hd.mut, fun od => ?_⟩
    exact h S F σ _ _ hp (hsep.lock hSa hd) ⟨a, u, od, hsel, hSa, hd, upd_same⟩ ⟨fun S' F' σ' H' g s k e => ⟨k.keep upd_same, dn.nx S' F' σ' _ g (s.unlock (g _ _ hSa) hd) (Kf.unlock z hd.nofrz k hd.nt) e⟩, fun S' F' v H' g s k e => ⟨k.keep upd_same, dn.rt S' F' v _ g (s.unlock (g _ _ hSa) hd) (Kf.unlock z hd.nofrz k hd.nt) e⟩⟩
  · exact h S F σ H D hp hsep ⟨a, u, ob, hsel, hSa, hd, z⟩ dn
/-- while, by a number that falls -/
theorem t1_while {c : Expr} {body : List Stmt} (Inv_ : Nat → Pr) (n : Nat) (hs : ∀ n, ∃ env C b, (∀ S F σ, Inv_ n S F σ → Pv env C S F σ) ∧ Sees f C ∧ ET f env c b ∧ (b = true → Tr f (fun S F σ => ∃ S0, Gr S0 S ∧ Inv_ n S0 F σ) body (fun S F σ => ∃ m, m < n ∧ Inv_ m S F σ) Rt) ∧ (b = false → ∀ S F σ, (∃ S0, Gr S0 S ∧ Inv_ n S0 F σ) → Nx S F σ)) : T1 f (Inv_ n) (.While c body [] pos) Nx Rt := fun S F σ H D hp hsep _ dn =>
  wS_of (fun X hX => ps_while (never_own hX) (pw_t hX) (pw_ss hX)) (by
    refine ⟨fun m σ' H' => ∃ S' F', Gr S S' ∧ Sep S' F' H' ∧ Kf H H' ∧ Inv_ m S' F' σ', ⟨n, S, F, Gr.refl _, hsep, Kf.refl _, hp⟩, ?_⟩
    rintro m σ' H' ⟨S', F', g', s', k', iv⟩
    obtain ⟨env, C, b, h1, hc, ht, hy, hn⟩ := hs m
    have pv := h1 _ _ _ iv
    refine ht S' F' σ' H' (hc.up pv.2) pv.1 s' _ fun S2 H2 g2 s2 k2 => ?_
    cases b with
    | true => exact ⟨_, fun σ4 H4 q => q, hy rfl S2 F' σ' H2 _ ⟨S', g2, iv⟩ s2 ⟨fun S4 F4 σ4 H4 a b c ⟨m', hm, e⟩ => ⟨m', hm, S4, F4, g'.trans (g2.trans a), b, (k'.trans k2).trans c, e⟩, fun S4 F4 v H4 a b c e => dn.rt S4 F4 v H4 (g'.trans (g2.trans a)) b ((k'.trans k2).trans c) e⟩⟩
    | false => exact dn.nx S2 F' σ' H2 (g'.trans g2) s2 (k'.trans k2) (hn rfl _ _ _ ⟨S', g2, iv⟩))
end

/-! ### defs -/
def startE (N : List Str) (ds : List Da) : En := ds.map some ++ List.replicate (N.length - ds.length) none
theorem sle_start {S : Hp} {N : List Str} {vs : List V} {ds : List Da} (h : RpL S vs ds) : SlE S (L2.start N vs) (startE N ds) := by
  refine ⟨by unfold L2.start startE; simp [h.1], fun i d e => ?_⟩
  unfold startE at e
  unfold L2.start
  by_cases hi : i < ds.length
  · rw [List.getElem?_append_left (by simpa using hi), List.getElem?_map] at e
    rw [List.getElem?_append_left (by simpa [h.1] using hi), List.getElem?_map]
    cases hx : ds[i]? with
    | none => rw [hx] at e; cases e
    | some x =>
      rw [hx] at e; cases e
      obtain ⟨v, hv, rv⟩ := h.get hx
      exact ⟨v, by rw [hv]; rfl, rv⟩
  · rw [List.getElem?_append_right (by simpa using hi), List.getElem?_replicate] at e
    split at e <;> cases e
section
variable {P : Program} {w : World} {K : PySem.W.Frag} {mg : Str → Option Value} {base : Heap}
theorem okx_def {N ps : List Str} {qual : Str} {scope : Scope} {fa : Addr} {cd : Value} {A : Around} {outer : List Env} {s : Shared} {H : Hp} {E : XK} {k : Nat} {CX : CXT} {pv : List (Addr × HO)} {cq : Option (Addr × Str)} (S : FnScope N ps scope) (hr : Room k (A.deeper (envOfC qual scope s.heap.objs.size fa cd))) (hcq : ∀ p, cq = some p → cd = .ref p.1 ∧ (envOfC qual scope 0 fa cd).qual = p.2 := by exact fun _ z => nomatch z) :
    Okx ⟨P, w, K, mg, base, N, scope, k, pv, fun _ => true, cq⟩ (cxOf CX P w K mg base N qual scope fa cd A outer s H E).nox where
  prog := rfl
  w := rfl
  K := rfl
  mg := rfl
  base := rfl
  N := rfl
  sc := rfl
  calm := rfl
  room := hr
  nox := rfl
  fn := fun _ _ => rfl
  nd := S.nd
  code := hcq
/-- a def's promise from the triple of its body -/
theorem fn_tr {x qual : Str} {params : Arguments} {body : List Stmt} {scope : Scope} {dvs : List V} {kws : List (Str × V)} {fa : Addr} {fd : FuncData} {N ps : List Str} {k : Nat} {sp : Sp} {CX : CXT} (F : FunD K x qual params body scope dvs kws fa fd) (S : FnScope N ps scope)
    (len : ∀ vs H Q E, sp vs H Q E → vs.length = ps.length)
    (h : ∀ vs H Q E, sp vs H Q E → ∃ S0 F0 Pre pv Nx Rt, Sep S0 F0 H ∧ Pre S0 F0 (L2.start N vs) ∧ Tr ⟨P, w, K, mg, base, N, scope, k, pv, fun _ => true, none⟩ Pre body Nx Rt ∧ DN S0 H { nx := fun _ H' => Q .non H', rt := Q } Nx Rt) : FnOk P w K mg base CX (k + 1) fa fd ps sp := by
  refine F.ok S len fun cdv A outer s H vs Q E hr hsp => ?_
  obtain ⟨S0, F0, Pre, pv, Nx, Rt, hs, hp, ht, dn⟩ := h vs H Q E hsp
  exact ⟨_, PSs.nox (pw_ss (okx_def (pv := pv) S hr)), ht S0 F0 _ H _ hp hs dn⟩
theorem fn_R {x qual : Str} {params : Arguments} {body : List Stmt} {scope : Scope} {dvs : List V} {kws : List (Str × V)} {fa : Addr} {fd : FuncData} {N ps : List Str} {k : Nat} {R : List Da → Da → Prop} {CX : CXT} (F : FunD K x qual params body scope dvs kws fa fd) (S : FnScope N ps scope)
    (len : ∀ ds d, R ds d → ds.length = ps.length)
    (h : ∀ ds d F0, R ds d → Tr ⟨P, w, K, mg, base, N, scope, k, [], fun _ => true, none⟩ (Pv (startE N ds) fun _ F => F = F0) body (fun _ F _ => d = dN ∧ F = F0) (Rv d fun _ F => F = F0)) : FnOk P w K mg base CX (k + 1) fa fd ps (spR R) := by
  refine fn_tr F S (fun vs H Q E ⟨S, F, ds, d, _, r, hR, _⟩ => r.1.trans (len ds d hR)) fun vs H Q E ⟨S0, F0, ds, d, hs, r, hR, q⟩ => ?_
  refine ⟨S0, F0, _, [], _, _, hs, ⟨sle_start r, Up.of rfl⟩, h ds d F0 hR, ⟨fun S' F' σ' H' a b c ⟨e1, e2⟩ => ?_, fun S' F' v H' a b c ⟨e1, S1, g1, e2⟩ => ?_⟩⟩
  · subst e1 e2; exact q _ S' H' a b c (.v _)
  · subst e2; exact q v S' H' a b c e1
end
end Em
set_option maxHeartbeats 1000000
/-! The logic over plain data (6): walks over dicts (locked), an own iterable, dict comprehensions. -/
namespace Em
open PySem PySem.Spec PyProof.Rows L2 RZ

/-- e names a dict that stands: kvs -/
structure Src (f : Fr) (env : En) (e : Expr) (sel : L2.St → Hp → Addr → HO → Prop) (kvs : List (Key × Da)) : Prop where
  te : ∃ te, (∀ X, Okx f X → PE X e te) ∧ ∀ S F σ H a u, SlE S σ env → Sep S F H → sel σ S a u → S a = some u → ∀ Q : VK, Q (.ref a) H → te σ H Q
  has : ∀ S σ, SlE S σ env → ∃ a vs, sel σ S a (.dK vs) ∧ S a = some (.dK vs)
  rep : ∀ S σ a u, SlE S σ env → sel σ S a u → S a = some u → ∃ vs, u = .dK vs ∧ RpK S vs kvs
def selV (i : Nat) : L2.St → Hp → Addr → HO → Prop := fun σ _ a _ => σ[i]? = some (some (.ref a))
def selF (i : Nat) (m : Str) : L2.St → Hp → Addr → HO → Prop := fun σ S a _ => ∃ x C dx fs, σ[i]? = some (some (.ref x)) ∧ S x = some (.ins C dx fs) ∧ fs.lookup m = some (.ref a)
section
variable {f : Fr} {env : En} {pos : Pos}
theorem Src.lock {e : Expr} {sel : L2.St → Hp → Addr → HO → Prop} {kvs : List (Key × Da)} (s : Src f env e sel kvs) : ∀ S σ, SlE S σ env → ∃ a u, sel σ S a u ∧ S a = some u ∧ isDic u := fun S σ h => let ⟨a, vs, h1, h2⟩ := s.has S σ h; ⟨a, _, h1, h2, True.intro⟩
theorem src_var (i : Nat) {x : Str} {kvs : List (Key × Da)} (he : env[i]? = some (some (.dct kvs)) := by rfl) (hN : f.N[i]? = some x := by rfl) (hv : Vis f.sc x := by first | exact .inl rfl | exact .inr (.inl rfl) | exact .inr (.inr rfl))
    (hd : (x == ("__debug__" : Str)) = false := by decide) (hcd : (x == ("__classdict__" : Str)) = false := by decide) : Src f env (.Name x pos) (selV i) kvs where
  te := ⟨tVar i, fun X hX => pe_var (i := i) (by rw [hX.N]; exact hN) (by rw [hX.sc]; exact hv) hd hcd, fun S F σ H a u _ _ hs _ Q q => ⟨_, hs, q⟩⟩
  has := fun S σ h => by
    obtain ⟨v, h1, h2⟩ := h.2 i _ he
    obtain ⟨a, vs, rfl, h3, _⟩ := h2.dct_inv
    exact ⟨a, vs, h1, h3⟩
  rep := fun S σ a u h hs hu => by
    obtain ⟨v, h1, h2⟩ := h.2 i _ he
    have hs : σ[i]? = some (some (.ref a)) := hs
    rw [hs] at h1; cases h1
    obtain ⟨a', vs, e, h3, h4⟩ := h2.dct_inv
    cases e
    rw [hu] at h3; cases h3
    exact ⟨vs, rfl, h4⟩
theorem src_fld (i : Nat) {x m : Str} {C : Addr} {fs : List (Str × Da)} {kvs : List (Key × Da)} {p : Pos} (c : Cls f.K C) (n : NoAttr f.K C m) (he : env[i]? = some (some (.ins C fs)) := by rfl) (hl : fs.lookup m = some (.dct kvs) := by rfl) (hN : f.N[i]? = some x := by rfl) (hv : Vis f.sc x := by first | exact .inl rfl | exact .inr (.inl rfl) | exact .inr (.inr rfl))
    (hd : (x == ("__debug__" : Str)) = false := by decide) (hcd : (x == ("__classdict__" : Str)) = false := by decide) (hb : ∀ env, attributeBase (.Name x p) m env (eval (.Name x p) env) = eval (.Name x p) env := by intro _; rfl) : Src f env (.Attribute (.Name x p) m pos) (selF i m) kvs where
  te := ⟨tFld f.K (tVar i) m, fun X hX => by rw [← hX.K]; exact pe_fld (pe_var (i := i) (by rw [hX.N]; exact hN) (by rw [hX.sc]; exact hv) hd hcd) (hb _), fun S F σ H a u hσ hs ⟨x', C', dx, vs, h1, h2, h3⟩ _ Q q => by
    obtain ⟨v, e1, e2⟩ := hσ.2 i _ he
    rw [h1] at e1; cases e1
    obtain ⟨a', dx', vs', e, h4, h5⟩ := e2.ins_inv
    cases e
    rw [h2] at h4; cases h4
    exact ⟨_, h1, x', C, dx, vs, _, rfl, hs.at h2, c, n, h3, q⟩⟩
  has := fun S σ h => by
    obtain ⟨v, h1, h2⟩ := h.2 i _ he
    obtain ⟨a, dx, vs, rfl, h3, h4⟩ := h2.ins_inv
    obtain ⟨w, h5, h6⟩ := h4.lookup hl
    obtain ⟨b, ws, rfl, h7, _⟩ := h6.dct_inv
    exact ⟨b, ws, ⟨a, C, dx, vs, h1, h3, h5⟩, h7⟩
  rep := fun S σ a u hσ ⟨x', C', dx, vs, h1, h2, h3⟩ hu => by
    obtain ⟨v, e1, e2⟩ := hσ.2 i _ he
    rw [h1] at e1; cases e1
    obtain ⟨a', dx', vs', e, h4, h5⟩ := e2.ins_inv
    cases e
    rw [h2] at h4; cases h4
    obtain ⟨w, h6, h7⟩ := h5.lookup hl
    rw [h3] at h6; cases h6
    obtain ⟨b, ws, e, h8, h9⟩ := h7.dct_inv
    cases e
    rw [hu] at h8; cases h8
    exact ⟨ws, rfl, h9⟩
/-- the frozen dict's walk, its entries given by g -/
theorem RpK.get {κ : Type} {S : Hp} {vs : List (κ × V)} {xs : List (κ × Da)} {i : Nat} {k : κ} {x : Da} (h : RpK S vs xs) (hx : xs[i]? = some (k, x)) : ∃ v, vs[i]? = some (k, v) ∧ Rp S v x := by
  have hi : i < xs.length := (List.getElem?_eq_some_iff.mp hx).1
  have hv : vs[i]? = some (vs[i]'(by rw [h.length]; exact hi)) := List.getElem?_eq_getElem _
  have h1 := congrArg (fun l => l[i]?) h.1
  simp only [List.getElem?_map, hv, hx, Option.map_some, Option.some.injEq] at h1
  have h2 := h.2 i _ _ hv hx
  exact ⟨(vs[i]'(by rw [h.length]; exact hi)).2, by rw [hv]; congr 1; exact Prod.ext h1 rfl, h2⟩
def keysD (kvs : List (Key × Da)) : List Da := kvs.map fun kv => Da.v (kV kv.1)
theorem it_keys {tg e : Expr} {sel : L2.St → Hp → Addr → HO → Prop} {kvs : List (Key × Da)} (s : Src f env e sel kvs) : IT (Lkd sel) f env tg e (keysD kvs) := fun S F σ H hp hσ hs ⟨a, u, ob, h1, h2, h3, h4⟩ R hR => by
  obtain ⟨te, hte, run⟩ := s.te
  obtain ⟨vs, rfl, rv⟩ := s.rep S σ a u hσ h1 h2
  refine wI_of (fun X hX => pi_keys (hte X hX)) (run S F σ H a _ hσ hs h1 h2 _ ⟨a, ob, rfl, .inl ⟨vs, h4, hR _ S H (Gr.refl _) hs (Kf.refl _) ?_⟩⟩)
  intro S2 F2 H2 g2 s2 k2
  have hl : (keysD kvs).length = vs.length := by unfold keysD; rw [List.length_map, rv.length]
  refine ⟨⟨k2.keep h4, Nat.le_of_eq hl.symm⟩, fun i d hd => ⟨⟨k2.keep h4, by rw [← hl]; exact (List.getElem?_eq_some_iff.mp hd).1⟩, fun x H3 ⟨e1, k, v, e2, e3⟩ => ?_⟩⟩
  subst e1 e3
  unfold keysD at hd
  rw [List.getElem?_map] at hd
  cases hx : kvs[i]? with
  | none => rw [hx] at hd; cases hd
  | some p =>
    rw [hx] at hd; cases hd
    obtain ⟨w, hw, _⟩ := rv.get (k := p.1) (x := p.2) hx
    rw [hw] at e2; cases e2
    exact ⟨S2, Gr.refl _, s2, Kf.refl _, .v _⟩
theorem it_vals {tg e : Expr} {apos : Pos} {sel : L2.St → Hp → Addr → HO → Prop} {kvs : List (Key × Da)} (s : Src f env e sel kvs) (hb : ∀ env, attributeBase e "values" env (eval e env) = eval e env := by intro _; rfl) (hl : (apos.endLine == pos.line) = true := by rfl) : IT (Lkd sel) f env tg (.Call (.Attribute e "values" apos) [] [] pos) (kvs.map (·.2)) := fun S F σ H hp hσ hs ⟨a, u, ob, h1, h2, h3, h4⟩ R hR => by
  obtain ⟨te, hte, run⟩ := s.te
  obtain ⟨vs, rfl, rv⟩ := s.rep S σ a u hσ h1 h2
  refine wI_of (fun X hX => pi_values (hte X hX) (hb _) hl) (run S F σ H a _ hσ hs h1 h2 _ ⟨a, ob, vs, rfl, h4, hR _ S H (Gr.refl _) hs (Kf.refl _) ?_⟩)
  intro S2 F2 H2 g2 s2 k2
  have hl : (kvs.map (·.2)).length = vs.length := by rw [List.length_map, rv.length]
  refine ⟨⟨k2.keep h4, Nat.le_of_eq hl.symm⟩, fun i d hd => ⟨⟨k2.keep h4, by rw [← hl]; exact (List.getElem?_eq_some_iff.mp hd).1⟩, fun x H3 ⟨e1, k, e2⟩ => ?_⟩⟩
  subst e1
  rw [List.getElem?_map] at hd
  cases hx : kvs[i]? with
  | none => rw [hx] at hd; cases hd
  | some p =>
    rw [hx] at hd; cases hd
    obtain ⟨w, hw, rw'⟩ := rv.get (k := p.1) (x := p.2) hx
    rw [hw] at e2; cases e2
    exact ⟨S2, Gr.refl _, s2, Kf.refl _, rw'.mono g2⟩
theorem it_items {elts : List Expr} {kk : Nat} {tpos : Pos} {e : Expr} {apos : Pos} {sel : L2.St → Hp → Addr → HO → Prop} {kvs : List (Key × Da)} (s : Src f env e sel kvs) (hb : ∀ env, attributeBase e "items" env (eval e env) = eval e env := by intro _; rfl) (hl : (apos.endLine == pos.line) = true := by rfl) :
    IT (Lkd sel) f env (.Tuple elts kk tpos) (.Call (.Attribute e "items" apos) [] [] pos) (kvs.map fun kv => .tup [Da.v (kV kv.1), kv.2]) := fun S F σ H hp hσ hs ⟨a, u, ob, h1, h2, h3, h4⟩ R hR => by
  obtain ⟨te, hte, run⟩ := s.te
  obtain ⟨vs, rfl, rv⟩ := s.rep S σ a u hσ h1 h2
  refine wI_of (fun X hX => pi_items (hte X hX) (hb _) hl) (run S F σ H a _ hσ hs h1 h2 _ ⟨a, ob, vs, rfl, h4, hR _ S H (Gr.refl _) hs (Kf.refl _) ?_⟩)
  intro S2 F2 H2 g2 s2 k2
  have hl : (kvs.map fun kv => Da.tup [Da.v (kV kv.1), kv.2]).length = vs.length := by rw [List.length_map, rv.length]
  refine ⟨⟨k2.keep h4, Nat.le_of_eq hl.symm⟩, fun i d hd => ⟨⟨k2.keep h4, by rw [← hl]; exact (List.getElem?_eq_some_iff.mp hd).1⟩, fun x H3 ⟨T, k, v, e2, e3, hT, e4⟩ => ?_⟩⟩
  subst e3 e4
  rw [List.getElem?_map] at hd
  cases hx : kvs[i]? with
  | none => rw [hx] at hd; cases hd
  | some p =>
    rw [hx] at hd; cases hd
    obtain ⟨w, hw, rw'⟩ := rv.get (k := p.1) (x := p.2) hx
    rw [hw] at e2; cases e2
    exact pair_new s2 hT (.v _) (rw'.mono g2)
/-- a dict with tuple keys, by its items -/
structure SrcT (f : Fr) (env : En) (e : Expr) (sel : L2.St → Hp → Addr → HO → Prop) (kvs : List (List Key × Da)) : Prop where
  te : ∃ te, (∀ X, Okx f X → PE X e te) ∧ ∀ S F σ H a u, SlE S σ env → Sep S F H → sel σ S a u → S a = some u → ∀ Q : VK, Q (.ref a) H → te σ H Q
  has : ∀ S σ, SlE S σ env → ∃ a vs, sel σ S a (.dT vs) ∧ S a = some (.dT vs)
  rep : ∀ S σ a u, SlE S σ env → sel σ S a u → S a = some u → ∃ vs, u = .dT vs ∧ RpK S vs kvs
theorem SrcT.lock {e : Expr} {sel : L2.St → Hp → Addr → HO → Prop} {kvs : List (List Key × Da)} (s : SrcT f env e sel kvs) : ∀ S σ, SlE S σ env → ∃ a u, sel σ S a u ∧ S a = some u ∧ isDic u := fun S σ h => let ⟨a, vs, h1, h2⟩ := s.has S σ h; ⟨a, _, h1, h2, True.intro⟩
theorem srcT_var (i : Nat) {x : Str} {kvs : List (List Key × Da)} (he : env[i]? = some (some (.dtt kvs)) := by rfl) (hN : f.N[i]? = some x := by rfl) (hv : Vis f.sc x := by first | exact .inl rfl | exact .inr (.inl rfl) | exact .inr (.inr rfl))
    (hd : (x == ("__debug__" : Str)) = false := by decide) (hcd : (x == ("__classdict__" : Str)) = false := by decide) : SrcT f env (.Name x pos) (selV i) kvs where
  te := ⟨tVar i, fun X hX => pe_var (i := i) (by rw [hX.N]; exact hN) (by rw [hX.sc]; exact hv) hd hcd, fun S F σ H a u _ _ hs _ Q q => ⟨_, hs, q⟩⟩
  has := fun S σ h => by
    obtain ⟨v, h1, h2⟩ := h.2 i _ he
    obtain ⟨a, vs, rfl, h3, _⟩ := h2.dtt_inv
    exact ⟨a, vs, h1, h3⟩
  rep := fun S σ a u h hs hu => by
    obtain ⟨v, h1, h2⟩ := h.2 i _ he
    have hs : σ[i]? = some (some (.ref a)) := hs
    rw [hs] at h1; cases h1
    obtain ⟨a', vs, e, h3, h4⟩ := h2.dtt_inv
    cases e
    rw [hu] at h3; cases h3
    exact ⟨vs, rfl, h4⟩
def dKey (k : List Key) : Da := .tup (k.map fun y => Da.v (kV y))
theorem it_itemsT {elts : List Expr} {kk : Nat} {tpos : Pos} {e : Expr} {apos : Pos} {sel : L2.St → Hp → Addr → HO → Prop} {kvs : List (List Key × Da)} (s : SrcT f env e sel kvs) (hb : ∀ env, attributeBase e "items" env (eval e env) = eval e env := by intro _; rfl) (hl : (apos.endLine == pos.line) = true := by rfl) :
    IT (Lkd sel) f env (.Tuple elts kk tpos) (.Call (.Attribute e "items" apos) [] [] pos) (kvs.map fun kv => .tup [dKey kv.1, kv.2]) := fun S F σ H hp hσ hs ⟨a, u, ob, h1, h2, h3, h4⟩ R hR => by
  obtain ⟨te, hte, run⟩ := s.te
  obtain ⟨vs, rfl, rv⟩ := s.rep S σ a u hσ h1 h2
  refine wI_of (fun X hX => pi_itT (hte X hX) (hb _) hl) (run S F σ H a _ hσ hs h1 h2 _ ⟨a, ob, vs, rfl, h4, hR _ S H (Gr.refl _) hs (Kf.refl _) ?_⟩)
  intro S2 F2 H2 g2 s2 k2
  have hl : (kvs.map fun kv => Da.tup [dKey kv.1, kv.2]).length = vs.length := by rw [List.length_map, rv.length]
  refine ⟨⟨k2.keep h4, hl⟩, fun i d hd => ⟨⟨k2.keep h4, by rw [← hl]; exact (List.getElem?_eq_some_iff.mp hd).1⟩, fun x H3 yy => ?_⟩⟩
  obtain ⟨T, x, y, rfl, hT, rfl, hxy⟩ := yy
  rw [List.getElem?_map] at hd
  cases hx : kvs[i]? with
  | none => rw [hx] at hd; cases hd
  | some p =>
    rw [hx] at hd; cases hd
    obtain ⟨w, hw, rw'⟩ := rv.get (k := p.1) (x := p.2) hx
    obtain ⟨k, q, e2, e3, e4⟩ := hxy
    rw [hw] at e2; cases e2
    subst e3
    obtain ⟨S2', g3, s3, e5⟩ := s2.seen e4
    obtain ⟨S3, g4, s4, k4, r4⟩ := pair_new s3 hT (d := dKey p.1) (.tupL e5 (RpL.of_atoms kV p.1)) (rw'.mono (g2.trans g3))
    exact ⟨S3, g3.trans g4, s4, k4, r4⟩

/-! ### an own iterable -/
theorem src_own (i : Nat) {m : Str} {C : Addr} {fs : List (Str × Da)} {kvs : List (Key × Da)} (hl : fs.lookup m = some (.dct kvs)) (he : env[i]? = some (some (.ins C fs))) : (∀ S σ, SlE S σ env → ∃ a vs, selF i m σ S a (.dK vs) ∧ S a = some (.dK vs)) ∧
    ∀ S σ a u, SlE S σ env → selF i m σ S a u → S a = some u → ∃ x dx fv vs, σ[i]? = some (some (.ref x)) ∧ S x = some (.ins C dx fv) ∧ fv.lookup m = some (.ref a) ∧ u = .dK vs ∧ RpK S vs kvs := by
  refine ⟨fun S σ h => ?_, fun S σ a u hσ ⟨x', C', dx, vs, h1, h2, h3⟩ hu => ?_⟩
  · obtain ⟨v, h1, h2⟩ := h.2 i _ he
    obtain ⟨a, dx, vs, rfl, h3, h4⟩ := h2.ins_inv
    obtain ⟨w, h5, h6⟩ := h4.lookup hl
    obtain ⟨b, ws, rfl, h7, _⟩ := h6.dct_inv
    exact ⟨b, ws, ⟨a, C, dx, vs, h1, h3, h5⟩, h7⟩
  · obtain ⟨v, e1, e2⟩ := hσ.2 i _ he
    rw [h1] at e1; cases e1
    obtain ⟨a', dx', vs', e, h4, h5⟩ := e2.ins_inv
    cases e
    rw [h2] at h4; cases h4
    obtain ⟨w, h6, h7⟩ := h5.lookup hl
    rw [h3] at h6; cases h6
    obtain ⟨b, ws, e, h8, h9⟩ := h7.dct_inv
    cases e
    rw [hu] at h8; cases h8
    exact ⟨_, _, _, ws, h1, h2, h3, rfl, h9⟩
theorem own_lock (i : Nat) {m : Str} {C : Addr} {fs : List (Str × Da)} {kvs : List (Key × Da)} (he : env[i]? = some (some (.ins C fs)) := by rfl) (hl : fs.lookup m = some (.dct kvs) := by rfl) : ∀ S σ, SlE S σ env → ∃ a u, selF i m σ S a u ∧ S a = some u ∧ isDic u := fun S σ h => let ⟨a, vs, h1, h2⟩ := (src_own i hl he).1 S σ h; ⟨a, _, h1, h2, True.intro⟩
theorem it_own (i : Nat) {tg : Expr} {x m : Str} {C : Addr} {fs : List (Str × Da)} {kvs : List (Key × Da)} (O : OwnIt f.P f.w f.K f.mg f.base C m) (he : env[i]? = some (some (.ins C fs)) := by rfl) (hl : fs.lookup m = some (.dct kvs) := by rfl) (hN : f.N[i]? = some x := by rfl) (hv : Vis f.sc x := by first | exact .inl rfl | exact .inr (.inl rfl) | exact .inr (.inr rfl))
    (hk : 1 ≤ f.k := by exact Nat.le_of_ble_eq_true rfl) (hd : (x == ("__debug__" : Str)) = false := by decide) (hcd : (x == ("__classdict__" : Str)) = false := by decide) : IT (Lkd (selF i m)) f env tg (.Name x pos) (keysD kvs) := fun S F σ H hp hσ hs ⟨a, u, ob, h1, h2, h3, h4⟩ R hR => by
  obtain ⟨y, dx, fv, vs, e1, e2, e3, rfl, rv⟩ := (src_own i hl he).2 S σ a u hσ h1 h2
  refine wI_of (wi := iOwn C m (tVar i)) (fun X hX => pi_own (by rw [hX.prog, hX.w, hX.K, hX.mg, hX.base]; exact O) (hX.room.mono hk) (pe_var (i := i) (by rw [hX.N]; exact hN) (by rw [hX.sc]; exact hv) hd hcd)) ⟨_, e1, y, dx, fv, a, ob, vs, rfl, hs.at e2, e3, h4, hR _ S H (Gr.refl _) hs (Kf.refl _) ?_⟩
  intro S2 F2 H2 g2 s2 k2
  have hl : (keysD kvs).length = vs.length := by unfold keysD; rw [List.length_map, rv.length]
  refine ⟨⟨k2.keep h4, Nat.le_of_eq hl.symm⟩, fun i d hd => ⟨⟨k2.keep h4, by rw [← hl]; exact (List.getElem?_eq_some_iff.mp hd).1⟩, fun x H3 ⟨e1, k, v, e2, e3⟩ => ?_⟩⟩
  subst e1 e3
  unfold keysD at hd
  rw [List.getElem?_map] at hd
  cases hx : kvs[i]? with
  | none => rw [hx] at hd; cases hd
  | some p =>
    rw [hx] at hd; cases hd
    obtain ⟨w, hw, _⟩ := rv.get (k := p.1) (x := p.2) hx
    rw [hw] at e2; cases e2
    exact ⟨S2, Gr.refl _, s2, Kf.refl _, .v _⟩
/-- zip(own, a tuple) -/
theorem it_zipOwn (i : Nat) {elts : List Expr} {kk : Nat} {tpos p px : Pos} {e2 : Expr} {x m : Str} {C : Addr} {fs : List (Str × Da)} {kvs : List (Key × Da)} {es : List Da} (O : OwnIt f.P f.w f.K f.mg f.base C m) (h2 : EX f env e2 (.tup es)) (hm : f.mg "zip" = none) (he : env[i]? = some (some (.ins C fs)) := by rfl) (hl : fs.lookup m = some (.dct kvs) := by rfl) (hN : f.N[i]? = some x := by rfl) (hv : Vis f.sc x := by first | exact .inl rfl | exact .inr (.inl rfl) | exact .inr (.inr rfl))
    (hk : 3 ≤ f.k := by exact Nat.le_of_ble_eq_true rfl) (hg : GlS f "zip" := by rfl) (hd : (x == ("__debug__" : Str)) = false := by decide) (hcd : (x == ("__classdict__" : Str)) = false := by decide) (hse : ∀ env, starEach [.Name x px, e2] env = (false, eval (.Name x px) env) :: starEach [e2] env := by intro _; rfl) (hs2 : ∀ env, starEach [e2] env = [(false, eval e2 env)] := by intro _; rfl) (hpl : ∀ env, (backTo pos (starEach [e2] env)).any (·.1) = false := by intro _; rfl) :
    IT (Lkd (selF i m)) f env (.Tuple elts kk tpos) (.Call (.Name "zip" p) [.Name x px, e2] [] pos) (zipD (keysD kvs) es) := fun S F σ H hp hσ hs ⟨a, u, ob, h1, hSa, h3, h4⟩ R hR => by
  obtain ⟨y, dx, fv, vs, e1, e2', e3, rfl, rv⟩ := (src_own i hl he).2 S σ a u hσ h1 hSa
  refine wI_of (wi := iZO f.K C m (tCons (tVar i) (wA f [e2]))) (fun X hX => by rw [← hX.K]; exact pi_zipOwn (by rw [hX.prog, hX.w, hX.K, hX.mg, hX.base]; exact O) (hX.room.mono hk) (hg.gl hX) (by rw [hX.mg]; exact hm) (pa_cons (pe_var (i := i) (by rw [hX.N]; exact hN) (by rw [hX.sc]; exact hv) hd hcd) (pw_a hX) (hse _)) (hse _) (hpl _)) ⟨_, e1, ?_⟩
  refine ea_cons h2 ea_nil hs2 S F σ H hp hσ hs _ fun ws S1 H1 g1 s1 k1 r1 => ?_
  obtain ⟨w, rfl, r2⟩ := one_arg1 r1
  obtain ⟨b, ws, rfl, b1, b2⟩ := r2.tup_inv
  refine ⟨y, dx, fv, a, ob, vs, b, ws, rfl, s1.at (g1 _ _ e2'), e3, k1.keep h4, s1.sqt b1, hR _ S1 H1 g1 s1 k1 ?_⟩
  intro S2 F2 H2 g2 s2 k2
  have hlen : (zipD (keysD kvs) es).length = min vs.length ws.length := by rw [zipD_len, b2.1]; unfold keysD; rw [List.length_map, rv.length]
  refine ⟨⟨⟨k2.keep (k1.keep h4), s2.sqt (g2 _ _ b1)⟩, hlen⟩, fun i d hd => ⟨⟨⟨k2.keep (k1.keep h4), s2.sqt (g2 _ _ b1)⟩, by rw [← hlen]; exact (List.getElem?_eq_some_iff.mp hd).1⟩, fun x H3 yy => ?_⟩⟩
  obtain ⟨T, x, y, rfl, hT, rfl, ⟨k, v, q1, rfl⟩, q2⟩ := yy
  obtain ⟨d1, d2, p1, p2, rfl⟩ := zipD_get _ _ _ _ hd
  unfold keysD at p1
  rw [List.getElem?_map] at p1
  cases hx : kvs[i]? with
  | none => rw [hx] at p1; cases p1
  | some p =>
    rw [hx] at p1; cases p1
    obtain ⟨w, hw, _⟩ := rv.get (k := p.1) (x := p.2) hx
    rw [hw] at q1; cases q1
    obtain ⟨w2, hw2, rw2⟩ := b2.get p2
    rw [hw2] at q2; cases q2
    exact pair_new s2 hT (.v _) (rw2.mono g2)
/-! ### locks by slots -/
theorem lock_var (i : Nat) {kvs : List (Key × Da)} (he : env[i]? = some (some (.dct kvs))) : ∀ S σ, SlE S σ env → ∃ a u, selV i σ S a u ∧ S a = some u ∧ isDic u := fun S σ h => by
  obtain ⟨v, h1, h2⟩ := h.2 i _ he
  obtain ⟨a, vs, rfl, h3, _⟩ := h2.dct_inv
  exact ⟨a, _, h1, h3, True.intro⟩
theorem lock_varT (i : Nat) {kvs : List (List Key × Da)} (he : env[i]? = some (some (.dtt kvs))) : ∀ S σ, SlE S σ env → ∃ a u, selV i σ S a u ∧ S a = some u ∧ isDic u := fun S σ h => by
  obtain ⟨v, h1, h2⟩ := h.2 i _ he
  obtain ⟨a, vs, rfl, h3, _⟩ := h2.dtt_inv
  exact ⟨a, _, h1, h3, True.intro⟩
theorem ex_lockV (i : Nat) {e : Expr} {d : Da} {kvs : List (Key × Da)} (h : EXp (Lkd (selV i)) f env e d) (he : env[i]? = some (some (.dct kvs)) := by rfl) : EX f env e d := ex_lock h (lock_var i he)
theorem ex_lockT (i : Nat) {e : Expr} {d : Da} {kvs : List (List Key × Da)} (h : EXp (Lkd (selV i)) f env e d) (he : env[i]? = some (some (.dtt kvs)) := by rfl) : EX f env e d := ex_lock h (lock_varT i he)
theorem ex_lockF (i : Nat) {m : Str} {e : Expr} {d : Da} {C : Addr} {fs : List (Str × Da)} {kvs : List (Key × Da)} (h : EXp (Lkd (selF i m)) f env e d) (he : env[i]? = some (some (.ins C fs)) := by rfl) (hl : fs.lookup m = some (.dct kvs) := by rfl) : EX f env e d := ex_lock h (own_lock i he hl)
theorem t1_lockV (i : Nat) {C : Cd} {st : Stmt} {Nx : Pr} {Rt : Rr} {kvs : List (Key × Da)} (h : Tr1 (Lkd (selV i)) f (Pv env C) st Nx Rt) (he : env[i]? = some (some (.dct kvs)) := by rfl) : T1 f (Pv env C) st Nx Rt := t1_lock h fun S F σ hp => lock_var i he S σ hp.1
theorem t1_lockT (i : Nat) {C : Cd} {st : Stmt} {Nx : Pr} {Rt : Rr} {kvs : List (List Key × Da)} (h : Tr1 (Lkd (selV i)) f (Pv env C) st Nx Rt) (he : env[i]? = some (some (.dtt kvs)) := by rfl) : T1 f (Pv env C) st Nx Rt := t1_lock h fun S F σ hp => lock_varT i he S σ hp.1
end
end Em
set_option maxHeartbeats 1000000
/-! The logic over plain data (7): lists and dicts of one's own that grow; dict comprehensions; own len and in. -/
namespace Em
open PySem PySem.Spec PyProof.Rows L2 RZ

def AccL (a : Addr) (C : Cd) (xs : List Da) : Cd := fun S F => ∃ F0 vs, Up C S F0 ∧ F0 a = none ∧ F = upd F0 a (.lst vs) ∧ RpL S vs xs
def AccD (a : Addr) (C : Cd) (xs : List (Key × Da)) : Cd := fun S F => ∃ F0 vs, Up C S F0 ∧ F0 a = none ∧ F = upd F0 a (.dK vs) ∧ RpK S vs xs
def AccT (a : Addr) (C : Cd) (xs : List (List Key × Da)) : Cd := fun S F => ∃ F0 vs, Up C S F0 ∧ F0 a = none ∧ F = upd F0 a (.dT vs) ∧ RpK S vs xs
theorem set_self {α : Type} {x : α} : ∀ {l : List α} {i : Nat}, l[i]? = some x → l.set i x = l
  | [], i, h => by simp at h
  | y :: l, 0, h => by simp at h; simp [h]
  | y :: l, i + 1, h => by simp at h; simp [set_self h]
section
variable {f : Fr} {env : En} {C : Cd} {P Nx : Pr} {Rt : Rr} {ss : List Stmt} {pos : Pos}
theorem sees_cons {D : Cd} (h : Sees f C) (g : ∀ S F, D S F → ∃ F0 a o, Up C S F0 ∧ F0 a = none ∧ F = upd F0 a o) : Sees f D := fun S F d => by
  obtain ⟨F0, a, o, c, n, rfl⟩ := g S F d
  exact Fr.pf_mono (Gr.new n) (h.up c)
/-! ### made -/
theorem t1_newL (i : Nat) {x : Str} {px p : Pos} (hi : f.N[i]? = some x := by rfl) (hx : LocS f x := by first | exact .inl rfl | exact .inr ⟨rfl, rfl⟩) (hsw : ∀ l env, swapsWith (.List [] p) (some (.Name x px)) l env = pure false := by intro _ _; rfl) :
    T1 f (Pv env C) (.Assign [.Name x px] (.List [] p) pos) (fun S F σ => ∃ a, Pv (env.set i (some (.v (.ref a)))) (AccL a C []) S F σ) Rt := fun S F σ H D hp hs _ dn =>
  wS_of (fun X hX => ps_set (i := i) (by rw [hX.N]; exact hX.nd) (by rw [hX.N]; exact hi) (hx.loc hX) (pe_lst pa_nil) (hsw _ _) (hx.fn hX)) ⟨by decide, fun a ha => by
    obtain ⟨S0, g0, c⟩ := hp.2
    exact dn.nx S _ _ _ (Gr.refl _) (hs.newF ha) (Kf.new ha) ⟨a, hp.1.set i (.v _), S0, g0, F, [], .of c, hs.freeF ha, rfl, .nil⟩⟩
theorem t1_newD (i : Nat) {x : Str} {px p : Pos} (hi : f.N[i]? = some x := by rfl) (hx : LocS f x := by first | exact .inl rfl | exact .inr ⟨rfl, rfl⟩) (hsw : ∀ l env, swapsWith (.Dict [] [] p) (some (.Name x px)) l env = pure false := by intro _ _; rfl) :
    T1 f (Pv env C) (.Assign [.Name x px] (.Dict [] [] p) pos) (fun S F σ => ∃ a, Pv (env.set i (some (.v (.ref a)))) (AccD a C []) S F σ) Rt := fun S F σ H D hp hs _ dn =>
  wS_of (fun X hX => ps_set (i := i) (by rw [hX.N]; exact hX.nd) (by rw [hX.N]; exact hi) (hx.loc hX) pe_dnewK (hsw _ _) (hx.fn hX)) (show tDNewK σ H _ from fun a ha => by
    obtain ⟨S0, g0, c⟩ := hp.2
    exact dn.nx S _ _ _ (Gr.refl _) (hs.newF ha) (Kf.new ha) ⟨a, hp.1.set i (.v _), S0, g0, F, [], .of c, hs.freeF ha, rfl, .nil⟩)
theorem t1_newT (i : Nat) {x : Str} {px p : Pos} (hi : f.N[i]? = some x := by rfl) (hx : LocS f x := by first | exact .inl rfl | exact .inr ⟨rfl, rfl⟩) (hsw : ∀ l env, swapsWith (.Dict [] [] p) (some (.Name x px)) l env = pure false := by intro _ _; rfl) :
    T1 f (Pv env C) (.Assign [.Name x px] (.Dict [] [] p) pos) (fun S F σ => ∃ a, Pv (env.set i (some (.v (.ref a)))) (AccT a C []) S F σ) Rt := fun S F σ H D hp hs _ dn =>
  wS_of (fun X hX => ps_set (i := i) (by rw [hX.N]; exact hX.nd) (by rw [hX.N]; exact hi) (hx.loc hX) pe_dnewT (hsw _ _) (hx.fn hX)) (show tDNewT σ H _ from fun a ha => by
    obtain ⟨S0, g0, c⟩ := hp.2
    exact dn.nx S _ _ _ (Gr.refl _) (hs.newF ha) (Kf.new ha) ⟨a, hp.1.set i (.v _), S0, g0, F, [], .of c, hs.freeF ha, rfl, .nil⟩)
/-! ### told: what one made is public from here on -/
theorem tr_tellL (i : Nat) {a : Addr} {xs : List Da} (he : env[i]? = some (some (.v (.ref a)))) (h : Tr f (Pv (env.set i (some (.lst xs))) C) ss Nx Rt) : Tr f (Pv env (AccL a C xs)) ss Nx Rt := fun S F σ H D hp hs dn => by
  obtain ⟨hσ, S0, g0, F0, vs, c, n, rfl, r⟩ := hp
  have hSa := hs.freeSF (p := a) upd_same
  have hT := hs.tell (p := a) upd_same
  rw [rem_upd n] at hT
  refine h (upd S a (.lst vs)) F0 σ H D ⟨?_, c.mono (g0.trans (Gr.new hSa))⟩ hT (dn.step (Gr.new hSa) (Kf.refl _))
  obtain ⟨v, hv, rv⟩ := hσ.2 i _ he
  obtain rfl := rv.v_inv
  have := (hσ.mono (Gr.new hSa (o := .lst vs))).set i (v := .ref a) (d := .lst xs) (.lstL upd_same (r.mono (g0.trans (Gr.new hSa))))
  rwa [set_self hv] at this
theorem tr_tellD (i : Nat) {a : Addr} {xs : List (Key × Da)} (he : env[i]? = some (some (.v (.ref a)))) (h : Tr f (Pv (env.set i (some (.dct xs))) C) ss Nx Rt) : Tr f (Pv env (AccD a C xs)) ss Nx Rt := fun S F σ H D hp hs dn => by
  obtain ⟨hσ, S0, g0, F0, vs, c, n, rfl, r⟩ := hp
  have hSa := hs.freeSF (p := a) upd_same
  have hT := hs.tell (p := a) upd_same
  rw [rem_upd n] at hT
  refine h (upd S a (.dK vs)) F0 σ H D ⟨?_, c.mono (g0.trans (Gr.new hSa))⟩ hT (dn.step (Gr.new hSa) (Kf.refl _))
  obtain ⟨v, hv, rv⟩ := hσ.2 i _ he
  obtain rfl := rv.v_inv
  have := (hσ.mono (Gr.new hSa (o := .dK vs))).set i (v := .ref a) (d := .dct xs) (.dctK upd_same (r.mono (g0.trans (Gr.new hSa))))
  rwa [set_self hv] at this
theorem tr_tellT (i : Nat) {a : Addr} {xs : List (List Key × Da)} (he : env[i]? = some (some (.v (.ref a)))) (h : Tr f (Pv (env.set i (some (.dtt xs))) C) ss Nx Rt) : Tr f (Pv env (AccT a C xs)) ss Nx Rt := fun S F σ H D hp hs dn => by
  obtain ⟨hσ, S0, g0, F0, vs, c, n, rfl, r⟩ := hp
  have hSa := hs.freeSF (p := a) upd_same
  have hT := hs.tell (p := a) upd_same
  rw [rem_upd n] at hT
  refine h (upd S a (.dT vs)) F0 σ H D ⟨?_, c.mono (g0.trans (Gr.new hSa))⟩ hT (dn.step (Gr.new hSa) (Kf.refl _))
  obtain ⟨v, hv, rv⟩ := hσ.2 i _ he
  obtain rfl := rv.v_inv
  have := (hσ.mono (Gr.new hSa (o := .dT vs))).set i (v := .ref a) (d := .dtt xs) (.dttK upd_same (r.mono (g0.trans (Gr.new hSa))))
  rwa [set_self hv] at this
/-! ### grown -/
theorem seesL {a : Addr} {xs : List Da} (h : Sees f C) : Sees f (AccL a C xs) := sees_cons h fun S F ⟨F0, vs, c, n, e, _⟩ => ⟨F0, a, _, c, n, e⟩
theorem seesD {a : Addr} {xs : List (Key × Da)} (h : Sees f C) : Sees f (AccD a C xs) := sees_cons h fun S F ⟨F0, vs, c, n, e, _⟩ => ⟨F0, a, _, c, n, e⟩
theorem seesT {a : Addr} {xs : List (List Key × Da)} (h : Sees f C) : Sees f (AccT a C xs) := sees_cons h fun S F ⟨F0, vs, c, n, e, _⟩ => ⟨F0, a, _, c, n, e⟩
theorem slot_ref {S : Hp} {σ : L2.St} {i : Nat} {v : V} (hσ : SlE S σ env) (he : env[i]? = some (some (.v v))) : σ[i]? = some (some v) := by
  obtain ⟨w, hw, r⟩ := hσ.2 i _ he
  rw [hw, r.v_inv]
/-- xs.append(e) -/
theorem t1_app (i : Nat) {a : Addr} {xs : List Da} {d : Da} {x : Str} {e : Expr} {apos px cpos : Pos} (h : EX f env e d) (he : env[i]? = some (some (.v (.ref a))) := by rfl) (hl : xs.length < 10000000) (hc : Sees f (AccL a C xs) := by exact Sees.nil rfl) (hN : f.N[i]? = some x := by rfl) (hv : Vis f.sc x := by first | exact .inl rfl | exact .inr (.inl rfl) | exact .inr (.inr rfl))
    (hd : (x == ("__debug__" : Str)) = false := by decide) (hcd : (x == ("__classdict__" : Str)) = false := by decide) (hb : ∀ env, attributeBase (.Name x px) "append" env (eval (.Name x px) env) = eval (.Name x px) env := by intro _; rfl)
    (hf : ∀ env, ((backTo cpos (starEach [e] env)).all (fun x => !x.1) && (backToKw cpos (keywordEach [] env)).all (fun x => x.1.isSome) && decide (([e] : List Expr).length + ([] : List Keyword).length + (if ([] : List Keyword).isEmpty then 0 else 1) < 30)) = true := by intro _; rfl)
    (hli : (apos.endLine == cpos.line) = true := by rfl) (hs : ∀ env, starEach [e] env = [(false, eval e env)] := by intro _; rfl) (hpl : ∀ env, (backTo cpos (starEach [] env)).any (·.1) = false := by intro _; rfl) (hsw : ∀ l env, swapsWith (.Call (.Attribute (.Name x px) "append" apos) [e] [] cpos) none l env = pure false := by intro _ _; rfl) :
    T1 f (Pv env (AccL a C xs)) (.Expr (.Call (.Attribute (.Name x px) "append" apos) [e] [] cpos) pos) (Pv env (AccL a C (xs ++ [d]))) Rt := fun S F σ H D hp hs' _ dn =>
  wS_of (t := tDrop (tBM f.K "list" rAppend (tVar i) (wA f [e]))) (fun X hX => ps_expr (by rw [← hX.K]; exact pe_bm PySem.F.plainAttrs_list PySem.F.slot_list_append PySem.F.type_list_append mt_append (pe_var (i := i) (by rw [hX.N]; exact hN) (by rw [hX.sc]; exact hv) hd hcd) (pw_a hX) (hb _) (hf _) hli (hs _) (hpl _)) (hsw _ _)) (by
    obtain ⟨hσ, S0, g0, F0, vs, c, n, rfl, r⟩ := hp
    have hpf : f.pf (upd F0 a (.lst vs)) := hc S0 _ ⟨F0, vs, c, n, rfl, r⟩
    have hH : H a = some (.lst vs) := hs'.prv a _ upd_same
    refine ⟨.ref a, slot_ref hσ he, .inl ⟨rfl, vs, .of hH⟩, ?_⟩
    refine ea_cons h ea_nil hs S _ σ H hpf hσ hs' _ fun ws S1 H1 g1 s1 k1 r1 => ?_
    obtain ⟨v, rfl, rv⟩ := one_arg1 r1
    have hH1 : H1 a = some (.lst vs) := s1.prv a _ upd_same
    refine ⟨a, vs, v, rfl, rfl, hH1, Nat.lt_of_lt_of_le (show vs.length < 10000001 by rw [r.1]; omega) (by decide), ?_⟩
    have s2 := s1.put (u := .lst (vs ++ [v])) upd_same
    rw [upd_upd] at s2
    exact dn.nx S1 _ σ _ g1 s2 (k1.trans (Kf.put hH1 fun _ _ z => nomatch z)) ⟨hσ.mono g1, S1, Gr.refl _, F0, vs ++ [v], c.mono (g0.trans g1), n, rfl, (r.mono (g0.trans g1)).snoc rv⟩)
/-- xs.extend(e) -/
theorem t1_ext (i : Nat) {a : Addr} {xs ds : List Da} {x : Str} {e : Expr} {apos px cpos : Pos} (h : EX f env e (.lst ds)) (he : env[i]? = some (some (.v (.ref a))) := by rfl) (hl : xs.length + ds.length ≤ 10000000) (hc : Sees f (AccL a C xs) := by exact Sees.nil rfl) (hN : f.N[i]? = some x := by rfl) (hv : Vis f.sc x := by first | exact .inl rfl | exact .inr (.inl rfl) | exact .inr (.inr rfl))
    (hd : (x == ("__debug__" : Str)) = false := by decide) (hcd : (x == ("__classdict__" : Str)) = false := by decide) (hb : ∀ env, attributeBase (.Name x px) "extend" env (eval (.Name x px) env) = eval (.Name x px) env := by intro _; rfl)
    (hf : ∀ env, ((backTo cpos (starEach [e] env)).all (fun x => !x.1) && (backToKw cpos (keywordEach [] env)).all (fun x => x.1.isSome) && decide (([e] : List Expr).length + ([] : List Keyword).length + (if ([] : List Keyword).isEmpty then 0 else 1) < 30)) = true := by intro _; rfl)
    (hli : (apos.endLine == cpos.line) = true := by rfl) (hs : ∀ env, starEach [e] env = [(false, eval e env)] := by intro _; rfl) (hpl : ∀ env, (backTo cpos (starEach [] env)).any (·.1) = false := by intro _; rfl) (hsw : ∀ l env, swapsWith (.Call (.Attribute (.Name x px) "extend" apos) [e] [] cpos) none l env = pure false := by intro _ _; rfl) :
    T1 f (Pv env (AccL a C xs)) (.Expr (.Call (.Attribute (.Name x px) "extend" apos) [e] [] cpos) pos) (Pv env (AccL a C (xs ++ ds))) Rt := fun S F σ H D hp hs' _ dn =>
  wS_of (t := tDrop (tBM f.K "list" rExtend (tVar i) (wA f [e]))) (fun X hX => ps_expr (by rw [← hX.K]; exact pe_bm PySem.F.plainAttrs_list PySem.F.slot_list_extend PySem.F.type_list_extend mt_extend (pe_var (i := i) (by rw [hX.N]; exact hN) (by rw [hX.sc]; exact hv) hd hcd) (pw_a hX) (hb _) (hf _) hli (hs _) (hpl _)) (hsw _ _)) (by
    obtain ⟨hσ, S0, g0, F0, vs, c, n, rfl, r⟩ := hp
    have hpf : f.pf (upd F0 a (.lst vs)) := hc S0 _ ⟨F0, vs, c, n, rfl, r⟩
    have hH : H a = some (.lst vs) := hs'.prv a _ upd_same
    refine ⟨.ref a, slot_ref hσ he, .inl ⟨rfl, vs, .of hH⟩, ?_⟩
    refine ea_cons h ea_nil hs S _ σ H hpf hσ hs' _ fun ws S1 H1 g1 s1 k1 r1 => ?_
    obtain ⟨v, rfl, rv⟩ := one_arg1 r1
    obtain ⟨b, zs, rfl, b1, b2⟩ := rv.lst_inv
    have hH1 : H1 a = some (.lst vs) := s1.prv a _ upd_same
    refine ⟨a, b, vs, zs, rfl, rfl, hH1, s1.at b1, Nat.le_trans (show vs.length + zs.length ≤ 10000000 by rw [r.1, b2.1]; exact hl) (by decide), ?_⟩
    have s2 := s1.put (u := .lst (vs ++ zs)) upd_same
    rw [upd_upd] at s2
    exact dn.nx S1 _ σ _ g1 s2 (k1.trans (Kf.put hH1 fun _ _ z => nomatch z)) ⟨hσ.mono g1, S1, Gr.refl _, F0, vs ++ zs, c.mono (g0.trans g1), n, rfl, (r.mono (g0.trans g1)).append b2⟩)
/-- d[k] = e, d one's own -/
theorem t1_put (i : Nat) {a : Addr} {xs : List (Key × Da)} {d : Da} {k : Str} {x : Str} {e ke : Expr} {px spos : Pos} (h : EX f env e d) (hk : EX f env ke (dS k)) (he : env[i]? = some (some (.v (.ref a))) := by rfl) (hl : xs.length < 10000000) (hc : Sees f (AccD a C xs) := by exact Sees.nil rfl) (hN : f.N[i]? = some x := by rfl) (hv : Vis f.sc x := by first | exact .inl rfl | exact .inr (.inl rfl) | exact .inr (.inr rfl))
    (hd : (x == ("__debug__" : Str)) = false := by decide) (hcd : (x == ("__classdict__" : Str)) = false := by decide) (hsw : ∀ l env, swapsWith e (some (.Subscript (.Name x px) ke spos)) l env = pure false := by intro _ _; rfl) :
    T1 f (Pv env (AccD a C xs)) (.Assign [.Subscript (.Name x px) ke spos] e pos) (Pv env (AccD a C (putD xs (.inr k) d))) Rt := fun S F σ H D hp hs' _ dn =>
  wS_of (fun X hX => ps_dput (room1 hX) (pe_var (i := i) (by rw [hX.N]; exact hN) (by rw [hX.sc]; exact hv) hd hcd) (pw_e hX) (pw_e hX) (hsw _ _)) (by
    obtain ⟨hσ, S0, g0, F0, vs, c, n, rfl, r⟩ := hp
    have hpf : f.pf (upd F0 a (.dK vs)) := hc S0 _ ⟨F0, vs, c, n, rfl, r⟩
    refine h S _ σ H hpf hσ hs' _ fun v S1 H1 g1 s1 k1 r1 => ⟨.ref a, slot_ref hσ he, hk S1 _ σ H1 hpf (hσ.mono g1) s1 _ fun w S2 H2 g2 s2 k2 r2 => ?_⟩
    obtain rfl := r2.v_inv
    have hH2 : H2 a = some (.dK vs) := s2.prv a _ upd_same
    refine ⟨a, _, rfl, .inl ⟨vs, .inr k, hH2, rfl, Nat.lt_of_lt_of_le (show vs.length < 10000001 by rw [r.length]; omega) (by decide), rfl⟩, ?_⟩
    have s3 := s2.put (u := .dK (putK vs (.inr k) v)) upd_same
    rw [upd_upd] at s3
    exact dn.nx S2 _ σ _ (g1.trans g2) s3 ((k1.trans k2).trans (Kf.put hH2 fun _ _ z => nomatch z)) ⟨hσ.mono (g1.trans g2), S2, Gr.refl _, F0, _, c.mono (g0.trans (g1.trans g2)), n, rfl, (r.mono (g0.trans (g1.trans g2))).put (r1.mono g2)⟩)
/-- d[a tuple] = e, d one's own -/
theorem t1_putT (i : Nat) {a : Addr} {xs : List (List Key × Da)} {d : Da} {k : List Key} {x : Str} {e ke : Expr} {px spos : Pos} (h : EX f env e d) (hk : EX f env ke (dKey k)) (he : env[i]? = some (some (.v (.ref a))) := by rfl) (hl : xs.length < 10000000) (hc : Sees f (AccT a C xs) := by exact Sees.nil rfl) (hN : f.N[i]? = some x := by rfl) (hv : Vis f.sc x := by first | exact .inl rfl | exact .inr (.inl rfl) | exact .inr (.inr rfl))
    (hd : (x == ("__debug__" : Str)) = false := by decide) (hcd : (x == ("__classdict__" : Str)) = false := by decide) (hsw : ∀ l env, swapsWith e (some (.Subscript (.Name x px) ke spos)) l env = pure false := by intro _ _; rfl) :
    T1 f (Pv env (AccT a C xs)) (.Assign [.Subscript (.Name x px) ke spos] e pos) (Pv env (AccT a C (putD xs k d))) Rt := fun S F σ H D hp hs' _ dn =>
  wS_of (fun X hX => ps_dput (room1 hX) (pe_var (i := i) (by rw [hX.N]; exact hN) (by rw [hX.sc]; exact hv) hd hcd) (pw_e hX) (pw_e hX) (hsw _ _)) (by
    obtain ⟨hσ, S0, g0, F0, vs, c, n, rfl, r⟩ := hp
    have hpf : f.pf (upd F0 a (.dT vs)) := hc S0 _ ⟨F0, vs, c, n, rfl, r⟩
    refine h S _ σ H hpf hσ hs' _ fun v S1 H1 g1 s1 k1 r1 => ⟨.ref a, slot_ref hσ he, hk S1 _ σ H1 hpf (hσ.mono g1) s1 _ fun w S2 H2 g2 s2 k2 r2 => ?_⟩
    obtain ⟨b, ws, rfl, b1, b2⟩ := r2.tup_inv
    have hws : ws = k.map kV := RpL.atoms (f := kV) b2
    subst hws
    have hH2 : H2 a = some (.dT vs) := s2.prv a _ upd_same
    refine ⟨a, _, rfl, .inr ⟨vs, k, b, hH2, rfl, s2.at b1, Nat.lt_of_lt_of_le (show vs.length < 10000001 by rw [r.length]; omega) (by decide), rfl⟩, ?_⟩
    have s3 := s2.put (u := .dT (putK vs k v)) upd_same
    rw [upd_upd] at s3
    exact dn.nx S2 _ σ _ (g1.trans g2) s3 ((k1.trans k2).trans (Kf.put hH2 fun _ _ z => nomatch z)) ⟨hσ.mono (g1.trans g2), S2, Gr.refl _, F0, _, c.mono (g0.trans (g1.trans g2)), n, rfl, (r.mono (g0.trans (g1.trans g2))).put (r1.mono g2)⟩)

/-! ### dict comprehensions, keys texts -/
def dctOf {α : Type} (b : α → Bool) (key : α → Str) (r : α → Da) (xs : List α) : List (Key × Da) := (xs.filter b).foldl (fun acc a => putD acc (.inr (key a)) (r a)) []
theorem dctOf_snoc {α : Type} {b : α → Bool} {key : α → Str} {r : α → Da} {xs : List α} {i : Nat} {a : α} (h : xs[i]? = some a) : dctOf b key r (xs.take (i + 1)) = if b a = true then putD (dctOf b key r (xs.take i)) (.inr (key a)) (r a) else dctOf b key r (xs.take i) := by
  unfold dctOf
  rw [List.take_add_one, h, List.filter_append, List.foldl_append]
  simp only [Option.toList_some, List.filter_cons, List.filter_nil]
  split <;> rfl
theorem dctOf_len {α : Type} (b : α → Bool) (key : α → Str) (r : α → Da) (xs : List α) : ∀ i, (dctOf b key r (xs.take i)).length ≤ i
  | 0 => by simp [dctOf]
  | i + 1 => by
    have ih := dctOf_len b key r xs i
    cases h : xs[i]? with
    | none =>
      have e : xs.take (i + 1) = xs.take i := by rw [List.take_add_one, h]; simp
      rw [e]; omega
    | some a =>
      rw [dctOf_snoc h]
      split
      · exact Nat.le_trans (putD_len _ _ _) (by omega)
      · omega
theorem ex_dcP {pre : Pre} {α : Type} (xs : List α) {enc : α → Da} {b : α → Bool} {key : α → Str} {r : α → Da} {envA : α → En} {own : List (Str × Nat)} {vs : List Nat} {kx vx tg iter : Expr} {ifs : List Expr} {scope : Scope} (hi : IT pre f env tg iter (xs.map enc)) (hl : xs.length ≤ 10000000)
    (ht : ∀ a ∈ xs, TGT (f.blk scope) tg (enc a) (wipeE env (own.map (·.2))) (envA a) vs) (hc : ∀ a ∈ xs, EF (f.blk scope) (envA a) ifs (b a)) (hk : ∀ a ∈ xs, b a = true → EX (f.blk scope) (envA a) kx (dS (key a))) (he : ∀ a ∈ xs, b a = true → EX (f.blk scope) (envA a) vx (r a))
    (ok : blkC f.N f.sc scope own = true := by (try dsimp only [Fr.blk]); decide +kernel) (hv : ∀ i ∈ vs, i ∈ own.map (·.2) := by decide) (hfs : ∀ env x, foldedSetIterable iter env x = pure x := by intro _ _; rfl) :
    EXp pre f env (.DictComp kx vx [⟨tg, iter, ifs, 0⟩] scope pos) (.dct (dctOf b key r xs)) := fun S F σ H hp hσ hs hpre Q q =>
  wE_of (fun X hX => pe_dc (own := own) hX.calm (by rw [hX.N]; exact hX.nd) (pw_i hX) (by rw [hX.N, hX.sc]; exact blkOk_by ok)
    (fun s H C cl fp => pw_g (hX.blk s H scope C cl fp)) (fun s H C cl fp => pw_f (hX.blk s H scope C cl fp)) (fun s H C cl fp => pw_e (hX.blk s H scope C cl fp)) (fun s H C cl fp => pw_e (hX.blk s H scope C cl fp)) (hfs _)) (by
    refine hi S F σ H hp hσ hs hpre _ fun J S1 H1 g1 s1 k1 wk D hD => ?_
    refine ⟨fun i m H' => m = xs.length - i ∧ i ≤ xs.length ∧ ∃ S' acc, Gr S1 S' ∧ Sep S' (upd F D (.dK acc)) H' ∧ Kf H1 H' ∧ RpK S' acc (dctOf b key r (xs.take i)), ⟨_, rfl, Nat.zero_le _, S1, [], Gr.refl _, s1.newF hD, Kf.new hD, by simpa [dctOf] using RpK.nil⟩, ?_⟩
    rintro i m H' ⟨rfl, hi, S', acc, g', s', k', ra⟩
    obtain ⟨stop, turn⟩ := wk S' _ H' g' s' k'
    by_cases hlt : i < xs.length
    · refine .inr ?_
      obtain ⟨a, ha⟩ : ∃ a, xs[i]? = some a := ⟨_, List.getElem?_eq_getElem hlt⟩
      have hmem : a ∈ xs := List.mem_of_getElem? ha
      obtain ⟨go, yl⟩ := turn i (enc a) (by rw [List.getElem?_map, ha]; rfl)
      refine ⟨go, fun H4 => ∃ S4 acc4, Gr S1 S4 ∧ Sep S4 (upd F D (.dK acc4)) H4 ∧ Kf H1 H4 ∧ RpK S4 acc4 (dctOf b key r (xs.take (i + 1))), fun H4 ⟨S4, acc4, h1, h2, h3, h4⟩ => ⟨xs.length - (i + 1), by omega, rfl, hlt, S4, acc4, h1, h2, h3, h4⟩, fun x H3 yy => ?_⟩
      obtain ⟨S3, g3, s3, k3, r3⟩ := yl x H3 yy
      refine ht a hmem S3 _ _ H3 x (((hσ.mono g1).mono (g'.trans g3)).wipe _) s3 r3 _ fun σ2 hσ2 hw => ⟨?_, ?_⟩
      · rw [hw (own.map (·.2)) hv, wipe_wipe (fun i hi => hi)]
      have hF : F D = none := s1.freeF hD
      have hpf : (f.blk scope).pf (upd F D (.dK acc)) := Fr.pf_mono (f := f.blk scope) (Gr.new hF) hp
      refine hc a hmem S3 _ σ2 H3 hpf hσ2 s3 _ fun S5 H5 g5 s5 k5 => ?_
      have fs := dctOf_snoc (b := b) (key := key) (r := r) ha
      cases hb : b a with
      | false =>
        rw [if_neg (by decide)]
        refine ⟨S5, acc, g'.trans (g3.trans g5), s5, (k'.trans k3).trans k5, ?_⟩
        rw [fs, hb, if_neg (by decide)]
        exact ra.mono (g3.trans g5)
      | true =>
        rw [if_pos rfl]
        refine hk a hmem hb S5 _ σ2 H5 hpf (hσ2.mono g5) s5 _ fun w S6 H6 g6 s6 k6 r6 => he a hmem hb S6 _ σ2 H6 hpf (hσ2.mono (g5.trans g6)) s6 _ fun v S7 H7 g7 s7 k7 r7 => ?_
        obtain rfl := r6.v_inv
        have hz : acc.length < sizeLine := by
          have h1 := ra.length
          have h2 := dctOf_len b key r xs i
          exact Nat.lt_of_lt_of_le (show acc.length < 10000001 by omega) (by decide)
        refine ⟨acc, .inr (key a), rfl, s7.prv D _ upd_same, hz, S7, putK acc (.inr (key a)) v, g'.trans (g3.trans (g5.trans (g6.trans g7))), ?_, ((k'.trans k3).trans (k5.trans (k6.trans k7))).trans (Kf.put (s7.prv D _ upd_same) fun _ _ z => nomatch z), ?_⟩
        · have := s7.put (u := .dK (putK acc (.inr (key a)) v)) upd_same
          rw [upd_upd] at this
          exact this
        · rw [fs, hb, if_pos rfl]
          exact (ra.mono (g3.trans (g5.trans (g6.trans g7)))).put r7
    · refine .inl ?_
      have hi : i = xs.length := by omega
      subst hi
      rw [List.length_map] at stop
      refine ⟨stop, ?_⟩
      rw [List.take_length] at ra
      have hF : F D = none := s1.freeF hD
      have hT := s'.tell (p := D) upd_same
      rw [rem_upd hF] at hT
      have hSD : S' D = none := s'.freeSF upd_same
      exact q (.ref D) _ H' (g1.trans (g'.trans (Gr.new hSD))) hT (k1.trans k') (.dctK upd_same (ra.mono (Gr.new hSD))))

/-! ### len, in of an own class -/
theorem cd_lenOwn {Ca : Addr} {fs : List (Str × Da)} {k n : Nat} {R : List Da → Da → Prop} (c : C8.Met f.P f.w f.K f.mg f.base k Ca "__len__" (spR R) []) (hR : R [.ins Ca fs] (dI n)) (hk : k + 1 ≤ f.k := by exact Nat.le_of_ble_eq_true rfl) (hn : n < 2 ^ 62 := by decide) : CD f (.builtin "len") [.ins Ca fs] (dI n) := by
  obtain ⟨fa, fd, ps, ds, hc, hm, F, b, d⟩ := c.ex
  cases d
  refine .of (fun xs H Q => ∃ a dx fs, xs = [.ref a] ∧ H a = some (.ins Ca dx fs) ∧ spR R [.ref a] H (fun v H' => ∃ k : Nat, v = .int k ∧ k < 2 ^ 62 ∧ Q (.int k) H') C8.E0) (fun X hX => by
    have F' : FnOk X.prog X.w X.K X.mg X.base C8.CX0 k fa fd ps (spR R) := by rw [hX.prog, hX.w, hX.K, hX.mg, hX.base]; exact F
    exact call_lenOwn (by rw [hX.K]; exact hm) F' (by rw [hX.K]; exact b) (hX.room.mono hk)) fun S F H vs hs r Q k => ?_
  obtain ⟨v, rfl, r1⟩ := one_arg1 r
  obtain ⟨a, dx, vs, rfl, h1, h2⟩ := r1.ins_inv
  refine ⟨a, dx, vs, rfl, hs.at h1, S, F, [.ins Ca fs], dI n, hs, .cons r1 .nil, hR, fun v S' H' g s kf rv => ?_⟩
  obtain rfl := rv.v_inv
  exact ⟨n, rfl, hn, k _ S' H' g s kf (.v _)⟩
theorem od_inOwn {Ca : Addr} {fs : List (Str × Da)} {k : Nat} {x : Da} {b : Bool} {R : List Da → Da → Prop} (c : C8.Met f.P f.w f.K f.mg f.base k Ca "__contains__" (spR R) []) (hR : R [.ins Ca fs, x] (dB b)) (hk : k ≤ f.k := by exact Nat.le_of_ble_eq_true rfl) : OD f (compareOp .In) x (.ins Ca fs) (dB b) := by
  obtain ⟨fa, fd, ps, ds, hc, hm, F, bi, d⟩ := c.ex
  cases d
  refine .of (fun x y H Q => ∃ a dx fs, y = .ref a ∧ H a = some (.ins Ca dx fs) ∧ spR R [.ref a, x] H (fun v H' => ∃ b, v = .bl b ∧ Q (.bl b) H') C8.E0) (fun X hX => by
    have F' : FnOk X.prog X.w X.K X.mg X.base C8.CX0 k fa fd ps (spR R) := by rw [hX.prog, hX.w, hX.K, hX.mg, hX.base]; exact F
    exact op_inOwn (by rw [hX.K]; exact hm) F' (by rw [hX.K]; exact bi) (hX.room.mono hk)) fun S F H vx vy hp hs rx ry Q k => ?_
  obtain ⟨a, dx, vs, rfl, h1, h2⟩ := ry.ins_inv
  refine ⟨a, dx, vs, rfl, hs.at h1, S, F, [.ins Ca fs, x], dB b, hs, .cons (.insK h1 h2) (.cons rx .nil), hR, fun v S' H' g s kf rv => ?_⟩
  obtain rfl := rv.v_inv
  exact ⟨b, rfl, k _ S' H' g s kf (.v _)⟩
/-- o.m() -/
theorem ex_meth0 {o : Expr} {Ca : Addr} {m : Str} {apos : Pos} {R : List Da → Da → Prop} {k : Nat} {fs : List (Str × Da)} {d : Da} {pl : Env → Sem Bool} (c : C8.Met f.P f.w f.K f.mg f.base k Ca m (spR R) []) (ho : EX f env o (.ins Ca fs)) (hm : fs.lookup m = none) (hR : R [.ins Ca fs] d) (hk : k ≤ f.k := by exact Nat.le_of_ble_eq_true rfl)
    (ht : ∀ env, eval (.Call (.Attribute o m apos) [] [] pos) env = (do
      let ov ← eval o env
      standAt apos.atName
      let (g, first) ← holding [ov] (getMethod ov m (pl env))
      callWith pos g first (backTo pos (starEach [] env)) (backToKw pos (keywordEach [] env))) := by intro _; rfl) :
    EX f env (.Call (.Attribute o m apos) [] [] pos) d := fun S F σ H hp hσ hs Q q =>
  wE_of (fun X hX => C8.pe_mt0 (C := Ca) (k := k) (sp := spR R) (dvs := []) (pl := pl X.env) (by rw [hX.prog, hX.w, hX.K, hX.mg, hX.base]; exact c) hX.room hk (pw_e hX) (ht _))
    (ho S F σ H hp hσ hs _ fun v S1 H1 g1 s1 k1 r1 => by
      obtain ⟨a, dx, vs, rfl, h1, hv⟩ := r1.ins_inv
      exact ⟨a, dx, vs, rfl, s1.at h1, RpK.lookup_none hv hm, S1, F, [.ins Ca fs], d, s1, .cons (.insK h1 hv) .nil, hR, q.step g1 k1⟩)
/-- a op b op' c -/
theorem chain_run {op op' : CmpOp} {a b c : Expr} {x y z : Da} {p q : Bool} (o1 : OD f (compareOp op) x y (dB p)) (o2 : p = true → OD f (compareOp op') y z (dB q)) (ha : EX f env a x) (hb : EX f env b y) (hc : EX f env c z) {S F : Hp} {σ : L2.St} {H : Hp} {Q : VK} (hp : f.pf F) (hσ : SlE S σ env) (hs : Sep S F H) (k : PQ S F H (dB (p && q)) Q) : tChain (wO f (compareOp op)) (wO f (compareOp op')) (wE f a) (wE f b) (wE f c) σ H Q :=
  ha S F σ H hp hσ hs _ fun v1 S1 H1 g1 s1 k1 r1 => hb S1 F σ H1 hp (hσ.mono g1) s1 _ fun v2 S2 H2 g2 s2 k2 r2 => o1 S2 F H2 v1 v2 hp s2 (r1.mono g2) r2 _ fun v3 S3 H3 g3 s3 k3 r3 => by
    obtain rfl := r3.v_inv
    refine ⟨p, rfl, ?_⟩
    cases p with
    | false => exact k _ S3 H3 (g1.trans (g2.trans g3)) s3 (k1.trans (k2.trans k3)) (.v _)
    | true => exact hc S3 F σ H3 hp (hσ.mono (g1.trans (g2.trans g3))) s3 _ fun v4 S4 H4 g4 s4 k4 r4 => o2 rfl S4 F H4 v2 v4 hp s4 (r2.mono (g3.trans g4)) r4 Q (k.step (g1.trans (g2.trans (g3.trans g4))) (k1.trans (k2.trans (k3.trans k4))))
theorem ex_chain {op op' : CmpOp} {a b c : Expr} {x y z : Da} {p q : Bool} (o1 : OD f (compareOp op) x y (dB p)) (o2 : p = true → OD f (compareOp op') y z (dB q)) (ha : EX f env a x) (hb : EX f env b y) (hc : EX f env c z) (hm : lastMarks [op, op'] [b, c] = false := by with_unfolding_all rfl) : EX f env (.Compare a [op, op'] [b, c] pos) (dB (p && q)) := fun S F σ H hp hσ hs Q k =>
  wE_of (fun X hX => pe_chain (wO_op hX) (wO_op hX) (pw_e hX) (pw_e hX) (pw_e hX) hm) (chain_run o1 o2 ha hb hc hp hσ hs k)

end
end Em
set_option maxHeartbeats 1000000
/-! The logic over plain data (8): short forms, typed data, what the head tells. -/
namespace Em
open PySem PySem.Spec PyProof.Rows L2 RZ
section
variable {f : Fr} {env : En} {pos : Pos}
theorem ex_mapP {pre : Pre} {α : Type} (xs : List α) {enc : α → Da} {r : α → Da} {envA : α → En} (own : List (Str × Nat)) {vs : List Nat} {elt tg iter : Expr} {scope : Scope} (hi : IT pre f env tg iter (xs.map enc)) (hl : xs.length ≤ 10000000)
    (ht : ∀ a ∈ xs, TGT (f.blk scope) tg (enc a) (wipeE env (own.map (·.2))) (envA a) vs) (he : ∀ a ∈ xs, EX (f.blk scope) (envA a) elt (r a))
    (ok : blkC f.N f.sc scope own = true := by (try dsimp only [Fr.blk]); decide +kernel) (hv : ∀ i ∈ vs, i ∈ own.map (·.2) := by decide) (hfs : ∀ env x, foldedSetIterable iter env x = pure x := by intro _ _; rfl) :
    EXp pre f env (.ListComp elt [⟨tg, iter, [], 0⟩] scope pos) (.lst (xs.map r)) := by
  have h := ex_lcP (pos := pos) (b := fun _ => true) (own := own) xs hi hl ht (fun a _ => ef_nil) (fun a ha _ => he a ha) ok hv hfs
  unfold filtered at h
  rwa [List.filter_eq_self.mpr (fun _ _ => rfl)] at h
theorem ex_map {α : Type} (xs : List α) {enc : α → Da} {r : α → Da} {envA : α → En} (own : List (Str × Nat)) {vs : List Nat} {elt tg iter : Expr} {scope : Scope} (hi : IT yes f env tg iter (xs.map enc)) (hl : xs.length ≤ 10000000)
    (ht : ∀ a ∈ xs, TGT (f.blk scope) tg (enc a) (wipeE env (own.map (·.2))) (envA a) vs) (he : ∀ a ∈ xs, EX (f.blk scope) (envA a) elt (r a))
    (ok : blkC f.N f.sc scope own = true := by (try dsimp only [Fr.blk]); decide +kernel) (hv : ∀ i ∈ vs, i ∈ own.map (·.2) := by decide) (hfs : ∀ env x, foldedSetIterable iter env x = pure x := by intro _ _; rfl) :
    EX f env (.ListComp elt [⟨tg, iter, [], 0⟩] scope pos) (.lst (xs.map r)) := (ex_mapP xs own hi hl ht he ok hv hfs).ex
theorem ex_filP {pre : Pre} {α : Type} (xs : List α) {enc : α → Da} {b : α → Bool} {r : α → Da} {envA : α → En} (own : List (Str × Nat)) {vs : List Nat} {elt tg iter c : Expr} {scope : Scope} (hi : IT pre f env tg iter (xs.map enc)) (hl : xs.length ≤ 10000000)
    (ht : ∀ a ∈ xs, TGT (f.blk scope) tg (enc a) (wipeE env (own.map (·.2))) (envA a) vs) (hc : ∀ a ∈ xs, ET (f.blk scope) (envA a) c (b a)) (he : ∀ a ∈ xs, b a = true → EX (f.blk scope) (envA a) elt (r a))
    (ok : blkC f.N f.sc scope own = true := by (try dsimp only [Fr.blk]); decide +kernel) (hv : ∀ i ∈ vs, i ∈ own.map (·.2) := by decide) (hfs : ∀ env x, foldedSetIterable iter env x = pure x := by intro _ _; rfl) :
    EXp pre f env (.ListComp elt [⟨tg, iter, [c], 0⟩] scope pos) (.lst ((xs.filter b).map r)) := ex_lcP (pos := pos) (own := own) xs hi hl ht (fun a ha => ef_one (hc a ha)) he ok hv hfs
theorem ex_fil {α : Type} (xs : List α) {enc : α → Da} {b : α → Bool} {r : α → Da} {envA : α → En} (own : List (Str × Nat)) {vs : List Nat} {elt tg iter c : Expr} {scope : Scope} (hi : IT yes f env tg iter (xs.map enc)) (hl : xs.length ≤ 10000000)
    (ht : ∀ a ∈ xs, TGT (f.blk scope) tg (enc a) (wipeE env (own.map (·.2))) (envA a) vs) (hc : ∀ a ∈ xs, ET (f.blk scope) (envA a) c (b a)) (he : ∀ a ∈ xs, b a = true → EX (f.blk scope) (envA a) elt (r a))
    (ok : blkC f.N f.sc scope own = true := by (try dsimp only [Fr.blk]); decide +kernel) (hv : ∀ i ∈ vs, i ∈ own.map (·.2) := by decide) (hfs : ∀ env x, foldedSetIterable iter env x = pure x := by intro _ _; rfl) :
    EX f env (.ListComp elt [⟨tg, iter, [c], 0⟩] scope pos) (.lst ((xs.filter b).map r)) := (ex_filP xs own hi hl ht hc he ok hv hfs).ex
section
variable {p : Pos} {e : Expr} (hse : ∀ env, starEach [e] env = [(false, eval e env)])
theorem ex_sum {α : Type} {xs : List α} {r : α → Int} (h : EX f env e (.lst (xs.map fun a => dI (r a)))) (hm : f.mg "sum" = none) (hg : GlS f "sum" := by rfl) (hse : ∀ env, starEach [e] env = [(false, eval e env)] := by intro _; rfl) : EX f env (.Call (.Name "sum" p) [e] [] pos) (dI (xs.map r).sum) :=
  ex_callB (cd_sum (ns := xs.map r)) (ea_cons (h.cast (by simp)) ea_nil hse) hm (by decide +kernel) hg (by decide) (by decide) hse (fun _ => rfl)
theorem ex_all {α : Type} {xs : List α} {r : α → Bool} (h : EX f env e (.lst (xs.map fun a => dB (r a)))) (hm : f.mg "all" = none) (hg : GlS f "all" := by rfl) (hse : ∀ env, starEach [e] env = [(false, eval e env)] := by intro _; rfl) : EX f env (.Call (.Name "all" p) [e] [] pos) (dB (xs.all r)) :=
  (ex_callB (cd_all (bs := xs.map r)) (ea_cons (h.cast (by simp)) ea_nil hse) hm (by decide +kernel) hg (by decide) (by decide) hse (fun _ => rfl)).cast (by rw [List.all_map]; rfl)
theorem ex_any {α : Type} {xs : List α} {r : α → Bool} (h : EX f env e (.lst (xs.map fun a => dB (r a)))) (hm : f.mg "any" = none) (hg : GlS f "any" := by rfl) (hse : ∀ env, starEach [e] env = [(false, eval e env)] := by intro _; rfl) : EX f env (.Call (.Name "any" p) [e] [] pos) (dB (xs.any r)) :=
  (ex_callB (cd_any (bs := xs.map r)) (ea_cons (h.cast (by simp)) ea_nil hse) hm (by decide +kernel) hg (by decide) (by decide) hse (fun _ => rfl)).cast (by rw [List.any_map]; rfl)
theorem ex_lenL {xs : List Da} (h : EX f env e (.lst xs)) (hm : f.mg "len" = none) (hg : GlS f "len" := by rfl) (hse : ∀ env, starEach [e] env = [(false, eval e env)] := by intro _; rfl) : EX f env (.Call (.Name "len" p) [e] [] pos) (dI xs.length) :=
  ex_callB cd_len_lst (ea_cons h ea_nil hse) hm PySem.boot_len hg (by decide) (by decide) hse (fun _ => rfl)
theorem ex_lenT {xs : List Da} (h : EX f env e (.tup xs)) (hm : f.mg "len" = none) (hg : GlS f "len" := by rfl) (hse : ∀ env, starEach [e] env = [(false, eval e env)] := by intro _; rfl) : EX f env (.Call (.Name "len" p) [e] [] pos) (dI xs.length) :=
  ex_callB cd_len_tup (ea_cons h ea_nil hse) hm PySem.boot_len hg (by decide) (by decide) hse (fun _ => rfl)
theorem ex_lenS {x : Str} (h : EX f env e (dS x)) (hl : x.length ≤ 10000000) (hm : f.mg "len" = none) (hg : GlS f "len" := by rfl) (hse : ∀ env, starEach [e] env = [(false, eval e env)] := by intro _; rfl) : EX f env (.Call (.Name "len" p) [e] [] pos) (dI x.length) :=
  ex_callB (cd_len_str hl) (ea_cons h ea_nil hse) hm PySem.boot_len hg (by decide) (by decide) hse (fun _ => rfl)
theorem ex_tuple {xs : List Da} (h : EX f env e (.lst xs)) (hm : f.mg "tuple" = none) (hg : GlS f "tuple" := by rfl) (hse : ∀ env, starEach [e] env = [(false, eval e env)] := by intro _; rfl) : EX f env (.Call (.Name "tuple" p) [e] [] pos) (.tup xs) :=
  ex_callTy cd_tuple (ea_cons h ea_nil hse) hm (by decide +kernel) hg (by decide) (by decide) hse (fun _ => rfl)
theorem ex_intc {i : Int} (h : EX f env e (dI i)) (hm : f.mg "int" = none) (hg : GlS f "int" := by rfl) (hse : ∀ env, starEach [e] env = [(false, eval e env)] := by intro _; rfl) : EX f env (.Call (.Name "int" p) [e] [] pos) (dI i) :=
  ex_callTy cd_int (ea_cons h ea_nil hse) hm (by decide +kernel) hg (by decide) (by decide) hse (fun _ => rfl)
end
theorem zipD_map {α β : Type} (f : α → Da) (g : β → Da) : ∀ (a : List α) (b : List β), zipD (a.map f) (b.map g) = (a.zip b).map fun p => .tup [f p.1, g p.2]
  | x :: xs, y :: ys => by simp [zipD, zipD_map f g xs ys]
  | [], b => by simp [zipD]
  | x :: xs, [] => by simp [zipD]
theorem enumD_map {α : Type} (g : α → Da) : ∀ (a : List α) (k : Nat), enumD k (a.map g) = (a.zipIdx k).map fun p => .tup [dI (p.2 : Nat), g p.1]
  | [], k => rfl
  | x :: xs, k => by simp [enumD, enumD_map g xs (k + 1), List.zipIdx_cons]
end

/-! ### typed data -/
def lk {α : Type} (l : List (Str × α)) (k : Str) : Option α := (l.find? fun p => decide (p.1 = k)).map (·.2)
def dD {α : Type} (g : α → Da) (l : List (Str × α)) : Da := .dct (l.map fun p => (.inr p.1, g p.2))
theorem valD_lk {α : Type} (g : α → Da) (k : Str) : ∀ l : List (Str × α), valD (l.map fun p => ((Sum.inr p.1 : Key), g p.2)) (.inr k) = (lk l k).map g
  | [] => rfl
  | (a, x) :: l => by
    have ih := valD_lk g k l
    unfold valD lk at *
    rw [List.map_cons, List.find?_cons, List.find?_cons]
    by_cases h : a = k
    · subst h; simp
    · rw [decide_eq_false h, decide_eq_false (fun z => h (Sum.inr.inj z))]; exact ih
theorem lk_mem {α : Type} {k : Str} {x : α} : ∀ {l : List (Str × α)}, (l.map (·.1)).Nodup → (k, x) ∈ l → lk l k = some x
  | [], _, h => by simp at h
  | (a, y) :: l, hn, h => by
    rw [List.map_cons, List.nodup_cons] at hn
    unfold lk
    rw [List.find?_cons]
    rcases List.mem_cons.mp h with e | h
    · cases e; simp
    · have : a ≠ k := fun z => hn.1 (by subst z; exact List.mem_map_of_mem (f := (·.1)) h)
      rw [decide_eq_false this]
      exact lk_mem hn.2 h
theorem lk_some {α : Type} {k : Str} {x : α} {l : List (Str × α)} (h : lk l k = some x) : (k, x) ∈ l := by
  unfold lk at h
  cases e : l.find? fun p => decide (p.1 = k) with
  | none => rw [e] at h; cases h
  | some p =>
    rw [e] at h
    have h1 := List.mem_of_find?_eq_some e
    have h2 : p.1 = k := by have := List.find?_some (p := fun p : Str × α => decide (p.1 = k)) e; simpa using this
    cases h
    subst h2
    exact h1
theorem keysD_dD {α : Type} (g : α → Da) (l : List (Str × α)) : keysD (l.map fun p => ((Sum.inr p.1 : Key), g p.2)) = l.map fun p => dS p.1 := by unfold keysD; rw [List.map_map]; rfl

/-! ### what the head tells -/
structure Md (K : PySem.W.Frag) (mg : Str → Option Value) : Prop where
  says : He.SaysD fa fn K
  at_ : ∃ h : Heap, K.In h ∧ h.Ns mainGlobals mg
section
variable {P : Program} {w : World} {K : PySem.W.Frag} {mg : Str → Option Value} {base : Heap}
def hasFree (x : Str) : Bool := fa.any fun | .free y => decide (y = x) | _ => false
def hasGlo (x : Str) : Bool := fa.any fun | .glo y => decide (y = x) | _ => false
def hasInt (x : Str) (i : Int) : Bool := fa.any fun | .int y j => decide (y = x) && decide (i = j) | _ => false
def hasStr (x z : Str) : Bool := fa.any fun | .str y j => decide (y = x) && decide (z = j) | _ => false
def hasCls (x : Str) : Bool := fa.any fun | .cls y => decide (y = x) | _ => false
def hasNoat (x z : Str) : Bool := fa.any fun | .noat y j => decide (y = x) && decide (z = j) | _ => false
def hasMeth (x z : Str) : Bool := fa.any fun | .meth y j => decide (y = x) && decide (z = j) | _ => false
def hasMkr (x : Str) : Bool := fa.any fun | .mkr y => decide (y = x) | _ => false
theorem Md.free (M : Md K mg) (x : Str) (h : hasFree x = true := by decide +kernel) : mg x = none := by
  obtain ⟨_, X, G⟩ := M.at_
  obtain ⟨g, hg, e⟩ := List.any_eq_true.mp h
  cases g with
  | free y => have := of_decide_eq_true e; subst this; exact He.free_ok X G (M.says.facts hg)
  | _ => cases e
theorem Md.glo (M : Md K mg) (x : Str) (h : hasGlo x = true := by decide +kernel) : mg x = some (.ref (He.ga K x)) := by
  obtain ⟨_, X, G⟩ := M.at_
  obtain ⟨g, hg, e⟩ := List.any_eq_true.mp h
  cases g with
  | glo y => have := of_decide_eq_true e; subst this; exact He.glo_ok X G (M.says.facts hg)
  | _ => cases e
theorem Md.int (M : Md K mg) (x : Str) (i : Int) (h : hasInt x i = true := by decide +kernel) : ∃ t, mg x = some (.int i t) := by
  obtain ⟨_, X, G⟩ := M.at_
  obtain ⟨g, hg, e⟩ := List.any_eq_true.mp h
  cases g with
  | int y j =>
    obtain ⟨e1, e2⟩ := Bool.and_eq_true_iff.mp e
    have e1 := of_decide_eq_true e1
    have e2 := of_decide_eq_true e2
    subst e1 e2
    exact He.int_ok X G (M.says.facts hg)
  | _ => cases e
theorem Md.str (M : Md K mg) (x z : Str) (h : hasStr x z = true := by decide +kernel) : ∃ t, mg x = some (.str z t) := by
  obtain ⟨_, X, G⟩ := M.at_
  obtain ⟨g, hg, e⟩ := List.any_eq_true.mp h
  cases g with
  | str y j =>
    obtain ⟨e1, e2⟩ := Bool.and_eq_true_iff.mp e
    have e1 := of_decide_eq_true e1
    have e2 := of_decide_eq_true e2
    subst e1 e2
    exact He.str_ok X G (M.says.facts hg)
  | _ => cases e
theorem Md.cls (M : Md K mg) (x : Str) (h : hasCls x = true := by decide +kernel) : Cls K (He.ga K x) := by
  obtain ⟨g, hg, e⟩ := List.any_eq_true.mp h
  cases g with
  | cls y => have := of_decide_eq_true e; subst this; exact He.cls_ok (M.says.facts hg)
  | _ => cases e
theorem Md.mkr (M : Md K mg) (x : Str) (h : hasMkr x = true := by decide +kernel) : Mk K (He.ga K x) (He.ma K (He.ga K x) "__init__") := by
  obtain ⟨g, hg, e⟩ := List.any_eq_true.mp h
  cases g with
  | mkr y => have := of_decide_eq_true e; subst this; exact He.mkr_ok (M.says.facts hg)
  | _ => cases e
theorem Md.noat (M : Md K mg) (x z : Str) (h : hasNoat x z = true := by decide +kernel) : NoAttr K (He.ga K x) z := by
  obtain ⟨g, hg, e⟩ := List.any_eq_true.mp h
  cases g with
  | noat y j =>
    obtain ⟨e1, e2⟩ := Bool.and_eq_true_iff.mp e
    have e1 := of_decide_eq_true e1
    have e2 := of_decide_eq_true e2
    subst e1 e2
    exact He.noat_ok (M.says.facts hg)
  | _ => cases e
theorem Md.meth (M : Md K mg) (x z : Str) (h : hasMeth x z = true := by decide +kernel) : Meth K (He.ga K x) z (He.ma K (He.ga K x) z) := by
  obtain ⟨g, hg, e⟩ := List.any_eq_true.mp h
  cases g with
  | meth y j =>
    obtain ⟨e1, e2⟩ := Bool.and_eq_true_iff.mp e
    have e1 := of_decide_eq_true e1
    have e2 := of_decide_eq_true e2
    subst e1 e2
    exact He.meth_ok (M.says.facts hg)
  | _ => cases e
/-- a def of the module keeps its promise -/
theorem cal_R (M : Md K mg) (d : He.DefD) (N ps : List Str) {x : Str} {k : Nat} {R : List Da → Da → Prop} (hd : d ∈ fn) (ha : d.at_ = (x, none)) (hg : hasGlo x = true) (h0 : d.dfl = []) (h00 : d.kwd = [])
    (hb : ∀ (kV doc pm : Value) (an : Option Addr) (cdv ct : Value) (us : List Value), us.length = ps.length → bindArgs (PySem.W.fnOf d.name d.qual d.params d.body d.scope .none kV doc pm an cdv ct) ⟨us, []⟩ = pure (ps.zip us))
    (hS : C8.scC N ps d.scope = true) (len : ∀ ds z, R ds z → ds.length = ps.length)
    (h : ∀ ds z F0, R ds z → Tr ⟨P, w, K, mg, base, N, d.scope, k, [], fun _ => true, none⟩ (Pv (startE N ds) fun _ F => F = F0) d.body (fun _ F _ => z = dN ∧ F = F0) (Rv z fun _ F => F = F0)) : C8.Cal P w K mg base (k + 1) x (spR R) [] := by
  obtain ⟨fd, F⟩ := M.says.defs hd
  have e1 : He.DefD.dvs K d = [] := by unfold He.DefD.dvs; rw [h0]; rfl
  have e2 : He.DefD.kws K d = [] := by unfold He.DefD.kws; rw [h00]; rfl
  have e3 : He.fAd K d.at_ = He.ga K x := by rw [ha]; rfl
  rw [e1, e2, e3] at F
  exact ⟨_, fd, ps, [], fn_R F (C8.fnScope_by hS) len h, M.glo x hg, F.kp, F.bindsN hb, .nil⟩
theorem met_R (M : Md K mg) (d : He.DefD) (N ps : List Str) {x m : Str} {k : Nat} {R : List Da → Da → Prop} (hd : d ∈ fn) (ha : d.at_ = (x, some m)) (hc : hasCls x = true) (hm : hasMeth x m = true) (h0 : d.dfl = []) (h00 : d.kwd = [])
    (hb : ∀ (kV doc pm : Value) (an : Option Addr) (cdv ct : Value) (us : List Value), us.length = ps.length → bindArgs (PySem.W.fnOf d.name d.qual d.params d.body d.scope .none kV doc pm an cdv ct) ⟨us, []⟩ = pure (ps.zip us))
    (hS : C8.scC N ps d.scope = true) (len : ∀ ds z, R ds z → ds.length = ps.length)
    (h : ∀ ds z F0, R ds z → Tr ⟨P, w, K, mg, base, N, d.scope, k, [], fun _ => true, none⟩ (Pv (startE N ds) fun _ F => F = F0) d.body (fun _ F _ => z = dN ∧ F = F0) (Rv z fun _ F => F = F0)) : C8.Met P w K mg base (k + 1) (He.ga K x) m (spR R) [] := by
  obtain ⟨fd, F⟩ := M.says.defs hd
  have e1 : He.DefD.dvs K d = [] := by unfold He.DefD.dvs; rw [h0]; rfl
  have e2 : He.DefD.kws K d = [] := by unfold He.DefD.kws; rw [h00]; rfl
  have e3 : He.fAd K d.at_ = He.ma K (He.ga K x) m := by rw [ha]; rfl
  rw [e1, e2, e3] at F
  exact ⟨_, fd, ps, [], M.cls x hc, M.meth x m hm, fn_R F (C8.fnScope_by hS) len h, F.bindsN hb, .nil⟩
end
section
variable {f : Fr} {env : En} {pos : Pos}
theorem ex_mint (x : Str) (i : Int) (h : ∃ t, f.mg x = some (.int i t)) (hg : GlS f x := by rfl) (hd : (x == ("__debug__" : Str)) = false := by decide) : EX f env (.Name x pos) (dI i) := let ⟨t, e⟩ := h; ex_glob e ⟨t, rfl⟩ hg hd
theorem ex_mstr (x z : Str) (h : ∃ t, f.mg x = some (.str z t)) (hg : GlS f x := by rfl) (hd : (x == ("__debug__" : Str)) = false := by decide) : EX f env (.Name x pos) (dS z) := let ⟨t, e⟩ := h; ex_glob e ⟨t, rfl⟩ hg hd
end
end Em
set_option maxHeartbeats 1000000
/-! What the program computes, over plain data (sheets, amounts). -/
namespace Em
open PySem PySem.Spec PyProof.Rows L2 RZ
abbrev Ps := List (Str × Str)
abbrev Bs := List (Str × List Str)
abbrev Am := List (Str × Int)
def letters : Str := "abcdefghijklmnopqrstuvwxyz"
def isWord (x : Str) : Bool := decide (1 ≤ x.length) && decide (x.length ≤ 8) && x.cps.toList.all fun c => decide (c ∈ letters.cps.toList)
def dP (ps : Ps) : Da := dD dS ps
def gT (es : List Str) : Da := .tup (es.map dS)
def dB' (bs : Bs) : Da := dD gT bs
def dA (am : Am) : Da := dD dI am
/-- a told sheet that is one -/
structure Good (ps : Ps) (bs : Bs) : Prop where
  nodP : (ps.map (·.1)).Nodup
  inv : ∀ p ∈ ps, lk ps p.2 = some p.1
  wordP : ∀ p ∈ ps, isWord p.1 = true
  neP : ps ≠ []
  fewP : ps.length ≤ 4
  nodB : (bs.map (·.1)).Nodup
  wordB : ∀ b ∈ bs, isWord b.1 = true
  lenB : ∀ b ∈ bs, 1 ≤ b.2.length ∧ b.2.length ≤ 3
  kinds : ∀ b ∈ bs, ∀ e ∈ b.2, (lk ps e).isSome = true
  fewB : bs.length ≤ 3
  neB : bs ≠ []
theorem Good.wordP2 {ps : Ps} {bs : Bs} (g : Good ps bs) {p : Str × Str} (h : p ∈ ps) : isWord p.2 = true := g.wordP _ (lk_some (g.inv p h))
theorem Good.lkP {ps : Ps} {bs : Bs} (g : Good ps bs) {p : Str × Str} (h : p ∈ ps) : lk ps p.1 = some p.2 := lk_mem g.nodP h
theorem Good.lkB {ps : Ps} {bs : Bs} (g : Good ps bs) {p : Str × List Str} (h : p ∈ bs) : lk bs p.1 = some p.2 := lk_mem g.nodB h
def prt (ps : Ps) (k : Str) : Str := (lk ps k).getD k
def ends (bs : Bs) (n : Str) : List Str := (lk bs n).getD []
def joints (ps : Ps) : List Str := (ps.filter fun p => strLe p.1 p.2).map (·.1)
def cnt (k : Str) (es : List Str) : Int := ((es.filter fun e => decide (e = k)).length : Nat)
def endsAt (bs : Bs) (am : Am) (k : Str) : Int := (am.map fun a => a.2 * cnt k (ends bs a.1)).sum
def excessAt (ps : Ps) (bs : Bs) (am : Am) (j : Str) : Int := if prt ps j = j then endsAt bs am j % 2 else endsAt bs am j - endsAt bs am (prt ps j)
def balanced (ps : Ps) (bs : Bs) (am : Am) : Bool := (joints ps).all fun j => decide (excessAt ps bs am j = 0)
def column (ps : Ps) (bs : Bs) (n : Str) : List Int := (joints ps).map fun j => if prt ps j = j then cnt j (ends bs n) else cnt j (ends bs n) - cnt (prt ps j) (ends bs n)
def slacks (ps : Ps) : List (List Int) := ((joints ps).zipIdx.filter fun j => decide (prt ps j.1 = j.1)).map fun j => (List.range (joints ps).length).map fun i => if j.2 = i then -2 else 0
def columns (ps : Ps) (bs : Bs) : List (List Int) := bs.map (fun b => column ps bs b.1) ++ slacks ps
def dSheet (C : Addr) (ps : Ps) (bs : Bs) : Da := .ins C [("_partners", dP ps), ("_blocks", dB' bs)]
end Em
set_option maxHeartbeats 1000000
/-! Rules that the layer lacks (4): != of lists, x in a list, where dicts stand within (for one program and one world). -/
namespace PySem.SeqAt
open AutoSeq1 (wpAny_loadPart')
open MeetsSeq MeetsSeq2 MeetsSeq3 SeqRoads2
section
variable {prog : Program} {w : World}
theorem em_in_loop (l : Addr) (items : Array Value) (n : Nat) (dd : Option Addr) (sl : Array (Option Value)) (x : Value) (e : Nat → Bool) (k : Nat) :
    ∀ i : Nat, items.size - i = k → MeetsIn prog w (Builtin.«list.__contains__.loop» ⟨[.ref l, x, rawInt i], []⟩)
      (fun A R s => s.heap.get? l = some { cls := .type "list", dict := dd, data := .seq items n, slots := sl } ∧ (∀ j (h : j < items.size), EqIn prog w A.in1 s items[j] x (e j)) ∧ R (.ok (.ret (.bool (((List.range items.size).drop i).any e)))) s) := by
  induction k with
  | zero =>
    intro i hk A R s h
    obtain ⟨hp, g, d, tk, os⟩ := s; obtain ⟨hl, he, h⟩ := h
    wp_walk using wpAny_loadPart' hl
    have hi : items[((i : Nat) : Int).toNat]? = none := by simp; omega
    have hd : (List.range items.size).drop i = [] := by simp; omega
    rw [hd] at h
    rw [hi]
    wp_walk
    exact h
  | succ k ih =>
    intro i hk A R s h
    obtain ⟨hp, g, d, tk, os⟩ := s; obtain ⟨hl, he, h⟩ := h
    wp_walk using wpAny_loadPart' hl
    have hlt : i < items.size := by omega
    have hi : items[((i : Nat) : Int).toNat]? = some items[i] := by simp [hlt]
    have hd : (List.range items.size).drop i = i :: (List.range items.size).drop (i + 1) := by simp [List.drop_eq_getElem_cons, hlt]
    rw [hd, List.any_cons] at h
    rw [hi]
    refine wpAny_bind (he i hlt _ _ ?_)
    cases hb : e i with
    | true =>
      rw [hb] at h
      wp_walk
      exact h
    | false =>
      rw [hb] at h
      have hc : ((i : Int) + 1) = ((i + 1 : Nat) : Int) := by push_cast; rfl
      wp_walk
      rw [hc]
      exact ⟨plainId_quiet plain_contains_loop _, codeAny_builtin entry_contains_loop (by
        rw [Around.under_plainId plain_contains_loop _]
        exact ih (i + 1) (by omega) A R _ ⟨hl, he, by simpa using h⟩)⟩
theorem em_in (l : Addr) (items : Array Value) (n : Nat) (dd : Option Addr) (sl : Array (Option Value)) (x : Value) (e : Nat → Bool) :
    MeetsIn prog w (Builtin.«list.__contains__» ⟨[.ref l, x], []⟩)
      (fun A R s => s.heap.get? l = some { cls := .type "list", dict := dd, data := .seq items n, slots := sl } ∧ (∀ j (h : j < items.size), EqIn prog w A.in1 s items[j] x (e j)) ∧ R (.ok (.ret (.bool ((List.range items.size).any e)))) s) := by
  intro A R s h
  obtain ⟨hp, g, d, tk, os⟩ := s; obtain ⟨hl, he, h⟩ := h
  wp_walk using wpAny_loadPart' hl
  exact ⟨plainId_quiet plain_contains_loop _, codeAny_builtin entry_contains_loop (by
    rw [Around.under_plainId plain_contains_loop _]
    exact em_in_loop l items n dd sl x e _ 0 rfl A R _ ⟨hl, he, by simpa using h⟩)⟩
theorem em_in_list {A : Around} {E : Value → Shared → Prop} {s : Shared} {l : Addr} {items : Array Value} {x : Value} {Q : Value → Shared → Prop} (e : Nat → Bool) (hl : s.heap.IsList l items) (he : ∀ j (h : j < items.size), EqIn prog w A.in1 s items[j] x (e j))
    (h : Q (.bool ((List.range items.size).any e)) s) : wpAny (model prog w) A (compareOp .In x (.ref l)) Q E s := by
  obtain ⟨⟨cls, dd, data, sl⟩, ho, hc, n, hd⟩ := id hl
  simp only at hc hd
  subst hc hd
  show wpAny _ A (do return .bool (← contains (.ref l) x)) Q E s
  refine wpAny_bind (wpAny_contains_slot (T := "list") ⟨_, ho, rfl⟩ F.slot_list_contains (wpAny_mono (call_meetsIn F.slot_list_contains ⟨_, ho, rfl⟩ F.entry_list_contains (F.args_list_contains_2 _ _) (em_in l items n dd sl x e) (Q := fun v s' => ∃ b, v = .bool b ∧ Q (.bool b) s') ⟨ho, he, _, rfl, h⟩) (fun v s' hv => ?_) fun _ _ e => e))
  obtain ⟨b, rfl, hq⟩ := hv
  exact wpAny_truthy_bool (wpAny_pure hq)
theorem em_ne_loop (l b : Addr) (items items2 : Array Value) (n n2 : Nat) (dd dd2 : Option Addr) (sl sl2 : Array (Option Value)) (hsz : items.size = items2.size) (e : Nat → Bool) (k : Nat) :
    ∀ i : Nat, items.size - i = k → MeetsIn prog w (Builtin.«list.__eq__.loop» ⟨[.ref l, .ref b, rawInt i, rawInt 3], []⟩)
      (fun A R s => s.heap.get? l = some { cls := .type "list", dict := dd, data := .seq items n, slots := sl } ∧ s.heap.get? b = some { cls := .type "list", dict := dd2, data := .seq items2 n2, slots := sl2 } ∧
        (∀ j (h1 : j < items.size) (h2 : j < items2.size), EqIn prog w A.in1 s items[j] items2[j] (e j)) ∧ R (.ok (.ret (.bool (!((List.range items.size).drop i).all e)))) s) := by
  induction k with
  | zero =>
    intro i hk A R s h
    obtain ⟨hp, g, d, tk, os⟩ := s; obtain ⟨hl, hb, he, h⟩ := h
    wp_walk using wpAny_loadPart' hl, wpAny_loadPart' hb
    have hi1 : items[((i : Nat) : Int).toNat]? = none := by simp; omega
    have hi2 : items2[((i : Nat) : Int).toNat]? = none := by simp; omega
    have hd : (List.range items.size).drop i = [] := by simp; omega
    rw [hd] at h
    rw [hi1, hi2]
    wp_walk using wpAny_loadPart' hl, wpAny_loadPart' hb
    show R (.ok (.ret (.bool (items.size != items2.size)))) _
    rw [hsz]
    simpa using h
  | succ k ih =>
    intro i hk A R s h
    obtain ⟨hp, g, d, tk, os⟩ := s; obtain ⟨hl, hb, he, h⟩ := h
    wp_walk using wpAny_loadPart' hl, wpAny_loadPart' hb
    have hlt : i < items.size := by omega
    have hlt2 : i < items2.size := by omega
    have hi1 : items[((i : Nat) : Int).toNat]? = some items[i] := by simp [hlt]
    have hi2 : items2[((i : Nat) : Int).toNat]? = some items2[i] := by simp [hlt2]
    have hd : (List.range items.size).drop i = i :: (List.range items.size).drop (i + 1) := by simp [List.drop_eq_getElem_cons, hlt]
    have hc : ((i : Int) + 1) = ((i + 1 : Nat) : Int) := by push_cast; rfl
    rw [hd, List.all_cons] at h
    rw [hi1, hi2]
    refine wpAny_bind (he i hlt hlt2 _ _ ?_)
    cases hb' : e i with
    | true =>
      rw [hb'] at h
      wp_walk
      rw [hc]
      exact ⟨plainId_quiet plain_eq_loop _, codeAny_builtin entry_eq_loop (by
        rw [Around.under_plainId plain_eq_loop _]
        exact ih (i + 1) (by omega) A R _ ⟨hl, hb, he, by simpa using h⟩)⟩
    | false =>
      rw [hb'] at h
      wp_walk using wpAny_loadPart' hl, wpAny_loadPart' hb
      rw [hi1, hi2]
      wp_walk
      simpa using h
theorem em_ne (l b : Addr) (items items2 : Array Value) (n n2 : Nat) (dd dd2 : Option Addr) (sl sl2 : Array (Option Value)) (hsz : items.size = items2.size) (e : Nat → Bool) :
    MeetsIn prog w (Builtin.«list.__ne__» ⟨[.ref l, .ref b], []⟩)
      (fun A R s => s.heap.get? l = some { cls := .type "list", dict := dd, data := .seq items n, slots := sl } ∧ s.heap.get? b = some { cls := .type "list", dict := dd2, data := .seq items2 n2, slots := sl2 } ∧
        (∀ j (h1 : j < items.size) (h2 : j < items2.size), EqIn prog w A.in1 s items[j] items2[j] (e j)) ∧ R (.ok (.ret (.bool (!(List.range items.size).all e)))) s) := by
  intro A R s h
  obtain ⟨hp, g, d, tk, os⟩ := s; obtain ⟨hl, hb, he, h⟩ := h
  have f3 := AutoSeq1.sub_list_list
  have hne : ¬ (items.size != items2.size) = true := by simp [hsz]
  wp_walk using wpAny_loadPart' hl, wpAny_loadPart' hb
  exact ⟨plainId_quiet plain_eq_loop _, codeAny_builtin entry_eq_loop (by
    rw [Around.under_plainId plain_eq_loop _]
    exact em_ne_loop l b items items2 n n2 dd dd2 sl sl2 hsz e _ 0 rfl A R _ ⟨hl, hb, he, by simpa using h⟩)⟩
theorem em_ne_lists {A : Around} {E : Value → Shared → Prop} {s : Shared} {l b : Addr} {items items2 : Array Value} {e : Nat → Bool} {Q : Value → Shared → Prop} (hl : s.heap.IsList l items) (hb : s.heap.IsList b items2) (hsz : items.size = items2.size) (hu : A.units < cLine)
    (he : ∀ j (h1 : j < items.size) (h2 : j < items2.size), EqIn prog w A.in1 s items[j] items2[j] (e j)) (h : Q (.bool (!(List.range items.size).all e)) s) : wpAny (model prog w) A (compareOp .NotEq (.ref l) (.ref b)) Q E s := by
  obtain ⟨⟨cls, dd, data, sl⟩, ho, hc, n, hd⟩ := id hl
  obtain ⟨⟨cls2, dd2, data2, sl2⟩, ho2, hc2, n2, hd2⟩ := id hb
  simp only at hc hd hc2 hd2
  subst hc hd hc2 hd2
  exact wpAny_richCompare_same_room (T := "list") (op := .NotEq) ⟨_, ho, rfl⟩ ⟨_, ho2, rfl⟩ F.slot_list_ne (call_meetsIn F.slot_list_ne ⟨_, ho, rfl⟩ F.entry_list_ne (F.args_list_ne_2 _ _) (em_ne l b items items2 n n2 dd dd2 sl sl2 hsz e)
    ⟨ho, ho2, he, show Value.bool (!(List.range items.size).all e) ≠ Value.notImplemented ∧ Q (.bool (!(List.range items.size).all e)) s from ⟨(fun x => nomatch x), h⟩⟩) hu
end
end PySem.SeqAt
set_option maxHeartbeats 1000000
/-! The logic over plain data (9): ==, !=, in of nested data. -/
namespace Em
open PySem PySem.Spec PyProof.Rows L2 RZ
open PySem.W (EqTree)
/-- d == e answers b, of nesting at most n -/
inductive EqDa : Nat → Da → Da → Bool → Prop
  | int {n : Nat} (i j : Int) : EqDa n (dI i) (dI j) (decide (i = j))
  | str {n : Nat} (i j : Str) : EqDa n (dS i) (dS j) (decide (i = j))
  | lst {n : Nat} {xs ys : List Da} {e : Nat → Bool} (l : xs.length = ys.length) (h : ∀ (i : Nat) (x y : Da), xs[i]? = some x → ys[i]? = some y → EqDa n x y (e i)) : EqDa (n + 1) (.lst xs) (.lst ys) ((List.range xs.length).all e)
  | lstLen {n : Nat} {xs ys : List Da} (l : xs.length ≠ ys.length) : EqDa (n + 1) (.lst xs) (.lst ys) false
  | tup {n : Nat} {xs ys : List Da} {e : Nat → Bool} (l : xs.length = ys.length) (h : ∀ (i : Nat) (x y : Da), xs[i]? = some x → ys[i]? = some y → EqDa n x y (e i)) : EqDa (n + 1) (.tup xs) (.tup ys) ((List.range xs.length).all e)
  | dct {n : Nat} {xs ys : List (Key × Da)} {e : Key → Bool} (h : ∀ (k : Key) (x y : Da), (k, x) ∈ xs → valD ys k = some y → EqDa n x y (e k)) : EqDa (n + 1) (.dct xs) (.dct ys) (xs.length == ys.length && xs.all fun p => (valD ys p.1).isSome && e p.1)
theorem EqDa.same {S : Hp} {n : Nat} {d e : Da} {b : Bool} (h : EqDa n d e b) : ∀ {x : V}, Rp S x d → Rp S x e → b = true := by
  induction h with
  | int i j =>
    intro x r1 r2
    have := r1.v_inv.symm.trans r2.v_inv
    cases this; simp
  | str i j =>
    intro x r1 r2
    have := r1.v_inv.symm.trans r2.v_inv
    cases this; simp
  | lst l _ ih =>
    intro x r1 r2
    obtain ⟨a, vs, rfl, h1, h2⟩ := r1.lst_inv
    obtain ⟨a', vs', e, h3, h4⟩ := r2.lst_inv
    cases e
    rw [h1] at h3; cases h3
    refine List.all_eq_true.mpr fun i hi => ?_
    have hi := List.mem_range.mp hi
    obtain ⟨v, hv, rv⟩ := h2.get (List.getElem?_eq_getElem hi)
    exact ih i _ _ (List.getElem?_eq_getElem hi) (List.getElem?_eq_getElem (by rw [← l]; exact hi)) rv (h4.2 i v _ hv (List.getElem?_eq_getElem (by rw [← l]; exact hi)))
  | lstLen l =>
    intro x r1 r2
    obtain ⟨a, vs, rfl, h1, h2⟩ := r1.lst_inv
    obtain ⟨a', vs', e, h3, h4⟩ := r2.lst_inv
    cases e
    rw [h1] at h3; cases h3
    exact absurd (h2.1.symm.trans h4.1) l
  | tup l _ ih =>
    intro x r1 r2
    obtain ⟨a, vs, rfl, h1, h2⟩ := r1.tup_inv
    obtain ⟨a', vs', e, h3, h4⟩ := r2.tup_inv
    cases e
    rw [h1] at h3; cases h3
    refine List.all_eq_true.mpr fun i hi => ?_
    have hi := List.mem_range.mp hi
    obtain ⟨v, hv, rv⟩ := h2.get (List.getElem?_eq_getElem hi)
    exact ih i _ _ (List.getElem?_eq_getElem hi) (List.getElem?_eq_getElem (by rw [← l]; exact hi)) rv (h4.2 i v _ hv (List.getElem?_eq_getElem (by rw [← l]; exact hi)))
  | @dct n xs ys e _ ih =>
    intro x r1 r2
    obtain ⟨a, vs, rfl, h1, h2⟩ := r1.dct_inv
    obtain ⟨a', vs', ee, h3, h4⟩ := r2.dct_inv
    cases ee
    rw [h1] at h3; cases h3
    have el : xs.length = ys.length := h2.length.symm.trans h4.length
    rw [el, beq_self_eq_true, Bool.true_and]
    refine List.all_eq_true.mpr fun p hp => ?_
    -- the first entry of the key, in all three
    have hs : (valD ys p.1).isSome = true := by
      rw [← h4.isSome, h2.isSome]
      unfold valD
      rw [Option.isSome_map, List.find?_isSome]
      exact ⟨p, hp, by simp⟩
    obtain ⟨y, hy⟩ := Option.isSome_iff_exists.mp hs
    obtain ⟨v, hv, rv⟩ := h4.val_some hy
    obtain ⟨x', hx'⟩ : ∃ x', valD xs p.1 = some x' := by
      have : (valD xs p.1).isSome = true := by rw [← h2.isSome, hv]; rfl
      exact Option.isSome_iff_exists.mp this
    obtain ⟨v', hv', rv'⟩ := h2.val_some hx'
    rw [hv] at hv'; cases hv'
    have hm : (p.1, x') ∈ xs := by
      unfold valD at hx'
      cases q : xs.find? fun kv => decide (kv.1 = p.1) with
      | none => rw [q] at hx'; cases hx'
      | some z =>
        rw [q] at hx'
        have m1 := List.mem_of_find?_eq_some q
        have m2 : z.1 = p.1 := by have := List.find?_some (p := fun kv : Key × Da => decide (kv.1 = p.1)) q; simpa using this
        cases hx'
        rw [← m2]; exact m1
    rw [hy, ih p.1 x' y hm hy rv' rv]; rfl
theorem mem_pair {α β : Type} {F : α → β → Prop} {xs : List α} {ys : List β} (h : Paired F xs ys) : ∀ {y : β}, y ∈ ys → ∃ x ∈ xs, F x y := by
  induction h with
  | nil => intro y hy; cases hy
  | cons r _ ih =>
    intro y hy
    rcases List.mem_cons.mp hy with e | hy
    · subst e; exact ⟨_, List.mem_cons_self, r⟩
    · obtain ⟨x, hx, f⟩ := ih hy; exact ⟨x, List.mem_cons_of_mem _ hx, f⟩
section
variable {X : Cx} {pins : List (Addr × Obj)} {σ : L2.St} {S F H : Hp} {s : Shared} {n : Nat} {a a' : Addr}
/-- v == u answers b for whatever stands for d and e -/
abbrev Tree (X : Cx) (S : Hp) (s : Shared) (n : Nat) (d e : Da) (b : Bool) : Prop := ∀ {x y : V} {v u : Value}, Rp S x d → Rp S y e → RelV x v → RelV y u → EqTree X.prog X.w s n v u b
theorem lst_parts (I : Inv X pins σ H s) (hs : Sep S F H) {xs ys : List Da} {e : Nat → Bool} (r1 : Rp S (.ref a) (.lst xs)) (r2 : Rp S (.ref a') (.lst ys)) (ih : ∀ (i : Nat) (x y : Da), xs[i]? = some x → ys[i]? = some y → Tree X S s n x y (e i)) :
    ∃ its its2 : Array Value, s.heap.IsList a its ∧ s.heap.IsList a' its2 ∧ its.size = xs.length ∧ its2.size = ys.length ∧ ∀ j (h1 : j < its.size) (h2 : j < its2.size), EqTree X.prog X.w s n its[j] its2[j] (e j) := by
  obtain ⟨_, vs, q, h1, h2⟩ := r1.lst_inv
  cases q
  obtain ⟨_, vs', q, h3, h4⟩ := r2.lst_inv
  cases q
  obtain ⟨its, rv, p1, _⟩ := I.list (hs.sql (K := X.K) h1)
  obtain ⟨its2, rv2, p2, _⟩ := I.list (hs.sql (K := X.K) h3)
  have e1 : its.toArray.size = xs.length := by rw [List.size_toArray, ← rv.length, h2.1]
  have e2 : its2.toArray.size = ys.length := by rw [List.size_toArray, ← rv2.length, h4.1]
  refine ⟨_, _, p1.isList, p2.isList, e1, e2, fun j hj1 hj2 => ?_⟩
  have q1 : j < xs.length := by rw [← e1]; exact hj1
  have q2 : j < ys.length := by rw [← e2]; exact hj2
  obtain ⟨v1, hv1, r1'⟩ := h2.get (List.getElem?_eq_getElem q1)
  obtain ⟨v2, hv2, r2'⟩ := h4.get (List.getElem?_eq_getElem q2)
  obtain ⟨w1, hw1, s1⟩ := rv.get hv1
  obtain ⟨w2, hw2, s2⟩ := rv2.get hv2
  have g1 : its.toArray[j] = w1 := by have := List.getElem?_eq_some_iff.mp hw1; simpa using this.2
  have g2 : its2.toArray[j] = w2 := by have := List.getElem?_eq_some_iff.mp hw2; simpa using this.2
  rw [g1, g2]
  exact ih j _ _ (List.getElem?_eq_getElem q1) (List.getElem?_eq_getElem q2) r1' r2' s1 s2
theorem tup_parts (I : Inv X pins σ H s) (hs : Sep S F H) {xs ys : List Da} {e : Nat → Bool} (r1 : Rp S (.ref a) (.tup xs)) (r2 : Rp S (.ref a') (.tup ys)) (ih : ∀ (i : Nat) (x y : Da), xs[i]? = some x → ys[i]? = some y → Tree X S s n x y (e i)) :
    ∃ its its2 : Array Value, s.heap.IsTuple a its ∧ s.heap.IsTuple a' its2 ∧ its.size = xs.length ∧ its2.size = ys.length ∧ ∀ j (h1 : j < its.size) (h2 : j < its2.size), EqTree X.prog X.w s n its[j] its2[j] (e j) := by
  obtain ⟨_, vs, q, h1, h2⟩ := r1.tup_inv
  cases q
  obtain ⟨_, vs', q, h3, h4⟩ := r2.tup_inv
  cases q
  obtain ⟨its, rv, p1, _⟩ := I.tuple (hs.sqt (K := X.K) h1)
  obtain ⟨its2, rv2, p2, _⟩ := I.tuple (hs.sqt (K := X.K) h3)
  have e1 : its.toArray.size = xs.length := by rw [List.size_toArray, ← rv.length, h2.1]
  have e2 : its2.toArray.size = ys.length := by rw [List.size_toArray, ← rv2.length, h4.1]
  refine ⟨_, _, p1, p2, e1, e2, fun j hj1 hj2 => ?_⟩
  have q1 : j < xs.length := by rw [← e1]; exact hj1
  have q2 : j < ys.length := by rw [← e2]; exact hj2
  obtain ⟨v1, hv1, r1'⟩ := h2.get (List.getElem?_eq_getElem q1)
  obtain ⟨v2, hv2, r2'⟩ := h4.get (List.getElem?_eq_getElem q2)
  obtain ⟨w1, hw1, s1⟩ := rv.get hv1
  obtain ⟨w2, hw2, s2⟩ := rv2.get hv2
  have g1 : its.toArray[j] = w1 := by have := List.getElem?_eq_some_iff.mp hw1; simpa using this.2
  have g2 : its2.toArray[j] = w2 := by have := List.getElem?_eq_some_iff.mp hw2; simpa using this.2
  rw [g1, g2]
  exact ih j _ _ (List.getElem?_eq_getElem q1) (List.getElem?_eq_getElem q2) r1' r2' s1 s2
theorem kv_keys {l1 : List (Key × V)} {l2 : List (Key × Value)} (h : KV l1 l2) : l2.map (·.1) = l1.map (·.1) := by
  unfold KV at h
  induction h with
  | nil => rfl
  | cons r _ ih => rw [List.map_cons, List.map_cons, ih, r.1]
theorem dct_parts (G : Value → Value → Bool → Prop) (I : Inv X pins σ H s) (hs : Sep S F H) {xs ys : List (Key × Da)} {e : Key → Bool} (r1 : Rp S (.ref a) (.dct xs)) (r2 : Rp S (.ref a') (.dct ys)) (ih : ∀ (k : Key) (x y : Da), (k, x) ∈ xs → valD ys k = some y → ∀ {x' y' : V} {v u : Value}, Rp S x' x → Rp S y' y → RelV x' v → RelV y' u → G v u (e k)) :
    ∃ ka kb : List (Key × Value), (a == sysModules) = false ∧ (a' == sysModules) = false ∧ s.heap.DictOf (mixKind X.prog X.w) a ka ∧ s.heap.DictOf (mixKind X.prog X.w) a' kb ∧ (∀ k v y, (k, v) ∈ ka → valueAt kb k = some y → G v y (e k)) ∧
      (ka.length == kb.length && ka.all fun p => (valueAt kb p.1).isSome && e p.1) = (xs.length == ys.length && xs.all fun p => (valD ys p.1).isSome && e p.1) := by
  obtain ⟨_, vs, q, h1, h2⟩ := r1.dct_inv
  cases q
  obtain ⟨_, vs', q, h3, h4⟩ := r2.dct_inv
  cases q
  obtain ⟨_, y1, ka, ra, d1⟩ := dk_rd I.hok (hs.rd h1)
  obtain ⟨_, y2, kb, rb, d2⟩ := dk_rd I.hok (hs.rd h3)
  refine ⟨ka, kb, y1, y2, d1, d2, fun k v y hm hv => ?_, ?_⟩
  · obtain ⟨p, hp, hk, rv⟩ := mem_pair ra hm
    obtain ⟨i, hi, hpi⟩ := List.mem_iff_getElem.mp hp
    have hi' : i < xs.length := by rw [← h2.length]; exact hi
    have hkey : (vs[i]).1 = (xs[i]).1 := by
      have := congrArg (fun l => l[i]?) h2.1
      simpa [List.getElem?_map, List.getElem?_eq_getElem hi, List.getElem?_eq_getElem hi'] using this
    have hx : (k, (xs[i]).2) ∈ xs := by
      have : (xs[i]) ∈ xs := List.getElem_mem hi'
      have e : (k, (xs[i]).2) = xs[i] := by
        refine Prod.ext ?_ rfl
        show k = (xs[i]).1
        rw [← hkey, hpi]; exact hk.symm
      rw [e]; exact this
    have r1' : Rp S p.2 (xs[i]).2 := by rw [← hpi]; exact h2.2 i _ _ (List.getElem?_eq_getElem hi) (List.getElem?_eq_getElem hi')
    have ro : RelO (valV vs' k) (valueAt kb k) := KV.val rb k
    rw [hv] at ro
    cases q : valV vs' k with
    | none => rw [q] at ro; exact ro.elim
    | some z =>
      rw [q] at ro
      cases q2 : valD ys k with
      | none => rw [h4.val_none q2] at q; cases q
      | some y' =>
        obtain ⟨z', hz', rz⟩ := h4.val_some q2
        rw [q] at hz'; cases hz'
        exact ih k _ y' hx q2 r1' rz rv ro
  · have e1 : ka.length = xs.length := (Paired.length ra).symm.trans h2.length
    have e2 : kb.length = ys.length := (Paired.length rb).symm.trans h4.length
    have e3 : ka.map (·.1) = xs.map (·.1) := (kv_keys ra).trans h2.1
    have e4 : ∀ k, (valueAt kb k).isSome = (valD ys k).isSome := fun k => by
      rw [← h4.isSome]
      have ro : RelO (valV vs' k) (valueAt kb k) := KV.val rb k
      cases q : valV vs' k with
      | none => rw [q] at ro; cases q2 : valueAt kb k with
        | none => rfl
        | some z => rw [q2] at ro; exact ro.elim
      | some z => rw [q] at ro; cases q2 : valueAt kb k with
        | none => rw [q2] at ro; exact ro.elim
        | some z => rfl
    have e5 : (ka.all fun p => (valueAt kb p.1).isSome && e p.1) = xs.all fun p => (valD ys p.1).isSome && e p.1 := by
      have a1 : (ka.all fun p => (valueAt kb p.1).isSome && e p.1) = (ka.map (·.1)).all fun k => (valD ys k).isSome && e k := by
        rw [List.all_map]; congr 1; funext p; simp [e4]
      have a2 : (xs.all fun p => (valD ys p.1).isSome && e p.1) = (xs.map (·.1)).all fun k => (valD ys k).isSome && e k := by rw [List.all_map]; rfl
      rw [a1, a2, e3]
    rw [e1, e2, e5]
theorem eq_tree (I : Inv X pins σ H s) (hs : Sep S F H) {n : Nat} {d e : Da} {b : Bool} (h : EqDa n d e b) : Tree X S s n d e b := by
  induction h with
  | int i j =>
    intro x y v u r1 r2 rx ry
    obtain rfl := r1.v_inv
    obtain rfl := r2.v_inv
    obtain ⟨t, rfl⟩ := rx
    obtain ⟨t', rfl⟩ := ry
    exact .leaf fun A _ => fun prog w E Q q => wpAny_eqBool_int (by rw [Bool.beq_eq_decide_eq]; exact q)
  | str i j =>
    intro x y v u r1 r2 rx ry
    obtain rfl := r1.v_inv
    obtain rfl := r2.v_inv
    obtain ⟨t, rfl⟩ := rx
    obtain ⟨t', rfl⟩ := ry
    exact .leaf fun A _ => fun prog w E Q q => wpAny_eqBool_str q
  | @lst n xs ys e l hh ih =>
    intro x y v u r1 r2 rx ry
    by_cases hxy : x = y
    · subst hxy
      rw [(EqDa.lst l hh).same r1 r2]
      obtain ⟨a, vs, rfl, _, _⟩ := r1.lst_inv
      cases rx; cases ry
      exact .same
    · obtain ⟨a, _, rfl, _, _⟩ := id r1.lst_inv
      obtain ⟨a', _, rfl, _, _⟩ := id r2.lst_inv
      cases rx; cases ry
      obtain ⟨its, its2, p1, p2, e1, e2, it⟩ := lst_parts I hs r1 r2 ih
      rw [← e1]
      exact .lists (fun z => hxy (by rw [z])) p1 p2 (by rw [e1, e2, l]) it
  | @lstLen n xs ys l =>
    intro x y v u r1 r2 rx ry
    by_cases hxy : x = y
    · subst hxy
      exact absurd ((EqDa.lstLen (n := n) l).same r1 r2) (by decide)
    · obtain ⟨a, vs, rfl, h1, h2⟩ := r1.lst_inv
      obtain ⟨a', vs', rfl, h3, h4⟩ := r2.lst_inv
      cases rx; cases ry
      obtain ⟨its, rv, p1, _⟩ := I.list (hs.sql (K := X.K) h1)
      obtain ⟨its2, rv2, p2, _⟩ := I.list (hs.sql (K := X.K) h3)
      exact .listsLen (fun z => hxy (by rw [z])) p1.isList p2.isList (by rw [List.size_toArray, List.size_toArray, ← rv.length, ← rv2.length, h2.1, h4.1]; simpa using l)
  | @tup n xs ys e l hh ih =>
    intro x y v u r1 r2 rx ry
    by_cases hxy : x = y
    · subst hxy
      rw [(EqDa.tup l hh).same r1 r2]
      obtain ⟨a, vs, rfl, _, _⟩ := r1.tup_inv
      cases rx; cases ry
      exact .same
    · obtain ⟨a, _, rfl, _, _⟩ := id r1.tup_inv
      obtain ⟨a', _, rfl, _, _⟩ := id r2.tup_inv
      cases rx; cases ry
      obtain ⟨its, its2, p1, p2, e1, e2, it⟩ := tup_parts I hs r1 r2 ih
      have em : min its.size its2.size = xs.length := by rw [e1, e2, l]; exact Nat.min_self _
      have eb : (its.size == its2.size) = true := by rw [e1, e2, l]; exact beq_self_eq_true _
      have T := EqTree.tuples (prog := X.prog) (w := X.w) (s := s) (n := n) (l := a) (l' := a') (e := e) (fun z => hxy (by rw [z])) p1 p2 it
      rw [em, eb, Bool.and_true] at T
      exact T
  | @dct n xs ys e hh ih =>
    intro x y v u r1 r2 rx ry
    by_cases hxy : x = y
    · subst hxy
      rw [(EqDa.dct hh).same r1 r2]
      obtain ⟨a, vs, rfl, _, _⟩ := r1.dct_inv
      cases rx; cases ry
      exact .same
    · obtain ⟨a, _, rfl, _, _⟩ := id r1.dct_inv
      obtain ⟨a', _, rfl, _, _⟩ := id r2.dct_inv
      cases rx; cases ry
      obtain ⟨ka, kb, y1, y2, d1, d2, it, eb⟩ := dct_parts (EqTree X.prog X.w s n) I hs r1 r2 ih
      rw [← eb]
      exact EqTree.dicts (knd := mixKind X.prog X.w) (fun z => hxy (by rw [z])) y1 y2 d1 d2 it
end
theorem hits_of {A : Around} {s : Shared} {kb : List (Key × Value)} {e : Key → Bool} : ∀ (r : List (Key × Value)), (∀ k v y, (k, v) ∈ r → valueAt kb k = some y → SeqAt.EqAt A s v y (e k)) → PySem.W.KeqHits A s kb r (r.all fun p => (valueAt kb p.1).isSome && e p.1)
  | [], _ => .nil
  | (k, v) :: r, h => by
    cases hv : valueAt kb k with
    | none =>
      have q : (((k, v) :: r).all fun p => (valueAt kb p.1).isSome && e p.1) = false := by simp [hv]
      rw [q]
      exact .miss hv
    | some y =>
      have q : (((k, v) :: r).all fun p => (valueAt kb p.1).isSome && e p.1) = (e k && r.all fun p => (valueAt kb p.1).isSome && e p.1) := by simp [hv]
      rw [q]
      exact .hit hv (h k v y List.mem_cons_self hv) (hits_of r fun k' v' y' hm hv' => h k' v' y' (List.mem_cons_of_mem _ hm) hv')
section
variable {f : Fr}
theorem od_of {op : CmpOp} {d e : Da} {b : Bool} (h : ∀ X, Okx f X → ∀ pins (s : Shared) σ S F H x y v u, Inv X pins σ H s → Sep S F H → Rp S x d → Rp S y e → RelV x v → RelV y u → ∀ (E Q : Value → Shared → Prop), Q (.bool b) s → wpAny (model X.prog X.w) X.A (compareOp op v u) Q E s) : OD f (compareOp op) d e (dB b) := fun S F H vx vy hp hs rx ry Q q X pins s σ v u hX I r1 r2 =>
  h X hX pins s σ S F H vx vy v u I hs rx ry r1 r2 _ _ ⟨.bl b, H, I, rfl, q.here hs (.v _)⟩
theorem od_eqT {n : Nat} {d e : Da} {b : Bool} (h : EqDa n d e b) (hn : n ≤ 60 := by decide) : OD f (compareOp .Eq) d e (dB b) := od_of fun X hX pins s σ S F H x y v u I hs r1 r2 rx ry E Q q => by
  have hu := hX.room.un
  cases h with
  | int i j =>
    obtain rfl := r1.v_inv
    obtain rfl := r2.v_inv
    obtain ⟨t, rfl⟩ := rx
    obtain ⟨t', rfl⟩ := ry
    exact eq_int (by rw [Bool.beq_eq_decide_eq]; exact q)
  | str i j =>
    obtain rfl := r1.v_inv
    obtain rfl := r2.v_inv
    obtain ⟨t, rfl⟩ := rx
    obtain ⟨t', rfl⟩ := ry
    exact eq_str (by rw [Bool.beq_eq_decide_eq]; exact q)
  | @lst n xs ys e l hh =>
    obtain ⟨a, _, rfl, _, _⟩ := id r1.lst_inv
    obtain ⟨a', _, rfl, _, _⟩ := id r2.lst_inv
    cases rx; cases ry
    obtain ⟨its, its2, p1, p2, e1, e2, it⟩ := lst_parts I hs r1 r2 fun i x y h1 h2 => eq_tree I hs (hh i x y h1 h2)
    rw [← e1] at q
    exact PySem.W.eq_listsT p1 p2 (by rw [e1, e2, l]) it (by omega) q
  | @lstLen n xs ys l =>
    obtain ⟨a, vs, rfl, h1, h2⟩ := r1.lst_inv
    obtain ⟨a', vs', rfl, h3, h4⟩ := r2.lst_inv
    cases rx; cases ry
    obtain ⟨its, rv, p1, _⟩ := I.list (hs.sql (K := X.K) h1)
    obtain ⟨its2, rv2, p2, _⟩ := I.list (hs.sql (K := X.K) h3)
    exact SeqAt.eq_list_lengthsAt p1.isList p2.isList (by rw [List.size_toArray, List.size_toArray, ← rv.length, ← rv2.length, h2.1, h4.1]; simpa using l) (by omega) q
  | @tup n xs ys e l hh =>
    obtain ⟨a, _, rfl, _, _⟩ := id r1.tup_inv
    obtain ⟨a', _, rfl, _, _⟩ := id r2.tup_inv
    cases rx; cases ry
    obtain ⟨its, its2, p1, p2, e1, e2, it⟩ := tup_parts I hs r1 r2 fun i x y h1 h2 => eq_tree I hs (hh i x y h1 h2)
    have em : min its.size its2.size = xs.length := by rw [e1, e2, l]; exact Nat.min_self _
    have eb : (its.size == its2.size) = true := by rw [e1, e2, l]; exact beq_self_eq_true _
    exact PySem.W.eq_tuplesT p1 p2 it (by omega) (by rw [em, eb, Bool.and_true]; exact q)
  | @dct n xs ys e hh =>
    obtain ⟨a, _, rfl, _, _⟩ := id r1.dct_inv
    obtain ⟨a', _, rfl, _, _⟩ := id r2.dct_inv
    cases rx; cases ry
    obtain ⟨ka, kb, y1, y2, d1, d2, it, eb⟩ := dct_parts (EqTree X.prog X.w s n) I hs r1 r2 fun k x y h1 h2 => eq_tree I hs (hh k x y h1 h2)
    rw [← eb] at q
    exact PySem.W.eq_dictsT (knd := mixKind X.prog X.w) y1 y2 d1 d2 it (by omega) q
/-- !=: of lists, of dicts whose values are ints or texts -/
theorem od_neL {n : Nat} {xs ys : List Da} {e : Nat → Bool} (l : xs.length = ys.length) (h : ∀ (i : Nat) (x y : Da), xs[i]? = some x → ys[i]? = some y → EqDa n x y (e i)) (hn : n ≤ 60 := by decide) : OD f (compareOp .NotEq) (.lst xs) (.lst ys) (dB (!(List.range xs.length).all e)) := od_of fun X hX pins s σ S F H x y v u I hs r1 r2 rx ry E Q q => by
  have hu := hX.room.un
  obtain ⟨a, _, rfl, _, _⟩ := id r1.lst_inv
  obtain ⟨a', _, rfl, _, _⟩ := id r2.lst_inv
  cases rx; cases ry
  obtain ⟨its, its2, p1, p2, e1, e2, it⟩ := lst_parts I hs r1 r2 fun i x y h1 h2 => eq_tree I hs (h i x y h1 h2)
  rw [← e1] at q
  exact SeqAt.em_ne_lists p1 p2 (by rw [e1, e2, l]) (by omega) (fun j h1 h2 => (it j h1 h2).at X.A.in1 (by show X.A.units + 1 + _ < cLine; omega)) q
theorem od_neLen {xs ys : List Da} (l : xs.length ≠ ys.length) : OD f (compareOp .NotEq) (.lst xs) (.lst ys) (dB true) := od_of fun X hX pins s σ S F H x y v u I hs r1 r2 rx ry E Q q => by
  have hu := hX.room.un
  obtain ⟨a, vs, rfl, h1, h2⟩ := r1.lst_inv
  obtain ⟨a', vs', rfl, h3, h4⟩ := r2.lst_inv
  cases rx; cases ry
  obtain ⟨its, rv, p1, _⟩ := I.list (hs.sql (K := X.K) h1)
  obtain ⟨its2, rv2, p2, _⟩ := I.list (hs.sql (K := X.K) h3)
  exact SeqAt.RcNeAt.lists_lengths p1.isList p2.isList (by rw [List.size_toArray, List.size_toArray, ← rv.length, ← rv2.length, h2.1, h4.1]; simpa using l) (by omega) _ _ _ _ q
theorem od_neD {xs ys : List (Key × Da)} {e : Key → Bool} (h : ∀ (k : Key) (x y : Da), (k, x) ∈ xs → valD ys k = some y → ∃ i j : Int, x = dI i ∧ y = dI j ∧ e k = decide (i = j)) : OD f (compareOp .NotEq) (.dct xs) (.dct ys) (dB (!(xs.length == ys.length && xs.all fun p => (valD ys p.1).isSome && e p.1))) := od_of fun X hX pins s σ S F H x y v u I hs r1 r2 rx ry E Q q => by
  have hu := hX.room.un
  obtain ⟨a, _, rfl, _, _⟩ := id r1.dct_inv
  obtain ⟨a', _, rfl, _, _⟩ := id r2.dct_inv
  cases rx; cases ry
  obtain ⟨ka, kb, y1, y2, d1, d2, it, eb⟩ := dct_parts (fun v u b => ∀ A, SeqAt.EqAt A s v u b) I hs r1 r2 fun k x y h1 h2 x' y' v u q1 q2 q3 q4 A => by
    obtain ⟨i, j, rfl, rfl, ek⟩ := h k x y h1 h2
    obtain rfl := q1.v_inv
    obtain rfl := q2.v_inv
    obtain ⟨t, rfl⟩ := q3
    obtain ⟨t', rfl⟩ := q4
    exact fun prog w E Q q => wpAny_eqBool_int (by rw [Bool.beq_eq_decide_eq, ← ek]; exact q)
  rw [← eb] at q
  exact PySem.W.keq_ne (knd := mixKind X.prog X.w) y1 y2 d1 d2 (by omega) (fun _ => hits_of ka fun k v y hm hv => it k v y hm hv _) q
/-- x in xs, a list -/
theorem od_inL {n : Nat} {xs : List Da} {d : Da} {e : Nat → Bool} (h : ∀ (i : Nat) (x : Da), xs[i]? = some x → EqDa n x d (e i)) (hn : n ≤ 60 := by decide) : OD f (compareOp .In) d (.lst xs) (dB ((List.range xs.length).any e)) := od_of fun X hX pins s σ S F H x y v u I hs r1 r2 rx ry E Q q => by
  have hu := hX.room.un
  obtain ⟨a', vs', rfl, h3, h4⟩ := r2.lst_inv
  cases ry
  obtain ⟨its2, rv2, p2, _⟩ := I.list (hs.sql (K := X.K) h3)
  have e2 : its2.toArray.size = xs.length := by rw [List.size_toArray, ← rv2.length, h4.1]
  rw [← e2] at q
  refine SeqAt.em_in_list e p2.isList (fun j hj => ?_) q
  have q2 : j < xs.length := by rw [← e2]; exact hj
  obtain ⟨v2, hv2, r2'⟩ := h4.get (List.getElem?_eq_getElem q2)
  obtain ⟨w2, hw2, s2⟩ := rv2.get hv2
  have g2 : its2.toArray[j] = w2 := by have := List.getElem?_eq_some_iff.mp hw2; simpa using this.2
  rw [g2]
  exact (eq_tree I hs (h j _ (List.getElem?_eq_getElem q2)) r2' r1 s2 rx).at X.A.in1 (by show X.A.units + 1 + _ < cLine; omega)
end
end Em
set_option maxHeartbeats 1000000
/-! The walk (1): small defs. -/
namespace Em
open PySem PySem.Spec PyProof.Rows L2 RZ
section
variable {P : Program} {w : World} {K : PySem.W.Frag} {mg : Str → Option Value} {base : Heap}
def dRow (r : List Int) : Da := .tup (r.map dI)
def dLis (r : List Int) : Da := .lst (r.map dI)
def rProduct : List Da → Da → Prop := fun ds d => ∃ a b : List Int, ds = [dLis a, dLis b] ∧ d = dI ((a.zip b).map fun p => p.1 * p.2).sum ∧ (∀ x ∈ a, -(2 ^ 64) < x ∧ x < 2 ^ 64) ∧ a.length ≤ 1000
theorem c_product (M : Md K mg) : C8.Cal P w K mg base 1 "product_of" (spR rProduct) [] := by
  refine cal_R M d_product_of ["one", "two", "first", "second"] ["one", "two"] (by simp [fn]) rfl (by decide +kernel) rfl rfl (fun _ _ _ _ _ _ us hl => match us, hl with | [_, _], _ => rfl) (by decide +kernel) (fun ds d ⟨a, b, h, _⟩ => by subst h; rfl) ?_
  rintro ds z F0 ⟨a, b, rfl, rfl, ha, hl⟩
  refine tr_one (t1_ret (ex_sum (ex_map (a.zip b) [("first", 2), ("second", 3)] (.cast (it_zipL (ex_var 0) (ex_var 1) (M.free "zip")) (zipD_map ..)) (by rw [List.length_zip]; omega) (fun p hp => tg_two 2 3) (fun p hp => ex_mul (ex_var 2) (ex_var 3) (.inl (ha _ (List.of_mem_zip hp).1)))) (M.free "sum")))
def rAdded : List Da → Da → Prop := fun ds d => ∃ a b : List Int, ds = [dLis a, dLis b] ∧ d = dLis ((a.zip b).map fun p => p.1 + p.2) ∧ a.length ≤ 1000
theorem c_added (M : Md K mg) : C8.Cal P w K mg base 1 "added" (spR rAdded) [] := by
  refine cal_R M d_added ["one", "two", "first", "second"] ["one", "two"] (by simp [fn]) rfl (by decide +kernel) rfl rfl (fun _ _ _ _ _ _ us hl => match us, hl with | [_, _], _ => rfl) (by decide +kernel) (fun ds d ⟨a, b, h, _⟩ => by subst h; rfl) ?_
  rintro ds z F0 ⟨a, b, rfl, rfl, hl⟩
  refine tr_one (t1_ret (EX.cast (ex_map (a.zip b) [("first", 2), ("second", 3)] (.cast (it_zipL (ex_var 0) (ex_var 1) (M.free "zip")) (zipD_map ..)) (by rw [List.length_zip]; omega) (fun p hp => tg_two 2 3) (fun p hp => ex_add (ex_var 2) (ex_var 3))) (by unfold dLis; rw [List.map_map]; rfl)))
def rWithin : List Da → Da → Prop := fun ds d => ∃ a b : List Int, ds = [dRow a, dRow b] ∧ d = dB ((a.zip b).all fun p => decide (p.1 ≤ p.2)) ∧ a.length ≤ 1000
theorem c_within (M : Md K mg) : C8.Cal P w K mg base 1 "is_within" (spR rWithin) [] := by
  refine cal_R M d_is_within ["one", "two", "first", "second"] ["one", "two"] (by simp [fn]) rfl (by decide +kernel) rfl rfl (fun _ _ _ _ _ _ us hl => match us, hl with | [_, _], _ => rfl) (by decide +kernel) (fun ds d ⟨a, b, h, _⟩ => by subst h; rfl) ?_
  rintro ds z F0 ⟨a, b, rfl, rfl, hl⟩
  refine tr_one (t1_ret (ex_all (ex_map (a.zip b) [("first", 2), ("second", 3)] (.cast (it_zipT (ex_var 0) (ex_var 1) (M.free "zip")) (zipD_map ..)) (by rw [List.length_zip]; omega) (fun p hp => tg_two 2 3) (fun p hp => ex_le (ex_var 2) (ex_var 3))) (M.free "all")))
def rWhole : List Da → Da → Prop := fun ds d => ∃ i : Int, ds = [dI i] ∧ d = dB true
theorem c_whole (M : Md K mg) : C8.Cal P w K mg base 1 "is_whole" (spR rWhole) [] := by
  refine cal_R M d_is_whole ["thing"] ["thing"] (by simp [fn]) rfl (by decide +kernel) rfl rfl (fun _ _ _ _ _ _ us hl => match us, hl with | [_], _ => rfl) (by decide +kernel) (fun ds d ⟨a, h, _⟩ => by subst h; rfl) ?_
  rintro ds z F0 ⟨i, rfl, rfl⟩
  refine tr_one (t1_ret (EX.cast (ex_and (x := true) (y := true) (ex_isi (T := "int") (ex_var 0) rfl (by decide +kernel) (M.free "isinstance") (M.free "int") (by decide +kernel)) fun _ => ex_one (EX.cast (ex_not (x := false) (ex_isi (T := "bool") (ex_var 0) rfl (by decide +kernel) (M.free "isinstance") (M.free "bool") (by decide +kernel))) rfl)) rfl))
theorem od_inSign {f : Fr} {c : Nat} {z : Str} : OD f (compareOp .In) (dS ⟨#[c]⟩) (dS z) (dB (decide (c ∈ z.cps.toList))) := .of _ (fun X _ => op_in_sign) fun S F H vx vy hp hs rx ry Q k => by
  obtain rfl := rx.v_inv; obtain rfl := ry.v_inv; exact ⟨c, z, rfl, rfl, k.here hs (.v _)⟩
theorem od_le {f : Fr} (i j : Int) : OD f (compareOp .LtE) (dI i) (dI j) (dB (decide (i ≤ j))) := od_I0 (g := fun i j => .bl (decide (i ≤ j))) (fun X => op_le) i j
def rWord : List Da → Da → Prop := fun ds d => ∃ x : Str, ds = [dS x] ∧ isWord x = true ∧ d = dB true
theorem c_word (M : Md K mg) : C8.Cal P w K mg base 1 "is_word" (spR rWord) [] := by
  refine cal_R M d_is_word ["thing", "sign"] ["thing"] (by simp [fn]) rfl (by decide +kernel) rfl rfl (fun _ _ _ _ _ _ us hl => match us, hl with | [_], _ => rfl) (by decide +kernel) (fun ds d ⟨a, h, _⟩ => by subst h; rfl) ?_
  rintro ds z F0 ⟨x, rfl, hx, rfl⟩
  have h8 : x.length ≤ 8 := by unfold isWord at hx; simp at hx; exact hx.1.2
  refine tr_one (t1_ret (EX.cast (ex_and (x := true) (ex_isi (T := "str") (ex_var 0) rfl (by decide +kernel) (M.free "isinstance") (M.free "str") (by decide +kernel)) fun _ => ex_and (ex_chain (od_le 1 _) (fun _ => od_le _ 8) ex_int (ex_lenS (ex_var 0) (by omega) (M.free "len")) (ex_mint "LONGEST" 8 (M.int "LONGEST" 8))) fun _ =>
    ex_one (ex_all (ex_map x.cps.toList [("sign", 1)] (it_str (ex_var 0)) (by have : x.cps.toList.length = x.length := by simp [Str.length]
                                                                              omega) (fun c hc => tg_name 1) (fun c hc => ex_cmp od_inSign (ex_var 1) (ex_mstr "LETTERS" letters (M.str "LETTERS" letters)))) (M.free "all"))) ?_))
  unfold isWord at hx
  simp only [Bool.and_eq_true, decide_eq_true_eq] at hx
  obtain ⟨⟨h1, h2⟩, h3⟩ := hx
  have e1 : ((1 : Int) ≤ (x.length : Int)) := by omega
  have e2 : ((x.length : Int) ≤ 8) := by omega
  rw [h3, decide_eq_true e1, decide_eq_true e2]; rfl
def rArePartners : List Da → Da → Prop := fun ds d => ∃ ps bs, Good ps bs ∧ ds = [dP ps] ∧ d = dB true
theorem c_are_partners (M : Md K mg) : C8.Cal P w K mg base 2 "are_partners" (spR rArePartners) [] := by
  refine cal_R M d_are_partners ["thing", "kind"] ["thing"] (by simp [fn]) rfl (by decide +kernel) rfl rfl (fun _ _ _ _ _ _ us hl => match us, hl with | [_], _ => rfl) (by decide +kernel) (fun ds d ⟨a, _, _, h, _⟩ => by subst h; rfl) ?_
  rintro ds z F0 ⟨ps, bs, g, rfl, rfl⟩
  have get : ∀ {q : Str × Str}, q ∈ ps → valD (ps.map fun p => ((Sum.inr p.1 : Key), dS p.2)) (.inr q.1) = some (dS q.2) := fun h => by rw [valD_lk, g.lkP h]; rfl
  have get2 : ∀ {q : Str × Str}, q ∈ ps → valD (ps.map fun p => ((Sum.inr p.1 : Key), dS p.2)) (.inr q.2) = some (dS q.1) := fun h => by rw [valD_lk, g.inv _ h]; rfl
  have hl : ps.length ≤ 10000000 := Nat.le_trans g.fewP (by decide)
  refine tr_cons (t1_if (x := false) (ET.cast (et_w (ew_or (et_not (et_val (ex_isi (T := "dict") (b := true) (ex_var 0) rfl (by decide +kernel) (M.free "isinstance") (M.free "dict") (by decide +kernel)))) fun _ => ew_or1 (et_cmp (od_eqT (n := 1) (EqDa.dct (e := fun _ => false) fun k x y _ h => by cases h)) (ex_var 0) ex_dnew))) ?_) (fun h => nomatch h) fun _ => tr_nil fun _ _ _ h => h) ?_
  · have := g.neP
    cases ps with
    | nil => exact absurd rfl this
    | cons => simp
  refine tr_cons (t1_if (x := false) (ET.cast (et_not (et_val (ex_all (ex_lockV 0 (ex_mapP ps [("kind", 1)] (.cast (it_keys (src_var 0)) (keysD_dD _ _)) hl (fun p hp => tg_name 1) (fun p hp => EX.cast (ex_and (x := true) (y := true) (ex_call (c_word M) (ea_cons (ex_var 1) ea_nil) ⟨_, rfl, g.wordP p hp, rfl⟩) fun _ => ex_one (ex_call (c_word M) (ea_cons (ex_dget (ex_var 0) (ex_var 1) (get hp)) ea_nil) ⟨_, rfl, g.wordP2 hp, rfl⟩)) rfl))) (M.free "all")))) ?_) (fun h => nomatch h) fun _ => tr_nil fun _ _ _ h => h) ?_
  · simp
  refine tr_one (t1_ret (EX.cast (ex_all (ex_lockV 0 (ex_mapP ps [("kind", 1)] (.cast (it_keys (src_var 0)) (keysD_dD _ _)) hl (fun p hp => tg_name 1) (fun p hp => EX.cast (ex_and (x := true) (y := true) (EX.cast (ex_din (ex_dget (ex_var 0) (ex_var 1) (get hp)) (ex_var 0)) (by rw [get2 hp]; rfl)) fun _ => ex_one (EX.cast (ex_eqS (ex_dget (ex_var 0) (ex_dget (ex_var 0) (ex_var 1) (get hp)) (get2 hp)) (ex_var 1)) (by simp))) rfl))) (M.free "all")) ?_))
  simp
end
end Em
set_option maxHeartbeats 1000000
/-! The walk (2): sheets. -/
namespace Em
open PySem PySem.Spec PyProof.Rows L2 RZ
section
variable {P : Program} {w : World} {K : PySem.W.Frag} {mg : Str → Option Value} {base : Heap}
theorem few_ok {n k : Nat} (h : n ≤ k) (hk : k ≤ 10000000 := by decide) : n ≤ 10000000 := Nat.le_trans h hk
theorem map_dS (es : List Str) : (es.map dS).length = es.length := by simp
theorem vals_dD {α : Type} (g : α → Da) (l : List (Str × α)) : (l.map fun p => ((Sum.inr p.1 : Key), g p.2)).map (·.2) = l.map fun p => g p.2 := by rw [List.map_map]; rfl
def rAreBlocks : List Da → Da → Prop := fun ds d => ∃ ps bs, Good ps bs ∧ ds = [dB' bs, dP ps] ∧ d = dB true
theorem c_are_blocks (M : Md K mg) : C8.Cal P w K mg base 2 "are_blocks" (spR rAreBlocks) [] := by
  refine cal_R M d_are_blocks ["thing", "partners", "name", "ends", "kind"] ["thing", "partners"] (by simp [fn]) rfl (by decide +kernel) rfl rfl (fun _ _ _ _ _ _ us hl => match us, hl with | [_, _], _ => rfl) (by decide +kernel) (fun ds d ⟨a, _, _, h, _⟩ => by subst h; rfl) ?_
  rintro ds z F0 ⟨ps, bs, g, rfl, rfl⟩
  have get : ∀ {q : Str × List Str}, q ∈ bs → valD (bs.map fun p => ((Sum.inr p.1 : Key), gT p.2)) (.inr q.1) = some (gT q.2) := fun h => by rw [valD_lk, g.lkB h]; rfl
  have hl : bs.length ≤ 10000000 := few_ok g.fewB
  refine tr_cons (t1_if (x := false) (ET.cast (et_w (ew_or (x := false) (ET.cast (et_not (et_val (ex_isi (T := "dict") (b := true) (ex_var 0) rfl (by decide +kernel) (M.free "isinstance") (M.free "dict") (by decide +kernel)))) rfl) fun _ => ew_or1 (et_not (et_val (ex_all (ex_lockV 0 (ex_mapP bs [("name", 2)] (.cast (it_keys (src_var 0)) (keysD_dD gT bs)) hl (fun p hp => tg_name 2) (fun p hp => EX.cast (ex_and (x := true) (y := true) (ex_call (c_word M) (ea_cons (ex_var 2) ea_nil) ⟨_, rfl, g.wordB p hp, rfl⟩) fun _ => ex_one (ex_isi (T := "tuple") (ex_dget (ex_var 0) (ex_var 2) (get hp)) rfl (by decide +kernel) (M.free "isinstance") (M.free "tuple") (by decide +kernel))) rfl))) (M.free "all")))))) ?_) (fun h => nomatch h) fun _ => tr_nil fun _ _ _ h => h) ?_
  · simp
  refine tr_one (t1_ret (EX.cast (ex_all (r := fun _ => true) (ex_lockV 0 (ex_mapP bs [("ends", 3)] (.cast (it_vals (src_var 0)) (vals_dD gT bs)) hl (fun p hp => tg_name 3) (fun p hp => EX.cast (ex_and (ex_chain (od_le 1 _) (fun _ => od_le _ 4) ex_int (EX.cast (ex_lenT (ex_var 3) (M.free "len")) (by rw [map_dS])) (ex_mint "MOST_ENDS" 4 (M.int "MOST_ENDS" 4))) fun _ =>
    ex_one (ex_all (ex_map p.2 [("kind", 4)] (it_tup (ex_var 3)) (few_ok (g.lenB p hp).2) (fun e he => tg_name 4) (fun e he => EX.cast (ex_and (x := true) (y := true) (ex_call (c_word M) (ea_cons (ex_var 4) ea_nil) ⟨_, rfl, ?_, rfl⟩) fun _ => ex_one (EX.cast (ex_din (ex_var 4) (ex_var 1)) ?_)) rfl)) (M.free "all"))) ?_))) (M.free "all")) ?_))
  · obtain ⟨q, hq⟩ := Option.isSome_iff_exists.mp (g.kinds p hp e he)
    exact g.wordP _ (lk_some hq)
  · show dB (valD (ps.map fun p => ((Sum.inr p.1 : Key), dS p.2)) (.inr e)).isSome = dB true
    rw [valD_lk, Option.isSome_map, g.kinds p hp e he]
  · have h := g.lenB p hp
    have e1 : ((1 : Int) ≤ (p.2.length : Int)) := by omega
    have e2 : ((p.2.length : Int) ≤ 4) := by omega
    rw [decide_eq_true e1, decide_eq_true e2]; simp
  · simp

theorem cd_len_dct {f : Fr} {xs : List (Key × Da)} : CD f (.builtin "len") [.dct xs] (dI xs.length) := .of (fun vs H Q => ∃ a kvs, vs = [V.ref a] ∧ Rd H a (.dK kvs) ∧ Q (.int kvs.length) H) (fun X hX => by
  intro pins s σ H xs us Q I r h
  obtain ⟨a, kvs, rfl, ha, q⟩ := h
  obtain ⟨u, rfl, ru⟩ := vals1 r
  cases ru
  exact d_len I ha fun t s' I' => ⟨.int kvs.length, H, I', ⟨t, rfl⟩, q⟩) fun S F H vs hs r Q k => by
  obtain ⟨v, rfl, r1⟩ := one_arg1 r
  obtain ⟨a, vs, rfl, h1, h2⟩ := r1.dct_inv
  exact ⟨a, vs, rfl, hs.rd h1, by rw [h2.length]; exact k.here hs (.v _)⟩
theorem ex_lenD {f : Fr} {env : En} {pos p : Pos} {e : Expr} {xs : List (Key × Da)} (h : EX f env e (.dct xs)) (hm : f.mg "len" = none) (hg : GlS f "len" := by rfl) (hse : ∀ env, starEach [e] env = [(false, eval e env)] := by intro _; rfl) : EX f env (.Call (.Name "len" p) [e] [] pos) (dI xs.length) :=
  ex_callB cd_len_dct (ea_cons h ea_nil hse) hm PySem.boot_len hg (by decide) (by decide) hse (fun _ => rfl)

/-! ### methods of Sheet -/
abbrev cS (K : PySem.W.Frag) : Addr := He.ga K "Sheet"
abbrev Sh (K : PySem.W.Frag) (ps : Ps) (bs : Bs) : Da := dSheet (cS K) ps bs
theorem ex_blocks {f : Fr} {env : En} {pos : Pos} {ps : Ps} {bs : Bs} {o : Expr} (M : Md f.K f.mg) (h : EX f env o (Sh f.K ps bs)) (hb : ∀ env, attributeBase o "_blocks" env (eval o env) = eval o env := by intro _; rfl) : EX f env (.Attribute o "_blocks" pos) (dB' bs) := ex_fld h rfl (M.cls "Sheet") (M.noat "Sheet" "_blocks") hb
theorem ex_partners {f : Fr} {env : En} {pos : Pos} {ps : Ps} {bs : Bs} {o : Expr} (M : Md f.K f.mg) (h : EX f env o (Sh f.K ps bs)) (hb : ∀ env, attributeBase o "_partners" env (eval o env) = eval o env := by intro _; rfl) : EX f env (.Attribute o "_partners" pos) (dP ps) := ex_fld h rfl (M.cls "Sheet") (M.noat "Sheet" "_partners") hb
def rLen (K : PySem.W.Frag) : List Da → Da → Prop := fun ds d => ∃ ps bs, ds = [Sh K ps bs] ∧ d = dI (bs.length : Nat)
theorem m_len (M : Md K mg) : C8.Met P w K mg base 1 (cS K) "__len__" (spR (rLen K)) [] := by
  refine met_R M d_Sheet_len ["self"] ["self"] (by simp [fn]) rfl (by decide +kernel) (by decide +kernel) rfl rfl (fun _ _ _ _ _ _ us hl => match us, hl with | [_], _ => rfl) (by decide +kernel) (fun ds d ⟨_, _, h, _⟩ => by subst h; rfl) ?_
  rintro ds z F0 ⟨ps, bs, rfl, rfl⟩
  exact tr_one (t1_ret (EX.cast (ex_lenD (ex_blocks M (ex_var 0)) (M.free "len")) (by simp)))
def rHas (K : PySem.W.Frag) : List Da → Da → Prop := fun ds d => ∃ ps bs n, ds = [Sh K ps bs, dS n] ∧ d = dB (lk bs n).isSome
theorem m_has (M : Md K mg) : C8.Met P w K mg base 1 (cS K) "__contains__" (spR (rHas K)) [] := by
  refine met_R M d_Sheet_contains ["self", "name"] ["self", "name"] (by simp [fn]) rfl (by decide +kernel) (by decide +kernel) rfl rfl (fun _ _ _ _ _ _ us hl => match us, hl with | [_, _], _ => rfl) (by decide +kernel) (fun ds d ⟨_, _, _, h, _⟩ => by subst h; rfl) ?_
  rintro ds z F0 ⟨ps, bs, n, rfl, rfl⟩
  exact tr_one (t1_ret (EX.cast (ex_din (ex_var 1) (ex_blocks M (ex_var 0))) (by rw [valD_lk, Option.isSome_map])))
def rPartner (K : PySem.W.Frag) : List Da → Da → Prop := fun ds d => ∃ ps bs k q, ds = [Sh K ps bs, dS k] ∧ lk ps k = some q ∧ d = dS q
theorem m_partner (M : Md K mg) : C8.Met P w K mg base 1 (cS K) "partner" (spR (rPartner K)) [] := by
  refine met_R M d_Sheet_partner ["self", "kind"] ["self", "kind"] (by simp [fn]) rfl (by decide +kernel) (by decide +kernel) rfl rfl (fun _ _ _ _ _ _ us hl => match us, hl with | [_, _], _ => rfl) (by decide +kernel) (fun ds d ⟨_, _, _, _, h, _⟩ => by subst h; rfl) ?_
  rintro ds z F0 ⟨ps, bs, n, q, rfl, hq, rfl⟩
  refine tr_cons (t1_if (x := false) (ET.cast (et_w (ew_or (x := false) (ET.cast (et_not (et_val (ex_isi (T := "str") (b := true) (ex_var 1) rfl (by decide +kernel) (M.free "isinstance") (M.free "str") (by decide +kernel)))) rfl) fun _ => ew_or1 (et_dnin (ex_var 1) (ex_partners M (ex_var 0))))) ?_) (fun h => nomatch h) fun _ => tr_nil fun _ _ _ h => h) ?_
  · rw [valD_lk, Option.isSome_map, hq]; rfl
  · exact tr_one (t1_ret (ex_dget (ex_partners M (ex_var 0)) (ex_var 1) (by rw [valD_lk, hq]; rfl)))
def rEnds (K : PySem.W.Frag) : List Da → Da → Prop := fun ds d => ∃ ps bs k es, ds = [Sh K ps bs, dS k] ∧ lk bs k = some es ∧ d = gT es
theorem m_ends (M : Md K mg) : C8.Met P w K mg base 1 (cS K) "ends" (spR (rEnds K)) [] := by
  refine met_R M d_Sheet_ends ["self", "name"] ["self", "name"] (by simp [fn]) rfl (by decide +kernel) (by decide +kernel) rfl rfl (fun _ _ _ _ _ _ us hl => match us, hl with | [_, _], _ => rfl) (by decide +kernel) (fun ds d ⟨_, _, _, _, h, _⟩ => by subst h; rfl) ?_
  rintro ds z F0 ⟨ps, bs, n, q, rfl, hq, rfl⟩
  refine tr_cons (t1_if (x := false) (ET.cast (et_w (ew_or (x := false) (ET.cast (et_not (et_val (ex_isi (T := "str") (b := true) (ex_var 1) rfl (by decide +kernel) (M.free "isinstance") (M.free "str") (by decide +kernel)))) rfl) fun _ => ew_or1 (et_dnin (ex_var 1) (ex_blocks M (ex_var 0))))) ?_) (fun h => nomatch h) fun _ => tr_nil fun _ _ _ h => h) ?_
  · rw [valD_lk, Option.isSome_map, hq]; rfl
  · exact tr_one (t1_ret (ex_dget (ex_blocks M (ex_var 0)) (ex_var 1) (by rw [valD_lk, hq]; rfl)))
def rJoints (K : PySem.W.Frag) : List Da → Da → Prop := fun ds d => ∃ ps bs, Good ps bs ∧ ds = [Sh K ps bs] ∧ d = .lst ((joints ps).map dS)
theorem m_joints (M : Md K mg) : C8.Met P w K mg base 1 (cS K) "joints" (spR (rJoints K)) [] := by
  refine met_R M d_Sheet_joints ["self", "kind", "partner"] ["self"] (by simp [fn]) rfl (by decide +kernel) (by decide +kernel) rfl rfl (fun _ _ _ _ _ _ us hl => match us, hl with | [_], _ => rfl) (by decide +kernel) (fun ds d ⟨_, _, _, h, _⟩ => by subst h; rfl) ?_
  rintro ds z F0 ⟨ps, bs, g, rfl, rfl⟩
  refine tr_one (t1_ret (EX.cast (ex_lockF 0 (m := "_partners") (ex_filP ps (enc := fun p => .tup [dS p.1, dS p.2]) (r := fun p => dS p.1) [("kind", 1), ("partner", 2)] (.cast (it_items (src_fld 0 (M.cls "Sheet") (M.noat "Sheet" "_partners"))) ?_) (few_ok g.fewP) (fun p hp => tg_two 1 2) (fun p hp => et_cmp od_leS (ex_var 1) (ex_var 2)) (fun p hp _ => ex_var 1))) ?_))
  · rw [List.map_map]; rfl
  · unfold joints; rw [List.map_map]; rfl
/-- iter(a sheet) walks its blocks -/
theorem own_sheet (M : Md K mg) : OwnIt P w K mg base (cS K) "_blocks" := by
  obtain ⟨fd, F⟩ := M.says.defs (d := d_Sheet_iter) (by simp [fn])
  obtain ⟨oc, od, dV, kV, doc, pm, an, cdv, ct, osl, rfl, lk0, hcd, hD, _⟩ := F.ex
  have hdV : dV = .none := by
    rcases hD with ⟨_, e⟩ | ⟨e, _⟩
    · exact e
    · exact absurd rfl e
  subst hdV
  have F' : FunD K "__iter__" "Sheet.__iter__" d_Sheet_iter.params d_Sheet_iter.body d_Sheet_iter.scope [] [] (He.ma K (cS K) "__iter__") _ := F
  refine ⟨M.cls "Sheet", M.noat "Sheet" "_blocks", _, _, _, _, _, _, _, _, _, _, _, _, _, _, _, _, M.meth "Sheet" "__iter__", lk0, hcd, C8.fnScope_by (by decide +kernel), F'.bindsN fun _ _ _ _ _ _ us hl => match us, hl with | [_], _ => rfl, fun A outer s H => ?_⟩
  exact pss_one (ps_ret (pe_callB call_iterD rfl (M.free "iter") (by decide +kernel) (pa_cons (pe_fld (pe_var (i := 0) rfl (.inl rfl)) rfl) pa_nil)))
end
end Em
set_option maxHeartbeats 1000000
/-! The logic over plain data (10): a comprehension's list kept as one's own, pairs of assignments, forgetting slots, own classes by isinstance. -/
namespace Em
open PySem PySem.Spec PyProof.Rows L2 RZ
theorem wipeE_some {env : En} {i : Nat} {d : Da} : ∀ {js : List Nat}, (wipeE env js)[i]? = some (some d) → env[i]? = some (some d)
  | [], h => h
  | j :: js, h => by
    unfold wipeE at h
    by_cases hj : j = i
    · subst hj
      by_cases hl : j < (wipeE env js).length
      · rw [List.getElem?_set_self hl] at h; cases h
      · rw [List.getElem?_eq_none (by simpa using hl)] at h; cases h
    · rw [List.getElem?_set_ne hj] at h; exact wipeE_some h
theorem wipeE_len {env : En} : ∀ js : List Nat, (wipeE env js).length = env.length
  | [] => rfl
  | j :: js => by unfold wipeE; rw [List.length_set, wipeE_len js]
theorem SlE.forget {S : Hp} {σ : L2.St} {env : En} (js : List Nat) (h : SlE S σ env) : SlE S σ (wipeE env js) := h.weak (wipeE_len js) fun i d => wipeE_some
theorem Pv.forget {env : En} {C : Cd} {S F : Hp} {σ : L2.St} (js : List Nat) (h : Pv env C S F σ) : Pv (wipeE env js) C S F σ := ⟨h.1.forget js, h.2⟩
theorem putD_new {κ : Type} [DecidableEq κ] {xs : List (κ × Da)} {k : κ} {d : Da} (h : k ∉ xs.map (·.1)) : putD xs k d = xs ++ [(k, d)] := by
  unfold putD
  rw [if_neg]
  intro c
  obtain ⟨p, hp, e⟩ := List.any_eq_true.mp c
  exact h (by have := of_decide_eq_true e; rw [← this]; exact List.mem_map_of_mem (f := (·.1)) hp)
theorem foldl_put {α : Type} {key : α → Str} {r : α → Da} : ∀ (xs : List α) (acc : List (Key × Da)), (xs.map key).Nodup → (∀ a ∈ xs, (Sum.inr (key a) : Key) ∉ acc.map (·.1)) → xs.foldl (fun acc a => putD acc (.inr (key a)) (r a)) acc = acc ++ xs.map fun a => ((Sum.inr (key a) : Key), r a)
  | [], acc, _, _ => by simp
  | a :: xs, acc, hn, ha => by
    rw [List.map_cons, List.nodup_cons] at hn
    rw [List.foldl_cons, putD_new (ha a List.mem_cons_self), foldl_put xs _ hn.2 fun b hb => ?_, List.map_cons, List.append_assoc]
    · rfl
    · rw [List.map_append, List.mem_append]
      rintro (h | h)
      · exact ha b (List.mem_cons_of_mem _ hb) h
      · simp only [List.map_cons, List.map_nil, List.mem_singleton, Sum.inr.injEq] at h
        exact hn.1 (h ▸ List.mem_map_of_mem hb)
theorem dctOf_nodup {α : Type} {key : α → Str} {r : α → Da} {xs : List α} (h : (xs.map key).Nodup) : dctOf (fun _ => true) key r xs = xs.map fun a => ((Sum.inr (key a) : Key), r a) := by
  unfold dctOf
  rw [List.filter_eq_self.mpr (fun _ _ => rfl), foldl_put xs [] h (fun _ _ => by simp)]
  rfl
section
variable {f : Fr} {env : En} {pos : Pos}
/-- a comprehension runs from where its walk stands: its list stays one's own -/
theorem lc_core {α : Type} (xs : List α) {enc : α → Da} {b : α → Bool} {r : α → Da} {envA : α → En} {own : List (Str × Nat)} {vs : List Nat} {elt tg : Expr} {ifs : List Expr} {scope : Scope} (hl : xs.length ≤ 10000000)
    (ht : ∀ a ∈ xs, TGT (f.blk scope) tg (enc a) (wipeE env (own.map (·.2))) (envA a) vs) (hc : ∀ a ∈ xs, EF (f.blk scope) (envA a) ifs (b a)) (he : ∀ a ∈ xs, b a = true → EX (f.blk scope) (envA a) elt (r a)) (hv : ∀ i ∈ vs, i ∈ own.map (·.2))
    {S1 F : Hp} {σ : L2.St} {H1 : Hp} {Q : VK} {J : It} (hp : f.pf F) (hσ : SlE S1 σ env) (s1 : Sep S1 F H1) (wk : Wk J S1 H1 (xs.map enc)) (q : ∀ D S' acc H', F D = none → Gr S1 S' → Sep S' (upd F D (.lst acc)) H' → Kf H1 H' → RpL S' acc (filtered b r xs) → Q (.ref D) H') :
    ∀ D, H1 D = none → ∃ W : Nat → Nat → Hp → Prop, (∃ m, W 0 m (upd H1 D (.lst []))) ∧ ∀ i m H, W i m H → (J.stop i H ∧ Q (.ref D) H) ∨ (J.go i H ∧ ∃ Nx : Hp → Prop, (∀ H', Nx H' → ∃ m', m' < m ∧ W (i + 1) m' H') ∧ ∀ x H', J.yld i H x H' →
      wG (f.blk scope) tg x (wipe σ (own.map (·.2))) H' fun σ2 H2 => wipe σ2 (own.map (·.2)) = wipe σ (own.map (·.2)) ∧ wF (f.blk scope) ifs σ2 H2 fun b H3 => if b = true then wE (f.blk scope) elt σ2 H3 fun y H4 => ∃ acc, H4 D = some (.lst acc) ∧ acc.length < sizeLine ∧ Nx (upd H4 D (.lst (acc ++ [y]))) else Nx H3) := by
  intro D hD
  refine ⟨fun i m H' => m = xs.length - i ∧ i ≤ xs.length ∧ ∃ S' acc, Gr S1 S' ∧ Sep S' (upd F D (.lst acc)) H' ∧ Kf H1 H' ∧ RpL S' acc (filtered b r (xs.take i)), ⟨_, rfl, Nat.zero_le _, S1, [], Gr.refl _, s1.newF hD, Kf.new hD, by simpa [filtered] using RpL.nil⟩, ?_⟩
  rintro i m H' ⟨rfl, hi, S', acc, g', s', k', ra⟩
  obtain ⟨stop, turn⟩ := wk S' _ H' g' s' k'
  by_cases hlt : i < xs.length
  · refine .inr ?_
    obtain ⟨a, ha⟩ : ∃ a, xs[i]? = some a := ⟨_, List.getElem?_eq_getElem hlt⟩
    have hmem : a ∈ xs := List.mem_of_getElem? ha
    obtain ⟨go, yl⟩ := turn i (enc a) (by rw [List.getElem?_map, ha]; rfl)
    refine ⟨go, fun H4 => ∃ S4 acc4, Gr S1 S4 ∧ Sep S4 (upd F D (.lst acc4)) H4 ∧ Kf H1 H4 ∧ RpL S4 acc4 (filtered b r (xs.take (i + 1))), fun H4 ⟨S4, acc4, h1, h2, h3, h4⟩ => ⟨xs.length - (i + 1), by omega, rfl, hlt, S4, acc4, h1, h2, h3, h4⟩, fun x H3 yy => ?_⟩
    obtain ⟨S3, g3, s3, k3, r3⟩ := yl x H3 yy
    refine ht a hmem S3 _ _ H3 x ((hσ.mono (g'.trans g3)).wipe _) s3 r3 _ fun σ2 hσ2 hw => ⟨?_, ?_⟩
    · rw [hw (own.map (·.2)) hv, wipe_wipe (fun i hi => hi)]
    have hF : F D = none := s1.freeF hD
    have hpf : (f.blk scope).pf (upd F D (.lst acc)) := Fr.pf_mono (f := f.blk scope) (Gr.new hF) hp
    refine hc a hmem S3 _ σ2 H3 hpf hσ2 s3 _ fun S5 H5 g5 s5 k5 => ?_
    have fs := filtered_snoc (b := b) (r := r) ha
    cases hb : b a with
    | false =>
      rw [if_neg (by decide)]
      refine ⟨S5, acc, g'.trans (g3.trans g5), s5, (k'.trans k3).trans k5, ?_⟩
      rw [fs, hb, if_neg (by decide), List.append_nil]
      exact ra.mono (g3.trans g5)
    | true =>
      rw [if_pos rfl]
      refine he a hmem hb S5 _ σ2 H5 hpf (hσ2.mono g5) s5 _ fun v S6 H6 g6 s6 k6 r6 => ?_
      have hz : acc.length < sizeLine := by
        have := ra.1
        have h2 := filtered_len b r (xs.take i)
        rw [List.length_take] at h2
        exact Nat.lt_of_lt_of_le (show acc.length < 10000001 by omega) (by decide)
      refine ⟨acc, s6.prv D _ upd_same, hz, S6, acc ++ [v], g'.trans (g3.trans (g5.trans g6)), ?_, ((k'.trans k3).trans (k5.trans k6)).trans (Kf.put (s6.prv D _ upd_same) fun _ _ z => nomatch z), ?_⟩
      · have := s6.put (u := .lst (acc ++ [v])) upd_same
        rw [upd_upd] at this
        exact this
      · rw [fs, hb, if_pos rfl]
        exact (ra.mono (g3.trans (g5.trans g6))).snoc r6
  · refine .inl ?_
    have hi : i = xs.length := by omega
    subst hi
    rw [List.length_map] at stop
    rw [List.take_length] at ra
    exact ⟨stop, q D S' acc H' (s1.freeF hD) g' s' k' ra⟩
/-- a comprehension runs: its list stays one's own -/
theorem lc_run {pre : Pre} {α : Type} (xs : List α) {enc : α → Da} {b : α → Bool} {r : α → Da} {envA : α → En} {own : List (Str × Nat)} {vs : List Nat} {elt tg iter : Expr} {ifs : List Expr} {scope : Scope} (hi : IT pre f env tg iter (xs.map enc)) (hl : xs.length ≤ 10000000)
    (ht : ∀ a ∈ xs, TGT (f.blk scope) tg (enc a) (wipeE env (own.map (·.2))) (envA a) vs) (hc : ∀ a ∈ xs, EF (f.blk scope) (envA a) ifs (b a)) (he : ∀ a ∈ xs, b a = true → EX (f.blk scope) (envA a) elt (r a)) (hv : ∀ i ∈ vs, i ∈ own.map (·.2))
    {S F : Hp} {σ : L2.St} {H : Hp} {Q : VK} (hp : f.pf F) (hσ : SlE S σ env) (hs : Sep S F H) (hpre : pre σ S H) (q : ∀ D S' acc H', F D = none → Gr S S' → Sep S' (upd F D (.lst acc)) H' → Kf H H' → RpL S' acc (filtered b r xs) → Q (.ref D) H') :
    tLc (wI f tg iter) (wG (f.blk scope) tg) (wF (f.blk scope) ifs) (wE (f.blk scope) elt) (own.map (·.2)) σ H Q :=
  hi S F σ H hp hσ hs hpre _ fun J S1 H1 g1 s1 k1 wk => lc_core xs hl ht hc he hv hp (hσ.mono g1) s1 wk fun D S' acc H' a b c d e => q D S' acc H' a (g1.trans b) c (k1.trans d) e
/-! ### a call's dict, by its values: locked meanwhile -/
/-- what was locked on the way is unlocked -/
theorem wE_unlock {e : Expr} {σ : L2.St} {H : Hp} {Q : VK} (q : wE f e σ H fun v H' => Q v H' ∨ ∃ d od u, H' d = some (.frz od u) ∧ (∀ o' u', H d ≠ some (.frz o' u')) ∧ Q v (upd H' d u)) : wE f e σ H Q := fun X pins s hX I =>
  thn (q X pins s hX I) fun v s1 ⟨x, H1, I1, r, k⟩ => by
    rcases k with k | ⟨d, od, u, hd, hn, k⟩
    · exact ⟨x, H1, I1, r, k⟩
    · exact ⟨x, _, I1.unlock hd (fun o' u' z => hn o' u' (I.base.frzs d o' u' z)), r, k⟩
theorem ex_mapVals {α : Type} (xs : List α) {enc : α → Da} {r : α → Da} {envA : α → En} (own : List (Str × Nat)) {vs : List Nat} {elt tg e : Expr} {scope : Scope} {apos p2 : Pos} {kvs : List (Key × Da)} (h : EX f env e (.dct kvs)) (hk : kvs.map (·.2) = xs.map enc) (hl : xs.length ≤ 10000000)
    (ht : ∀ a ∈ xs, TGT (f.blk scope) tg (enc a) (wipeE env (own.map (·.2))) (envA a) vs) (he : ∀ a ∈ xs, EX (f.blk scope) (envA a) elt (r a))
    (ok : blkC f.N f.sc scope own = true := by (try dsimp only [Fr.blk]); decide +kernel) (hv : ∀ i ∈ vs, i ∈ own.map (·.2) := by decide) (hfs : ∀ env x, foldedSetIterable (.Call (.Attribute e "values" apos) [] [] p2) env x = pure x := by intro _ _; rfl)
    (hb : ∀ env, attributeBase e "values" env (eval e env) = eval e env := by intro _; rfl) (hlp : (apos.endLine == p2.line) = true := by rfl) :
    EX f env (.ListComp elt [⟨tg, .Call (.Attribute e "values" apos) [] [] p2, [], 0⟩] scope pos) (.lst (xs.map r)) := fun S F σ H hp hσ hs Q q => by
  refine wE_unlock (wE_of (fun X hX => pe_lc (own := own) hX.calm (by rw [hX.N]; exact hX.nd) (pi_values (tg := tg) (td := fun σ H Q => wE f e σ H fun x H1 => (∃ d u, x = .ref d ∧ H1 d = some u ∧ Mut (some u) ∧ ∀ o, Q x (upd H1 d (.frz o u))) ∨ Q x H1) ⟨fun pins s σ H Q I q => by
      refine thn ((pw_e hX).run pins s σ H _ I q) fun v s1 ⟨x, H1, I1, r, k⟩ => ?_
      rcases k with ⟨d, u, ex, hd, mu, k⟩ | k
      · obtain ⟨od, I2⟩ := I1.lock hd mu
        exact ⟨x, _, I2, r, k od⟩
      · exact ⟨x, _, I1, r, k⟩⟩ (hb _) hlp) (by rw [hX.N, hX.sc]; exact blkOk_by ok)
    (fun s H C cl fp => pw_g (hX.blk s H scope C cl fp)) (fun s H C cl fp => pw_f (hX.blk s H scope C cl fp)) (fun s H C cl fp => pw_e (hX.blk s H scope C cl fp)) (hfs _)) ?_)
  show wE f e σ H _
  refine h S F σ H hp hσ hs _ fun v S1 H1 g1 s1 k1 r1 => ?_
  obtain ⟨a, vs', rfl, h1, rv⟩ := r1.dct_inv
  have walk : ∀ {H1 : Hp} {ob : Obj}, H1 a = some (.frz ob (.dK vs')) → Wk (Itd a ob vs') S1 H1 (xs.map enc) := fun {H1 ob} h4 => by
    rw [← hk]
    intro S2 F2 H2 g2 s2 k2
    have hl : (kvs.map (·.2)).length = vs'.length := by rw [List.length_map, rv.length]
    refine ⟨⟨k2.keep h4, Nat.le_of_eq hl.symm⟩, fun i d hd => ⟨⟨k2.keep h4, by rw [← hl]; exact (List.getElem?_eq_some_iff.mp hd).1⟩, fun x H3 ⟨e1, k, e2⟩ => ?_⟩⟩
    subst e1
    rw [List.getElem?_map] at hd
    cases hx : kvs[i]? with
    | none => rw [hx] at hd; cases hd
    | some p =>
      rw [hx] at hd; cases hd
      obtain ⟨w, hw, rw'⟩ := rv.get (k := p.1) (x := p.2) hx
      rw [hw] at e2; cases e2
      exact ⟨S2, Gr.refl _, s2, Kf.refl _, rw'.mono g2⟩
  have fl : filtered (fun _ : α => true) r xs = xs.map r := by unfold filtered; rw [List.filter_eq_self.mpr (fun _ _ => rfl)]
  rcases s1.pub a _ h1 with z | ⟨_, ob, z⟩
  · refine .inl ⟨a, _, rfl, z, True.intro, fun o => ⟨a, o, vs', rfl, upd_same, ?_⟩⟩
    refine lc_core (Q := fun v H' => Q v H' ∨ ∃ d od u, H' d = some (.frz od u) ∧ (∀ o' u', H d ≠ some (.frz o' u')) ∧ Q v (upd H' d u)) (b := fun _ => true) (r := r) xs hl ht (fun a _ => ef_nil) (fun a ha _ => he a ha) hv hp (hσ.mono g1) (s1.lock h1 True.intro) (walk upd_same) fun D S' acc H' hD g' s' k' ra => .inr ⟨a, o, .dK vs', k'.keep upd_same, fun o' u' w => ?_, ?_⟩
    · have := k1.keep w
      rw [z] at this; cases this
    · have hT := (s'.tell (p := D) upd_same)
      rw [rem_upd hD] at hT
      have hSD : S' D = none := s'.freeSF upd_same
      have g2 := g'.trans (Gr.new (o := .lst acc) hSD)
      refine q (.ref D) _ _ (g1.trans g2) (hT.unlock (g2 _ _ h1)) (k1.trans (Kf.unlock z (fun _ _ z => nomatch z) k')) (.lstL upd_same ?_)
      rw [← fl]
      exact ra.mono (Gr.new hSD)
  · refine .inr ⟨a, ob, vs', rfl, z, ?_⟩
    refine lc_core (Q := fun v H' => Q v H' ∨ ∃ d od u, H' d = some (.frz od u) ∧ (∀ o' u', H d ≠ some (.frz o' u')) ∧ Q v (upd H' d u)) (b := fun _ => true) (r := r) xs hl ht (fun a _ => ef_nil) (fun a ha _ => he a ha) hv hp (hσ.mono g1) s1 (walk z) fun D S' acc H' hD g' s' k' ra => .inl ?_
    have hT := (s'.tell (p := D) upd_same)
    rw [rem_upd hD] at hT
    have hSD : S' D = none := s'.freeSF upd_same
    refine q (.ref D) _ _ (g1.trans (g'.trans (Gr.new hSD))) hT (k1.trans k') (.lstL upd_same ?_)
    rw [← fl]
    exact ra.mono (Gr.new hSD)
section
variable {C : Cd} {Rt : Rr}
theorem setLc_ok {i : Nat} {y : Str} {py spos : Pos} {elt tg iter : Expr} {ifs : List Expr} {scope : Scope} {own : List (Str × Nat)} (hi : f.N[i]? = some y) (hy : f.sc.names.lookup y = some .local) (hk : f.sc.kind = .function) (hln : (py.line == pos.line) = true) (hno : (scope.names.any fun (n, k) => n == y && (k == .local || k == .cell)) = false)
    (ok : blkC f.N f.sc scope own = true) (hfs : ∀ env x, foldedSetIterable iter env x = pure x) (X : Cx) (hX : Okx f X) : PS X (.Assign [.Name y py] (.ListComp elt [⟨tg, iter, ifs, 0⟩] scope pos) spos) (tAsg (tLc (wI f tg iter) (wG (f.blk scope) tg) (wF (f.blk scope) ifs) (wE (f.blk scope) elt) (own.map (·.2))) (gName i)) :=
  ps_setLc (own := own) hX.calm (by rw [hX.N]; exact hX.nd) (by rw [hX.N]; exact hi) (by rw [hX.sc]; exact hy) (sw_true (by rw [hX.sc]; exact hk) (by rw [hX.sc]; exact hy) hln hno) (pw_i hX) (by rw [hX.N, hX.sc]; exact blkOk_by ok)
    (fun s H C cl fp => pw_g (hX.blk s H scope C cl fp)) (fun s H C cl fp => pw_f (hX.blk s H scope C cl fp)) (fun s H C cl fp => pw_e (hX.blk s H scope C cl fp)) (hfs _)
/-- x = [..] on one line, x a plain local: the list is one's own from here on -/
theorem t1_setLcO {pre : Pre} (i : Nat) {α : Type} (xs : List α) {enc : α → Da} {b : α → Bool} {r : α → Da} {envA : α → En} (own : List (Str × Nat)) {vs : List Nat} {y : Str} {py spos : Pos} {elt tg iter : Expr} {ifs : List Expr} {scope : Scope} (hi : IT pre f env tg iter (xs.map enc)) (hl : xs.length ≤ 10000000)
    (ht : ∀ a ∈ xs, TGT (f.blk scope) tg (enc a) (wipeE env (own.map (·.2))) (envA a) vs) (hc : ∀ a ∈ xs, EF (f.blk scope) (envA a) ifs (b a)) (he : ∀ a ∈ xs, b a = true → EX (f.blk scope) (envA a) elt (r a)) (hsee : Sees f C := by exact Sees.nil rfl)
    (hN : f.N[i]? = some y := by rfl) (hy : f.sc.names.lookup y = some .local := by rfl) (hk : f.sc.kind = .function := by rfl) (hln : (py.line == pos.line) = true := by rfl) (hno : (scope.names.any fun (n, k) => n == y && (k == .local || k == .cell)) = false := by decide +kernel)
    (ok : blkC f.N f.sc scope own = true := by (try dsimp only [Fr.blk]); decide +kernel) (hv : ∀ i ∈ vs, i ∈ own.map (·.2) := by decide) (hfs : ∀ env x, foldedSetIterable iter env x = pure x := by intro _ _; rfl) :
    Tr1 pre f (Pv env C) (.Assign [.Name y py] (.ListComp elt [⟨tg, iter, ifs, 0⟩] scope pos) spos) (fun S F σ => ∃ a, Pv (env.set i (some (.v (.ref a)))) (AccL a C (filtered b r xs)) S F σ) Rt := fun S F σ H D hp hs hpre dn =>
  wS_of (setLc_ok (own := own) hN hy hk hln hno ok hfs) (lc_run (own := own) xs hi hl ht hc he hv (hsee.up hp.2) hp.1 hs hpre fun a S' acc H' hF g s k ra =>
    dn.nx S' _ _ H' g s k ⟨a, (hp.1.mono g).set i (.v _), S', Gr.refl _, F, acc, hp.2.mono g, hF, rfl, ra⟩)
/-- .. the list is plain data -/
theorem t1_setLc {pre : Pre} (i : Nat) {α : Type} (xs : List α) {enc : α → Da} {b : α → Bool} {r : α → Da} {envA : α → En} (own : List (Str × Nat)) {vs : List Nat} {y : Str} {py spos : Pos} {elt tg iter : Expr} {ifs : List Expr} {scope : Scope} (hi : IT pre f env tg iter (xs.map enc)) (hl : xs.length ≤ 10000000)
    (ht : ∀ a ∈ xs, TGT (f.blk scope) tg (enc a) (wipeE env (own.map (·.2))) (envA a) vs) (hc : ∀ a ∈ xs, EF (f.blk scope) (envA a) ifs (b a)) (he : ∀ a ∈ xs, b a = true → EX (f.blk scope) (envA a) elt (r a)) (hsee : Sees f C := by exact Sees.nil rfl)
    (hN : f.N[i]? = some y := by rfl) (hy : f.sc.names.lookup y = some .local := by rfl) (hk : f.sc.kind = .function := by rfl) (hln : (py.line == pos.line) = true := by rfl) (hno : (scope.names.any fun (n, k) => n == y && (k == .local || k == .cell)) = false := by decide +kernel)
    (ok : blkC f.N f.sc scope own = true := by (try dsimp only [Fr.blk]); decide +kernel) (hv : ∀ i ∈ vs, i ∈ own.map (·.2) := by decide) (hfs : ∀ env x, foldedSetIterable iter env x = pure x := by intro _ _; rfl) :
    Tr1 pre f (Pv env C) (.Assign [.Name y py] (.ListComp elt [⟨tg, iter, ifs, 0⟩] scope pos) spos) (Pv (env.set i (some (.lst (filtered b r xs)))) C) Rt := fun S F σ H D hp hs hpre dn =>
  wS_of (setLc_ok (own := own) hN hy hk hln hno ok hfs) (lc_run (own := own) xs hi hl ht hc he hv (hsee.up hp.2) hp.1 hs hpre fun a S' acc H' hF g s k ra => by
    have hT := s.tell (p := a) upd_same
    rw [rem_upd hF] at hT
    have hSa : S' a = none := s.freeSF upd_same
    exact dn.nx _ F _ H' (g.trans (Gr.new hSa)) hT k ⟨(hp.1.mono (g.trans (Gr.new hSa))).set i (.lstL upd_same (ra.mono (Gr.new hSa))), hp.2.mono (g.trans (Gr.new hSa))⟩)
/-- a, b = e, [] -/
theorem t1_parL (i j : Nat) {x y : Str} {a : Expr} {d : Da} {px py pt pb : Pos} {kt k2 : Nat} {pt2 : Pos} (ha : EX f env a d) (hij : i ≠ j := by decide) (hc : Sees f C := by exact Sees.nil rfl) (hi : f.N[i]? = some x := by rfl) (hj : f.N[j]? = some y := by rfl)
    (hx : f.sc.names.lookup x = some .local := by rfl) (hy : f.sc.names.lookup y = some .local := by rfl) (hse : ∀ env, starEach [a, .List [] pb] env = (false, eval a env) :: starEach [.List [] pb] env := by intro _; rfl)
    (hw : ∀ env : Env, env.scope = f.sc → swappedStores [.Tuple [.Name x px, .Name y py] kt pt] (.Tuple [a, .List [] pb] k2 pt2) env = pure (some [x, y])) (hsw : ∀ l env, swapsWithSole [.Tuple [.Name x px, .Name y py] kt pt] (.Tuple [a, .List [] pb] k2 pt2) l env = pure false := by intro _ _; rfl) :
    T1 f (Pv env C) (.Assign [.Tuple [.Name x px, .Name y py] kt pt] (.Tuple [a, .List [] pb] k2 pt2) pos) (fun S F σ => ∃ l, Pv ((env.set i (some d)).set j (some (.v (.ref l)))) (AccL l C []) S F σ) Rt := fun S F σ H D hp hs _ dn =>
  wS_of (fun X hX => ps_par hX.calm (by rw [hX.N]; exact hX.nd) (by rw [hX.N]; exact hi) (by rw [hX.N]; exact hj) hij (by rw [hX.sc]; exact hx) (by rw [hX.sc]; exact hy) (pa_cons (pw_e hX) (pa_cons (pe_lst pa_nil) pa_nil) (hse _)) (hw _ hX.sc) (hsw _ _))
    (ha S F σ H (hc.up hp.2) hp.1 hs _ fun v S' H' g s k r => ⟨by decide, fun l hl => ⟨v, .ref l, rfl, dn.nx S' _ _ _ g (s.newF hl) (k.trans (Kf.new hl)) ⟨l, ((hp.1.mono g).set i r).set j (.v _), S', Gr.refl _, F, [], hp.2.mono g, s.freeF hl, rfl, .nil⟩⟩⟩)
/-- a, b = {}, e -/
theorem t1_parD (i j : Nat) {x y : Str} {b : Expr} {d : Da} {px py pt pb : Pos} {kt k2 : Nat} {pt2 : Pos} (hb : EX f env b d) (hij : i ≠ j := by decide) (hc : Sees f C := by exact Sees.nil rfl) (hi : f.N[i]? = some x := by rfl) (hj : f.N[j]? = some y := by rfl)
    (hx : f.sc.names.lookup x = some .local := by rfl) (hy : f.sc.names.lookup y = some .local := by rfl) (hse : ∀ env, starEach [b] env = [(false, eval b env)] := by intro _; rfl)
    (hw : ∀ env : Env, env.scope = f.sc → swappedStores [.Tuple [.Name x px, .Name y py] kt pt] (.Tuple [.Dict [] [] pb, b] k2 pt2) env = pure (some [x, y])) (hsw : ∀ l env, swapsWithSole [.Tuple [.Name x px, .Name y py] kt pt] (.Tuple [.Dict [] [] pb, b] k2 pt2) l env = pure false := by intro _ _; rfl) :
    T1 f (Pv env C) (.Assign [.Tuple [.Name x px, .Name y py] kt pt] (.Tuple [.Dict [] [] pb, b] k2 pt2) pos) (fun S F σ => ∃ l, Pv ((env.set i (some (.v (.ref l)))).set j (some d)) (AccD l C []) S F σ) Rt := fun S F σ H D hp hs _ dn =>
  wS_of (fun X hX => ps_par hX.calm (by rw [hX.N]; exact hX.nd) (by rw [hX.N]; exact hi) (by rw [hX.N]; exact hj) hij (by rw [hX.sc]; exact hx) (by rw [hX.sc]; exact hy) (pa_cons (e := .Dict [] [] pb) pe_dnewK (pw_a hX) rfl) (hw _ hX.sc) (hsw _ _))
    (show tCons tDNewK _ σ H _ from fun l hl => by
      have hF := hs.freeF hl
      refine ea_cons hb ea_nil hse S (upd F l (.dK [])) σ _ (Fr.pf_mono (Gr.new hF) (hc.up hp.2)) hp.1 (hs.newF hl) _ fun vs S' H' g s k r => ?_
      obtain ⟨v, rfl, rv⟩ := one_arg1 r
      exact ⟨.ref l, v, rfl, dn.nx S' _ _ _ g s ((Kf.new hl).trans k) ⟨l, ((hp.1.mono g).set i (.v _)).set j rv, S', Gr.refl _, F, [], hp.2.mono g, hF, rfl, .nil⟩⟩)
end
/-! ### isinstance of an own class -/
structure Mz (K : PySem.W.Frag) : Prop where
  ha : PySem.W.findIn K (.ref (He.ga K "Sheet")) "__class__" = some (some (.builtin "object.__class__"))
  hn : PySem.W.specialIn K (.builtin "object.__class__") "__get__" = some (some (.builtin "getset_descriptor.__get__"))
  htk : PySem.W.takesIn K (.builtin "object.__class__") = some true
  hm : PySem.W.mroIn K (He.ga K "Sheet") (.type "object") = some true
  no : PySem.W.kitOne K (.type "NoneType") (.ref (He.ga K "Sheet")) = some false
theorem cd_isiSheet {fs : List (Str × Da)} (M : Md f.K f.mg) (Z : Mz f.K) : CD f (.builtin "isinstance") [.ins (He.ga f.K "Sheet") fs, .v (.ref (He.ga f.K "Sheet"))] (dB true) := .of (rIsi f.K) (fun X hX => by rw [← hX.K]; exact call_isi) fun S F H vs hs r Q k => by
  obtain ⟨v, w, rfl, r1, r2⟩ := two_args r
  obtain rfl := r2.v_inv
  obtain ⟨a, dx, vs, rfl, h1, _⟩ := r1.ins_inv
  refine ⟨_, _, .ref _, .ref _, true, rfl, .own _, .base (.ins (hs.at h1) (M.cls "Sheet") Z.ha Z.hn Z.htk Z.hm), ?_, k.here hs (.v _)⟩
  unfold PySem.W.kitOne
  rw [if_pos (beq_self_eq_true _)]
theorem ex_isiSheet {fs : List (Str × Da)} {e : Expr} {p q : Pos} (M : Md f.K f.mg) (Z : Mz f.K) (h : EX f env e (.ins (He.ga f.K "Sheet") fs)) (hg : GlS f "isinstance" := by rfl) (hgT : GlS f "Sheet" := by rfl)
    (he : ∀ env, starEach [e, .Name "Sheet" q] env = (false, eval e env) :: starEach [.Name "Sheet" q] env := by intro _; rfl) (hpl : ∀ env, (backTo pos (starEach [.Name "Sheet" q] env)).any (·.1) = false := by intro _; rfl) : EX f env (.Call (.Name "isinstance" p) [e, .Name "Sheet" q] [] pos) (dB true) :=
  ex_callB (cd_isiSheet M Z) (ea_cons h (ea_cons (ex_glob (v := .ref (He.ga f.K "Sheet")) (M.glo "Sheet") rfl hgT) ea_nil (fun _ => rfl)) he) (M.free "isinstance") (by decide +kernel) hg (by decide) (by decide) he hpl
end
end Em
set_option maxHeartbeats 1000000
/-! The walk (3): amounts, balance. -/
namespace Em
open PySem PySem.Spec PyProof.Rows L2 RZ
/-- amounts whose blocks the sheet has -/
structure AmOk (bs : Bs) (am : Am) : Prop where
  has : ∀ a ∈ am, (lk bs a.1).isSome = true
  few : am.length ≤ 1000
theorem Good.endsLen {ps : Ps} {bs : Bs} (g : Good ps bs) {n : Str} {es : List Str} (h : lk bs n = some es) : es.length ≤ 3 := (g.lenB _ (lk_some h)).2
theorem ends_of {bs : Bs} {n : Str} {es : List Str} (h : lk bs n = some es) : ends bs n = es := by unfold ends; rw [h]; rfl
theorem prt_of {ps : Ps} {k q : Str} (h : lk ps k = some q) : prt ps k = q := by unfold prt; rw [h]; rfl
theorem joints_mem {ps : Ps} {bs : Bs} (g : Good ps bs) {j : Str} (h : j ∈ joints ps) : ∃ q, lk ps j = some q ∧ lk ps q = some j := by
  unfold joints at h
  obtain ⟨p, hp, rfl⟩ := List.mem_map.mp h
  have hp := (List.mem_filter.mp hp).1
  exact ⟨p.2, g.lkP hp, g.inv p hp⟩
theorem joints_nodup {ps : Ps} {bs : Bs} (g : Good ps bs) : (joints ps).Nodup := by
  unfold joints
  exact g.nodP.sublist (List.Sublist.map _ List.filter_sublist)
theorem joints_len {ps : Ps} {bs : Bs} (g : Good ps bs) : (joints ps).length ≤ 4 := by
  unfold joints
  rw [List.length_map]
  exact Nat.le_trans (List.length_filter_le ..) g.fewP
theorem cnt_le {k : Str} {es : List Str} : 0 ≤ cnt k es ∧ cnt k es ≤ es.length := by
  unfold cnt
  exact ⟨Int.natCast_nonneg _, by exact_mod_cast List.length_filter_le ..⟩
section
variable {P : Program} {w : World} {K : PySem.W.Frag} {mg : Str → Option Value} {base : Heap}
def rEndsAt (K : PySem.W.Frag) : List Da → Da → Prop := fun ds d => ∃ ps bs am k, Good ps bs ∧ AmOk bs am ∧ ds = [Sh K ps bs, dA am, dS k] ∧ d = dI (endsAt bs am k)
theorem c_ends_at (M : Md K mg) : C8.Cal P w K mg base 2 "ends_at" (spR (rEndsAt K)) [] := by
  refine cal_R M d_ends_at ["sheet", "amounts", "kind", "name", "number", "end"] ["sheet", "amounts", "kind"] (by simp [fn]) rfl (by decide +kernel) rfl rfl (fun _ _ _ _ _ _ us hl => match us, hl with | [_, _, _], _ => rfl) (by decide +kernel) (fun ds d ⟨_, _, _, _, _, _, h, _⟩ => by subst h; rfl) ?_
  rintro ds z F0 ⟨ps, bs, am, k, g, ok, rfl, rfl⟩
  refine tr_one (t1_ret (ex_sum (r := fun a : Str × Int => a.2 * cnt k (ends bs a.1)) (ex_lockV 1 (ex_mapP am (enc := fun a => .tup [dS a.1, dI a.2]) [("name", 3), ("number", 4)] (.cast (it_items (src_var 1)) (by rw [List.map_map]; rfl)) (few_ok ok.few) (fun a ha => tg_two 3 4) (fun a ha => ?_))) (M.free "sum")))
  obtain ⟨es, he⟩ := Option.isSome_iff_exists.mp (ok.has a ha)
  have h3 := g.endsLen he
  have hc := cnt_le (k := k) (es := es)
  rw [ends_of he]
  exact ex_mul (ex_var 4) (EX.cast (ex_lenL (ex_fil es [("end", 5)] (it_tup (ex_meth (m_ends M) (ex_var 0) (ea_cons (ex_var 3) ea_nil) rfl ⟨ps, bs, _, _, rfl, he, rfl⟩)) (few_ok h3) (fun e _ => tg_name 5) (fun e _ => et_eqS (ex_var 5) (ex_var 2)) (fun e _ _ => ex_var 5)) (M.free "len")) (by unfold cnt; rw [List.length_map])) (.inr ⟨by omega, by omega⟩)
def rExcessAt (K : PySem.W.Frag) : List Da → Da → Prop := fun ds d => ∃ ps bs am k, Good ps bs ∧ AmOk bs am ∧ (lk ps k).isSome = true ∧ ds = [Sh K ps bs, dA am, dS k] ∧ d = dI (excessAt ps bs am k)
theorem c_excess_at (M : Md K mg) : C8.Cal P w K mg base 3 "excess_at" (spR (rExcessAt K)) [] := by
  refine cal_R M d_excess_at ["sheet", "amounts", "joint", "partner"] ["sheet", "amounts", "joint"] (by simp [fn]) rfl (by decide +kernel) rfl rfl (fun _ _ _ _ _ _ us hl => match us, hl with | [_, _, _], _ => rfl) (by decide +kernel) (fun ds d ⟨_, _, _, _, _, _, _, h, _⟩ => by subst h; rfl) ?_
  rintro ds z F0 ⟨ps, bs, am, k, g, ok, hk, rfl, rfl⟩
  obtain ⟨q, hq⟩ := Option.isSome_iff_exists.mp hk
  refine tr_cons (t1_set 3 (ex_meth (m_partner M) (ex_var 0) (ea_cons (ex_var 2) ea_nil) rfl ⟨ps, bs, _, _, rfl, hq, rfl⟩)) ?_
  by_cases hqk : q = k
  · refine tr_cons (Mid := none_) (t1_if (x := true) (ET.cast (et_eqS (ex_var 3) (ex_var 2)) (decide_eq_true hqk)) (fun _ => tr_one (t1_ret (EX.cast (ex_mod (ex_call (c_ends_at M) (ea_cons (ex_var 0) (ea_cons (ex_var 1) (ea_cons (ex_var 2) ea_nil))) ⟨ps, bs, am, k, g, ok, rfl, rfl⟩) ex_int (by decide)) (by unfold excessAt; rw [prt_of hq, if_pos hqk])))) fun h => nomatch h) tr_no
  · refine tr_cons (t1_if (x := false) (ET.cast (et_eqS (ex_var 3) (ex_var 2)) (decide_eq_false hqk)) (fun h => nomatch h) fun _ => tr_nil fun _ _ _ h => h) ?_
    exact tr_one (t1_ret (EX.cast (ex_sub (ex_call (c_ends_at M) (ea_cons (ex_var 0) (ea_cons (ex_var 1) (ea_cons (ex_var 2) ea_nil))) ⟨ps, bs, am, k, g, ok, rfl, rfl⟩) (ex_call (c_ends_at M) (ea_cons (ex_var 0) (ea_cons (ex_var 1) (ea_cons (ex_var 3) ea_nil))) ⟨ps, bs, am, q, g, ok, rfl, rfl⟩)) (by unfold excessAt; rw [prt_of hq, if_neg hqk])))
def excessOf (ps : Ps) (bs : Bs) (am : Am) : Am := (joints ps).map fun j => (j, excessAt ps bs am j)
def rExcessOf (K : PySem.W.Frag) : List Da → Da → Prop := fun ds d => ∃ ps bs am, Good ps bs ∧ AmOk bs am ∧ ds = [Sh K ps bs, dA am] ∧ d = dA (excessOf ps bs am)
theorem c_excess_of (M : Md K mg) : C8.Cal P w K mg base 4 "excess_of" (spR (rExcessOf K)) [] := by
  refine cal_R M d_excess_of ["sheet", "amounts", "joint"] ["sheet", "amounts"] (by simp [fn]) rfl (by decide +kernel) rfl rfl (fun _ _ _ _ _ _ us hl => match us, hl with | [_, _], _ => rfl) (by decide +kernel) (fun ds d ⟨_, _, _, _, _, h, _⟩ => by subst h; rfl) ?_
  rintro ds z F0 ⟨ps, bs, am, g, ok, rfl, rfl⟩
  refine tr_one (t1_ret (EX.cast (ex_dcP (own := [("joint", 2)]) (joints ps) (enc := dS) (b := fun _ => true) (key := fun j => j) (r := fun j => dI (excessAt ps bs am j)) (it_lst (ex_meth0 (m_joints M) (ex_var 0) rfl ⟨ps, bs, g, rfl, rfl⟩)) (few_ok (joints_len g)) (fun j _ => tg_name 2) (fun j _ => ef_nil) (fun j _ _ => ex_var 2) (fun j hj _ => ex_call (c_excess_at M) (ea_cons (ex_var 0) (ea_cons (ex_var 1) (ea_cons (ex_var 2) ea_nil))) ⟨ps, bs, am, j, g, ok, ?_, rfl, rfl⟩)).ex ?_))
  · obtain ⟨q, hq, _⟩ := joints_mem g hj; rw [hq]; rfl
  · rw [dctOf_nodup (by rw [List.map_id']; exact joints_nodup g)]
    unfold dA dD excessOf
    rw [List.map_map]; rfl
def rBalanced (K : PySem.W.Frag) : List Da → Da → Prop := fun ds d => ∃ ps bs am, Good ps bs ∧ AmOk bs am ∧ ds = [Sh K ps bs, dA am] ∧ d = dB (balanced ps bs am)
theorem c_is_balanced (M : Md K mg) : C8.Cal P w K mg base 5 "is_balanced" (spR (rBalanced K)) [] := by
  refine cal_R M d_is_balanced ["sheet", "amounts", "number"] ["sheet", "amounts"] (by simp [fn]) rfl (by decide +kernel) rfl rfl (fun _ _ _ _ _ _ us hl => match us, hl with | [_, _], _ => rfl) (by decide +kernel) (fun ds d ⟨_, _, _, _, _, h, _⟩ => by subst h; rfl) ?_
  rintro ds z F0 ⟨ps, bs, am, g, ok, rfl, rfl⟩
  refine tr_one (t1_ret (EX.cast (ex_all (ex_mapVals (excessOf ps bs am) (enc := fun a => dI a.2) [("number", 2)] (ex_call (c_excess_of M) (ea_cons (ex_var 0) (ea_cons (ex_var 1) ea_nil)) ⟨ps, bs, am, g, ok, rfl, rfl⟩) (vals_dD dI _) (by unfold excessOf; rw [List.length_map]; exact few_ok (joints_len g)) (fun a _ => tg_name 2) (fun a _ => ex_eqI (ex_var 2) ex_int)) (M.free "all")) ?_))
  unfold balanced excessOf
  rw [List.all_map]; rfl
/-- at a statement's end nothing is given back -/
theorem tr_end {f : Fr} {env : En} {F0 : Hp} {Rt : Rr} : Tr f (Pv env fun _ F => F = F0) [] (fun _ F _ => dN = dN ∧ F = F0) Rt := tr_nil fun S F σ h => let ⟨_, _, _, e⟩ := h; ⟨rfl, e⟩
def rCheckBal (K : PySem.W.Frag) : List Da → Da → Prop := fun ds d => ∃ ps bs am, Good ps bs ∧ AmOk bs am ∧ balanced ps bs am = true ∧ ds = [Sh K ps bs, dA am] ∧ d = dN
theorem c_check_balanced (M : Md K mg) : C8.Cal P w K mg base 6 "check_balanced" (spR (rCheckBal K)) [] := by
  refine cal_R M d_check_balanced ["sheet", "amounts"] ["sheet", "amounts"] (by simp [fn]) rfl (by decide +kernel) rfl rfl (fun _ _ _ _ _ _ us hl => match us, hl with | [_, _], _ => rfl) (by decide +kernel) (fun ds d ⟨_, _, _, _, _, _, h, _⟩ => by subst h; rfl) ?_
  rintro ds z F0 ⟨ps, bs, am, g, ok, hb, rfl, rfl⟩
  exact tr_cons (t1_if (x := false) (ET.cast (et_not (et_val (ex_call (c_is_balanced M) (ea_cons (ex_var 0) (ea_cons (ex_var 1) ea_nil)) ⟨ps, bs, am, g, ok, rfl, rfl⟩))) (by rw [hb]; rfl)) (fun h => nomatch h) fun _ => tr_nil fun _ _ _ h => h) tr_end
def rCheckSheet (K : PySem.W.Frag) : List Da → Da → Prop := fun ds d => ∃ ps bs, ds = [Sh K ps bs] ∧ d = dN
theorem c_check_sheet (M : Md K mg) (Z : Mz K) : C8.Cal P w K mg base 1 "check_sheet" (spR (rCheckSheet K)) [] := by
  refine cal_R M d_check_sheet ["sheet"] ["sheet"] (by simp [fn]) rfl (by decide +kernel) rfl rfl (fun _ _ _ _ _ _ us hl => match us, hl with | [_], _ => rfl) (by decide +kernel) (fun ds d ⟨_, _, h, _⟩ => by subst h; rfl) ?_
  rintro ds z F0 ⟨ps, bs, rfl, rfl⟩
  exact tr_cons (t1_if (x := false) (ET.cast (et_not (et_val (ex_isiSheet M Z (ex_var 0)))) rfl) (fun h => nomatch h) fun _ => tr_nil fun _ _ _ h => h) tr_end
def rCheckAm (K : PySem.W.Frag) : List Da → Da → Prop := fun ds d => ∃ ps bs am, AmOk bs am ∧ (∀ a ∈ am, 0 ≤ a.2) ∧ ds = [Sh K ps bs, dA am] ∧ d = dN
theorem c_check_amounts (M : Md K mg) (Z : Mz K) : C8.Cal P w K mg base 2 "check_amounts" (spR (rCheckAm K)) [] := by
  refine cal_R M d_check_amounts ["sheet", "amounts", "name", "number"] ["sheet", "amounts"] (by simp [fn]) rfl (by decide +kernel) rfl rfl (fun _ _ _ _ _ _ us hl => match us, hl with | [_, _], _ => rfl) (by decide +kernel) (fun ds d ⟨_, _, _, _, _, h, _⟩ => by subst h; rfl) ?_
  rintro ds z F0 ⟨ps, bs, am, ok, h0, rfl, rfl⟩
  refine tr_cons (t1_expr (ex_call (c_check_sheet M Z) (ea_cons (ex_var 0) ea_nil) ⟨ps, bs, rfl, rfl⟩)) ?_
  refine tr_cons (t1_if (x := false) (ET.cast (et_w (ew_or (x := false) (ET.cast (et_not (et_val (ex_isi (T := "dict") (b := true) (ex_var 1) rfl (by decide +kernel) (M.free "isinstance") (M.free "dict") (by decide +kernel)))) rfl) fun _ => ew_or1 (et_not (et_val (ex_all (r := fun _ => true) (ex_lockV 1 (ex_mapP am [("name", 2)] (.cast (it_keys (src_var 1)) (keysD_dD dI am)) (few_ok ok.few) (fun a _ => tg_name 2) (fun a ha => EX.cast (ex_and (x := true) (ex_isi (T := "str") (ex_var 2) rfl (by decide +kernel) (M.free "isinstance") (M.free "str") (by decide +kernel)) fun _ => ex_one (ex_cmp (od_inOwn (m_has M) ⟨ps, bs, _, rfl, rfl⟩) (ex_var 2) (ex_var 0))) (by rw [ok.has a ha]; rfl)))) (M.free "all")))))) ?_) (fun h => nomatch h) fun _ => tr_nil fun _ _ _ h => h) ?_
  · simp
  refine tr_cons (t1_if (x := false) (ET.cast (et_not (et_val (ex_all (r := fun _ => true) (ex_lockV 1 (ex_mapP am [("number", 3)] (.cast (it_vals (src_var 1)) (vals_dD dI am)) (few_ok ok.few) (fun a _ => tg_name 3) (fun a ha => EX.cast (ex_and (x := true) (ex_call (c_whole M) (ea_cons (ex_var 3) ea_nil) ⟨_, rfl, rfl⟩) fun _ => ex_one (ex_ge (ex_var 3) ex_int)) (by rw [decide_eq_true (h0 a ha)]; rfl)))) (M.free "all")))) ?_) (fun h => nomatch h) fun _ => tr_nil fun _ _ _ h => h) tr_end
  simp
end
end Em
set_option maxHeartbeats 2000000
/-! The mathematics of Growing (Contejean-Devie), in plain Lean. -/
namespace CD
abbrev Vec := List Int
def g (l : Vec) (i : Nat) : Int := l.getD i 0
/-- the sum of the first n values -/
def S : Nat → (Nat → Int) → Int
  | 0, _ => 0
  | n + 1, f => S n f + f n
theorem S_congr {n : Nat} {f h : Nat → Int} (e : ∀ i, i < n → f i = h i) : S n f = S n h := by
  induction n with
  | zero => rfl
  | succ n ih => rw [S, S, ih fun i hi => e i (by omega), e n (by omega)]
theorem S_add (n : Nat) (f h : Nat → Int) : S n (fun i => f i + h i) = S n f + S n h := by
  induction n with
  | zero => rfl
  | succ n ih => rw [S, S, S, ih]; omega
theorem S_sub (n : Nat) (f h : Nat → Int) : S n (fun i => f i - h i) = S n f - S n h := by
  induction n with
  | zero => rfl
  | succ n ih => rw [S, S, S, ih]; omega
theorem S_mul (n : Nat) (c : Int) (f : Nat → Int) : S n (fun i => c * f i) = c * S n f := by
  induction n with
  | zero => simp [S]
  | succ n ih => rw [S, S, ih, Int.mul_add]
theorem S_zero (n : Nat) : S n (fun _ => 0) = 0 := by
  induction n with
  | zero => rfl
  | succ n ih => rw [S, ih]; rfl
theorem S_nonneg {n : Nat} {f : Nat → Int} (h : ∀ i, i < n → 0 ≤ f i) : 0 ≤ S n f := by
  induction n with
  | zero => exact Int.le_refl _
  | succ n ih =>
    have h1 := ih fun i hi => h i (by omega)
    have h2 := h n (by omega)
    rw [S]; omega
theorem S_le {n : Nat} {f h : Nat → Int} (e : ∀ i, i < n → f i ≤ h i) : S n f ≤ S n h := by
  have := S_nonneg (n := n) (f := fun i => h i - f i) fun i hi => by have := e i hi; omega
  rw [S_sub] at this
  omega
theorem S_term {n : Nat} {f : Nat → Int} (h : ∀ i, i < n → 0 ≤ f i) {j : Nat} (hj : j < n) : f j ≤ S n f := by
  induction n with
  | zero => omega
  | succ n ih =>
    rw [S]
    have h2 := h n (by omega)
    by_cases e : j = n
    · subst e
      have := S_nonneg (n := j) (f := f) fun i hi => h i (by omega)
      omega
    · have := ih (fun i hi => h i (by omega)) (by omega)
      omega
theorem S_eq_zero {n : Nat} {f : Nat → Int} (h : ∀ i, i < n → 0 ≤ f i) (e : S n f = 0) : ∀ i, i < n → f i = 0 := fun i hi => by
  have h1 := S_term h hi
  have h2 := h i hi
  omega
theorem S_swap (n d : Nat) (f : Nat → Nat → Int) : S n (fun j => S d (fun i => f j i)) = S d (fun i => S n (fun j => f j i)) := by
  induction n with
  | zero => rw [S]; exact (S_zero d).symm
  | succ n ih => rw [S, ih, ← S_add]; rfl
theorem S_succ' (n : Nat) (f : Nat → Int) : S (n + 1) f = f 0 + S n (fun i => f (i + 1)) := by
  induction n with
  | zero => simp [S]
  | succ n ih => rw [S, ih, S]; omega
theorem sum_S : ∀ (l : Vec), l.sum = S l.length (g l)
  | [] => rfl
  | x :: l => by
    rw [List.sum_cons, sum_S l, List.length_cons, S_succ']
    rfl
/-! ### vectors -/
theorem g_lt {l : Vec} {i : Nat} (h : i < l.length) : g l i = l[i] := by simp [g, h]
theorem g_ge {l : Vec} {i : Nat} (h : l.length ≤ i) : g l i = 0 := by simp [g, h]
theorem ext {l m : Vec} (hl : l.length = m.length) (h : ∀ i, i < l.length → g l i = g m i) : l = m := by
  refine List.ext_getElem hl fun i h1 h2 => ?_
  have := h i h1
  rw [g_lt h1, g_lt h2] at this
  exact this
def raised (row : Vec) (k : Nat) : Vec := row.mapIdx fun i x => if k = i then x + 1 else x
theorem raised_len (row : Vec) (k : Nat) : (raised row k).length = row.length := by simp [raised]
theorem raised_g {row : Vec} {k : Nat} (i : Nat) (hk : k < row.length) : g (raised row k) i = g row i + if k = i then 1 else 0 := by
  by_cases h : i < row.length
  · rw [g_lt (by rw [raised_len]; exact h), g_lt h]
    simp only [raised, List.getElem_mapIdx]
    split <;> omega
  · rw [g_ge (by rw [raised_len]; omega), g_ge (by omega), if_neg (by omega)]
    rfl
def prod (a b : Vec) : Int := (List.zipWith (fun x y => x * y) a b).sum
def add (a b : Vec) : Vec := List.zipWith (fun x y => x + y) a b
def within (a b : Vec) : Bool := (List.zipWith (fun x y => decide (x ≤ y)) a b).all id
theorem prod_S {a b : Vec} (h : a.length = b.length) : prod a b = S a.length (fun i => g a i * g b i) := by
  unfold prod
  rw [sum_S]
  have e : (List.zipWith (fun x y => x * y) a b).length = a.length := by simp [h]
  rw [e]
  refine S_congr fun i hi => ?_
  rw [g_lt (by rw [e]; exact hi), g_lt hi, g_lt (by omega)]
  simp
theorem add_len {a b : Vec} (h : a.length = b.length) : (add a b).length = a.length := by simp [add, h]
theorem add_g {a b : Vec} (h : a.length = b.length) (i : Nat) : g (add a b) i = g a i + g b i := by
  by_cases hi : i < a.length
  · rw [g_lt (by rw [add_len h]; exact hi), g_lt hi, g_lt (by omega)]
    simp [add]
  · rw [g_ge (by rw [add_len h]; omega), g_ge (by omega), g_ge (by omega)]
    rfl
theorem within_iff {a b : Vec} (h : a.length = b.length) : within a b = true ↔ ∀ i, i < a.length → g a i ≤ g b i := by
  have e : (List.zipWith (fun x y => decide (x ≤ y)) a b).length = a.length := by simp [h]
  unfold within
  rw [List.all_eq_true]
  constructor
  · intro q i hi
    have := q ((List.zipWith (fun x y => decide (x ≤ y)) a b)[i]'(by rw [e]; exact hi)) (List.getElem_mem _)
    rw [g_lt hi, g_lt (by omega)]
    simpa using this
  · intro q x hx
    obtain ⟨i, hi, rfl⟩ := List.mem_iff_getElem.mp hx
    rw [e] at hi
    have := q i hi
    rw [g_lt hi, g_lt (by omega)] at this
    simpa using this
/-- the dict's store -/
def put (l : List (Vec × Vec)) (k v : Vec) : List (Vec × Vec) :=
  if (l.any fun p => decide (p.1 = k)) = true then l.map fun p => if p.1 = k then (p.1, v) else p else l ++ [(k, v)]
theorem put_mem {l : List (Vec × Vec)} {k v : Vec} {p : Vec × Vec} (h : p ∈ put l k v) : p = (k, v) ∨ p ∈ l := by
  unfold put at h
  split at h
  · obtain ⟨q, hq, e⟩ := List.mem_map.mp h
    split at e
    · rename_i e2
      exact .inl (by rw [← e, e2])
    · exact .inr (e ▸ hq)
  · rcases List.mem_append.mp h with h | h
    · exact .inr h
    · exact .inl (by simpa using h)
theorem put_key {l : List (Vec × Vec)} {k v k' : Vec} (h : k' = k ∨ k' ∈ l.map (·.1)) : k' ∈ (put l k v).map (·.1) := by
  unfold put
  split
  · rename_i q
    have hk : k ∈ l.map (·.1) := by
      obtain ⟨p, hp, e⟩ := List.any_eq_true.mp q
      exact List.mem_map.mpr ⟨p, hp, of_decide_eq_true e⟩
    have hk' : k' ∈ l.map (·.1) := by
      rcases h with h | h
      · exact h ▸ hk
      · exact h
    obtain ⟨p, hp, e⟩ := List.mem_map.mp hk'
    refine List.mem_map.mpr ⟨if p.1 = k then (p.1, v) else p, List.mem_map.mpr ⟨p, hp, rfl⟩, ?_⟩
    split <;> exact e
  · rw [List.map_append]
    rcases h with h | h
    · exact List.mem_append_right _ (by simp [h])
    · exact List.mem_append_left _ h
theorem put_nodup {l : List (Vec × Vec)} {k v : Vec} (h : (l.map (·.1)).Nodup) : ((put l k v).map (·.1)).Nodup := by
  unfold put
  split
  · have e : (l.map fun p => if p.1 = k then (p.1, v) else p).map (·.1) = l.map (·.1) := by
      rw [List.map_map]
      refine List.map_congr_left fun p _ => ?_
      show (if p.1 = k then (p.1, v) else p).1 = p.1
      split <;> rfl
    rw [e]
    exact h
  · rename_i q
    rw [List.map_append, List.nodup_append]
    refine ⟨h, by simp, fun a ha b hb e => q ?_⟩
    have hb' : b = k := by simpa using hb
    obtain ⟨p, hp, e2⟩ := List.mem_map.mp ha
    exact List.any_eq_true.mpr ⟨p, hp, decide_eq_true (by rw [e2, e, hb'])⟩
/-! ### the algorithm -/
/-- one row's turns over the columns from k on -/
def rowTurn (row tot : Vec) : List Vec → Nat → List (Vec × Vec) → List (Vec × Vec)
  | [], _, acc => acc
  | c :: cs, k, acc => rowTurn row tot cs (k + 1) (if prod tot c < 0 then put acc (raised row k) (add tot c) else acc)
def isLet (many : Nat) (top : Option Vec) (found : List Vec) (row : Vec) : Bool :=
  (match top with
    | none => true
    | some t => within (row.take many) t) && !(found.any fun o => within o row)
def laterOf (cols : List Vec) (lt : Vec → Bool) : List (Vec × Vec) → List (Vec × Vec) → List (Vec × Vec)
  | [], acc => acc
  | p :: r, acc => laterOf cols lt r (if lt p.1 = true then rowTurn p.1 p.2 cols 0 acc else acc)
def doneOf (lt : Vec → Bool) (level : List (Vec × Vec)) : List Vec := (level.filter fun p => lt p.1 && !(p.2.any fun x => decide (x ≠ 0))).map (·.1)
structure GSt where
  level : List (Vec × Vec)
  found : List Vec
def GSt.step (cols : List Vec) (many : Nat) (top : Option Vec) (s : GSt) : GSt :=
  ⟨laterOf cols (isLet many top (s.found ++ doneOf (isLet many top s.found) s.level)) s.level [], s.found ++ doneOf (isLet many top s.found) s.level⟩
def firstOf (none : Vec) : List Vec → Nat → List (Vec × Vec)
  | [], _ => []
  | c :: cs, k => (raised none k, c) :: firstOf none cs (k + 1)
def GSt.start (cols : List Vec) : GSt := ⟨firstOf (cols.map fun _ => 0) cols 0, []⟩
def GSt.iter (cols : List Vec) (many : Nat) (top : Option Vec) : Nat → GSt
  | 0 => GSt.start cols
  | k + 1 => (GSt.iter cols many top k).step cols many top
theorem rowTurn_nodup {row tot : Vec} : ∀ {cs : List Vec} {k : Nat} {acc : List (Vec × Vec)}, (acc.map (·.1)).Nodup → ((rowTurn row tot cs k acc).map (·.1)).Nodup
  | [], _, _, h => h
  | c :: cs, k, acc, h => rowTurn_nodup (cs := cs) (by
      split
      · exact put_nodup h
      · exact h)
theorem rowTurn_mem {row tot : Vec} {p : Vec × Vec} : ∀ {cs : List Vec} {k : Nat} {acc : List (Vec × Vec)}, p ∈ rowTurn row tot cs k acc → p ∈ acc ∨ ∃ j c, cs[j]? = some c ∧ prod tot c < 0 ∧ p = (raised row (k + j), add tot c)
  | [], _, _, h => .inl h
  | c :: cs, k, acc, h => by
    rcases rowTurn_mem (cs := cs) h with h | ⟨j, c', e1, e2, e3⟩
    · split at h
      · rename_i q
        rcases put_mem h with e | h
        · exact .inr ⟨0, c, rfl, q, by rw [e]; simp⟩
        · exact .inl h
      · exact .inl h
    · exact .inr ⟨j + 1, c', by simpa using e1, e2, by rw [e3]; congr 2; omega⟩
theorem rowTurn_keep {row tot : Vec} {x : Vec} : ∀ {cs : List Vec} {k : Nat} {acc : List (Vec × Vec)}, x ∈ acc.map (·.1) → x ∈ (rowTurn row tot cs k acc).map (·.1)
  | [], _, _, h => h
  | c :: cs, k, acc, h => rowTurn_keep (cs := cs) (by
      split
      · exact put_key (.inr h)
      · exact h)
theorem rowTurn_has {row tot : Vec} : ∀ {cs : List Vec} {k : Nat} {acc : List (Vec × Vec)} {j : Nat} {c : Vec}, cs[j]? = some c → prod tot c < 0 → raised row (k + j) ∈ (rowTurn row tot cs k acc).map (·.1)
  | [], _, _, j, c, h, _ => by simp at h
  | c :: cs, k, acc, 0, c', h, q => by
    have e : c = c' := by simpa using h
    subst e
    refine rowTurn_keep (cs := cs) ?_
    rw [if_pos q]
    exact put_key (.inl rfl)
  | c :: cs, k, acc, j + 1, c', h, q => by
    have := rowTurn_has (row := row) (tot := tot) (cs := cs) (k := k + 1) (acc := if prod tot c < 0 then put acc (raised row k) (add tot c) else acc) (j := j) (c := c') (by simpa using h) q
    rw [show k + (j + 1) = k + 1 + j by omega]
    exact this
theorem laterOf_nodup {cols : List Vec} {lt : Vec → Bool} : ∀ {l acc : List (Vec × Vec)}, (acc.map (·.1)).Nodup → ((laterOf cols lt l acc).map (·.1)).Nodup
  | [], _, h => h
  | p :: r, acc, h => laterOf_nodup (l := r) (by
      split
      · exact rowTurn_nodup h
      · exact h)
theorem laterOf_mem {cols : List Vec} {lt : Vec → Bool} {p : Vec × Vec} : ∀ {l acc : List (Vec × Vec)}, p ∈ laterOf cols lt l acc → p ∈ acc ∨ ∃ q ∈ l, lt q.1 = true ∧ ∃ j c, cols[j]? = some c ∧ prod q.2 c < 0 ∧ p = (raised q.1 j, add q.2 c)
  | [], _, h => .inl h
  | q :: r, acc, h => by
    rcases laterOf_mem (l := r) h with h | ⟨q', hq, e⟩
    · split at h
      · rename_i hl
        rcases rowTurn_mem h with h | ⟨j, c, e1, e2, e3⟩
        · exact .inl h
        · exact .inr ⟨q, List.mem_cons_self, hl, j, c, e1, e2, by rw [e3]; congr 2; omega⟩
      · exact .inl h
    · exact .inr ⟨q', List.mem_cons_of_mem _ hq, e⟩
theorem laterOf_keep {cols : List Vec} {lt : Vec → Bool} {x : Vec} : ∀ {l acc : List (Vec × Vec)}, x ∈ acc.map (·.1) → x ∈ (laterOf cols lt l acc).map (·.1)
  | [], _, h => h
  | p :: r, acc, h => laterOf_keep (l := r) (by
      split
      · exact rowTurn_keep h
      · exact h)
theorem laterOf_has {cols : List Vec} {lt : Vec → Bool} : ∀ {l acc : List (Vec × Vec)} {q : Vec × Vec} {j : Nat} {c : Vec}, q ∈ l → lt q.1 = true → cols[j]? = some c → prod q.2 c < 0 → raised q.1 j ∈ (laterOf cols lt l acc).map (·.1)
  | [], _, q, _, _, h, _, _, _ => by simp at h
  | p :: r, acc, q, j, c, h, hl, hc, hp => by
    rcases List.mem_cons.mp h with rfl | h
    · refine laterOf_keep (l := r) ?_
      rw [if_pos hl]
      have := rowTurn_has (row := q.1) (tot := q.2) (cs := cols) (k := 0) (acc := acc) hc hp
      rw [Nat.zero_add] at this
      exact this
    · exact laterOf_has (l := r) h hl hc hp
end CD
set_option maxHeartbeats 2000000
/-! Growing finds just the least solutions, and ends. -/
namespace CD
def Le (a b : Vec) : Prop := ∀ i, g a i ≤ g b i
theorem Le.refl (a : Vec) : Le a a := fun _ => Int.le_refl _
theorem Le.trans {a b c : Vec} (h : Le a b) (h' : Le b c) : Le a c := fun i => Int.le_trans (h i) (h' i)
def inTop (many : Nat) (top : Option Vec) (row : Vec) : Bool := match top with
  | none => true
  | some t => within (row.take many) t
theorem isLet_iff {many : Nat} {top : Option Vec} {found : List Vec} {row : Vec} : isLet many top found row = true ↔ inTop many top row = true ∧ ∀ o ∈ found, within o row = false := by
  unfold isLet inTop
  rw [Bool.and_eq_true, Bool.not_eq_true', List.any_eq_false]
  cases top <;> simp
section
variable (cols : List Vec) (d : Nat)
def cj (j i : Nat) : Int := g (cols.getD j []) i
def C (x : Vec) (i : Nat) : Int := S cols.length (fun j => g x j * cj cols j i)
def totOf (x : Vec) : Vec := (List.range d).map (C cols x)
structure Sol (x : Vec) : Prop where
  len : x.length = cols.length
  nn : ∀ i, 0 ≤ g x i
  nz : ∃ i, i < cols.length ∧ g x i ≠ 0
  eq : ∀ i, i < d → C cols x i = 0
structure Min (x : Vec) : Prop where
  sol : Sol cols d x
  least : ∀ y, Sol cols d y → Le y x → y = x
abbrev sm (x : Vec) : Int := S cols.length (g x)
end
section
variable {cols : List Vec} {d many : Nat} {top : Option Vec} {ball : List Vec}
theorem totOf_len (x : Vec) : (totOf cols d x).length = d := by simp [totOf]
theorem totOf_g {x : Vec} {i : Nat} (h : i < d) : g (totOf cols d x) i = C cols x i := by
  rw [g_lt (by rw [totOf_len]; exact h)]
  simp [totOf]
theorem cj_of {c : Vec} {j : Nat} (h : cols[j]? = some c) (i : Nat) : cj cols j i = g c i := by
  unfold cj
  rw [List.getD_eq_getElem?_getD, h]
  rfl
theorem lt_of_some {c : Vec} {j : Nat} (h : cols[j]? = some c) : j < cols.length := (List.getElem?_eq_some_iff.mp h).1
/-- the sum of products with the unit at k -/
theorem S_unit {n k : Nat} (f : Nat → Int) (hk : k < n) : S n (fun j => (if k = j then 1 else 0) * f j) = f k := by
  induction n with
  | zero => omega
  | succ n ih =>
    rw [S]
    by_cases e : k = n
    · subst e
      have : S k (fun j => (if k = j then 1 else 0) * f j) = 0 := by
        rw [S_congr (h := fun _ => 0) fun i hi => by rw [if_neg (by omega)]; omega]
        exact S_zero k
      rw [this, if_pos rfl]; omega
    · rw [ih (by omega), if_neg e]; omega
theorem C_raised {x : Vec} {k i : Nat} {c : Vec} (hl : x.length = cols.length) (hc : cols[k]? = some c) : C cols (raised x k) i = C cols x i + g c i := by
  have hk := lt_of_some hc
  unfold C
  rw [S_congr (h := fun j => g x j * cj cols j i + (if k = j then 1 else 0) * cj cols j i) fun j hj => by rw [raised_g j (by omega), Int.add_mul], S_add, S_unit _ hk, cj_of hc]
theorem totOf_raised {x : Vec} {k : Nat} {c : Vec} (hl : x.length = cols.length) (hc : cols[k]? = some c) (hd : c.length = d) : totOf cols d (raised x k) = add (totOf cols d x) c := by
  have e : (totOf cols d x).length = c.length := by rw [totOf_len, hd]
  refine ext (by rw [totOf_len, add_len e, totOf_len]) fun i hi => ?_
  rw [totOf_len] at hi
  rw [totOf_g hi, C_raised hl hc, add_g e, totOf_g hi]
theorem sm_raised {x : Vec} {k : Nat} (hl : x.length = cols.length) (hk : k < cols.length) : sm cols (raised x k) = sm cols x + 1 := by
  unfold sm
  rw [S_congr (h := fun j => g x j + (if k = j then 1 else 0) * 1) fun j hj => by rw [raised_g j (by omega)]; split <;> omega, S_add]
  rw [S_unit (fun _ => 1) hk]
theorem raised_le {x : Vec} {k : Nat} (hl : x.length = cols.length) (hk : k < cols.length) : Le x (raised x k) := fun i => by
  rw [raised_g i (by omega)]; split <;> omega
theorem raised_nn {x : Vec} {k : Nat} (hl : x.length = cols.length) (hk : k < cols.length) (h : ∀ i, 0 ≤ g x i) : ∀ i, 0 ≤ g (raised x k) i := fun i => by
  have := h i
  rw [raised_g i (by omega)]; split <;> omega
theorem sm_le {a b : Vec} (h : Le a b) : sm cols a ≤ sm cols b := S_le fun i _ => h i
theorem eq_of_le {a b : Vec} (ha : a.length = cols.length) (hb : b.length = cols.length) (h : Le a b) (e : sm cols b ≤ sm cols a) : a = b := by
  have z : S cols.length (fun i => g b i - g a i) = 0 := by
    rw [S_sub]
    have := sm_le (cols := cols) h
    unfold sm at this e
    omega
  refine ext (by omega) fun i hi => ?_
  have := S_eq_zero (fun i _ => by have := h i; show 0 ≤ g b i - g a i; omega) z i (by omega)
  have : g b i - g a i = 0 := this
  omega
theorem sm_lt {a b : Vec} (ha : a.length = cols.length) (hb : b.length = cols.length) (h : Le a b) (n : a ≠ b) : sm cols a < sm cols b := by
  by_cases q : sm cols b ≤ sm cols a
  · exact absurd (eq_of_le ha hb h q) n
  · omega
theorem within_le {a b : Vec} (ha : a.length = b.length) : within a b = true ↔ Le a b := by
  rw [within_iff ha]
  constructor
  · intro h i
    by_cases q : i < a.length
    · exact h i q
    · rw [g_ge (by omega), g_ge (by omega)]; exact Int.le_refl _
  · exact fun h i _ => h i
theorem g_take {l : Vec} {k : Nat} (i : Nat) : g (l.take k) i = if i < k then g l i else 0 := by
  unfold g
  rw [List.getD_eq_getElem?_getD, List.getElem?_take, List.getD_eq_getElem?_getD]
  split <;> rfl
theorem inTop_mono {a b : Vec} (ht : ∀ t, top = some t → t.length = many) (hm : many ≤ cols.length) (ha : a.length = cols.length) (hb : b.length = cols.length) (h : Le a b) (q : inTop many top b = true) : inTop many top a = true := by
  cases top with
  | none => rfl
  | some t =>
    have e := ht t rfl
    have q' : within (b.take many) t = true := q
    show within (a.take many) t = true
    rw [within_le (by rw [List.length_take]; omega)] at q' ⊢
    intro i
    have := q' i
    rw [g_take] at this ⊢
    have := h i
    split at * <;> omega
/-! ### least solutions -/
theorem min_below {x : Vec} (h : Sol cols d x) : ∃ s, Min cols d s ∧ Le s x := by
  have : ∀ (k : Nat) (x : Vec), (sm cols x).toNat = k → Sol cols d x → ∃ s, Min cols d s ∧ Le s x := by
    intro k
    induction k using Nat.strongRecOn with
    | _ k ih =>
      intro x e hx
      by_cases q : ∃ y, Sol cols d y ∧ Le y x ∧ y ≠ x
      · obtain ⟨y, hy, hl, hn⟩ := q
        have h1 := sm_lt hy.len hx.len hl hn
        have h2 : 0 ≤ sm cols y := S_nonneg fun i _ => hy.nn i
        obtain ⟨s, hs, hsy⟩ := ih (sm cols y).toNat (by omega) y rfl hy
        exact ⟨s, hs, hsy.trans hl⟩
      · exact ⟨x, ⟨hx, fun y hy hl => Classical.byContradiction fun hn => q ⟨y, hy, hl, hn⟩⟩, .refl x⟩
  exact this _ x rfl h
/-- the step downwards: below a least solution there is a column that points home -/
theorem descent {x s : Vec} (hc : ∀ c ∈ cols, c.length = d) (hx : x.length = cols.length) (hs : s.length = cols.length) (hl : Le x s) (es : ∀ i, i < d → C cols s i = 0) (nx : ∃ i, i < d ∧ C cols x i ≠ 0) :
    ∃ k c, cols[k]? = some c ∧ g x k < g s k ∧ prod (totOf cols d x) c < 0 := by
  apply Classical.byContradiction
  intro no
  have key : ∀ j, j < cols.length → 0 ≤ (g s j - g x j) * S d (fun i => C cols x i * cj cols j i) := by
    intro j hj
    have hle := hl j
    by_cases e : g x j < g s j
    · have hcj : cols[j]? = some cols[j] := List.getElem?_eq_getElem hj
      have hp : ¬ prod (totOf cols d x) cols[j] < 0 := fun q => no ⟨j, cols[j], hcj, e, q⟩
      have hlen : (totOf cols d x).length = cols[j].length := by rw [totOf_len, hc _ (List.getElem_mem _)]
      rw [prod_S hlen, totOf_len] at hp
      have e2 : S d (fun i => g (totOf cols d x) i * g cols[j] i) = S d (fun i => C cols x i * cj cols j i) := S_congr fun i hi => by rw [totOf_g hi, cj_of hcj]
      rw [e2] at hp
      exact Int.mul_nonneg (by omega) (by omega)
    · rw [show g s j - g x j = 0 by omega, Int.zero_mul]
      exact Int.le_refl _
  have h0 := S_nonneg key
  have e1 : S cols.length (fun j => (g s j - g x j) * S d (fun i => C cols x i * cj cols j i)) = S d (fun i => C cols x i * (C cols s i - C cols x i)) := by
    rw [S_congr (h := fun j => S d (fun i => (g s j - g x j) * (C cols x i * cj cols j i))) fun j _ => (S_mul d _ _).symm, S_swap]
    refine S_congr fun i _ => ?_
    rw [S_congr (h := fun j => C cols x i * (g s j * cj cols j i - g x j * cj cols j i)) fun j _ => by rw [← Int.sub_mul, ← Int.mul_assoc, ← Int.mul_assoc, Int.mul_comm (g s j - g x j)], S_mul, S_sub]
    rfl
  rw [e1] at h0
  have e3 : S d (fun i => C cols x i * (C cols s i - C cols x i)) = -1 * S d (fun i => C cols x i * C cols x i) := by
    rw [← S_mul]
    refine S_congr fun i hi => ?_
    rw [es i hi, Int.zero_sub, Int.mul_neg]; omega
  rw [e3] at h0
  obtain ⟨i, hi, hn⟩ := nx
  have sq : ∀ z : Int, 0 ≤ z * z := fun z => by
    rcases Int.le_total 0 z with h | h
    · exact Int.mul_nonneg h h
    · have := Int.mul_nonneg (a := -z) (b := -z) (by omega) (by omega)
      rwa [Int.neg_mul_neg] at this
  have h4 := S_term (f := fun i => C cols x i * C cols x i) (fun i _ => sq _) hi
  have h5 : C cols x i * C cols x i ≠ 0 := fun q => hn (by rcases Int.mul_eq_zero.mp q with q | q <;> exact q)
  have h6 := sq (C cols x i)
  have h7 : C cols x i * C cols x i ≤ S d (fun i => C cols x i * C cols x i) := h4
  omega
/-! ### the invariant of the levels -/
structure Hist (cols : List Vec) (d : Nat) (ball : List Vec) (k : Nat) (row : Vec) (ys : List Vec) : Prop where
  len : ys.length + 1 = k
  len' : ∀ y ∈ ys, y.length = cols.length
  nn : ∀ y ∈ ys, ∀ i, 0 ≤ g y i
  le : ∀ y ∈ ys, Le y row
  lt : ∀ y ∈ ys, sm cols y < k
  inB : ∀ y ∈ ys, totOf cols d y ∈ ball
  nd : (ys.map (totOf cols d)).Nodup
structure RI (cols : List Vec) (d : Nat) (ball : List Vec) (k : Nat) (p : Vec × Vec) : Prop where
  len : p.1.length = cols.length
  nn : ∀ i, 0 ≤ g p.1 i
  sm : sm cols p.1 = k
  tot : p.2 = totOf cols d p.1
  inB : p.2 ∈ ball
  hist : ∃ ys, Hist cols d ball k p.1 ys
structure LI (cols : List Vec) (d many : Nat) (top : Option Vec) (ball : List Vec) (k : Nat) (s : GSt) : Prop where
  row : ∀ p ∈ s.level, RI cols d ball k p
  nd : (s.level.map (·.1)).Nodup
  mem : ∀ r, r ∈ s.found ↔ Min cols d r ∧ inTop many top r = true ∧ sm cols r < k
  fnd : s.found.Nodup
  has : ∀ r, Min cols d r → inTop many top r = true → (k : Int) ≤ sm cols r → ∃ x ∈ s.level.map (·.1), Le x r
structure Setup (cols : List Vec) (d many : Nat) (top : Option Vec) (ball : List Vec) : Prop where
  len : ∀ c ∈ cols, c.length = d
  top : ∀ t, top = some t → t.length = many
  many : many ≤ cols.length
  b0 : ∀ c ∈ cols, c ∈ ball
  bs : ∀ t ∈ ball, ∀ c ∈ cols, prod t c < 0 → add t c ∈ ball
theorem any_nz {l : Vec} : (l.any fun x => decide (x ≠ 0)) = false ↔ ∀ i, i < l.length → g l i = 0 := by
  rw [List.any_eq_false]
  constructor
  · intro h i hi
    have := h l[i] (List.getElem_mem _)
    rw [g_lt hi]
    simpa using this
  · intro h x hx
    obtain ⟨i, hi, rfl⟩ := List.mem_iff_getElem.mp hx
    have := h i hi
    rw [g_lt hi] at this
    simp [this]
theorem pos_of_sm {x : Vec} (h : 0 < sm cols x) : ∃ i, i < cols.length ∧ g x i ≠ 0 := by
  apply Classical.byContradiction
  intro no
  have : sm cols x = 0 := by
    show S cols.length (g x) = 0
    rw [S_congr (h := fun _ => 0) fun i hi => Classical.byContradiction fun q => no ⟨i, hi, q⟩]
    exact S_zero _
  omega
theorem sm_pos_of {x : Vec} (nn : ∀ i, 0 ≤ g x i) (nz : ∃ i, i < cols.length ∧ g x i ≠ 0) : 0 < sm cols x := by
  obtain ⟨i, hi, hn⟩ := nz
  have h1 := S_term (f := g x) (fun i _ => nn i) hi
  have h2 := nn i
  show 0 < S cols.length (g x)
  omega
theorem done_iff {k : Nat} {s : GSt} (U : Setup cols d many top ball) (L : LI cols d many top ball k s) (hk : 0 < k) (r : Vec) :
    r ∈ doneOf (isLet many top s.found) s.level ↔ Min cols d r ∧ inTop many top r = true ∧ sm cols r = k := by
  unfold doneOf
  constructor
  · intro h
    obtain ⟨p, hp, e⟩ := List.mem_map.mp h
    obtain ⟨hp, q⟩ := List.mem_filter.mp hp
    subst e
    have R := L.row p hp
    rw [Bool.and_eq_true, Bool.not_eq_true', any_nz, isLet_iff] at q
    obtain ⟨⟨q1, q2⟩, q3⟩ := q
    have hz : ∀ i, i < d → C cols p.1 i = 0 := fun i hi => by
      have := q3 i (by rw [R.tot, totOf_len]; exact hi)
      rw [R.tot, totOf_g hi] at this
      exact this
    have hs : Sol cols d p.1 := ⟨R.len, R.nn, pos_of_sm (by have := R.sm; omega), hz⟩
    refine ⟨⟨hs, fun y hy hl => ?_⟩, q1, R.sm⟩
    obtain ⟨s', hs', hsy⟩ := min_below hy
    have hsp := hsy.trans hl
    have l1 := sm_le (cols := cols) hsp
    have lsm := R.sm
    by_cases c : sm cols s' < k
    · have : s' ∈ s.found := (L.mem s').mpr ⟨hs', inTop_mono U.top U.many hs'.sol.len R.len hsp q1, c⟩
      have f := q2 s' this
      rw [(within_le (by rw [hs'.sol.len, R.len])).mpr hsp] at f
      cases f
    · have e : s' = p.1 := eq_of_le hs'.sol.len R.len hsp (by omega)
      have l2 := sm_le (cols := cols) hsy
      rw [e] at hsy l2
      exact eq_of_le hy.len R.len hl (by omega)
  · rintro ⟨hm, ht, hk'⟩
    obtain ⟨x, hx, hl⟩ := L.has r hm ht (by omega)
    obtain ⟨p, hp, e⟩ := List.mem_map.mp hx
    have R := L.row p hp
    have e2 : p.1 = r := by
      rw [← e] at hl
      exact eq_of_le R.len hm.sol.len hl (by have := R.sm; omega)
    refine List.mem_map.mpr ⟨p, List.mem_filter.mpr ⟨hp, ?_⟩, e2⟩
    rw [Bool.and_eq_true, Bool.not_eq_true', any_nz, isLet_iff, e2]
    refine ⟨⟨ht, fun o ho => ?_⟩, fun i hi => ?_⟩
    · obtain ⟨o1, o2, o3⟩ := (L.mem o).mp ho
      rw [Bool.eq_false_iff, Ne, within_le (by rw [o1.sol.len, hm.sol.len])]
      intro q
      have := hm.least o o1.sol q
      rw [this] at o3
      omega
    · rw [R.tot, totOf_len] at hi
      rw [R.tot, totOf_g hi, e2]
      exact hm.sol.eq i hi
theorem nodup_done {lt : Vec → Bool} {l : List (Vec × Vec)} (h : (l.map (·.1)).Nodup) : (doneOf lt l).Nodup := by
  unfold doneOf
  exact h.sublist (List.filter_sublist.map _)
theorem LI.step {k : Nat} {s : GSt} (U : Setup cols d many top ball) (L : LI cols d many top ball k s) (hk : 0 < k) : LI cols d many top ball (k + 1) (s.step cols many top) := by
  have hd := done_iff U L hk
  have mem' : ∀ r, r ∈ s.found ++ doneOf (isLet many top s.found) s.level ↔ Min cols d r ∧ inTop many top r = true ∧ sm cols r < (k + 1 : Nat) := fun r => by
    rw [List.mem_append, L.mem, hd]
    constructor
    · rintro (⟨a, b, c⟩ | ⟨a, b, c⟩)
      · exact ⟨a, b, by omega⟩
      · exact ⟨a, b, by omega⟩
    · rintro ⟨a, b, c⟩
      by_cases q : sm cols r < k
      · exact .inl ⟨a, b, q⟩
      · exact .inr ⟨a, b, by omega⟩
  -- a let row has no least solution in it
  have noSol : ∀ p ∈ s.level, isLet many top (s.found ++ doneOf (isLet many top s.found) s.level) p.1 = true → ∀ y, Sol cols d y → Le y p.1 → False := fun p hp hl y hy hle => by
    have R := L.row p hp
    obtain ⟨l1, l2⟩ := isLet_iff.mp hl
    obtain ⟨s', hs', hsy⟩ := min_below hy
    have hsp := hsy.trans hle
    have q := sm_le (cols := cols) hsp
    have := l2 s' ((mem' s').mpr ⟨hs', inTop_mono U.top U.many hs'.sol.len R.len hsp l1, by have := R.sm; omega⟩)
    rw [(within_le (by rw [hs'.sol.len, R.len])).mpr hsp] at this
    cases this
  refine ⟨fun p hp => ?_, laterOf_nodup (by simp), mem', ?_, fun r hm ht hr => ?_⟩
  · rcases laterOf_mem hp with z | ⟨q, hq, hl, j, c, hc, hneg, e⟩
    · simp at z
    · have R := L.row q hq
      have hj := lt_of_some hc
      have hcm : c ∈ cols := List.mem_of_getElem? hc
      obtain ⟨ys, Y⟩ := R.hist
      have hrl := raised_le (k := j) R.len hj
      subst e
      have tt : add q.2 c = totOf cols d (raised q.1 j) := by rw [totOf_raised R.len hc (U.len c hcm), R.tot]
      refine ⟨by show (raised q.1 j).length = _; rw [raised_len]; exact R.len, raised_nn R.len hj R.nn, ?_, tt, U.bs _ R.inB c hcm hneg, q.1 :: ys, ?_⟩
      · show CD.sm cols (raised q.1 j) = _
        rw [sm_raised R.len hj, R.sm]; omega
      · refine ⟨by rw [List.length_cons, Y.len], ?_, ?_, ?_, ?_, ?_, ?_⟩
        · intro y hy
          rcases List.mem_cons.mp hy with rfl | hy
          · exact R.len
          · exact Y.len' y hy
        · intro y hy
          rcases List.mem_cons.mp hy with rfl | hy
          · exact R.nn
          · exact Y.nn y hy
        · intro y hy
          rcases List.mem_cons.mp hy with rfl | hy
          · exact hrl
          · exact (Y.le y hy).trans hrl
        · intro y hy
          rcases List.mem_cons.mp hy with rfl | hy
          · have := R.sm; omega
          · have := Y.lt y hy; omega
        · intro y hy
          rcases List.mem_cons.mp hy with rfl | hy
          · rw [← R.tot]; exact R.inB
          · exact Y.inB y hy
        · rw [List.map_cons, List.nodup_cons]
          refine ⟨fun z => ?_, Y.nd⟩
          obtain ⟨y, hy, e⟩ := List.mem_map.mp z
          -- y and the row have the same total: their difference is a solution
          have hle := Y.le y hy
          have hlen : q.1.length = y.length := by rw [R.len, Y.len' y hy]
          have e0 : (List.zipWith (fun a b => a - b) q.1 y).length = cols.length := by rw [List.length_zipWith, R.len, Y.len' y hy, Nat.min_self]
          have eg : ∀ i, g (List.zipWith (fun a b => a - b) q.1 y) i = g q.1 i - g y i := fun i => by
            by_cases hi : i < cols.length
            · rw [g_lt (by omega), g_lt (by rw [R.len]; omega), g_lt (by rw [Y.len' y hy]; omega)]
              simp
            · have hy' := Y.len' y hy
              rw [g_ge (by omega), g_ge (by rw [R.len]; omega), g_ge (by omega)]
              rfl
          have esm : CD.sm cols (List.zipWith (fun a b => a - b) q.1 y) = CD.sm cols q.1 - CD.sm cols y := by
            unfold CD.sm
            rw [S_congr (h := fun i => g q.1 i - g y i) fun i _ => eg i, S_sub]
          have hlt := Y.lt y hy
          have hsm := R.sm
          refine noSol q hq hl (List.zipWith (fun a b => a - b) q.1 y) ⟨e0, fun i => ?_, pos_of_sm (by omega), fun i hi => ?_⟩ fun i => ?_
          · have := hle i
            rw [eg]; omega
          · unfold C
            rw [S_congr (h := fun j => g q.1 j * cj cols j i - g y j * cj cols j i) fun j _ => by rw [eg, Int.sub_mul], S_sub]
            have e1 : C cols y i = C cols q.1 i := by rw [← totOf_g hi, ← totOf_g hi, e]
            unfold C at e1
            omega
          · have := Y.nn y hy i
            rw [eg]; omega
  · show (s.found ++ doneOf (isLet many top s.found) s.level).Nodup
    rw [List.nodup_append]
    refine ⟨L.fnd, nodup_done L.nd, fun a ha b hb e => ?_⟩
    subst e
    have h1 := ((L.mem a).mp ha).2.2
    have h2 := ((hd a).mp hb).2.2
    omega
  · obtain ⟨x, hx, hl⟩ := L.has r hm ht (by omega)
    obtain ⟨p, hp, e⟩ := List.mem_map.mp hx
    have R := L.row p hp
    subst e
    have hsm := R.sm
    have hlet : isLet many top (s.found ++ doneOf (isLet many top s.found) s.level) p.1 = true := isLet_iff.mpr ⟨inTop_mono U.top U.many R.len hm.sol.len hl ht, fun o ho => by
      obtain ⟨o1, o2, o3⟩ := (mem' o).mp ho
      rw [Bool.eq_false_iff, Ne, within_le (by rw [o1.sol.len, R.len])]
      intro q
      have := hm.least o o1.sol (q.trans hl)
      rw [this] at o3
      omega⟩
    have nz : ∃ i, i < d ∧ C cols p.1 i ≠ 0 := by
      apply Classical.byContradiction
      intro no
      have hs : Sol cols d p.1 := ⟨R.len, R.nn, pos_of_sm (by omega), fun i hi => Classical.byContradiction fun q => no ⟨i, hi, q⟩⟩
      have := hm.least _ hs hl
      rw [this] at hsm
      omega
    obtain ⟨j, c, hc, hlt, hneg⟩ := descent U.len R.len hm.sol.len hl hm.sol.eq nz
    refine ⟨raised p.1 j, laterOf_has hp hlet hc (by rw [R.tot]; exact hneg), fun i => ?_⟩
    have := hl i
    rw [raised_g i (by rw [R.len]; exact lt_of_some hc)]
    split
    · rename_i e; subst e; omega
    · omega
theorem firstOf_get {none : Vec} : ∀ {cs : List Vec} {k : Nat} {p : Vec × Vec}, p ∈ firstOf none cs k ↔ ∃ j c, cs[j]? = some c ∧ p = (raised none (k + j), c)
  | [], k, p => by simp [firstOf]
  | c :: cs, k, p => by
    rw [firstOf, List.mem_cons, firstOf_get (cs := cs)]
    constructor
    · rintro (rfl | ⟨j, c', e1, e2⟩)
      · exact ⟨0, c, rfl, by simp⟩
      · exact ⟨j + 1, c', by simpa using e1, by rw [e2]; congr 2; omega⟩
    · rintro ⟨j, c', e1, e2⟩
      cases j with
      | zero =>
        have : c = c' := by simpa using e1
        subst this
        exact .inl (by rw [e2]; simp)
      | succ j => exact .inr ⟨j, c', by simpa using e1, by rw [e2]; congr 2; omega⟩
theorem nones_g (i : Nat) : g (cols.map fun _ => 0) i = 0 := by
  by_cases h : i < cols.length
  · rw [g_lt (by simpa using h)]; simp
  · rw [g_ge (by simpa using h)]
theorem firstOf_nodup : ∀ {cs : List Vec} {k : Nat}, k + cs.length ≤ cols.length → ((firstOf (cols.map fun _ => 0) cs k).map (·.1)).Nodup
  | [], _, _ => by simp [firstOf]
  | c :: cs, k, h => by
    rw [List.length_cons] at h
    rw [firstOf, List.map_cons, List.nodup_cons]
    refine ⟨fun z => ?_, firstOf_nodup (cs := cs) (by omega)⟩
    obtain ⟨p, hp, e⟩ := List.mem_map.mp z
    obtain ⟨j, c', e1, e2⟩ := firstOf_get.mp hp
    have hj := (List.getElem?_eq_some_iff.mp e1).1
    have e3 : g p.1 k = g (raised (cols.map fun _ => 0) k) k := by rw [e]
    rw [e2, raised_g k (by simp; omega), raised_g k (by simp; omega), if_neg (by omega), if_pos rfl] at e3
    omega
theorem LI.start (U : Setup cols d many top ball) : LI cols d many top ball 1 (GSt.start cols) := by
  have hlen : (cols.map fun _ => (0 : Int)).length = cols.length := by simp
  have Cz : ∀ i, C cols (cols.map fun _ => 0) i = 0 := fun i => by
    unfold C
    rw [S_congr (h := fun _ => 0) fun j _ => by rw [nones_g, Int.zero_mul]]
    exact S_zero _
  have smz : sm cols (cols.map fun _ => 0) = 0 := by
    show S _ _ = 0
    rw [S_congr (h := fun _ => 0) fun j _ => nones_g j]
    exact S_zero _
  refine ⟨fun p hp => ?_, firstOf_nodup (by simp), fun r => ?_, List.nodup_nil, fun r hm _ hr => ?_⟩
  · obtain ⟨j, c, e1, e2⟩ := firstOf_get.mp hp
    rw [Nat.zero_add] at e2
    subst e2
    have hj := lt_of_some e1
    have hcm : c ∈ cols := List.mem_of_getElem? e1
    refine ⟨by show (raised _ _).length = _; rw [raised_len]; exact hlen, raised_nn hlen hj fun i => by rw [nones_g]; exact Int.le_refl _, ?_, ?_, U.b0 c hcm, [], ⟨rfl, by simp, by simp, by simp, by simp, by simp, by simp⟩⟩
    · show CD.sm cols (raised _ _) = _
      rw [sm_raised hlen hj, smz]; rfl
    · rw [totOf_raised hlen e1 (U.len c hcm)]
      refine ext (by rw [add_len (by rw [totOf_len, U.len c hcm]), totOf_len, U.len c hcm]) fun i hi => ?_
      have hi : i < c.length := hi
      rw [U.len c hcm] at hi
      rw [add_g (by rw [totOf_len, U.len c hcm]), totOf_g hi, Cz]
      show g c i = _
      omega
  · constructor
    · intro h
      exact absurd h (by simp [GSt.start])
    · rintro ⟨a, _, c⟩
      have := sm_pos_of a.sol.nn a.sol.nz
      omega
  · obtain ⟨i, hi, hn⟩ := hm.sol.nz
    refine ⟨raised (cols.map fun _ => 0) i, List.mem_map.mpr ⟨(raised (cols.map fun _ => 0) i, cols[i]), firstOf_get.mpr ⟨i, cols[i], List.getElem?_eq_getElem hi, by simp⟩, rfl⟩, fun m => ?_⟩
    have := hm.sol.nn m
    rw [raised_g m (by simpa using hi), nones_g]
    split
    · rename_i e
      subst e
      omega
    · omega
theorem LI.iter (U : Setup cols d many top ball) : ∀ k, LI cols d many top ball (k + 1) (GSt.iter cols many top k)
  | 0 => LI.start U
  | k + 1 => (LI.iter U k).step U (by omega)
/-- a list without repetition within another one is not longer -/
theorem nodup_len {α : Type} [DecidableEq α] : ∀ {l m : List α}, l.Nodup → (∀ x ∈ l, x ∈ m) → l.length ≤ m.length
  | [], _, _, _ => Nat.zero_le _
  | a :: l, m, h, s => by
    rw [List.nodup_cons] at h
    have ha := s a List.mem_cons_self
    have := nodup_len (l := l) (m := m.erase a) h.2 fun x hx => by
      have hne : x ≠ a := fun e => h.1 (e ▸ hx)
      exact (List.mem_erase_of_ne hne).mpr (s x (List.mem_cons_of_mem _ hx))
    rw [List.length_erase_of_mem ha] at this
    have := List.length_pos_of_mem ha
    rw [List.length_cons]
    omega
theorem iter_empty (U : Setup cols d many top ball) {k : Nat} (h : ball.length ≤ k) : (GSt.iter cols many top (k + 1)).level = [] := by
  have L := LI.iter U (k + 1)
  apply Classical.byContradiction
  intro hn
  obtain ⟨p, hp⟩ := List.exists_mem_of_ne_nil _ hn
  obtain ⟨ys, Y⟩ := (L.row p hp).hist
  have h1 := Y.len
  have := nodup_len Y.nd (m := ball) fun x hx => by
    obtain ⟨y, hy, e⟩ := List.mem_map.mp hx
    exact e ▸ Y.inB y hy
  rw [List.length_map] at this
  omega
/-- what is found where a level is empty -/
theorem found_all (U : Setup cols d many top ball) {k : Nat} (h : (GSt.iter cols many top k).level = []) (r : Vec) :
    r ∈ (GSt.iter cols many top k).found ↔ Min cols d r ∧ inTop many top r = true := by
  have L := LI.iter U k
  rw [L.mem]
  constructor
  · exact fun ⟨a, b, _⟩ => ⟨a, b⟩
  · rintro ⟨a, b⟩
    refine ⟨a, b, ?_⟩
    by_cases q : sm cols r < (k + 1 : Nat)
    · exact q
    · obtain ⟨x, hx, _⟩ := L.has r a b (by omega)
      rw [h] at hx
      simp at hx
end
end CD
set_option maxHeartbeats 1000000
/-! The walk (4): columns; Growing's methods that change nothing. -/
namespace Em
open PySem PySem.Spec PyProof.Rows L2 RZ
section
variable {f : Fr} {pos : Pos}
/-- a for over typed data, the slots the same at each turn -/
theorem t1_for {pre : Pre} {α : Type} (xs : List α) {enc : α → Da} {E : En} {envA : α → En} (Ci : Nat → Cd) {vs : List Nat} {tg it : Expr} {body : List Stmt} {Rt : Rr} (hi : IT pre f E tg it (xs.map enc)) (ht : ∀ a ∈ xs, TGT f tg (enc a) E (envA a) vs)
    (hb : ∀ i a, xs[i]? = some a → Tr f (Pv (envA a) (Ci i)) body (Pv E (Ci (i + 1))) Rt) (hc : Sees f (Ci 0) := by exact Sees.nil rfl) (hfs : ∀ env x, foldedSetIterable it env x = pure x := by intro _ _; rfl) :
    Tr1 pre f (Pv E (Ci 0)) (.For tg it body [] pos) (Pv E (Ci xs.length)) Rt := by
  have h := t1_forP (pos := pos) (body := body) (Rt := Rt) (fun _ => E) (fun i => match xs[i]? with | some a => envA a | none => E) Ci hi (fun i d hd => by
    rw [List.getElem?_map] at hd
    cases hx : xs[i]? with
    | none => rw [hx] at hd; cases hd
    | some a => rw [hx] at hd; cases hd; exact ht a (List.mem_of_getElem? hx)) (fun i d hd => by
    rw [List.getElem?_map] at hd
    cases hx : xs[i]? with
    | none => rw [hx] at hd; cases hd
    | some a => exact hb i a hx) hc hfs
  rwa [List.length_map] at h
end
theorem take_map_succ {α β : Type} {f : α → β} {xs : List α} {i : Nat} {a : α} (h : xs[i]? = some a) : (xs.take (i + 1)).map f = (xs.take i).map f ++ [f a] := by
  rw [List.take_add_one, h, List.map_append]; rfl
section
variable {P : Program} {w : World} {K : PySem.W.Frag} {mg : Str → Option Value} {base : Heap}
def colAt (ps : Ps) (es : List Str) (j : Str) : Int := if prt ps j = j then cnt j es else cnt j es - cnt (prt ps j) es
def rColumn (K : PySem.W.Frag) : List Da → Da → Prop := fun ds d => ∃ ps bs n, Good ps bs ∧ (lk bs n).isSome = true ∧ ds = [Sh K ps bs, dS n] ∧ d = dLis (column ps bs n)
/-- len([kind for kind in es if kind == k]) -/
theorem cnt_fil (k : Str) (es : List Str) : dI (((es.filter fun e => decide (e = k)).map dS).length : Nat) = dI (cnt k es) := by unfold cnt; rw [List.length_map]
theorem c_column_of (M : Md K mg) : C8.Cal P w K mg base 2 "column_of" (spR (rColumn K)) [] := by
  refine cal_R M d_column_of ["sheet", "name", "ends", "found", "joint", "here", "partner", "kind"] ["sheet", "name"] (by simp [fn]) rfl (by decide +kernel) rfl rfl (fun _ _ _ _ _ _ us hl => match us, hl with | [_, _], _ => rfl) (by decide +kernel) (fun ds d ⟨_, _, _, _, _, h, _⟩ => by subst h; rfl) ?_
  rintro ds z F0 ⟨ps, bs, n, g, hn, rfl, rfl⟩
  obtain ⟨es, he⟩ := Option.isSome_iff_exists.mp hn
  have h3 := few_ok (g.endsLen he)
  refine tr_cons (t1_parL 2 3 (ex_meth (m_ends M) (ex_var 0) (ea_cons (ex_var 1) ea_nil) rfl ⟨ps, bs, _, _, rfl, he, rfl⟩) (hw := fun env he => by cases env; cases he; rfl)) (tr_ex fun l => ?_)
  refine tr_cons (t1_for (joints ps) (envA := fun j => [some (Sh K ps bs), some (dS n), some (gT es), some (.v (.ref l)), some (dS j), none, none, none]) (fun i => AccL l (fun _ F => F = F0) (((joints ps).take i).map fun j => dI (colAt ps es j))) (it_lst (ex_meth0 (m_joints M) (ex_var 0) rfl ⟨ps, bs, g, rfl, rfl⟩)) (fun j _ => tg_name 4) fun i j hj => ?_) ?_
  · obtain ⟨q, hq, _⟩ := joints_mem g (List.mem_of_getElem? hj)
    have sub : ∀ {y : Str}, colAt ps es j = if prt ps j = j then cnt j es else cnt j es - cnt (prt ps j) es := fun {_} => rfl
    refine tr_cons (t1_set 5 (EX.cast (ex_lenL (ex_fil es [("kind", 7)] (it_tup (ex_var 2)) h3 (fun e _ => tg_name 7) (fun e _ => et_eqS (ex_var 7) (ex_var 4)) (fun e _ _ => ex_var 7)) (M.free "len")) (cnt_fil ..))) ?_
    refine tr_cons (t1_set 6 (ex_meth (m_partner M) (ex_var 0) (ea_cons (ex_var 4) ea_nil) rfl ⟨ps, bs, _, _, rfl, hq, rfl⟩)) ?_
    refine tr_cons (t1_app 3 (d := dI (colAt ps es j)) (ex_if (et_eqS (ex_var 6) (ex_var 4)) (fun h => EX.cast (ex_var 5) (by unfold colAt; rw [prt_of hq, if_pos (of_decide_eq_true h)])) fun h => EX.cast (ex_sub (ex_var 5) (EX.cast (ex_lenL (ex_fil es [("kind", 7)] (it_tup (ex_var 2)) h3 (fun e _ => tg_name 7) (fun e _ => et_eqS (ex_var 7) (ex_var 6)) (fun e _ _ => ex_var 7)) (M.free "len")) (cnt_fil ..))) (by unfold colAt; rw [prt_of hq, if_neg (of_decide_eq_false h)])) (hl := by rw [List.length_map, List.length_take]; have := joints_len g; omega)) ?_
    refine tr_nil fun S F σ h => ?_
    rw [take_map_succ hj]
    exact h.forget [4, 5, 6]
  · refine tr_tellL 3 rfl (tr_one (t1_ret (EX.cast (ex_var 3) ?_)))
    unfold dLis column
    rw [List.take_length, List.map_map, ends_of he]; rfl
end
end Em
set_option maxHeartbeats 1000000
/-! The walk (5): columns_of; Growing's methods that change nothing. -/
namespace Em
open PySem PySem.Spec PyProof.Rows L2 RZ
def slackAt (ps : Ps) (j : Str × Nat) : List (List Int) := if prt ps j.1 = j.1 then [(List.range (joints ps).length).map fun i => if j.2 = i then -2 else 0] else []
theorem slacks_eq (ps : Ps) : slacks ps = (joints ps).zipIdx.flatMap (slackAt ps) := by
  unfold slacks
  generalize (joints ps).zipIdx = l
  induction l with
  | nil => rfl
  | cons a l ih =>
    rw [List.flatMap_cons, List.filter_cons, ← ih]
    unfold slackAt
    by_cases h : prt ps a.1 = a.1
    · rw [if_pos h, if_pos (by simpa using h)]; rfl
    · rw [if_neg h, if_neg (by simpa using h)]; rfl
theorem columns_len {ps : Ps} {bs : Bs} (g : Good ps bs) : (columns ps bs).length ≤ 7 := by
  unfold columns slacks
  rw [List.length_append, List.length_map, List.length_map]
  have h1 := g.fewB
  have h2 := joints_len g
  have h3 := List.length_filter_le (fun j : Str × Nat => decide (prt ps j.1 = j.1)) (joints ps).zipIdx
  rw [List.length_zipIdx] at h3
  omega
section
variable {P : Program} {w : World} {K : PySem.W.Frag} {mg : Str → Option Value} {base : Heap}
def dCols (cols : List (List Int)) : Da := .lst (cols.map dLis)
def rColumns (K : PySem.W.Frag) : List Da → Da → Prop := fun ds d => ∃ ps bs, Good ps bs ∧ ds = [Sh K ps bs] ∧ d = dCols (columns ps bs)
theorem c_columns_of (M : Md K mg) : C8.Cal P w K mg base 3 "columns_of" (spR (rColumns K)) [] := by
  refine cal_R M d_columns_of ["sheet", "found", "at", "joint", "name", "place"] ["sheet"] (by simp [fn]) rfl (by decide +kernel) rfl rfl (fun _ _ _ _ _ _ us hl => match us, hl with | [_], _ => rfl) (by decide +kernel) (fun ds d ⟨_, _, _, h, _⟩ => by subst h; rfl) ?_
  rintro ds z F0 ⟨ps, bs, g, rfl, rfl⟩
  refine tr_cons (t1_lock (sel := selF 0 "_blocks") (t1_setLcO 1 bs (b := fun _ => true) (r := fun b => dLis (column ps bs b.1)) [("name", 4)] (.cast (it_own 0 (own_sheet M)) (keysD_dD gT bs)) (few_ok g.fewB) (fun b _ => tg_name 4) (fun b _ => ef_nil) (fun b hb _ => ex_call (c_column_of M) (ea_cons (ex_var 0) (ea_cons (ex_var 4) ea_nil)) ⟨ps, bs, _, g, by rw [g.lkB hb]; rfl, rfl, rfl⟩)) (fun S F σ hp => own_lock 0 rfl rfl S σ hp.1)) (tr_ex fun l => ?_)
  rw [show filtered (fun _ => true) (fun b : Str × List Str => dLis (column ps bs b.1)) bs = bs.map fun b => dLis (column ps bs b.1) from by unfold filtered; rw [List.filter_eq_self.mpr (fun _ _ => rfl)]]
  have hj := joints_len g
  refine tr_pre (Q := Pv [some (Sh K ps bs), some (.v (.ref l)), none, none, none, none] (AccL l (fun _ F => F = F0) ((bs.map fun b => dLis (column ps bs b.1)) ++ (((joints ps).zipIdx.take 0).flatMap (slackAt ps)).map dLis))) ?_ (fun S F σ h => by
    rw [show ((bs.map fun b => dLis (column ps bs b.1)) ++ (((joints ps).zipIdx.take 0).flatMap (slackAt ps)).map dLis) = bs.map fun b => dLis (column ps bs b.1) from by simp]
    exact h)
  refine tr_cons (t1_for (joints ps).zipIdx (envA := fun j => [some (Sh K ps bs), some (.v (.ref l)), some (dI (j.2 : Nat)), some (dS j.1), none, none]) (fun i => AccL l (fun _ F => F = F0) ((bs.map fun b => dLis (column ps bs b.1)) ++ (((joints ps).zipIdx.take i).flatMap (slackAt ps)).map dLis)) (.cast (it_enumL (ex_meth0 (m_joints M) (ex_var 0) rfl ⟨ps, bs, g, rfl, rfl⟩) (M.free "enumerate")) (enumD_map ..)) (fun j _ => tg_two 2 3) fun i j hij => ?_) ?_
  · have hjm : j.1 ∈ joints ps := by
      have := List.mem_of_getElem? hij
      exact (List.mem_zipIdx_iff_getElem?.mp (show (j.1, j.2) ∈ _ from this)) |> List.mem_of_getElem?
    obtain ⟨q, hq, _⟩ := joints_mem g hjm
    have hl0 : (((bs.map fun b => dLis (column ps bs b.1)) ++ (((joints ps).zipIdx.take i).flatMap (slackAt ps)).map dLis)).length ≤ 100 := by
      have h1 := columns_len g
      unfold columns at h1
      rw [slacks_eq, List.length_append, List.length_map] at h1
      rw [List.length_append, List.length_map, List.length_map]
      have h2 : (((joints ps).zipIdx.take i).flatMap (slackAt ps)).length ≤ ((joints ps).zipIdx.flatMap (slackAt ps)).length := by
        rw [← List.take_append_drop i (joints ps).zipIdx]
        simp only [List.take_append_drop]
        conv => rhs; rw [← List.take_append_drop i (joints ps).zipIdx, List.flatMap_append, List.length_append]
        exact Nat.le_add_right _ _
      omega
    have step : (((joints ps).zipIdx.take (i + 1)).flatMap (slackAt ps)).map dLis = (((joints ps).zipIdx.take i).flatMap (slackAt ps)).map dLis ++ (slackAt ps j).map dLis := by
      rw [List.take_add_one, hij, List.flatMap_append, List.map_append]; simp
    rw [step, ← List.append_assoc]
    by_cases hqj : q = j.1
    · have e1 : slackAt ps j = [(List.range (joints ps).length).map fun i => if j.2 = i then -2 else 0] := by unfold slackAt; rw [prt_of hq, if_pos hqj]
      rw [e1]
      refine tr_one (t1_if (x := true) (ET.cast (et_eqS (ex_meth (m_partner M) (ex_var 0) (ea_cons (ex_var 3) ea_nil) rfl ⟨ps, bs, _, _, rfl, hq, rfl⟩) (ex_var 3)) (decide_eq_true hqj)) (fun _ => ?_) fun h => nomatch h)
      refine tr_cons (t1_app 1 (d := dLis ((List.range (joints ps).length).map fun i => if j.2 = i then -2 else 0)) (EX.cast (ex_map (List.range (joints ps).length) (r := fun i => dI (if j.2 = i then -2 else 0)) [("place", 5)] (it_rng (EX.cast (ex_lenL (ex_meth0 (m_joints M) (ex_var 0) rfl ⟨ps, bs, g, rfl, rfl⟩) (M.free "len")) (by rw [List.length_map])) (M.free "range") (by omega)) (by rw [List.length_range]; exact few_ok hj) (fun i _ => tg_name 5) (fun i _ => ex_if (et_eqI (ex_var 2) (ex_var 5)) (fun h => EX.cast (ex_neg ex_int) (by rw [if_pos (by have := of_decide_eq_true h; omega)])) fun h => EX.cast ex_int (by rw [if_neg (by have := of_decide_eq_false h; omega)]))) (by unfold dLis; rw [List.map_map]; rfl)) (hl := by omega)) ?_
      exact tr_nil fun S F σ h => h.forget [2, 3]
    · have e1 : slackAt ps j = [] := by unfold slackAt; rw [prt_of hq, if_neg hqj]
      rw [e1]
      refine tr_one (t1_if (x := false) (ET.cast (et_eqS (ex_meth (m_partner M) (ex_var 0) (ea_cons (ex_var 3) ea_nil) rfl ⟨ps, bs, _, _, rfl, hq, rfl⟩) (ex_var 3)) (decide_eq_false hqj)) (fun h => nomatch h) fun _ => ?_)
      exact tr_nil fun S F σ h => by rw [List.map_nil, List.append_nil]; exact h.forget [2, 3]
  · refine tr_tellL 1 rfl (tr_one (t1_ret (EX.cast (ex_var 1) ?_)))
    unfold dCols columns
    rw [slacks_eq, List.map_append, List.map_map, List.take_length]; rfl
end
end Em
set_option maxHeartbeats 1000000
/-! The walk (6): Growing's methods that change nothing. -/
namespace Em
open PySem PySem.Spec PyProof.Rows L2 RZ
abbrev cG (K : PySem.W.Frag) : Addr := He.ga K "Growing"
def dTop : Option (List Int) → Da
  | none => dN
  | some t => dRow t
def dGrow (K : PySem.W.Frag) (cols : List (List Int)) (many : Nat) (top : Option (List Int)) (found : List (List Int)) : Da := .ins (cG K) [("columns", dCols cols), ("many", dI many), ("top", dTop top), ("found", .lst (found.map dRow))]
section
variable {f : Fr} {env : En} {pos : Pos} {cols : List (List Int)} {many : Nat} {top : Option (List Int)} {found : List (List Int)} {o : Expr}
theorem ex_gcols (M : Md f.K f.mg) (h : EX f env o (dGrow f.K cols many top found)) (hb : ∀ env, attributeBase o "columns" env (eval o env) = eval o env := by intro _; rfl) : EX f env (.Attribute o "columns" pos) (dCols cols) := ex_fld h rfl (M.cls "Growing") (M.noat "Growing" "columns") hb
theorem ex_gmany (M : Md f.K f.mg) (h : EX f env o (dGrow f.K cols many top found)) (hb : ∀ env, attributeBase o "many" env (eval o env) = eval o env := by intro _; rfl) : EX f env (.Attribute o "many" pos) (dI many) := ex_fld h rfl (M.cls "Growing") (M.noat "Growing" "many") hb
theorem ex_gtop (M : Md f.K f.mg) (h : EX f env o (dGrow f.K cols many top found)) (hb : ∀ env, attributeBase o "top" env (eval o env) = eval o env := by intro _; rfl) : EX f env (.Attribute o "top" pos) (dTop top) := ex_fld h rfl (M.cls "Growing") (M.noat "Growing" "top") hb
theorem ex_gfound (M : Md f.K f.mg) (h : EX f env o (dGrow f.K cols many top found)) (hb : ∀ env, attributeBase o "found" env (eval o env) = eval o env := by intro _; rfl) : EX f env (.Attribute o "found" pos) (.lst (found.map dRow)) := ex_fld h rfl (M.cls "Growing") (M.noat "Growing" "found") hb
theorem od_notNon : OD f (compareOp .IsNot) dN dN (dB false) := .of _ (fun X _ => op_notN) fun S F H vx vy hp hs rx ry Q k => by
  obtain rfl := rx.v_inv; obtain rfl := ry.v_inv; exact ⟨rfl, k.here hs (.v _)⟩
theorem od_notTup {xs : List Da} : OD f (compareOp .IsNot) (.tup xs) dN (dB true) := .of _ (fun X _ => op_notN) fun S F H vx vy hp hs rx ry Q k => by
  obtain ⟨a, vs, rfl, _, _⟩ := rx.tup_inv; obtain rfl := ry.v_inv; exact ⟨rfl, k.here hs (.v _)⟩
theorem od_notTop : OD f (compareOp .IsNot) (dTop top) dN (dB top.isSome) := by
  cases top with
  | none => exact od_notNon
  | some t => exact od_notTup
end
theorem within_zip (a b : List Int) : ((a.zip b).all fun p => decide (p.1 ≤ p.2)) = CD.within a b := by
  unfold CD.within
  induction a generalizing b with
  | nil => rfl
  | cons x a ih => cases b with
    | nil => rfl
    | cons y b => simp only [List.zip_cons_cons, List.all_cons, List.zipWith_cons_cons, id]; rw [ih]
theorem prod_zip (a b : List Int) : ((a.zip b).map fun p => p.1 * p.2).sum = CD.prod a b := by
  unfold CD.prod
  induction a generalizing b with
  | nil => rfl
  | cons x a ih => cases b with
    | nil => rfl
    | cons y b => simp only [List.zip_cons_cons, List.map_cons, List.sum_cons, List.zipWith_cons_cons]; rw [ih]
theorem add_zip (a b : List Int) : ((a.zip b).map fun p => p.1 + p.2) = CD.add a b := by
  unfold CD.add
  induction a generalizing b with
  | nil => rfl
  | cons x a ih => cases b with
    | nil => rfl
    | cons y b => simp only [List.zip_cons_cons, List.map_cons, List.zipWith_cons_cons]; rw [ih]
section
variable {P : Program} {w : World} {K : PySem.W.Frag} {mg : Str → Option Value} {base : Heap}
theorem raised_zip (row : List Int) (k : Nat) : (row.zipIdx.map fun p => if (k : Int) = (p.2 : Nat) then p.1 + 1 else p.1) = CD.raised row k := by
  unfold CD.raised
  refine List.ext_getElem (by simp) fun i h1 h2 => ?_
  simp
  split <;> split <;> omega
def rRaised (K : PySem.W.Frag) : List Da → Da → Prop := fun ds d => ∃ cols many top found row k, ds = [dGrow K cols many top found, dRow row, dI (k : Nat)] ∧ row.length ≤ 1000 ∧ d = dRow (CD.raised row k)
theorem m_raised (M : Md K mg) : C8.Met P w K mg base 1 (cG K) "raised" (spR (rRaised K)) [] := by
  refine met_R M d_Growing_raised ["self", "row", "at", "place", "number"] ["self", "row", "at"] (by simp [fn]) rfl (by decide +kernel) (by decide +kernel) rfl rfl (fun _ _ _ _ _ _ us hl => match us, hl with | [_, _, _], _ => rfl) (by decide +kernel) (fun ds d ⟨_, _, _, _, _, _, h, _⟩ => by subst h; rfl) ?_
  rintro ds z F0 ⟨cols, many, top, found, row, k, rfl, hl, rfl⟩
  refine tr_one (t1_ret (EX.cast (ex_tuple (ex_map row.zipIdx (r := fun p => dI (if (k : Int) = (p.2 : Nat) then p.1 + 1 else p.1)) [("place", 3), ("number", 4)] (.cast (it_enumT (ex_var 1) (M.free "enumerate")) (enumD_map dI row 0)) (by rw [List.length_zipIdx]; omega) (fun p _ => tg_two 3 4) (fun p _ => ex_if (et_eqI (ex_var 2) (ex_var 3)) (fun h => EX.cast (ex_add (ex_var 4) ex_int) (by rw [if_pos (of_decide_eq_true h)])) fun h => EX.cast (ex_var 4) (by rw [if_neg (of_decide_eq_false h)]))) (M.free "tuple")) ?_))
  unfold dRow
  rw [← raised_zip, List.map_map]; rfl
/-- what a Growing is while it works -/
structure GrOk (many : Nat) (top : Option (List Int)) (found : List (List Int)) (row : List Int) : Prop where
  rowL : row.length ≤ 100
  topL : ∀ t, top = some t → t.length ≤ 100
  foundL : ∀ o ∈ found, o.length ≤ 100
  few : found.length ≤ 10000000
def rIsLet (K : PySem.W.Frag) : List Da → Da → Prop := fun ds d => ∃ cols many top found row, GrOk many top found row ∧ ds = [dGrow K cols many top found, dRow row] ∧ d = dB (CD.isLet many top found row)
theorem m_is_let (M : Md K mg) : C8.Met P w K mg base 2 (cG K) "is_let" (spR (rIsLet K)) [] := by
  refine met_R M d_Growing_is_let ["self", "row", "other"] ["self", "row"] (by simp [fn]) rfl (by decide +kernel) (by decide +kernel) rfl rfl (fun _ _ _ _ _ _ us hl => match us, hl with | [_, _], _ => rfl) (by decide +kernel) (fun ds d ⟨_, _, _, _, _, _, h, _⟩ => by subst h; rfl) ?_
  rintro ds z F0 ⟨cols, many, top, found, row, ok, rfl, rfl⟩
  have ret : ∀ {Nx : Pr}, CD.inTop many top row = true → Tr ⟨P, w, K, mg, base, ["self", "row", "other"], d_Growing_is_let.scope, 1, [], fun _ => true, none⟩ (Pv (startE ["self", "row", "other"] [dGrow K cols many top found, dRow row]) fun _ F => F = F0) [d_Growing_is_let.body.getD 1 (.Pass ⟨0, 0, 0, 0⟩)] Nx (Rv (dB (CD.isLet many top found row)) fun _ F => F = F0) := fun h => by
    refine tr_one (t1_ret (EX.cast (ex_not (ex_any (r := fun o => CD.within o row) (ex_map found [("other", 2)] (it_lst (ex_gfound M (ex_var 0))) (few_ok ok.few) (fun o _ => tg_name 2) (fun o ho => EX.cast (ex_call (c_within M) (ea_cons (ex_var 2) (ea_cons (ex_var 1) ea_nil)) ⟨o, row, rfl, rfl, Nat.le_trans (ok.foundL o ho) (by decide)⟩) (by rw [within_zip]))) (M.free "any"))) ?_))
    have e : CD.isLet many top found row = (CD.inTop many top row && !found.any fun o => CD.within o row) := by unfold CD.isLet CD.inTop; rfl
    rw [e, h, Bool.true_and]
  have test : ET ⟨P, w, K, mg, base, ["self", "row", "other"], d_Growing_is_let.scope, 1, [], fun _ => true, none⟩ (startE ["self", "row", "other"] [dGrow K cols many top found, dRow row]) (match d_Growing_is_let.body.getD 0 (.Pass ⟨0, 0, 0, 0⟩) with | .If c _ _ _ => c | _ => .Constant .none 0 ⟨0, 0, 0, 0⟩) (!CD.inTop many top row) := by
    refine ET.cast (et_w (ew_and (et_cmp od_notTop (ex_gtop M (ex_var 0)) ex_non) fun h => ew_and1 (et_not (et_val (b := CD.inTop many top row) ?_)))) ?_
    · cases top with
      | none => cases h
      | some t => exact EX.cast (ex_call (c_within M) (ea_cons (ex_slT (xs := row.map dI) (ex_var 1) (ex_gmany M (ex_var 0))) (ea_cons (ex_gtop M (ex_var 0)) ea_nil)) ⟨row.take many, t, by simp [dRow, dTop, List.map_take], rfl, by rw [List.length_take]; have := ok.rowL; omega⟩) (by rw [within_zip]; rfl)
    · cases top with
      | none => rfl
      | some t => rfl
  cases hT : CD.inTop many top row with
  | false =>
    rw [hT] at test
    refine tr_cons (Mid := none_) (t1_if (x := true) test (fun _ => tr_one (t1_ret (EX.cast ex_bl ?_))) fun h => nomatch h) tr_no
    have e : CD.isLet many top found row = (CD.inTop many top row && !found.any fun o => CD.within o row) := by unfold CD.isLet CD.inTop; rfl
    rw [e, hT]; rfl
  | true =>
    rw [hT] at test
    exact tr_cons (t1_if (x := false) test (fun h => nomatch h) fun _ => tr_nil fun _ _ _ h => h) (ret hT)
end
end Em
set_option maxHeartbeats 2000000
/-! Least closings: block amounts with slacks. -/
namespace CD
theorem S_append (a b : Nat) (f : Nat → Int) : S (a + b) f = S a f + S b (fun i => f (a + i)) := by
  induction b with
  | zero => simp [S]
  | succ b ih => rw [← Nat.add_assoc, S, ih, S]; omega
def slackCol (d i : Nat) : Vec := (List.range d).map fun k => if i = k then -2 else 0
theorem slackCol_g {d i k : Nat} (h : i < d) : g (slackCol d i) k = if i = k then -2 else 0 := by
  by_cases hk : k < d
  · rw [g_lt (by simpa [slackCol] using hk)]
    simp [slackCol]
  · rw [g_ge (by simp [slackCol]; omega), if_neg (by omega)]
def colsOf (cb : List Vec) (ow : List Nat) (d : Nat) : List Vec := cb ++ ow.map (slackCol d)
structure Cfg (cb : List Vec) (ow : List Nat) (d : Nat) : Prop where
  len : ∀ c ∈ cb, c.length = d
  lt : ∀ i ∈ ow, i < d
  nd : ow.Nodup
  pos : ∀ c ∈ cb, ∀ i ∈ ow, 0 ≤ g c i
def bal (cb : List Vec) (ow : List Nat) (d : Nat) (row : Vec) : Prop := ∀ i, i < d → if i ∈ ow then C cb row i % 2 = 0 else C cb row i = 0
def ext_ (cb : List Vec) (ow : List Nat) (row : Vec) : Vec := row ++ ow.map fun i => C cb row i / 2
/-- nonnegative block amounts other than 0 that have a whole piecing -/
structure Clo (cb : List Vec) (ow : List Nat) (d : Nat) (row : Vec) : Prop where
  len : row.length = cb.length
  nn : ∀ i, 0 ≤ g row i
  nz : ∃ i, i < cb.length ∧ g row i ≠ 0
  bal : bal cb ow d row
structure Least (cb : List Vec) (ow : List Nat) (d : Nat) (row : Vec) : Prop where
  clo : Clo cb ow d row
  least : ∀ y, Clo cb ow d y → Le y row → y = row
section
variable {cb : List Vec} {ow : List Nat} {d : Nat}
theorem colsOf_len : (colsOf cb ow d).length = cb.length + ow.length := by simp [colsOf]
theorem cj_lo {j i : Nat} (h : j < cb.length) : cj (colsOf cb ow d) j i = cj cb j i := by
  unfold cj colsOf
  rw [List.getD_eq_getElem?_getD, List.getD_eq_getElem?_getD, List.getElem?_append_left h]
theorem cj_hi (K : Cfg cb ow d) {s i : Nat} (h : s < ow.length) : cj (colsOf cb ow d) (cb.length + s) i = if ow[s] = i then -2 else 0 := by
  unfold cj colsOf
  rw [List.getD_eq_getElem?_getD, List.getElem?_append_right (by omega), Nat.add_sub_cancel_left, List.getElem?_map, List.getElem?_eq_getElem h]
  exact slackCol_g (K.lt _ (List.getElem_mem h))
theorem C_split (x : Vec) (i : Nat) : C (colsOf cb ow d) x i = C cb x i + S ow.length (fun s => g x (cb.length + s) * cj (colsOf cb ow d) (cb.length + s) i) := by
  unfold C
  rw [colsOf_len, S_append]
  congr 1
  exact S_congr fun j hj => by rw [cj_lo hj]
theorem C_congr {cols : List Vec} {x y : Vec} (h : ∀ i, i < cols.length → g x i = g y i) (i : Nat) : C cols x i = C cols y i := by
  unfold C
  exact S_congr fun j hj => by rw [h j hj]
theorem C_take {x : Vec} (i : Nat) : C cb (x.take cb.length) i = C cb x i := C_congr (fun j hj => by rw [g_take, if_pos hj]) i
theorem slack_in (K : Cfg cb ow d) {x : Vec} {s : Nat} (h : s < ow.length) : S ow.length (fun t => g x (cb.length + t) * cj (colsOf cb ow d) (cb.length + t) ow[s]) = -2 * g x (cb.length + s) := by
  rw [S_congr (h := fun t => (if s = t then 1 else 0) * (-2 * g x (cb.length + t))) fun t ht => ?_]
  · exact S_unit _ h
  · rw [cj_hi K ht]
    by_cases e : s = t
    · subst e; rw [if_pos rfl, if_pos rfl]; omega
    · rw [if_neg (fun q => e ((List.getElem_inj K.nd).mp q).symm), if_neg e]; omega
theorem slack_out (K : Cfg cb ow d) {x : Vec} {i : Nat} (h : i ∉ ow) : S ow.length (fun t => g x (cb.length + t) * cj (colsOf cb ow d) (cb.length + t) i) = 0 := by
  rw [S_congr (h := fun _ => 0) fun t ht => ?_]
  · exact S_zero _
  · have q : ¬ ow[t] = i := fun q => h (q ▸ List.getElem_mem ht)
    rw [cj_hi K ht, if_neg q, Int.mul_zero]
theorem ext_len {row : Vec} (h : row.length = cb.length) : (ext_ cb ow row).length = (colsOf cb ow d).length := by
  rw [colsOf_len]; simp [ext_, h]
theorem ext_lo {row : Vec} (h : row.length = cb.length) {i : Nat} (hi : i < cb.length) : g (ext_ cb ow row) i = g row i := by
  unfold g ext_
  rw [List.getD_eq_getElem?_getD, List.getD_eq_getElem?_getD, List.getElem?_append_left (by omega)]
theorem ext_hi {row : Vec} (h : row.length = cb.length) {s : Nat} (hs : s < ow.length) : g (ext_ cb ow row) (cb.length + s) = C cb row ow[s] / 2 := by
  unfold g ext_
  rw [List.getD_eq_getElem?_getD, List.getElem?_append_right (by omega), h, Nat.add_sub_cancel_left, List.getElem?_map, List.getElem?_eq_getElem hs]
  rfl
theorem ext_take {row : Vec} (h : row.length = cb.length) : (ext_ cb ow row).take cb.length = row := by
  unfold ext_
  rw [← h, List.take_left']
  rfl
theorem C_ext {row : Vec} (h : row.length = cb.length) (i : Nat) : C cb (ext_ cb ow row) i = C cb row i := C_congr (fun j hj => ext_lo h hj) i
theorem cj_nn (K : Cfg cb ow d) {i : Nat} (h : i ∈ ow) {j : Nat} (hj : j < cb.length) : 0 ≤ cj cb j i := by
  rw [cj_of (List.getElem?_eq_getElem hj)]
  exact K.pos _ (List.getElem_mem hj) i h
theorem C_mono (K : Cfg cb ow d) {i : Nat} (h : i ∈ ow) {x y : Vec} (hl : Le x y) : C cb x i ≤ C cb y i := by
  unfold C
  refine S_le fun j hj => ?_
  have h1 := cj_nn K h hj
  have h2 := Int.mul_le_mul_of_nonneg_right (hl j) h1
  exact h2
theorem C_nn (K : Cfg cb ow d) {i : Nat} (h : i ∈ ow) {x : Vec} (hn : ∀ j, 0 ≤ g x j) : 0 ≤ C cb x i :=
  S_nonneg fun j hj => Int.mul_nonneg (hn j) (cj_nn K h hj)
theorem clo_sol (K : Cfg cb ow d) {row : Vec} (c : Clo cb ow d row) : Sol (colsOf cb ow d) d (ext_ cb ow row) where
  len := ext_len c.len
  nn := fun i => by
    by_cases h : i < cb.length
    · rw [ext_lo c.len h]; exact c.nn i
    · by_cases h2 : i - cb.length < ow.length
      · rw [show i = cb.length + (i - cb.length) by omega, ext_hi c.len h2]
        have := C_nn K (List.getElem_mem h2) c.nn
        omega
      · rw [g_ge (by rw [ext_len (d := d) c.len, colsOf_len]; omega)]
        exact Int.le_refl _
  nz := by
    obtain ⟨i, hi, hn⟩ := c.nz
    exact ⟨i, by rw [colsOf_len]; omega, by rw [ext_lo c.len hi]; exact hn⟩
  eq := fun i hi => by
    have hb := c.bal i hi
    rw [C_split, C_ext c.len]
    by_cases h : i ∈ ow
    · rw [if_pos h] at hb
      obtain ⟨s, hs, rfl⟩ := List.mem_iff_getElem.mp h
      rw [slack_in K hs, ext_hi c.len hs]
      omega
    · rw [if_neg h] at hb
      rw [slack_out K h, hb]; rfl
theorem sol_clo (K : Cfg cb ow d) {x : Vec} (s : Sol (colsOf cb ow d) d x) : Clo cb ow d (x.take cb.length) ∧ x = ext_ cb ow (x.take cb.length) := by
  have hl : (x.take cb.length).length = cb.length := by
    rw [List.length_take, s.len, colsOf_len]; omega
  have hin : ∀ s', (hs : s' < ow.length) → C cb x ow[s'] = 2 * g x (cb.length + s') := fun s' hs => by
    have := s.eq ow[s'] (K.lt _ (List.getElem_mem hs))
    rw [C_split, slack_in K hs] at this
    omega
  have e : x = ext_ cb ow (x.take cb.length) := by
    refine ext (by rw [s.len, ext_len hl]) fun i hi => ?_
    rw [s.len, colsOf_len] at hi
    by_cases h : i < cb.length
    · rw [ext_lo hl h, g_take, if_pos h]
    · have h2 : i - cb.length < ow.length := by omega
      have : i = cb.length + (i - cb.length) := by omega
      rw [this, ext_hi hl h2, C_take, hin _ h2]
      omega
  have nn' : ∀ i, 0 ≤ g (x.take cb.length) i := fun i => by
    rw [g_take]; split
    · exact s.nn i
    · exact Int.le_refl _
  refine ⟨⟨hl, nn', ?_, fun i hi => ?_⟩, e⟩
  · apply Classical.byContradiction
    intro no
    have hz : ∀ i, i < cb.length → g x i = 0 := fun i hi => Classical.byContradiction fun q => no ⟨i, hi, by rw [g_take, if_pos hi]; exact q⟩
    obtain ⟨i, hi, hn⟩ := s.nz
    rw [colsOf_len] at hi
    have h : ¬ i < cb.length := fun q => hn (hz i q)
    have h2 : i - cb.length < ow.length := by omega
    have e2 : i = cb.length + (i - cb.length) := by omega
    have h3 := hin _ h2
    have h4 : C cb x ow[i - cb.length] = 0 := by
      unfold C
      rw [S_congr (h := fun _ => 0) fun j hj => by rw [hz j hj, Int.zero_mul]]
      exact S_zero _
    rw [← e2] at h3
    omega
  · rw [C_take]
    have h1 := s.eq i hi
    rw [C_split] at h1
    by_cases h : i ∈ ow
    · rw [if_pos h]
      obtain ⟨s', hs, rfl⟩ := List.mem_iff_getElem.mp h
      rw [hin s' hs]; omega
    · rw [if_neg h]
      rw [slack_out K h] at h1; omega
theorem ext_le (K : Cfg cb ow d) {x y : Vec} (hx : x.length = cb.length) (hy : y.length = cb.length) (h : Le x y) : Le (ext_ cb ow x) (ext_ cb ow y) := fun i => by
  by_cases hi : i < cb.length
  · rw [ext_lo hx hi, ext_lo hy hi]; exact h i
  · by_cases h2 : i - cb.length < ow.length
    · have e2 : i = cb.length + (i - cb.length) := by omega
      rw [e2, ext_hi hx h2, ext_hi hy h2]
      have := C_mono K (List.getElem_mem h2) h
      omega
    · rw [g_ge (by rw [ext_len (d := d) hx, colsOf_len]; omega), g_ge (by rw [ext_len (d := d) hy, colsOf_len]; omega)]
      exact Int.le_refl _
theorem take_le {x y : Vec} (k : Nat) (h : Le x y) : Le (x.take k) (y.take k) := fun i => by
  rw [g_take, g_take]; split
  · exact h i
  · exact Int.le_refl _
theorem min_least (K : Cfg cb ow d) {x : Vec} : Min (colsOf cb ow d) d x ↔ Least cb ow d (x.take cb.length) ∧ x = ext_ cb ow (x.take cb.length) := by
  constructor
  · intro m
    obtain ⟨c, e⟩ := sol_clo K m.sol
    refine ⟨⟨c, fun y hy hl => ?_⟩, e⟩
    have h1 := ext_le K hy.len c.len hl
    rw [← e] at h1
    have := m.least _ (clo_sol K hy) h1
    rw [← this, ext_take hy.len]
  · rintro ⟨l, e⟩
    refine ⟨by rw [e]; exact clo_sol K l.clo, fun y hy hle => ?_⟩
    obtain ⟨c, e2⟩ := sol_clo K hy
    have := l.least _ c (take_le _ hle)
    rw [e2, this]; exact e.symm
theorem least_min (K : Cfg cb ow d) {row : Vec} (h : Least cb ow d row) : Min (colsOf cb ow d) d (ext_ cb ow row) :=
  (min_least K).mpr ⟨by rw [ext_take h.clo.len]; exact h, by rw [ext_take h.clo.len]⟩
/-- what is below a closing -/
theorem least_below (K : Cfg cb ow d) {row : Vec} (h : Clo cb ow d row) : ∃ s, Least cb ow d s ∧ Le s row := by
  obtain ⟨s, hs, hl⟩ := min_below (clo_sol K h)
  have := ((min_least K).mp hs).1
  refine ⟨_, this, ?_⟩
  have := take_le cb.length hl
  rwa [ext_take h.len] at this
/-- what is found, told in block amounts -/
theorem found_least (K : Cfg cb ow d) {top : Option Vec} {ball : List Vec} (U : Setup (colsOf cb ow d) d cb.length top ball) {k : Nat} (h : (GSt.iter (colsOf cb ow d) cb.length top k).level = []) :
    (((GSt.iter (colsOf cb ow d) cb.length top k).found.map (·.take cb.length)).Nodup) ∧ ∀ row, row ∈ (GSt.iter (colsOf cb ow d) cb.length top k).found.map (·.take cb.length) ↔ Least cb ow d row ∧ ∀ t, top = some t → Le row t := by
  have fa := found_all U h
  have it : ∀ {x : Vec}, x.length = (colsOf cb ow d).length → (inTop cb.length top x = true ↔ ∀ t, top = some t → Le (x.take cb.length) t) := fun {x} hx => by
    unfold inTop
    cases top with
    | none => simp
    | some t =>
      have ht := U.top t rfl
      show within (x.take cb.length) t = true ↔ _
      rw [within_le (by rw [List.length_take, hx, colsOf_len, ht]; omega)]
      exact ⟨fun h t' e => by cases e; exact h, fun h => h t rfl⟩
  constructor
  · have nd := (LI.iter U k).fnd
    rw [List.Nodup, List.pairwise_map]
    refine nd.imp_of_mem fun {a b} ha hb hne e => hne ?_
    have h1 := ((min_least K).mp ((fa a).mp ha).1).2
    have h2 := ((min_least K).mp ((fa b).mp hb).1).2
    rw [h1, h2, e]
  · intro row
    constructor
    · intro hr
      obtain ⟨x, hx, rfl⟩ := List.mem_map.mp hr
      obtain ⟨m, ht⟩ := (fa x).mp hx
      exact ⟨((min_least K).mp m).1, (it m.sol.len).mp ht⟩
    · rintro ⟨l, ht⟩
      refine List.mem_map.mpr ⟨ext_ cb ow row, (fa _).mpr ⟨least_min K l, (it (ext_len l.clo.len)).mpr fun t e => ?_⟩, ext_take l.clo.len⟩
      rw [ext_take l.clo.len]
      exact ht t e
end
end CD
set_option maxHeartbeats 2000000
/-! How many rows there are; the ball of totals. -/
namespace CD
/-- all lists of n numbers from 0 to b - 1 -/
def allRows (b : Nat) : Nat → List Vec
  | 0 => [[]]
  | n + 1 => (allRows b n).flatMap fun r => (List.range b).map fun (i : Nat) => (i : Int) :: r
theorem allRows_len (b : Nat) : ∀ n, (allRows b n).length = b ^ n
  | 0 => rfl
  | n + 1 => by
    rw [allRows, List.length_flatMap]
    rw [show (fun r : Vec => ((List.range b).map fun (i : Nat) => (i : Int) :: r).length) = fun _ => b from by funext r; simp]
    rw [List.map_const', List.sum_replicate_nat, allRows_len b n, Nat.pow_succ]
theorem mem_allRows {b : Nat} : ∀ {n : Nat} {r : Vec}, r.length = n → (∀ i, 0 ≤ g r i ∧ g r i < b) → r ∈ allRows b n
  | 0, [], _, _ => by simp [allRows]
  | n + 1, x :: r, hl, h => by
    rw [allRows, List.mem_flatMap]
    refine ⟨r, mem_allRows (by simpa using hl) (fun i => by have := h (i + 1); simpa [g] using this), ?_⟩
    have := h 0
    have h0 : 0 ≤ x ∧ x < b := by simpa [g] using this
    refine List.mem_map.mpr ⟨x.toNat, List.mem_range.mpr (by omega), by rw [Int.toNat_of_nonneg h0.1]⟩
/-- lists of n + 1 numbers whose first n tell them are at most b ^ n many -/
theorem few_rows {b n : Nat} {l : List Vec} (hd : l.Nodup) (hl : ∀ r ∈ l, r.length = n + 1) (hb : ∀ r ∈ l, ∀ i, 0 ≤ g r i ∧ g r i < b) (inj : ∀ r ∈ l, ∀ s ∈ l, r.tail = s.tail → r = s) : l.length ≤ b ^ n := by
  have nd : (l.map (·.tail)).Nodup := by
    rw [List.Nodup, List.pairwise_map]
    exact hd.imp_of_mem fun {x y} hx hy hne e => hne (inj x hx y hy e)
  have h1 := nodup_len nd (m := allRows b n) fun x hx => by
    obtain ⟨r, hr, rfl⟩ := List.mem_map.mp hx
    refine mem_allRows (by rw [List.length_tail, hl r hr]; omega) fun i => ?_
    have := hb r hr (i + 1)
    cases r with
    | nil => have := hl _ hr; simp at this
    | cons y r => simpa [g] using this
  rw [List.length_map, allRows_len] at h1
  exact h1
theorem few_rows' {b m N : Nat} (h1 : 1 ≤ m) (hN : m ≤ N + 1) (hb1 : 1 ≤ b) {l : List Vec} (hd : l.Nodup) (hl : ∀ r ∈ l, r.length = m) (hb : ∀ r ∈ l, ∀ i, 0 ≤ g r i ∧ g r i < b) (inj : ∀ r ∈ l, ∀ s ∈ l, r.tail = s.tail → r = s) : l.length ≤ b ^ N := by
  obtain ⟨n, rfl⟩ : ∃ n, m = n + 1 := ⟨m - 1, by omega⟩
  exact Nat.le_trans (few_rows hd hl hb inj) (Nat.pow_le_pow_right hb1 (by omega))
section
variable {cols : List Vec} {d many : Nat} {top : Option Vec} {ball : List Vec}
theorem tail_inj_sm {r s : Vec} (hr : r.length = cols.length) (hs : s.length = cols.length) (h : 1 ≤ cols.length) (e : r.tail = s.tail) (q : sm cols r = sm cols s) : r = s := by
  cases r with
  | nil => simp at hr; omega
  | cons x r => cases s with
    | nil => simp at hs; omega
    | cons y s =>
      have e : r = s := e
      subst e
      have h1 : sm cols (x :: r) = (x :: r).sum := by rw [sum_S, hr]
      have h2 : sm cols (y :: r) = (y :: r).sum := by rw [sum_S, hs]
      rw [h1, h2, List.sum_cons, List.sum_cons] at q
      rw [show x = y by omega]
theorem tail_inj_le {r s : Vec} (e : r.tail = s.tail) (hr : r ≠ []) (hs : s ≠ []) : Le r s ∨ Le s r := by
  cases r with
  | nil => exact absurd rfl hr
  | cons x r => cases s with
    | nil => exact absurd rfl hs
    | cons y s =>
      have e : r = s := e
      subst e
      by_cases h : x ≤ y
      · refine .inl fun i => ?_
        cases i with
        | zero => simpa [g] using h
        | succ i => simp [g]
      · refine .inr fun i => ?_
        cases i with
        | zero => simp [g]; omega
        | succ i => simp [g]
theorem g_le_sm {x : Vec} (hl : x.length = cols.length) (nn : ∀ i, 0 ≤ g x i) (i : Nat) : g x i ≤ sm cols x := by
  by_cases h : i < cols.length
  · exact S_term (fun i _ => nn i) h
  · rw [g_ge (by omega)]
    exact S_nonneg fun i _ => nn i
/-- a level is reached only while there are totals for it -/
theorem level_few (U : Setup cols d many top ball) {k : Nat} {p : Vec × Vec} (h : p ∈ (GSt.iter cols many top k).level) : k ≤ ball.length := by
  have L := LI.iter U k
  obtain ⟨ys, Y⟩ := (L.row p h).hist
  have h1 := Y.len
  have := nodup_len Y.nd (m := ball) fun x hx => by
    obtain ⟨y, hy, e⟩ := List.mem_map.mp hx
    exact e ▸ Y.inB y hy
  rw [List.length_map] at this
  omega
/-- the size of a level -/
theorem level_len (U : Setup cols d many top ball) {N : Nat} (h1 : 1 ≤ cols.length) (hN : cols.length ≤ N + 1) (k : Nat) : (GSt.iter cols many top k).level.length ≤ (ball.length + 2) ^ N := by
  have L := LI.iter U k
  have := few_rows' (b := ball.length + 2) (N := N) h1 hN (by omega) L.nd (fun r hr => by
      obtain ⟨p, hp, rfl⟩ := List.mem_map.mp hr; exact (L.row p hp).len) (fun r hr i => by
      obtain ⟨p, hp, rfl⟩ := List.mem_map.mp hr
      have R := L.row p hp
      have h2 := g_le_sm R.len R.nn i
      have h3 := R.sm
      have h4 := level_few U hp
      exact ⟨R.nn i, by omega⟩) (fun r hr s hs e => by
      obtain ⟨p, hp, rfl⟩ := List.mem_map.mp hr
      obtain ⟨q, hq, rfl⟩ := List.mem_map.mp hs
      exact tail_inj_sm (L.row p hp).len (L.row q hq).len h1 e ((L.row p hp).sm.trans (L.row q hq).sm.symm))
  rwa [List.length_map] at this
/-- a least solution is no larger than the levels that are reached -/
theorem min_sm (U : Setup cols d many top ball) {r : Vec} (m : Min cols d r) (ht : inTop many top r = true) : sm cols r ≤ ball.length + 1 := by
  have h := iter_empty U (Nat.le_refl ball.length)
  have L := LI.iter U (ball.length + 1)
  have := ((L.mem r).mp ((found_all U h r).mpr ⟨m, ht⟩)).2.2
  omega
theorem found_len (U : Setup cols d many top ball) {N : Nat} (h1 : 1 ≤ cols.length) (hN : cols.length ≤ N + 1) (k : Nat) : (GSt.iter cols many top k).found.length ≤ (ball.length + 2) ^ N := by
  have L := LI.iter U k
  refine few_rows' (b := ball.length + 2) (N := N) h1 hN (by omega) L.fnd (fun r hr => ((L.mem r).mp hr).1.sol.len) (fun r hr i => ?_) (fun r hr s hs e => ?_)
  · obtain ⟨m, ht, _⟩ := (L.mem r).mp hr
    have h2 := g_le_sm m.sol.len m.sol.nn i
    have h3 := min_sm U m ht
    exact ⟨m.sol.nn i, by omega⟩
  · obtain ⟨m, _, _⟩ := (L.mem r).mp hr
    obtain ⟨m2, _, _⟩ := (L.mem s).mp hs
    have a : r ≠ [] := fun q => by have := m.sol.len; rw [q] at this; simp at this; omega
    have b : s ≠ [] := fun q => by have := m2.sol.len; rw [q] at this; simp at this; omega
    rcases tail_inj_le e a b with q | q
    · exact m2.least r m.sol q
    · exact (m.least s m2.sol q).symm
end
/-! ### the ball -/
def ball1 : List Vec := (List.range 7).map fun (i : Nat) => [(i : Int) - 3]
def ball2 : List Vec := (List.range 7).flatMap fun (i : Nat) => ((List.range 7).map fun (j : Nat) => [(i : Int) - 3, (j : Int) - 3]).filter fun t => decide (prod t t ≤ 9)
def ballOf : Nat → List Vec
  | 1 => ball1
  | 2 => ball2
  | _ => []
/-- a column: at most three ends -/
def small (c : Vec) : Bool := decide ((c.map fun x => (x.natAbs : Int)).sum ≤ 3)
theorem ball1_ok : (ball1.all fun t => ball1.all fun c => !(decide (prod t c < 0)) || decide (add t c ∈ ball1)) = true := by decide +kernel
theorem ball2_ok : (ball2.all fun t => ball2.all fun c => !(small c && decide (prod t c < 0)) || decide (add t c ∈ ball2)) = true := by decide +kernel
theorem ball_len : ball1.length = 7 ∧ ball2.length = 29 := by decide +kernel
theorem small1 {c : Vec} (hl : c.length = 1) (h : small c = true) : c ∈ ball1 := by
  match c, hl with
  | [x], _ =>
    have : ((x.natAbs : Int)) ≤ 3 := by simpa [small] using h
    refine List.mem_map.mpr ⟨(x + 3).toNat, List.mem_range.mpr (by omega), ?_⟩
    congr 1; omega
theorem small2 {c : Vec} (hl : c.length = 2) (h : small c = true) : c ∈ ball2 := by
  match c, hl with
  | [x, y], _ =>
    have h3 : ((x.natAbs : Int)) + y.natAbs ≤ 3 := by simpa [small] using h
    have e1 : (((x + 3).toNat : Nat) : Int) - 3 = x := by omega
    have e2 : (((y + 3).toNat : Nat) : Int) - 3 = y := by omega
    have key : ∀ i : Nat, i < 7 → ∀ j : Nat, j < 7 → (((i : Int) - 3).natAbs : Int) + ((j : Int) - 3).natAbs ≤ 3 → [(i : Int) - 3, (j : Int) - 3] ∈ ball2 := by decide +kernel
    have := key (x + 3).toNat (by omega) (y + 3).toNat (by omega) (by rw [e1, e2]; exact h3)
    rwa [e1, e2] at this
theorem setup_ok {cols : List Vec} {d many : Nat} {top : Option Vec} (hd : d = 1 ∨ d = 2) (hl : ∀ c ∈ cols, c.length = d) (hs : ∀ c ∈ cols, small c = true) (ht : ∀ t, top = some t → t.length = many) (hm : many ≤ cols.length) : Setup cols d many top (ballOf d) := by
  rcases hd with rfl | rfl
  · refine ⟨hl, ht, hm, fun c hc => small1 (hl c hc) (hs c hc), fun t h c hc q => ?_⟩
    have h1 := List.all_eq_true.mp (List.all_eq_true.mp ball1_ok t h) c (small1 (hl c hc) (hs c hc))
    rw [decide_eq_true q] at h1
    exact (by simpa using h1 : add t c ∈ _)
  · refine ⟨hl, ht, hm, fun c hc => small2 (hl c hc) (hs c hc), fun t h c hc q => ?_⟩
    have h1 := List.all_eq_true.mp (List.all_eq_true.mp ball2_ok t h) c (small2 (hl c hc) (hs c hc))
    rw [decide_eq_true q, hs c hc] at h1
    exact (by simpa using h1 : add t c ∈ _)
theorem ballOf_len {d : Nat} (hd : d = 1 ∨ d = 2) : (ballOf d).length ≤ 29 := by
  rcases hd with rfl | rfl
  · exact Nat.le_trans (Nat.le_of_eq ball_len.1) (by decide)
  · exact Nat.le_of_eq ball_len.2
theorem ball_small {d : Nat} {t : Vec} (h : t ∈ ballOf d) : ∀ x ∈ t, -3 ≤ x ∧ x ≤ 3 := by
  match d, h with
  | 1, h => exact (show ∀ t ∈ ball1, ∀ x ∈ t, -3 ≤ x ∧ x ≤ 3 by decide +kernel) t h
  | 2, h => exact (show ∀ t ∈ ball2, ∀ x ∈ t, -3 ≤ x ∧ x ≤ 3 by decide +kernel) t h
  | 0, h => exact absurd h (by simp [ballOf])
  | n + 3, h => exact absurd h (by simp [ballOf])
end CD
set_option maxHeartbeats 1000000
/-! The walk (7): Growing.later. -/
namespace Em
open PySem PySem.Spec PyProof.Rows L2 RZ
abbrev Lev := List (List Int × List Int)
def encL (p : List Int × List Int) : List Key × Da := (p.1.map Sum.inl, dLis p.2)
def dLev (l : Lev) : Da := .dtt (l.map encL)
theorem dKey_row (r : List Int) : dKey (r.map Sum.inl) = dRow r := by
  unfold dKey dRow
  rw [List.map_map]; rfl
theorem inl_inj {a b : List Int} : (a.map (Sum.inl : Int → Key)) = b.map Sum.inl ↔ a = b :=
  ⟨fun h => by
    have := congrArg (List.map fun k : Key => match k with | .inl i => i | .inr _ => 0) h
    rw [List.map_map, List.map_map] at this
    simpa [Function.comp_def] using this, fun h => by rw [h]⟩
theorem encL_key {p : List Int × List Int} {k : List Int} : (encL p).1 = k.map Sum.inl ↔ p.1 = k := inl_inj
theorem put_enc (l : Lev) (k v : List Int) : putD (l.map encL) (k.map Sum.inl) (dLis v) = (CD.put l k v).map encL := by
  unfold putD CD.put
  have e : ((l.map encL).any fun kv => decide (kv.1 = k.map Sum.inl)) = l.any fun p => decide (p.1 = k) := by
    rw [List.any_map]
    congr 1
    funext p
    exact decide_eq_decide.mpr encL_key
  rw [e]
  split
  · rw [List.map_map, List.map_map]
    refine List.map_congr_left fun p _ => ?_
    show (if (encL p).1 = k.map Sum.inl then _ else _) = encL (if p.1 = k then (p.1, v) else p)
    by_cases h : p.1 = k
    · rw [if_pos (encL_key.mpr h), if_pos h]; rfl
    · rw [if_neg (fun q => h (encL_key.mp q)), if_neg h]
  · rw [List.map_append]; rfl
theorem put_len (l : Lev) (k v : List Int) : (CD.put l k v).length ≤ l.length + 1 := by
  unfold CD.put
  split
  · rw [List.length_map]; omega
  · rw [List.length_append]; simp
theorem rowTurn_snoc (row tot c : List Int) : ∀ (cs : List (List Int)) (k : Nat) (acc : Lev), CD.rowTurn row tot (cs ++ [c]) k acc = if CD.prod tot c < 0 then CD.put (CD.rowTurn row tot cs k acc) (CD.raised row (k + cs.length)) (CD.add tot c) else CD.rowTurn row tot cs k acc
  | [], k, acc => by simp [CD.rowTurn]
  | x :: cs, k, acc => by
    show CD.rowTurn row tot (cs ++ [c]) (k + 1) _ = _
    rw [rowTurn_snoc row tot c cs, List.length_cons, show k + 1 + cs.length = k + (cs.length + 1) by omega]
    rfl
theorem laterOf_snoc (cols : List (List Int)) (lt : List Int → Bool) (p : List Int × List Int) : ∀ (l acc : Lev), CD.laterOf cols lt (l ++ [p]) acc = if lt p.1 = true then CD.rowTurn p.1 p.2 cols 0 (CD.laterOf cols lt l acc) else CD.laterOf cols lt l acc
  | [], acc => rfl
  | x :: l, acc => by
    show CD.laterOf cols lt (l ++ [p]) _ = _
    rw [laterOf_snoc cols lt p l]; rfl
theorem rowTurn_len (row tot : List Int) : ∀ (cs : List (List Int)) (k : Nat) (acc : Lev), (CD.rowTurn row tot cs k acc).length ≤ acc.length + cs.length
  | [], _, _ => Nat.le_refl _
  | c :: cs, k, acc => by
    have := rowTurn_len row tot cs (k + 1) (if CD.prod tot c < 0 then CD.put acc (CD.raised row k) (CD.add tot c) else acc)
    have h2 : (if CD.prod tot c < 0 then CD.put acc (CD.raised row k) (CD.add tot c) else acc).length ≤ acc.length + 1 := by
      split
      · exact put_len ..
      · omega
    show (CD.rowTurn row tot cs (k + 1) _).length ≤ _
    rw [List.length_cons]; omega
theorem laterOf_len (cols : List (List Int)) (lt : List Int → Bool) : ∀ (l acc : Lev), (CD.laterOf cols lt l acc).length ≤ acc.length + l.length * cols.length
  | [], acc => by simp [CD.laterOf]
  | p :: l, acc => by
    have := laterOf_len cols lt l (if lt p.1 = true then CD.rowTurn p.1 p.2 cols 0 acc else acc)
    have h2 : (if lt p.1 = true then CD.rowTurn p.1 p.2 cols 0 acc else acc).length ≤ acc.length + cols.length := by
      split
      · exact rowTurn_len ..
      · omega
    show (CD.laterOf cols lt l _).length ≤ _
    rw [List.length_cons, Nat.succ_mul]; omega
/-- a level that can be grown -/
structure LvOk (cols : List (List Int)) (many : Nat) (top : Option (List Int)) (found : List (List Int)) (lev : Lev) : Prop where
  colsL : cols.length ≤ 100
  row : ∀ p ∈ lev, GrOk many top found p.1
  totL : ∀ p ∈ lev, p.2.length ≤ 100
  totS : ∀ p ∈ lev, ∀ x ∈ p.2, -(2 ^ 64) < x ∧ x < 2 ^ 64
  size : lev.length * cols.length < 10000000
theorem take_snoc {α : Type} {xs : List α} {i : Nat} {a : α} (h : xs[i]? = some a) : xs.take (i + 1) = xs.take i ++ [a] := by
  rw [List.take_add_one, h]; rfl
theorem zipIdx_get {α : Type} {xs : List α} {i : Nat} {p : α × Nat} (h : xs.zipIdx[i]? = some p) : xs[i]? = some p.1 ∧ p.2 = i := by
  rw [List.getElem?_zipIdx] at h
  cases hx : xs[i]? with
  | none => rw [hx] at h; cases h
  | some a => rw [hx] at h; cases h; exact ⟨rfl, by simp⟩
section
variable {P : Program} {w : World} {K : PySem.W.Frag} {mg : Str → Option Value} {base : Heap}
def rLater (K : PySem.W.Frag) : List Da → Da → Prop := fun ds d => ∃ cols many top found lev, LvOk cols many top found lev ∧ ds = [dGrow K cols many top found, dLev lev] ∧ d = dLev (CD.laterOf cols (CD.isLet many top found) lev [])
theorem m_later (M : Md K mg) : C8.Met P w K mg base 3 (cG K) "later" (spR (rLater K)) [] := by
  refine met_R M d_Growing_later ["self", "level", "found", "row", "total", "at", "column"] ["self", "level"] (by simp [fn]) rfl (by decide +kernel) (by decide +kernel) rfl rfl (fun _ _ _ _ _ _ us hl => match us, hl with | [_, _], _ => rfl) (by decide +kernel) (fun ds d ⟨_, _, _, _, _, _, h, _⟩ => by subst h; rfl) ?_
  rintro ds z F0 ⟨cols, many, top, found, lev, ok, rfl, rfl⟩
  have lt := CD.isLet many top found
  refine tr_cons (t1_newT 2) (tr_ex fun l => ?_)
  refine tr_cons (t1_lockT 1 (kvs := lev.map encL) (t1_for lev (enc := fun p => .tup [dRow p.1, dLis p.2]) (envA := fun p => [some (dGrow K cols many top found), some (dLev lev), some (.v (.ref l)), some (dRow p.1), some (dLis p.2), none, none]) (fun i => AccT l (fun _ F => F = F0) ((CD.laterOf cols (CD.isLet many top found) (lev.take i) []).map encL)) (.cast (it_itemsT (srcT_var 1)) ?_) (fun p _ => tg_two 3 4) fun i p hp => ?_)) ?_
  · rw [List.map_map]
    refine List.map_congr_left fun p _ => ?_
    show Da.tup [dKey (p.1.map Sum.inl), dLis p.2] = _
    rw [dKey_row]
  · have hpm := List.mem_of_getElem? hp
    have gok := ok.row p hpm
    rw [take_snoc hp, laterOf_snoc]
    refine tr_one (t1_if (x := CD.isLet many top found p.1) (et_val (ex_meth (m_is_let M) (ex_var 0) (ea_cons (ex_var 3) ea_nil) rfl ⟨cols, many, top, found, p.1, gok, rfl, rfl⟩)) (fun hy => ?_) fun hn => ?_)
    · rw [if_pos hy]
      have hlen := laterOf_len cols (CD.isLet many top found) (lev.take i) []
      have hi : i < lev.length := (List.getElem?_eq_some_iff.mp hp).1
      rw [List.length_take, List.length_nil, Nat.zero_add, Nat.min_eq_left (by omega)] at hlen
      have hsz : i * cols.length + cols.length ≤ lev.length * cols.length := by
        rw [← Nat.succ_mul]; exact Nat.mul_le_mul_right _ hi
      have hsz2 := ok.size
      refine tr_cons (t1_for cols.zipIdx (envA := fun c => [some (dGrow K cols many top found), some (dLev lev), some (.v (.ref l)), some (dRow p.1), some (dLis p.2), some (dI (c.2 : Nat)), some (dLis c.1)]) (fun j => AccT l (fun _ F => F = F0) ((CD.rowTurn p.1 p.2 (cols.take j) 0 (CD.laterOf cols (CD.isLet many top found) (lev.take i) [])).map encL)) (.cast (it_enumL (ex_gcols M (ex_var 0)) (M.free "enumerate")) (enumD_map ..)) (fun c _ => tg_two 5 6) fun j c hc => ?_) ?_
      · obtain ⟨hc1, hc2⟩ := zipIdx_get hc
        rw [take_snoc hc1, rowTurn_snoc]
        have hj : j < cols.length := (List.getElem?_eq_some_iff.mp hc1).1
        have hlj : (cols.take j).length = j := by rw [List.length_take]; omega
        rw [hlj, Nat.zero_add]
        have hrl := rowTurn_len p.1 p.2 (cols.take j) 0 (CD.laterOf cols (CD.isLet many top found) (lev.take i) [])
        rw [hlj] at hrl
        refine tr_one (t1_if (x := decide (CD.prod p.2 c.1 < 0)) (ET.cast (et_lt (ex_call (c_product M) (ea_cons (ex_var 4) (ea_cons (ex_var 6) ea_nil)) ⟨p.2, c.1, rfl, rfl, ok.totS p hpm, Nat.le_trans (ok.totL p hpm) (by decide)⟩) ex_int) (by rw [prod_zip])) (fun hy => ?_) fun hn => ?_)
        · rw [if_pos (of_decide_eq_true hy)]
          refine tr_cons (t1_putT 2 (d := dLis (CD.add p.2 c.1)) (k := (CD.raised p.1 j).map Sum.inl) (EX.cast (ex_call (c_added M) (ea_cons (ex_var 4) (ea_cons (ex_var 6) ea_nil)) ⟨p.2, c.1, rfl, rfl, Nat.le_trans (ok.totL p hpm) (by decide)⟩) (by rw [add_zip])) (EX.cast (ex_meth (m_raised M) (ex_var 0) (ea_cons (ex_var 3) (ea_cons (ex_var 5) ea_nil)) rfl ⟨cols, many, top, found, p.1, j, by rw [hc2]; rfl, Nat.le_trans gok.rowL (by decide), rfl⟩) (dKey_row _).symm) (hl := by rw [List.length_map]; omega)) ?_
          refine tr_nil fun S F σ h => ?_
          rw [← put_enc]
          exact h.forget [5, 6]
        · rw [if_neg (of_decide_eq_false hn)]
          exact tr_nil fun S F σ h => h.forget [5, 6]
      · refine tr_nil fun S F σ h => ?_
        rw [List.length_zipIdx, List.take_length] at h
        exact h.forget [3, 4]
    · rw [if_neg (by rw [hn]; decide)]
      exact tr_nil fun S F σ h => h.forget [3, 4]
  · refine tr_tellT 2 rfl (tr_one (t1_ret (EX.cast (ex_var 2) ?_)))
    rw [List.take_length]; rfl
end
end Em
set_option maxHeartbeats 1000000
/-! The logic over plain data (11): objects of one's own that are public for a while. -/
namespace Em
open PySem PySem.Spec PyProof.Rows L2
theorem upd_rem {S : Hp} {p : Addr} {o : HO} (h : S p = some o) : upd (rem S p) p o = S := by
  funext a; unfold upd rem; split
  · next e => rw [e, h]
  · rfl
theorem rem_same {F : Hp} {p : Addr} : rem F p p = none := by unfold rem; rw [if_pos rfl]
theorem rem_ne {F : Hp} {a p : Addr} (h : a ≠ p) : rem F p a = F a := by unfold rem; rw [if_neg h]
/-- a public object is made one's own -/
theorem Sep.untell {S F H : Hp} {p : Addr} {o : HO} (s : Sep S F H) (h : S p = some o) (hH : H p = some o) (n : ∀ vs, o ≠ .tup vs := by exact fun _ z => nomatch z) (n2 : ¬ isTE o := by exact fun z => z) : Sep (rem S p) (upd F p o) H where
  pub0 := fun a u e nt => by
    unfold rem at e; split at e
    · cases e
    · exact s.pub0 a u e nt
  tab := fun a ps e => by
    unfold rem at e; split at e
    · cases e
    · exact s.tab a ps e
  one := fun a b ps qs e e' => by
    unfold rem at e e'; split at e
    · cases e
    · split at e'
      · cases e'
      · exact s.one a b ps qs e e'
  prv := fun a u e => by
    by_cases ha : a = p
    · subst ha; rw [upd_same] at e; cases e; exact hH
    · rw [upd_ne ha] at e; exact s.prv a u e
  apart := fun a u e => by
    by_cases ha : a = p
    · subst ha; rw [rem_same] at e; cases e
    · rw [upd_ne ha]; rw [rem_ne ha] at e; exact s.apart a u e
  ntup := ntup_upd s.ntup n
  nte := nte_upd s.nte n2
/-- an object of one's own is forgotten -/
theorem Sep.drop {S F H : Hp} {p : Addr} (s : Sep S F H) : Sep S (rem F p) H where
  pub0 := s.pub0
  tab := s.tab
  one := s.one
  prv := fun a u e => by
    unfold rem at e; split at e
    · cases e
    · exact s.prv a u e
  apart := fun a u e => by
    unfold rem; split
    · rfl
    · exact s.apart a u e
  ntup := fun a vs e => by
    unfold rem at e; split at e
    · cases e
    · exact s.ntup a vs e
  nte := fun a u e => by
    unfold rem at e; split at e
    · cases e
    · exact s.nte a u e
/-- what was not locked is not locked -/
theorem Sep.exact {S F H H0 : Hp} {p : Addr} {o u : HO} (s : Sep S F H) (h : S p = some o) (h0 : H0 p = some u) (n : ∀ b v, u ≠ .frz b v) (k : Kf H0 H) (n2 : ∀ ps, o ≠ .tbl ps := by exact fun _ z => nomatch z) (n3 : ∀ ps, u ≠ .tbl ps := by exact fun _ z => nomatch z) : H p = some o := by
  rcases s.pub p o h n2 with z | ⟨_, ob, z⟩
  · exact z
  · have := k.back z h0 n3
    rw [h0] at this
    exact absurd (Option.some.inj this) (n ob o)
theorem Gr.rem_ {S S' : Hp} {p : Addr} {o : HO} (h : S p = none) (g : Gr (upd S p o) S') : Gr S (rem S' p) := fun a u e => by
  have ha : a ≠ p := fun z => by subst z; rw [h] at e; cases e
  rw [rem_ne ha]
  exact g a u (by rw [upd_ne ha]; exact e)
/-- an object of one's own, public within -/
def Sc (p : Addr) (o : HO) (P : Pr) : Pr := fun S F σ => F p = some o ∧ P (upd S p o) (rem F p) σ
def ScR (p : Addr) (o : HO) (R : Rr) : Rr := fun S F v => F p = some o ∧ R (upd S p o) (rem F p) v
section
variable {f : Fr} {P Nx : Pr} {Rt : Rr} {st : Stmt} {ss : List Stmt} {p : Addr} {o : HO}
theorem DN.sc {S F H : Hp} {D : Ends} (hs : Sep S F H) (hF : F p = some o) (n1 : ∀ vs, o ≠ .tup vs) (n2 : ∀ b v, o ≠ .frz b v) (n3 : ¬ isTE o) (dn : DN S H D (Sc p o Nx) (ScR p o Rt)) : DN (upd S p o) H D Nx Rt := by
  have hS := hs.freeSF hF
  have hH := hs.prv p o hF
  have back : ∀ {S' F' H' : Hp}, Gr (upd S p o) S' → Sep S' F' H' → Kf H H' → Gr S (rem S' p) ∧ Sep (rem S' p) (upd F' p o) H' ∧ upd (rem S' p) p o = S' ∧ rem (upd F' p o) p = F' := fun {S' F' H'} g s k => by
    have h' : S' p = some o := g p o upd_same
    exact ⟨Gr.rem_ hS g, s.untell h' (s.exact h' hH n2 k (fun ps z => n3 (by rw [z]; exact True.intro)) (fun ps z => n3 (by rw [z]; exact True.intro))) n1 n3, upd_rem h', rem_upd (s.apart p o h')⟩
  refine ⟨fun S' F' σ' H' g s k h => ?_, fun S' F' v H' g s k h => ?_⟩
  · obtain ⟨a, b, c, d⟩ := back g s k
    exact dn.nx _ _ σ' H' a b k ⟨upd_same, by rw [c, d]; exact h⟩
  · obtain ⟨a, b, c, d⟩ := back g s k
    exact dn.rt _ _ v H' a b k ⟨upd_same, by rw [c, d]; exact h⟩
theorem t1_sc (h : T1 f P st Nx Rt) (n1 : ∀ vs, o ≠ .tup vs := by exact fun _ z => nomatch z) (n2 : ∀ b v, o ≠ .frz b v := by exact fun _ _ z => nomatch z) (n3 : ¬ isTE o := by exact fun z => z) : T1 f (Sc p o P) st (Sc p o Nx) (ScR p o Rt) := fun S F σ H D ⟨hF, hP⟩ hs _ dn =>
  h _ _ σ H D hP (hs.tell hF) True.intro (dn.sc hs hF n1 n2 n3)
theorem tr_sc (h : Tr f P ss Nx Rt) (n1 : ∀ vs, o ≠ .tup vs := by exact fun _ z => nomatch z) (n2 : ∀ b v, o ≠ .frz b v := by exact fun _ _ z => nomatch z) (n3 : ¬ isTE o := by exact fun z => z) : Tr f (Sc p o P) ss (Sc p o Nx) (ScR p o Rt) := fun S F σ H D ⟨hF, hP⟩ hs dn =>
  h _ _ σ H D hP (hs.tell hF) (dn.sc hs hF n1 n2 n3)
/-- the ends may be weaker, as seen from where the statement begins -/
theorem t1_conv {P' Nx' : Pr} {Rt' : Rr} (h : T1 f P' st Nx' Rt') (w : ∀ S F σ, P S F σ → P' S F σ) (n : ∀ S F σ, Nx' S F σ → Nx S F σ) (r : ∀ S F v, Rt' S F v → Rt S F v) : T1 f P st Nx Rt := fun S F σ H D hP hs hp dn =>
  h S F σ H D (w _ _ _ hP) hs hp ⟨fun S' F' σ' H' a b c e => dn.nx S' F' σ' H' a b c (n _ _ _ e), fun S' F' v H' a b c e => dn.rt S' F' v H' a b c (r _ _ _ e)⟩
end
/-! ### data that do not stand at a place -/
inductive Off (B : Da → Prop) : Da → Prop
  | v (x : V) : Off B (.v x)
  | tup {xs : List Da} (h : ¬ B (.tup xs)) (e : ∀ x ∈ xs, Off B x) : Off B (.tup xs)
  | lst {xs : List Da} (h : ¬ B (.lst xs)) (e : ∀ x ∈ xs, Off B x) : Off B (.lst xs)
  | dct {xs : List (Key × Da)} (h : ¬ B (.dct xs)) (e : ∀ x ∈ xs, Off B x.2) : Off B (.dct xs)
  | dtt {xs : List (List Key × Da)} (h : ¬ B (.dtt xs)) (e : ∀ x ∈ xs, Off B x.2) : Off B (.dtt xs)
  | ins {C : Addr} {xs : List (Str × Da)} (h : ¬ B (.ins C xs)) (e : ∀ x ∈ xs, Off B x.2) : Off B (.ins C xs)
  | drw {x : Da} (h : ¬ B (.drw x)) (e : Off B x) : Off B (.drw x)
  | nm {v : V} {x : Da} (e : Off B x) : Off B (.nm v x)
  | tb {a : Addr} {T : List (Addr × Str)} {x : Da} (e : Off B x) : Off B (.tb a T x)
theorem Rp.off {S : Hp} {p : Addr} {v : V} {d : Da} (r : Rp S v d) (h : Off (Rp S (.ref p)) d) (nt : ∀ ps, S p ≠ some (.tbl ps)) : Rp (rem S p) v d := by
  induction r with
  | v x => exact .v x
  | tup ha l e ih =>
    cases h with
    | tup hn he =>
      refine .tup (by rw [rem_ne fun z => hn (by subst z; exact .tup ha l e)]; exact ha) l fun i v x a b => ih i v x a b (he x (List.mem_of_getElem? b))
  | lst ha l e ih =>
    cases h with
    | lst hn he =>
      refine .lst (by rw [rem_ne fun z => hn (by subst z; exact .lst ha l e)]; exact ha) l fun i v x a b => ih i v x a b (he x (List.mem_of_getElem? b))
  | dct ha l e ih =>
    cases h with
    | dct hn he =>
      refine .dct (by rw [rem_ne fun z => hn (by subst z; exact .dct ha l e)]; exact ha) l fun i v x a b => ih i v x a b (he x (List.mem_of_getElem? b))
  | dtt ha l e ih =>
    cases h with
    | dtt hn he =>
      refine .dtt (by rw [rem_ne fun z => hn (by subst z; exact .dtt ha l e)]; exact ha) l fun i v x a b => ih i v x a b (he x (List.mem_of_getElem? b))
  | ins ha l e ih =>
    cases h with
    | ins hn he =>
      refine .ins (by rw [rem_ne fun z => hn (by subst z; exact .ins ha l e)]; exact ha) l fun i v x a b => ih i v x a b (he x (List.mem_of_getElem? b))
  | drw ha e ih =>
    cases h with
    | drw hn he => exact .drw (by rw [rem_ne fun z => hn (by subst z; exact .drw ha e)]; exact ha) (ih he)
  | nm e ih =>
    cases h with
    | nm he => exact .nm (ih he)
  | tb ha e ih =>
    cases h with
    | tb he => exact .tb (by rw [rem_ne fun z => nt _ (z ▸ ha)]; exact ha) (ih he)
theorem RpL.off {S : Hp} {p : Addr} {vs : List V} {ds : List Da} (r : RpL S vs ds) (h : ∀ d ∈ ds, Off (Rp S (.ref p)) d) (nt : ∀ ps, S p ≠ some (.tbl ps)) : RpL (rem S p) vs ds := ⟨r.1, fun i v x a b => (r.2 i v x a b).off (h x (List.mem_of_getElem? b)) nt⟩
theorem SlE.off {S : Hp} {p : Addr} {σ : L2.St} {env : En} (r : SlE S σ env) (h : ∀ d, some d ∈ env → Off (Rp S (.ref p)) d) (nt : ∀ ps, S p ≠ some (.tbl ps)) : SlE (rem S p) σ env := ⟨r.1, fun i d e => by
  obtain ⟨v, a, b⟩ := r.2 i d e
  exact ⟨v, a, b.off (h d (List.mem_of_getElem? e)) nt⟩⟩
/-! ### the tables are as told -/
section
variable {f : Fr} {env : En}
theorem EX.unTb {e : Expr} {a : Addr} {T : List (Addr × Str)} {d : Da} (h : EX f env e (.tb a T d)) : EX f env e d := fun S F σ H hp hσ hs Q q => h S F σ H hp hσ hs Q fun v S' H' g s k r => q v S' H' g s k r.tb_inv.2
theorem EX.toTb {e : Expr} {a : Addr} {T : List (Addr × Str)} {d d0 : Da} (i : Nat) (h : EX f env e d) (he : env[i]? = some (some (.tb a T d0)) := by rfl) : EX f env e (.tb a T d) := fun S F σ H hp hσ hs Q q => by
  obtain ⟨v0, _, b⟩ := hσ.2 i _ he
  exact h S F σ H hp hσ hs Q fun v S' H' g s k r => q v S' H' g s k (.tb (g _ _ b.tb_inv.1) r)
end
/-! ### named slots -/
section
variable {f : Fr} {env : En} {pos : Pos}
theorem ex_varN (i : Nat) {x : Str} {v : V} {d : Da} (he : env[i]? = some (some (.nm v d)) := by rfl) (hN : f.N[i]? = some x := by rfl) (hv : Vis f.sc x := by first | exact .inl rfl | exact .inr (.inl rfl) | exact .inr (.inr rfl))
    (hd : (x == ("__debug__" : Str)) = false := by decide) (hcd : (x == ("__classdict__" : Str)) = false := by decide) : EX f env (.Name x pos) d := fun S F σ H hp hσ hs Q q => by
  obtain ⟨v, a, b⟩ := hσ.2 i _ he
  exact wE_of (fun X hX => pe_var (i := i) (by rw [hX.N]; exact hN) (by rw [hX.sc]; exact hv) hd hcd) ⟨v, a, q.here hs b.nm_inv.2⟩
end
end Em
set_option maxHeartbeats 4000000
/-! Rules that the layer lacks (4): a dict comprehension whose keys are tuples. -/
namespace Em
open PySem PySem.Spec PyProof.Rows L2
section
variable {X : Cx} {pins : List (Addr × Obj)} {σ : L2.St} {H : Hp} {s : Shared}
theorem store_tup {E : Value → Shared → Prop} {D b : Addr} {kvs : List (List Key × V)} {k : List Key} {v : V} {u r : Value} {Q : Unit → Shared → Prop} (hu : X.A.units + 1 < cLine) (I : Inv X pins σ H s) (hD : H D = some (.dT kvs)) (hb : H b = some (.tup (k.map kV))) (hz : kvs.length < sizeLine)
    (ry : RelV (.ref b) u) (rv : RelV v r) (h : ∀ s', Inv X pins σ (upd H D (.dT (putK kvs k v))) s' → Q () s') : wpAny (model X.prog X.w) X.A (dictSet D u r) Q E s := by
  cases ry
  obtain ⟨z, hd, xs, rel, dd⟩ := dt_of I.hok hD
  have hl : (putK kvs k v).length ≤ sizeLine := by have := length_putK kvs k v; omega
  refine wpAny_dictSet_heap (hsz := by rw [← Paired.length rel]; exact z) (show X.A.units < cLine by omega) (key_of I.hok hb) dd fun h' dd' hs => h _ ?_
  obtain ⟨q, es, ep, hq, h2, h3, h4, _, h5⟩ := dd'
  refine d_write I (by rw [hD]; exact True.intro) hs ⟨q, hq⟩ ⟨hl, hd, _, (rel.put k hb rv).keeps fun c ys ec => ?_, q, es, ep, hq, h2, h3, h4, h5⟩
  rw [upd_ne (ne_of ec hD (fun z => nomatch z))]
  exact ec
/-- {k: v for target in iter if ..}, keys tuples: D the new dict -/
def tDt (wi : TI) (g : TG) (tt : TT) (tk tv : TE) (vs : List Nat) : TE := fun σ H Q => wi σ H fun J H1 => ∀ D, H1 D = none → ∃ W : Nat → Nat → Hp → Prop, (∃ m, W 0 m (upd H1 D (.dT []))) ∧ ∀ i m H, W i m H →
  (J.stop i H ∧ Q (.ref D) H) ∨ (J.go i H ∧ ∃ Nx : Hp → Prop, (∀ H', Nx H' → ∃ m', m' < m ∧ W (i + 1) m' H') ∧ ∀ x H', J.yld i H x H' → g x (wipe σ vs) H' fun σ2 H2 => wipe σ2 vs = wipe σ vs ∧ tt σ2 H2 fun b H3 =>
    if b = true then tk σ2 H3 fun y H4 => tv σ2 H4 fun z H5 => ∃ kvs k b, y = .ref b ∧ H5 D = some (.dT kvs) ∧ H5 b = some (.tup (k.map kV)) ∧ kvs.length < sizeLine ∧ Nx (upd H5 D (.dT (putK kvs k z))) else Nx H3)
/-- the block of such a comprehension, from its state to the state behind it -/
theorem dt_core {Q : VK} {kx vx tg iter : Expr} {ifs : List Expr} {scope : Scope} {own : List (Str × Nat)} {pos pos' : Pos} {wi : TI} {g : TG} {tt : TT} {tk tv : TE} {use : Option (Value → Sem Unit)} {Qf : Value → Shared → Prop}
    (hc : X.calm = true) (hu : X.A.units + 1 < cLine) (hN : X.N.Nodup) (I : Inv X pins σ H s) (hi : PI X tg iter wi) (ok : BlkOk X.N X.env.scope scope own)
    (hp : ∀ (s : Shared) (H : Hp) (C : Addr) (cl : List (Str × Addr)) (fp : List Addr), PG (X.blk s H scope (compEnvC scope cl C X.env) fp) tg g ∧ PTs (X.blk s H scope (compEnvC scope cl C X.env) fp) ifs tt ∧ PE (X.blk s H scope (compEnvC scope cl C X.env) fp) kx tk ∧ PE (X.blk s H scope (compEnvC scope cl C X.env) fp) vx tv)
    (hs : ∀ x, foldedSetIterable iter X.env x = pure x) (h : tDt wi g tt tk tv (own.map (·.2)) σ H Q)
    (back : ∀ D C s' m H', Inv X pins σ H' s' → Q (.ref D) H' → s'.heap.Ns C m → FpOk X pins H' C → compPost (model X.prog X.w) X.A X.xe use Qf (.ref D) C (.ok .next) s') :
    wpAny (model X.prog X.w) X.A (comprehension (.DictComp kx vx [⟨tg, iter, ifs, 0⟩] scope pos) scope X.env pos' newDict false (eval iter X.env) use) Qf X.xe s := by
  have free : ∀ y ∈ scope.names, y.2 = .free → ∃ c, X.env.cells.lookup y.1 = some c := fun y hy e => (ok.free y hy e).elim (fun k => I.ok.has _ (.inl k)) fun k => I.ok.has _ (.inr k)
  refine wpAny_comprehension_free (use := use) rfl hs (closure_ok free) ok.kind (fun y hy e => by rw [ok.uniq y hy, e]) (thn (hi.run pins s σ H _ I h) fun xv s1 hx => thn hx fun itv s2 h2 => ?_)
  obtain ⟨it, fp, tn, J, H2, rfl, I2, T, st2, f2, q⟩ := h2
  refine wpAny_newObj_type (newEnv_comp ?_)
  generalize hD : s2.heap.objs.size = D
  obtain ⟨W, ⟨m0, w0⟩, turn⟩ := q D (I2.hok.fresh (Nat.le_of_eq hD))
  generalize hs3 : ({ s2 with heap := s2.heap.push { cls := .type "dict", data := .dict #[] } } : Shared) = s3
  have h3 : s3.heap = s2.heap.push { cls := .type "dict", data := .dict #[] } := by rw [← hs3]
  have I3 : Inv X pins σ (upd H2 D (.dT [])) s3 := by
    rw [← hs3]
    exact I2.laid (t' := s2.toks) (fun b o e => Heap.get?_push_of_some _ e) (Nat.le_of_eq hD) (by rw [← hD]; exact dt_empty s2.heap I2.big)
  have low : ∀ b ∈ fp, b < s2.heap.objs.size := fun b hb => let ⟨o, e, _⟩ := T.obj _ _ st2 b hb; Heap.lt_size e
  have f3 : ∀ b ∈ fp, FpOk X pins (upd H2 D (.dT [])) b ∧ b < s3.heap.objs.size := fun b hb => by
    refine ⟨⟨?_, (f2 b hb).2⟩, by rw [h3, Heap.size_push]; exact Nat.lt_succ_of_lt (low b hb)⟩
    rw [upd_ne (by rw [← hD]; exact Nat.ne_of_lt (low b hb))]
    exact (f2 b hb).1
  have st3 : tn 0 s3.heap := T.keep _ _ _ st2 fun b _ o e => by rw [h3]; exact Heap.get?_push_of_some _ e
  have I4 := block_start I3 ok hN f3
  have pp := hp s3 (upd H2 D (.dT [])) s3.heap.objs.size (cellsFrom (s3.heap.objs.size + 1) scope.names (cloFrom X.env.cells scope.names [])) fp
  show codeAny _ _ (.compStart (.DictComp kx vx [⟨tg, iter, ifs, 0⟩] scope pos) 0 (.ref it) (.ref D) (compEnvC scope (cellsFrom (s3.heap.objs.size + 1) scope.names (cloFrom X.env.cells scope.names [])) s3.heap.objs.size X.env)) (compPost (model X.prog X.w) X.A X.xe use Qf (.ref D) s3.heap.objs.size) { s3 with heap := pushCells (s3.heap.push { cls := .type "dict", data := .dict #[] }) scope.names }
  have nfp : ∀ b ∈ fp, (upd H2 D (.dT [])) b = none := fun b hb => (f3 b hb).1.1
  generalize hce : compEnvC scope (cellsFrom (s3.heap.objs.size + 1) scope.names (cloFrom X.env.cells scope.names [])) s3.heap.objs.size X.env = ce at I4 pp ⊢
  have cL : ce.locals = s3.heap.objs.size := by subst hce; rfl
  generalize hH3 : upd H2 D (.dT []) = H3 at I3 I4 pp w0 nfp f3
  generalize hs4 : ({ s3 with heap := pushCells (s3.heap.push { cls := .type "dict", data := .dict #[] }) scope.names } : Shared) = s4 at I4 ⊢
  obtain ⟨pg, pt, pk, pv⟩ := pp
  have st4 : tn 0 s4.heap := T.keep _ _ _ st3 fun b _ o e => by rw [← hs4]; exact pushCells_keeps _ _ _ _ (Heap.get?_push_of_some _ e)
  have stat : ∀ {σ' : L2.St} {H' : Hp} {s' : Shared}, Inv (X.blk s3 H3 scope ce fp) [] σ' H' s' → (∀ b ∈ fp, H' b = none) → ∀ b ∈ fp, FpOk (X.blk s3 H3 scope ce fp) [] H' b := fun {σ' H' s'} I' hn b hb =>
    ⟨hn b hb, (I'.ok.exf b hb).1, I'.ok.exfs b hb, .inl hb, fun x c e => (I'.ok.exf b hb).2 x c e, fun p hp => absurd (show p ∈ ([] : List (Addr × Obj)) ++ [] from hp) (by simp)⟩
  have loop : codeAny (model X.prog X.w) X.A (.compLoop (.DictComp kx vx [⟨tg, iter, ifs, 0⟩] scope pos) 0 (.ref it) (.ref D) ce) (compPost (model X.prog X.w) X.A X.xe use Qf (.ref D) s3.heap.objs.size) s4 := by
    refine compLoop_anyD (fun n s' => ∃ i H', Inv (X.blk s3 H3 scope ce fp) [] (wipe σ (own.map (·.2))) H' s' ∧ tn i s'.heap ∧ (∀ b ∈ fp, H' b = none) ∧ W i n H') ?_ m0 ⟨0, H3, I4, st4, nfp, w0⟩
    rintro n s5 ⟨i, H5, I5, st5, n5, w5⟩
    rcases turn i n H5 w5 with ⟨stop, qq⟩ | ⟨go, Nx, hNx, step⟩
    · refine thnF (T.done (X.blk s3 H3 scope ce fp) rfl rfl rfl hc i [] s5 _ H5 (fun _ _ => False) I5 (stat I5 n5) st5 stop) fun r s6 ⟨hr, I6⟩ => ?_
      subst hr
      have I7 : Inv X pins σ H5 s6 := I3.call' (ch := fp) I6.os I6.base I6.hok I6.bare fun b hb => ⟨(f3 b hb).1.2.2.2.1, (f3 b hb).1.2.1, (f3 b hb).1.2.2.2.2.1, (f3 b hb).1.2.2.2.2.2⟩
      have nC : H5 s3.heap.objs.size = none := by rw [← cL]; exact I6.free
      obtain ⟨m, hn, _⟩ := I6.loc
      have hn : s6.heap.Ns ce.locals m := hn
      rw [cL] at hn
      exact back D s3.heap.objs.size s6 m H5 I7 qq hn (I3.fpOk (Nat.le_refl _) nC)
    · refine thnF (T.item (X.blk s3 H3 scope ce fp) rfl rfl rfl hc i [] s5 _ H5 (fun _ _ => False) I5 (stat I5 n5) st5 go) fun r s6 ⟨u, hr, h6⟩ => ?_
      subst hr
      refine thnF h6 fun _ s7 ⟨x, H7, I7, r7, y7, st7, n7⟩ => ?_
      refine thnF (pg.run _ s7 _ H7 x u _ (I7.pinned (stat I7 n7) (T.obj _ _ st7)) r7 (step x H7 y7)) fun _ s8 ⟨σ8, H8, I8, hw8, q8⟩ => ?_
      refine thnF (pt.run _ s8 σ8 H8 _ I8 q8) fun b s9 ⟨H9, I9, q9⟩ => ?_
      have fin : ∀ {s' : Shared} {H' : Hp}, Inv (X.blk s3 H3 scope ce fp) ([] ++ pinsAt fp s7.heap) σ8 H' s' → Nx H' → ∃ m, m < n ∧ ∃ i H', Inv (X.blk s3 H3 scope ce fp) [] (wipe σ (own.map (·.2))) H' s' ∧ tn i s'.heap ∧ (∀ b ∈ fp, H' b = none) ∧ W i m H' := fun {s' H'} I' nx => by
        obtain ⟨m', hm, w'⟩ := hNx H' nx
        have pin' : ∀ b ∈ fp, ∀ o, s7.heap.get? b = some o → s'.heap.get? b = some o ∧ H' b = none := fun b hb o e =>
          let z := I'.pin (b, o) (List.mem_append_right _ (List.mem_append_right _ (mem_pinsAt hb e)))
          ⟨z.1, z.2.1⟩
        refine ⟨m', hm, i + 1, H', (I'.unpinned (pins := [])).weak (by rw [← hw8, wipe_length]) (fun j v e => ?_), T.keep _ _ _ st7 fun b hb o e => (pin' b hb o e).1, fun b hb => ?_, w'⟩
        · rw [← hw8] at e
          exact (wipe_some e).1
        · obtain ⟨o, e, _⟩ := T.obj _ _ st7 b hb
          exact (pin' b hb o e).2
      cases b with
      | false => exact fin I9 (by simpa using q9)
      | true =>
        simp only [if_true] at q9 ⊢
        refine thnF (pk.run _ s9 σ8 H9 _ I9 q9) fun z s10 ⟨yk, H10, I10, r10, q10⟩ => thnF (pv.run _ s10 σ8 H10 _ I10 q10) fun z2 s11 ⟨yv, H11, I11, r11, kvs, k, b, ek, hD11, hb11, hz11, nx⟩ => ?_
        subst ek
        exact store_tup (X := X.blk s3 H3 scope ce fp) hu I11 hD11 hb11 hz11 r10 r11 fun s12 I12 => fin I12 nx
  exact codeAny_compStart_dict loop (T.self X.A 0 _ _ _ st4 loop)
/-- swaps: a dict comprehension to a plain local of the same line -/
theorem sw_dict {kx vx : Expr} {gs : List Comprehension} {scope : Scope} {pos py : Pos} {y : Str} {l : Nat} {env : Env} (hk : env.scope.kind = .function) (hy : env.scope.names.lookup y = some .local) (hl : (py.line == pos.line) = true)
    (ha : (scope.names.any fun (n, k) => n == y && (k == .local || k == .cell)) = false) : swapsWith (.DictComp kx vx gs scope pos) (some (.Name y py)) l env = pure true := by
  have ky : env.kindOf y = some .local := hy
  have hb : env.blockKind = .function := by unfold Env.blockKind; rw [hk]; rfl
  unfold swapsWith
  simp only [hb, ky, ha, Expr.pos, hl]
  rfl
/-- name = {tuple: ..} on one line, the name a plain local -/
theorem ps_setDt {i : Nat} {y : Str} {py : Pos} {kx vx tg iter : Expr} {ifs : List Expr} {scope : Scope} {own : List (Str × Nat)} {pos spos : Pos} {wi : TI} {g : TG} {tt : TT} {tk tv : TE} (hc : X.calm = true) (hu : X.A.units + 1 < cLine) (hN : X.N.Nodup) (hy : X.N[i]? = some y) (hyl : X.env.scope.names.lookup y = some .local)
    (hsw : swapsWith (.DictComp kx vx [⟨tg, iter, ifs, 0⟩] scope pos) (some (.Name y py)) spos.line X.env = pure true) (hi : PI X tg iter wi) (ok : BlkOk X.N X.env.scope scope own)
    (hp : ∀ (s : Shared) (H : Hp) (C : Addr) (cl : List (Str × Addr)) (fp : List Addr), PG (X.blk s H scope (compEnvC scope cl C X.env) fp) tg g ∧ PTs (X.blk s H scope (compEnvC scope cl C X.env) fp) ifs tt ∧ PE (X.blk s H scope (compEnvC scope cl C X.env) fp) kx tk ∧ PE (X.blk s H scope (compEnvC scope cl C X.env) fp) vx tv)
    (hs : ∀ x, foldedSetIterable iter X.env x = pure x) : PS X (.Assign [.Name y py] (.DictComp kx vx [⟨tg, iter, ifs, 0⟩] scope pos) spos) (tAsg (tDt wi g tt tk tv (own.map (·.2))) (gName i)) := by
  refine ⟨fun pins s σ H D I h => ?_⟩
  rw [exec_Assign_Name_used _ _ _ _ hsw]
  refine wpAny_bind (wpAny_standAt (wpAny_bind ?_))
  show wpAny _ X.A (do let _ ← comprehension (.DictComp kx vx [⟨tg, iter, ifs, 0⟩] scope pos) scope X.env _ newDict false (eval iter X.env) (some (assign (.Name y py) X.env))) _ _ s
  have h : tDt wi g tt tk tv (own.map (·.2)) σ H (fun x H1 => gName i x σ H1 D.nx) := h
  refine wpAny_bind (thn (dt_core (Qf := fun _ s' => SP X pins D .next s') hc hu hN I hi ok hp hs h fun L C s' m H' I' q hn f => ?_) fun _ s' hq => wpAny_pure (wpAny_pure hq))
  show wpAny _ _ (assign (.Name y py) X.env (.ref L)) _ _ _
  refine wpAny_assign_Name (store_ok2 (v := V.ref L) I' hN hy (.inl hyl) rfl (fun s2 I2 ⟨a, sb, ha⟩ => ?_) (.inr hyl))
  obtain ⟨f0, f1, f2, f3, f4, f5⟩ := f
  have ne : C ≠ a := by
    rcases ha with z | z
    · rw [z]; exact f1
    · exact fun e => f4 y a z e.symm
  exact ⟨m, hn.sameBut sb ne, fun h3 sb3 => ⟨_, H', I2.turned (t' := s2.toks) (fun b o hb e => (sb3.2 b hb).trans e) f0 f1 f3 f4 f5, q⟩⟩
end
end Em
set_option maxHeartbeats 1000000
/-! The logic over plain data (12): any(numbers), a dict with tuple keys that is empty or not, such a dict by a comprehension, a comprehension given back. -/
namespace Em
open PySem PySem.Spec PyProof.Rows L2
/-! ### any(numbers) -/
theorem nz_range (ns : List Int) : (List.range ns.length).any (fun i => ns.getD i 0 != 0) = ns.any fun n => n != 0 := by
  induction ns with
  | nil => rfl
  | cons b bs ih =>
    rw [List.length_cons, List.range_succ_eq_map, List.any_cons, List.any_map, List.any_cons, ← ih]
    rfl
theorem rv_ints {ns : List Int} {its : List Value} (r : Vals (ns.map V.int) its) : ∀ (i : Nat) (v : Value), its[i]? = some v → ∃ n t, ns[i]? = some n ∧ v = .int n t := fun i v h => by
  have hl := r.length
  have hi := (List.getElem?_eq_some_iff.mp h).1
  rw [List.length_map] at hl
  have hn : ns[i]? = some (ns[i]'(by omega)) := List.getElem?_eq_getElem _
  obtain ⟨w, hw, s2⟩ := r.get (i := i) (x := V.int (ns[i]'(by omega))) (by rw [List.getElem?_map, hn]; rfl)
  rw [h] at hw; cases hw
  obtain ⟨t, e⟩ := s2
  exact ⟨_, t, hn, e⟩
theorem truth_ints {prog : Program} {w : World} {A : Around} {ns : List Int} {its : List Value} (r : Vals (ns.map V.int) its) :
    TruthOf prog w A (fun i v => its.toArray[i]? = some v) (fun i => ns.getD i 0 != 0) := fun i v s Q E hv hq => by
  have hv' : its[i]? = some v := by simpa using hv
  obtain ⟨n, t, hn, rfl⟩ := rv_ints r i v hv'
  have hg : ns.getD i 0 = n := by rw [List.getD_eq_getElem?_getD, hn]; rfl
  have hq' : Q (ns.getD i 0 != 0) s := hq
  rw [hg] at hq'
  exact truthy_int hq'
def rAnyI (K : PySem.W.Frag) : List V → Hp → VK → Prop := fun vs H Q => ∃ (a : Addr) (ns : List Int), vs = [V.ref a] ∧ SqL K H a (ns.map V.int) ∧ Q (.bl (ns.any fun n => n != 0)) H
theorem cr_anyI {X : Cx} (hc : X.calm = true) : CallR X (.builtin "any") (rAnyI X.K) := by
  intro pins s σ H vs us Q I r h
  obtain ⟨a, ns, rfl, hs, q⟩ := h
  obtain ⟨its, rv, hl, _⟩ := I.list hs
  rw [Vals.ref1 r]
  refine call_any_walk (iter_any hl.isList fun s₂ e2 st hne => ?_)
  subst e2
  refine ⟨_, _, _, _, _, _, _, rfl, Walks.list (A := X.A.in1) (I.ok.hd hc) _ a hne its.toArray, st, truth_ints rv, fun h' tk hk => ?_⟩
  refine ⟨.bl _, H, I.kept fun b o eo => hk b o (fun hmem => ?_) (Heap.get?_push_of_some _ eo), ?_, q⟩
  · rcases List.mem_cons.mp hmem with e1 | hmem
    · exact absurd (e1 ▸ Heap.lt_size eo) (Nat.lt_irrefl _)
    · cases hmem
  · show Value.bool _ = Value.bool _
    have hl := rv.length
    rw [List.length_map] at hl
    rw [← nz_range, List.size_toArray, ← hl]
section
variable {f : Fr} {env : En} {pos : Pos}
theorem cd_anyI {ns : List Int} : CD f (.builtin "any") [.lst (ns.map dI)] (dB (ns.any fun n => n != 0)) := .of (rAnyI f.K) (fun X hX => by rw [← hX.K]; exact cr_anyI hX.calm) fun S F H vs hs r Q k => by
  obtain ⟨v, rfl, r1⟩ := one_arg1 r
  obtain ⟨a, vs, rfl, h1, h2⟩ := r1.lst_inv
  have e := RpL.atoms (f := V.int) (xs := ns) h2
  subst e
  exact ⟨a, ns, rfl, hs.sql h1, k.here hs (.v _)⟩
theorem ex_anyI {p : Pos} {e : Expr} {ns : List Int} (h : EX f env e (.lst (ns.map dI))) (hm : f.mg "any" = none) (hg : GlS f "any" := by rfl) (hse : ∀ env, starEach [e] env = [(false, eval e env)] := by intro _; rfl) : EX f env (.Call (.Name "any" p) [e] [] pos) (dB (ns.any fun n => n != 0)) :=
  ex_callB cd_anyI (ea_cons h ea_nil hse) hm (by decide +kernel) hg (by decide) (by decide) hse (fun _ => rfl)
end
/-! ### a dict with tuple keys against an empty one -/
theorem samePairs_empty {prog : Program} {w : World} {A : Around} {E : Value → Shared → Prop} {s : Shared} {nm : String} {a b : Addr} {oa ob : Obj} {es es' : Array DictEntry} {ep ep' : Nat} {Q : Bool → Shared → Prop} (ha : (a == sysModules) = false) (hb : (b == sysModules) = false)
    (hoa : s.heap.get? a = some oa) (hda : oa.data = .dict es ep) (hob : s.heap.get? b = some ob) (hdb : ob.data = .dict es' ep') (h0 : es'.size = 0) (h : Q (es.size == 0) s) :
    wpAny (model prog w) A (Builtin.Dict.samePairs nm a b) Q E s := by
  unfold Builtin.Dict.samePairs Builtin.Dict.showsAll
  rw [if_neg (show ¬ (a == sysModules) = true by rw [ha]; exact Bool.false_ne_true), if_neg (show ¬ (b == sysModules) = true by rw [hb]; exact Bool.false_ne_true)]
  refine wpAny_bind (wpAny_pure (wpAny_bind (wpAny_pure ?_)))
  refine wpAny_bind (wpAny_dictEntries hoa hda ?_)
  dsimp only
  refine wpAny_bind (wpAny_dictEntries hob hdb ?_)
  by_cases hsz : es.size = es'.size
  case neg =>
    rw [if_pos (by simpa using hsz)]
    have hbf : (es.size == 0) = false := by rw [h0] at hsz; simpa using hsz
    rw [hbf] at h
    exact wpAny_bind (wpAny_rule (wpAny_pure h))
  case pos =>
    rw [if_neg (by rw [hsz]; simp)]
    refine wpAny_bind (wpAny_dictEpoch hoa hda ?_)
    refine wpAny_bind ?_
    have he : es.size = 0 := by omega
    rw [Std.Legacy.Range.forIn_eq_forIn_range']
    simp only [Std.Legacy.Range.size, Nat.sub_zero, Nat.add_sub_cancel, Nat.div_one, he]
    refine wpAny_pure ?_
    rw [he] at h
    exact wpAny_pure h
theorem ne_empty {prog : Program} {w : World} {A : Around} {E : Value → Shared → Prop} {s : Shared} {a b : Addr} {oa ob : Obj} {es es' : Array DictEntry} {ep ep' : Nat} {Q : Value → Shared → Prop} (ha : (a == sysModules) = false) (hb : (b == sysModules) = false)
    (hoa : s.heap.get? a = some oa) (hca : oa.ExactDict) (hda : oa.data = .dict es ep) (hob : s.heap.get? b = some ob) (hcb : ob.ExactDict) (hdb : ob.data = .dict es' ep') (h0 : es'.size = 0) (hu : A.units < cLine) (h : Q (.bool (!(es.size == 0))) s) :
    wpAny (model prog w) A (compareOp .NotEq (.ref a) (.ref b)) Q E s := by
  have ta : s.TypeIs (.ref a) "dict" := ⟨oa, hoa, hca.1⟩
  have tb : s.TypeIs (.ref b) "dict" := ⟨ob, hob, hcb.1⟩
  refine wpAny_richCompare_same_room (op := .NotEq) ta tb PySem.F.slot_dict_ne (wpAny_call_entry PySem.F.slot_dict_ne ta PySem.F.entry_dict_ne ?_ (PySem.F.args_dict_ne_2 _ _)) hu
  show wpAny _ _ (Builtin.Dict.dictSlotArgs "__ne__" ⟨[.ref a, .ref b], []⟩ >>= _) _ _ s
  refine wpAny_bind ?_
  unfold Builtin.Dict.dictSlotArgs
  refine wpAny_bind (wpAny_notOrdered_dict ta ?_)
  show wpAny _ _ (pure (Value.ref a, Value.ref b)) _ _ s
  refine wpAny_pure ?_
  refine wpAny_bind (wpAny_isInstance (T := "dict") tb PySem.F.sub_dict_dict ?_)
  simp only [Bool.not_true, Bool.false_eq_true, if_false]
  refine wpAny_bind (wpAny_pure (wpAny_bind (wpAny_pure ?_)))
  refine wpAny_bind (samePairs_empty ha hb hoa hda hob hdb h0 ?_)
  refine wpAny_pure ⟨_, rfl, ?_, ?_⟩
  · exact fun x => nomatch x
  · simpa using h
theorem ok_dT {P : Program} {w : World} {H : Hp} {h : Heap} {a : Addr} {kvs : List (List Key × V)} : ObjOk P w H h a (.dT kvs) → (a == sysModules) = false ∧ ∃ o es ep, h.get? a = some o ∧ o.ExactDict ∧ o.data = .dict es ep ∧ es.size = kvs.length := fun ⟨_, h1, xs, pr, o, es, ep, h2, h3, h4, h5, _⟩ =>
  ⟨h1, o, es, ep, h2, h3, h4, by rw [← Array.length_toList, h5, List.length_map, pr.length]⟩
section
variable {f : Fr} {env : En} {pos : Pos}
theorem od_neTE {xs : List (List Key × Da)} : OD f (compareOp .NotEq) (.dtt xs) (.dtt []) (dB (!(xs.length == 0))) := od_of fun X hX pins s σ S F H x y v u I hs r1 r2 rx ry E Q q => by
  have hu := hX.room.un
  have look : ∀ {z : V} {zs : List (List Key × Da)}, Rp S z (.dtt zs) → ∃ b, z = .ref b ∧ (b == sysModules) = false ∧ ∃ o es ep, s.heap.get? b = some o ∧ o.ExactDict ∧ o.data = .dict es ep ∧ es.size = zs.length := fun {z zs} r => by
    obtain ⟨b, vs, rfl, h1, h2⟩ := r.dtt_inv
    refine ⟨b, rfl, ?_⟩
    rw [← h2.length]
    rcases hs.pub b _ h1 with q | ⟨_, ob, q⟩
    · exact ok_dT (I.hok b _ q)
    · exact ok_dT (show ObjOk X.prog X.w H s.heap b (.dT vs) from ((show ObjOk X.prog X.w H s.heap b (.frz ob (.dT vs)) from I.hok b _ q)).2)
  obtain ⟨a, rfl, y1, oa, es, ep, a1, a2, a3, a4⟩ := look r1
  obtain ⟨b, rfl, y2, ob, es', ep', b1, b2, b3, b4⟩ := look r2
  cases rx; cases ry
  exact ne_empty y1 y2 a1 a2 a3 b1 b2 b3 (by rw [b4]; rfl) (by omega) (by rw [a4]; exact q)
/-! ### {tuple: .. for ..} -/
def dttOf {α : Type} (key : α → List Key) (r : α → Da) (xs : List α) : List (List Key × Da) := xs.foldl (fun acc a => putD acc (key a) (r a)) []
theorem dttOf_snoc {α : Type} {key : α → List Key} {r : α → Da} {xs : List α} {i : Nat} {a : α} (h : xs[i]? = some a) : dttOf key r (xs.take (i + 1)) = putD (dttOf key r (xs.take i)) (key a) (r a) := by
  unfold dttOf
  rw [List.take_add_one, h, List.foldl_append]; rfl
theorem dttOf_len {α : Type} (key : α → List Key) (r : α → Da) (xs : List α) : ∀ i, (dttOf key r (xs.take i)).length ≤ i
  | 0 => by simp [dttOf]
  | i + 1 => by
    have ih := dttOf_len key r xs i
    cases h : xs[i]? with
    | none =>
      have e : xs.take (i + 1) = xs.take i := by rw [List.take_add_one, h]; simp
      rw [e]; omega
    | some a =>
      rw [dttOf_snoc h]
      exact Nat.le_trans (putD_len _ _ _) (by omega)
section
variable {C : Cd} {Rt : Rr}
/-- x = {tuple: .. for ..} on one line, x a plain local: the dict is one's own from here on -/
theorem t1_setDtO {pre : Pre} (i : Nat) {α : Type} (xs : List α) {enc : α → Da} {key : α → List Key} {r : α → Da} {envA : α → En} (own : List (Str × Nat)) {vs : List Nat} {y : Str} {py spos : Pos} {kx vx tg iter : Expr} {scope : Scope} (hi : IT pre f env tg iter (xs.map enc)) (hl : xs.length ≤ 10000000)
    (ht : ∀ a ∈ xs, TGT (f.blk scope) tg (enc a) (wipeE env (own.map (·.2))) (envA a) vs) (hk : ∀ a ∈ xs, EX (f.blk scope) (envA a) kx (dKey (key a))) (he : ∀ a ∈ xs, EX (f.blk scope) (envA a) vx (r a)) (hsee : Sees f C := by exact Sees.nil rfl)
    (hN : f.N[i]? = some y := by rfl) (hy : f.sc.names.lookup y = some .local := by rfl) (hkd : f.sc.kind = .function := by rfl) (hln : (py.line == pos.line) = true := by rfl) (hno : (scope.names.any fun (n, k) => n == y && (k == .local || k == .cell)) = false := by decide +kernel)
    (ok : blkC f.N f.sc scope own = true := by (try dsimp only [Fr.blk]); decide +kernel) (hv : ∀ i ∈ vs, i ∈ own.map (·.2) := by decide) (hfs : ∀ env x, foldedSetIterable iter env x = pure x := by intro _ _; rfl) :
    Tr1 pre f (Pv env C) (.Assign [.Name y py] (.DictComp kx vx [⟨tg, iter, [], 0⟩] scope pos) spos) (fun S F σ => ∃ a, Pv (env.set i (some (.v (.ref a)))) (AccT a C (dttOf key r xs)) S F σ) Rt := fun S F σ H D hp hs hpre dn => by
  refine wS_of (fun X hX => ps_setDt (own := own) hX.calm (room1 hX) (by rw [hX.N]; exact hX.nd) (by rw [hX.N]; exact hN) (by rw [hX.sc]; exact hy) (sw_dict (by rw [hX.sc]; exact hkd) (by rw [hX.sc]; exact hy) hln hno) (pw_i hX) (by rw [hX.N, hX.sc]; exact blkOk_by ok)
    (fun s H C cl fp => ⟨pw_g (hX.blk s H scope C cl fp), pw_f (hX.blk s H scope C cl fp), pw_e (hX.blk s H scope C cl fp), pw_e (hX.blk s H scope C cl fp)⟩) (fun x => hfs _ x)) ?_
  refine hi S F σ H (hsee.up hp.2) hp.1 hs hpre _ fun J S1 H1 g1 s1 k1 wk D' hD => ?_
  refine ⟨fun i m H' => m = xs.length - i ∧ i ≤ xs.length ∧ ∃ S' acc, Gr S1 S' ∧ Sep S' (upd F D' (.dT acc)) H' ∧ Kf H1 H' ∧ RpK S' acc (dttOf key r (xs.take i)), ⟨_, rfl, Nat.zero_le _, S1, [], Gr.refl _, s1.newF hD, Kf.new hD, by simpa [dttOf] using RpK.nil⟩, ?_⟩
  rintro j m H' ⟨rfl, hi, S', acc, g', s', k', ra⟩
  obtain ⟨stop, turn⟩ := wk S' _ H' g' s' k'
  by_cases hlt : j < xs.length
  · refine .inr ?_
    obtain ⟨a, ha⟩ : ∃ a, xs[j]? = some a := ⟨_, List.getElem?_eq_getElem hlt⟩
    have hmem : a ∈ xs := List.mem_of_getElem? ha
    obtain ⟨go, yl⟩ := turn j (enc a) (by rw [List.getElem?_map, ha]; rfl)
    refine ⟨go, fun H4 => ∃ S4 acc4, Gr S1 S4 ∧ Sep S4 (upd F D' (.dT acc4)) H4 ∧ Kf H1 H4 ∧ RpK S4 acc4 (dttOf key r (xs.take (j + 1))), fun H4 ⟨S4, acc4, h1, h2, h3, h4⟩ => ⟨xs.length - (j + 1), by omega, rfl, hlt, S4, acc4, h1, h2, h3, h4⟩, fun x H3 yy => ?_⟩
    obtain ⟨S3, g3, s3, k3, r3⟩ := yl x H3 yy
    refine ht a hmem S3 _ _ H3 x (((hp.1.mono g1).mono (g'.trans g3)).wipe _) s3 r3 _ fun σ2 hσ2 hw => ⟨?_, ?_⟩
    · rw [hw (own.map (·.2)) hv, wipe_wipe (fun i hi => hi)]
    have hF : F D' = none := s1.freeF hD
    have hpf : (f.blk scope).pf (upd F D' (.dT acc)) := Fr.pf_mono (f := f.blk scope) (Gr.new hF) (hsee.up hp.2)
    refine ef_nil S3 _ σ2 H3 hpf hσ2 s3 _ fun S5 H5 g5 s5 k5 => ?_
    rw [if_pos rfl]
    refine hk a hmem S5 _ σ2 H5 hpf (hσ2.mono g5) s5 _ fun w S6 H6 g6 s6 k6 r6 => he a hmem S6 _ σ2 H6 hpf (hσ2.mono (g5.trans g6)) s6 _ fun v S7 H7 g7 s7 k7 r7 => ?_
    obtain ⟨b, ks, rfl, hb, rk⟩ := (r6.mono g7).tup_inv
    have ek : ks = (key a).map kV := RpL.atoms (f := kV) (xs := key a) rk
    subst ek
    have hz : acc.length < sizeLine := by
      have h1 := ra.length
      have h2 := dttOf_len key r xs j
      exact Nat.lt_of_lt_of_le (show acc.length < 10000001 by omega) (by decide)
    refine ⟨acc, key a, b, rfl, s7.prv D' _ upd_same, s7.at hb, hz, S7, putK acc (key a) v, g'.trans (g3.trans (g5.trans (g6.trans g7))), ?_, ((k'.trans k3).trans (k5.trans (k6.trans k7))).trans (Kf.put (s7.prv D' _ upd_same) fun _ _ z => nomatch z), ?_⟩
    · have := s7.put (u := .dT (putK acc (key a) v)) upd_same
      rw [upd_upd] at this
      exact this
    · rw [dttOf_snoc ha]
      exact (ra.mono (g3.trans (g5.trans (g6.trans g7)))).put r7
  · refine .inl ?_
    have hi : j = xs.length := by omega
    subst hi
    rw [List.length_map] at stop
    rw [List.take_length] at ra
    exact ⟨stop, dn.nx S' _ _ H' (g1.trans g') s' (k1.trans k') ⟨D', (hp.1.mono (g1.trans g')).set i (.v _), S', Gr.refl _, F, acc, hp.2.mono (g1.trans g'), s1.freeF hD, rfl, ra⟩⟩
/-- return [..]: the list is one's own when it is given back -/
theorem t1_retLcO {Nx : Pr} {pre : Pre} {α : Type} (xs : List α) {enc : α → Da} {b : α → Bool} {r : α → Da} {envA : α → En} (own : List (Str × Nat)) {vs : List Nat} {spos : Pos} {elt tg iter : Expr} {ifs : List Expr} {scope : Scope} (hi : IT pre f env tg iter (xs.map enc)) (hl : xs.length ≤ 10000000)
    (ht : ∀ a ∈ xs, TGT (f.blk scope) tg (enc a) (wipeE env (own.map (·.2))) (envA a) vs) (hc : ∀ a ∈ xs, EF (f.blk scope) (envA a) ifs (b a)) (he : ∀ a ∈ xs, b a = true → EX (f.blk scope) (envA a) elt (r a)) (hsee : Sees f C := by exact Sees.nil rfl)
    (ok : blkC f.N f.sc scope own = true := by (try dsimp only [Fr.blk]); decide +kernel) (hv : ∀ i ∈ vs, i ∈ own.map (·.2) := by decide) (hfs : ∀ env x, foldedSetIterable iter env x = pure x := by intro _ _; rfl) :
    Tr1 pre f (Pv env C) (.Return (some (.ListComp elt [⟨tg, iter, ifs, 0⟩] scope pos)) spos) Nx (fun S F v => ∃ a, v = .ref a ∧ AccL a C (filtered b r xs) S F) := fun S F σ H D hp hs hpre dn =>
  wS_of (fun X hX => ps_ret (pe_lc (own := own) hX.calm (by rw [hX.N]; exact hX.nd) (pw_i hX) (by rw [hX.N, hX.sc]; exact blkOk_by ok)
    (fun s H C cl fp => pw_g (hX.blk s H scope C cl fp)) (fun s H C cl fp => pw_f (hX.blk s H scope C cl fp)) (fun s H C cl fp => pw_e (hX.blk s H scope C cl fp)) (hfs _)))
    (lc_run (own := own) xs hi hl ht hc he hv (hsee.up hp.2) hp.1 hs hpre fun a S' acc H' hF g s k ra => dn.rt S' _ _ H' g s k ⟨a, rfl, F, acc, hp.2.mono g, hF, rfl, ra⟩)
end
end
end Em
set_option maxHeartbeats 1000000
/-! The walk (8): Growing.run. -/
namespace Em
open PySem PySem.Spec PyProof.Rows L2 RZ
/-! ### what a Growing is made of -/
structure GCfg (cols : List (List Int)) (d many : Nat) (top : Option (List Int)) : Prop where
  dim : d = 1 ∨ d = 2
  len : ∀ c ∈ cols, c.length = d
  small : ∀ c ∈ cols, CD.small c = true
  top : ∀ t, top = some t → t.length = many
  many : many ≤ cols.length
  some_ : 1 ≤ cols.length
  few : cols.length ≤ 5
section
variable {cols : List (List Int)} {d many : Nat} {top : Option (List Int)}
theorem GCfg.setup (G : GCfg cols d many top) : CD.Setup cols d many top (CD.ballOf d) := CD.setup_ok G.dim G.len G.small G.top G.many
theorem GCfg.foundLen (G : GCfg cols d many top) (k : Nat) : (CD.GSt.iter cols many top k).found.length ≤ 1000000 := by
  have h := CD.found_len G.setup (N := 4) G.some_ G.few k
  have h2 := CD.ballOf_len G.dim
  exact Nat.le_trans h (Nat.le_trans (Nat.pow_le_pow_left (show _ ≤ 31 by omega) 4) (by decide))
theorem GCfg.levelLen (G : GCfg cols d many top) (k : Nat) : (CD.GSt.iter cols many top k).level.length ≤ 1000000 := by
  have h := CD.level_len G.setup (N := 4) G.some_ G.few k
  have h2 := CD.ballOf_len G.dim
  exact Nat.le_trans h (Nat.le_trans (Nat.pow_le_pow_left (show _ ≤ 31 by omega) 4) (by decide))
theorem GCfg.foundRow (G : GCfg cols d many top) (k : Nat) : ∀ o ∈ (CD.GSt.iter cols many top k).found, o.length = cols.length := fun o ho => ((CD.LI.iter G.setup k).mem o |>.mp ho).1.sol.len
theorem GCfg.gr (G : GCfg cols d many top) (k j : Nat) : ∀ p ∈ (CD.GSt.iter cols many top k).level, GrOk many top (CD.GSt.iter cols many top j).found p.1 := fun p hp =>
  ⟨by have := (CD.LI.iter G.setup k).row p hp |>.len; have := G.few; omega, fun t ht => by have := G.top t ht; have := G.many; have := G.few; omega, fun o ho => by have := G.foundRow j o ho; have := G.few; omega, Nat.le_trans (G.foundLen j) (by decide)⟩
theorem GCfg.tot (G : GCfg cols d many top) (k : Nat) : ∀ p ∈ (CD.GSt.iter cols many top k).level, p.2.length = d ∧ ∀ x ∈ p.2, -3 ≤ x ∧ x ≤ 3 := fun p hp => by
  have R := (CD.LI.iter G.setup k).row p hp
  exact ⟨by rw [R.tot, CD.totOf_len], CD.ball_small R.inB⟩
theorem GCfg.lv (G : GCfg cols d many top) (k j : Nat) : LvOk cols many top (CD.GSt.iter cols many top j).found (CD.GSt.iter cols many top k).level := by
  have hd := G.dim
  refine ⟨by have := G.few; omega, G.gr k j, fun p hp => by have := (G.tot k p hp).1; omega, fun p hp x hx => ?_, ?_⟩
  · have := (G.tot k p hp).2 x hx
    omega
  · have h1 := G.levelLen k
    have h2 := G.few
    have := Nat.mul_le_mul h1 h2
    omega
/-- what is found in the end -/
def grown (cols : List (List Int)) (d many : Nat) (top : Option (List Int)) : List (List Int) := (CD.GSt.iter cols many top ((CD.ballOf d).length + 1)).found
theorem GCfg.end_ (G : GCfg cols d many top) : (CD.GSt.iter cols many top ((CD.ballOf d).length + 1)).level = [] := CD.iter_empty G.setup (Nat.le_refl _)
/-- where a level is empty nothing follows -/
theorem iter_stays {k : Nat} (h : (CD.GSt.iter cols many top k).level = []) : ∀ j, (CD.GSt.iter cols many top (k + j)).level = [] ∧ (CD.GSt.iter cols many top (k + j)).found = (CD.GSt.iter cols many top k).found
  | 0 => ⟨h, rfl⟩
  | j + 1 => by
    obtain ⟨a, b⟩ := iter_stays h j
    have e : CD.GSt.iter cols many top (k + (j + 1)) = (CD.GSt.iter cols many top (k + j)).step cols many top := rfl
    rw [e]
    unfold CD.GSt.step
    rw [a]
    exact ⟨rfl, by rw [show CD.doneOf (CD.isLet many top (CD.GSt.iter cols many top (k + j)).found) ([] : Lev) = [] from rfl, List.append_nil, b]⟩
theorem GCfg.grown_eq (G : GCfg cols d many top) {k : Nat} (hk : k ≤ (CD.ballOf d).length + 1) (h : (CD.GSt.iter cols many top k).level = []) : (CD.GSt.iter cols many top k).found = grown cols d many top := by
  have := (iter_stays h ((CD.ballOf d).length + 1 - k)).2
  rw [show k + ((CD.ballOf d).length + 1 - k) = (CD.ballOf d).length + 1 by omega] at this
  exact this.symm
end
/-! ### a Growing of one's own -/
section
variable {P : Program} {w : World} {K : PySem.W.Frag} {mg : Str → Option Value} {base : Heap}
abbrev gIns (K : PySem.W.Frag) (dx c l : Addr) (many : Nat) (vt : V) : HO := .ins (cG K) dx [("columns", .ref c), ("many", .int (many : Nat)), ("top", vt), ("found", .ref l)]
def GpF (K : PySem.W.Frag) (cols : List (List Int)) (many : Nat) (top : Option (List Int)) (found : List (List Int)) (x l : Addr) (F0 : Hp) : Cd := fun S F => ∃ dx c vt vs, F0 x = none ∧ F0 l = none ∧ x ≠ l ∧ F = upd (upd F0 x (gIns K dx c l many vt)) l (.lst vs) ∧ Rp S (.ref c) (dCols cols) ∧ Rp S vt (dTop top) ∧ RpL S vs (found.map dRow)
variable {f : Fr} {env env' : En} {st : Stmt} {cols : List (List Int)} {many : Nat} {top : Option (List Int)} {found : List (List Int)} {x l : Addr} {F0 : Hp} {Rt : Rr}
theorem GpF.up {S F : Hp} (h : Up (GpF K cols many top found x l F0) S F) : GpF K cols many top found x l F0 S F := by
  obtain ⟨S0, g, dx, c, vt, vs, h1, h2, h3, h4, h5, h6, h7⟩ := h
  exact ⟨dx, c, vt, vs, h1, h2, h3, h4, h5.mono g, h6.mono g, h7.mono g⟩
/-- data that are no part of a Growing -/
def SafeD (found : List (List Int)) (d : Da) : Prop := ∀ (S : Hp) (l x C dx : Addr) (vs : List V) (fs : List (Str × V)), S l = some (.lst vs) → RpL S vs (found.map dRow) → S x = some (.ins C dx fs) → Off (Rp S (.ref l)) d ∧ Off (Rp (rem S l) (.ref x)) d
theorem safe_v (v : V) : SafeD found (.v v) := fun _ _ _ _ _ _ _ _ _ _ => ⟨.v _, .v _⟩
theorem no_tup {S : Hp} {p : Addr} {o : HO} {xs : List Da} (h : S p = some o) (n : ∀ vs, o ≠ .tup vs) : ¬ Rp S (.ref p) (.tup xs) := fun r => by
  obtain ⟨a, vs, e, h1, _⟩ := r.tup_inv
  cases e
  rw [h] at h1; cases h1; exact n vs rfl
theorem safe_row (r : List Int) : SafeD found (dRow r) := fun S l x C dx vs fs h1 _ h3 => by
  have hne : x ≠ l := fun z => by subst z; rw [h1] at h3; cases h3
  refine ⟨.tup (no_tup h1 fun _ z => nomatch z) fun d hd => ?_, .tup (no_tup (o := .ins C dx fs) (by rw [rem_ne hne]; exact h3) fun _ z => nomatch z) fun d hd => ?_⟩
  · obtain ⟨i, _, rfl⟩ := List.mem_map.mp hd; exact .v _
  · obtain ⟨i, _, rfl⟩ := List.mem_map.mp hd; exact .v _
theorem safe_lev {lev : Lev} (hl : ∀ p ∈ lev, p.2 ≠ []) : SafeD found (dLev lev) := fun S l x C dx vs fs h1 h2 h3 => by
  have hne : x ≠ l := fun z => by subst z; rw [h1] at h3; cases h3
  refine ⟨.dtt (fun r => ?_) fun q hq => ?_, .dtt (fun r => ?_) fun q hq => ?_⟩
  · obtain ⟨a, vs, e, h, _⟩ := r.dtt_inv; cases e; rw [h1] at h; cases h
  · obtain ⟨p, hp, rfl⟩ := List.mem_map.mp hq
    refine .lst (fun r => ?_) fun d hd => ?_
    · obtain ⟨a, us, e, h, hr⟩ := r.lst_inv
      cases e; rw [h1] at h; cases h
      have hp2 := hl p hp
      have e := RpL.atoms (f := V.int) (xs := p.2) hr
      cases hc : p.2 with
      | nil => exact hp2 hc
      | cons i is =>
        rw [hc] at e
        subst e
        have hlen := h2.1
        rw [List.length_map, List.length_map] at hlen
        cases hf : found with
        | nil => rw [hf] at hlen; simp at hlen
        | cons r0 rs =>
          rw [hf] at h2
          have := h2.2 0 (V.int i) (dRow r0) rfl rfl
          obtain ⟨_, _, z, _⟩ := this.tup_inv
          cases z
    · obtain ⟨i, _, rfl⟩ := List.mem_map.mp hd; exact .v _
  · obtain ⟨a, vs, e, h, _⟩ := r.dtt_inv; cases e; rw [rem_ne hne, h3] at h; cases h
  · obtain ⟨p, hp, rfl⟩ := List.mem_map.mp hq
    refine .lst (fun r => ?_) fun d hd => ?_
    · obtain ⟨a, vs, e, h, _⟩ := r.lst_inv; cases e; rw [rem_ne hne, h3] at h; cases h
    · obtain ⟨i, _, rfl⟩ := List.mem_map.mp hd; exact .v _
/-- out of the scope: what is represented does not need the Growing -/
theorem sc_back {S : Hp} {o1 : HO} {vs : List V} {C dx : Addr} {fs : List (Str × V)} (hx : S x = none) (hl : S l = none) (ne : x ≠ l) (r3 : RpL (upd (upd S l (.lst vs)) x (.ins C dx fs)) vs (found.map dRow)) :
    rem (rem (upd (upd S l (.lst vs)) x (.ins C dx fs)) l) x = S ∧ (∀ d, SafeD found d → Off (Rp (upd (upd S l (.lst vs)) x (.ins C dx fs)) (.ref l)) d ∧ Off (Rp (rem (upd (upd S l (.lst vs)) x (.ins C dx fs)) l) (.ref x)) d) ∧
      (∀ ps, upd (upd S l (.lst vs)) x (.ins C dx fs) l ≠ some (.tbl ps)) ∧ ∀ ps, rem (upd (upd S l (.lst vs)) x (.ins C dx fs)) l x ≠ some (.tbl ps) := by
  have q1 : upd (upd S l (.lst vs)) x (.ins C dx fs) l = some (.lst vs) := by rw [upd_ne ne.symm, upd_same]
  refine ⟨?_, fun d hd => hd _ l x C dx vs fs q1 r3 upd_same, ⟨fun ps z => (by rw [q1] at z; cases z), fun ps z => (by rw [rem_ne ne, upd_same] at z; cases z)⟩⟩
  funext a
  unfold rem upd
  by_cases h1 : a = x
  · subst h1; rw [if_pos rfl, hx]
  · rw [if_neg h1]
    by_cases h2 : a = l
    · subst h2; rw [if_pos rfl, hl]
    · rw [if_neg h2, if_neg h1, if_neg h2]
abbrev gSlot (K : PySem.W.Frag) (cols : List (List Int)) (many : Nat) (top : Option (List Int)) (found : List (List Int)) (x : Addr) : Option Da := some (.nm (.ref x) (dGrow K cols many top found))
theorem gp_open {S F H : Hp} {σ : L2.St} (hs : Sep S F H) (h : Pv (some (.v (.ref x)) :: env) (GpF K cols many top found x l F0) S F σ) : ∃ dx c vt vs, F0 x = none ∧ F0 l = none ∧ x ≠ l ∧ F = upd (upd F0 x (gIns K dx c l many vt)) l (.lst vs) ∧ S x = none ∧ S l = none ∧ Rp S (.ref c) (dCols cols) ∧ Rp S vt (dTop top) ∧ RpL S vs (found.map dRow) ∧
    Sc l (.lst vs) (Sc x (gIns K dx c l many vt) (Pv (gSlot K cols many top found x :: env) fun _ F => F = F0)) S F σ := by
  obtain ⟨dx, c, vt, vs, h1, h2, h3, rfl, h5, h6, h7⟩ := GpF.up h.2
  have hl : S l = none := hs.freeSF upd_same
  have hx : S x = none := hs.freeSF (by rw [upd_ne h3]; exact upd_same)
  have g : Gr S (upd (upd S l (.lst vs)) x (gIns K dx c l many vt)) := (Gr.new hl).trans (Gr.new (by rw [upd_ne h3]; exact hx))
  refine ⟨dx, c, vt, vs, h1, h2, h3, rfl, hx, hl, h5, h6, h7, upd_same, ?_, ?_⟩
  · rw [rem_upd (by rw [upd_ne h3.symm]; exact h2)]; exact upd_same
  · rw [rem_upd (by rw [upd_ne h3.symm]; exact h2), rem_upd h1]
    refine ⟨⟨h.1.1, fun i d e => ?_⟩, Up.of rfl⟩
    cases i with
    | zero =>
      cases e
      obtain ⟨v, a, b⟩ := h.1.2 0 _ rfl
      obtain rfl := b.v_inv
      refine ⟨_, a, .nm (.ins upd_same rfl fun i v y p q => ?_)⟩
      match i, p, q with
      | 0, p, q => cases p; cases q; exact h5.mono g
      | 1, p, q => cases p; cases q; exact .v _
      | 2, p, q => cases p; cases q; exact h6.mono g
      | 3, p, q => cases p; cases q; exact .lst (by rw [upd_ne h3.symm]; exact upd_same) (h7.mono g).1 (h7.mono g).2
      | i + 4, p, q => simp at p
    | succ i =>
      obtain ⟨v, a, b⟩ := h.1.2 (i + 1) d e
      exact ⟨v, a, b.mono g⟩
/-- a statement within -/
theorem t1_grow (h : T1 f (Pv (gSlot K cols many top found x :: env) fun _ F => F = F0) st (Pv (gSlot K cols many top found x :: env') fun _ F => F = F0) (fun _ _ _ => False)) (safe : ∀ d, some d ∈ env' → SafeD found d) :
    T1 f (Pv (some (.v (.ref x)) :: env) (GpF K cols many top found x l F0)) st (Pv (some (.v (.ref x)) :: env') (GpF K cols many top found x l F0)) Rt := fun S F σ H D hp hs q dn => by
  obtain ⟨dx, c, vt, vs, n1, n2, ne, eF, hx, hl, r1, r2, r3, sc⟩ := gp_open hs hp
  have h2 := t1_sc (p := l) (o := .lst vs) (t1_sc (p := x) (o := gIns K dx c l many vt) h)
  refine h2 S F σ H D sc hs q ⟨fun S' F' σ' H' g s k ⟨a1, a2, hq⟩ => ?_, fun S' F' v H' g s k ⟨a1, a2, hq⟩ => hq.elim⟩
  have hl' : S' l = none := s.freeSF a1
  have ax : F' x = some (gIns K dx c l many vt) := by rwa [rem_ne ne] at a2
  have hx' : S' x = none := s.freeSF ax
  have g' : Gr S' (upd (upd S' l (.lst vs)) x (gIns K dx c l many vt)) := (Gr.new hl').trans (Gr.new (by rw [upd_ne ne]; exact hx'))
  obtain ⟨e1, e2, e3, e4⟩ := sc_back (o1 := gIns K dx c l many vt) (found := found) (C := cG K) (dx := dx) (fs := _) hx' hl' ne ((r3.mono g).mono g')
  obtain ⟨hσ, S1, g1, eF'⟩ := hq
  refine dn.nx S' F' σ' H' g s k ⟨⟨hσ.1, fun i d e => ?_⟩, S', Gr.refl _, dx, c, vt, vs, n1, n2, ne, ?_, r1.mono g, r2.mono g, r3.mono g⟩
  · cases i with
    | zero =>
      cases e
      obtain ⟨v, a, b⟩ := hσ.2 0 _ rfl
      obtain ⟨rfl, _⟩ := b.nm_inv
      exact ⟨_, a, .v _⟩
    | succ i =>
      obtain ⟨v, a, b⟩ := hσ.2 (i + 1) d e
      obtain ⟨o1, o2⟩ := e2 d (safe d (List.mem_of_getElem? (i := i) e))
      have := (b.off o1 e3).off o2 e4
      rw [e1] at this
      exact ⟨v, a, this⟩
  · have h1 := upd_rem (S := rem F' l) a2
    rw [eF'] at h1
    have h2 := upd_rem (S := F') a1
    rw [← h1] at h2
    exact h2.symm
end
end Em
set_option maxHeartbeats 1000000
/-! The walk (9): Growing.run. -/
namespace Em
open PySem PySem.Spec PyProof.Rows L2 RZ
section
variable {P : Program} {w : World} {K : PySem.W.Frag} {mg : Str → Option Value} {base : Heap}
variable {f : Fr} {env env' : En} {st : Stmt} {cols : List (List Int)} {many : Nat} {top : Option (List Int)} {found : List (List Int)} {x l : Addr} {F0 : Hp} {Rt : Rr}
/-- x = [rows] within: the list is one's own -/
theorem t1_growLc {i : Nat} {rows : List (List Int)} (h : T1 f (Pv (gSlot K cols many top found x :: env) fun _ F => F = F0) st (fun S F σ => ∃ a, Pv (gSlot K cols many top found x :: env.set i (some (.v (.ref a)))) (AccL a (fun _ F => F = F0) (rows.map dRow)) S F σ) (fun _ _ _ => False)) (safe : ∀ d, some d ∈ env → SafeD found d) :
    T1 f (Pv (some (.v (.ref x)) :: env) (GpF K cols many top found x l F0)) st (fun S F σ => ∃ a us, F0 a = none ∧ RpL S us (rows.map dRow) ∧ Pv (some (.v (.ref x)) :: env.set i (some (.v (.ref a)))) (GpF K cols many top found x l (upd F0 a (.lst us))) S F σ) Rt := fun S F σ H D hp hs q dn => by
  obtain ⟨dx, c, vt, vs, n1, n2, ne, eF, hx, hl, r1, r2, r3, sc⟩ := gp_open hs hp
  have h2 := t1_sc (p := l) (o := .lst vs) (t1_sc (p := x) (o := gIns K dx c l many vt) h)
  refine h2 S F σ H D sc hs q ⟨fun S' F' σ' H' g s k ⟨a1, a2, hq⟩ => ?_, fun S' F' v H' g s k ⟨a1, a2, hq⟩ => hq.elim⟩
  have hl' : S' l = none := s.freeSF a1
  have ax : F' x = some (gIns K dx c l many vt) := by rwa [rem_ne ne] at a2
  have hx' : S' x = none := s.freeSF ax
  have g' : Gr S' (upd (upd S' l (.lst vs)) x (gIns K dx c l many vt)) := (Gr.new hl').trans (Gr.new (by rw [upd_ne ne]; exact hx'))
  obtain ⟨e1, e2, e3, e4⟩ := sc_back (o1 := gIns K dx c l many vt) (found := found) (C := cG K) (dx := dx) (fs := _) hx' hl' ne ((r3.mono g).mono g')
  obtain ⟨a, hσ, S1, g1, F1, us, ⟨S2, g2, rfl⟩, na, eF', ru⟩ := hq
  have hax : a ≠ x := fun z => by subst z; have := congrFun eF' a; rw [upd_same, rem_same] at this; cases this
  have hal : a ≠ l := fun z => by subst z; have := congrFun eF' a; rw [upd_same, rem_ne ne.symm, rem_same] at this; cases this
  have back : ∀ {v : V} {d : Da}, Rp (upd (upd S' l (.lst vs)) x (gIns K dx c l many vt)) v d → SafeD found d → Rp S' v d := fun b sd => by
    obtain ⟨o1, o2⟩ := e2 _ sd
    have := (b.off o1 e3).off o2 e4
    rwa [e1] at this
  refine dn.nx S' F' σ' H' g s k ⟨a, us, na, ⟨ru.1, fun i v d p q => back ((ru.mono g1).2 i v d p q) ?_⟩, ⟨hσ.1, fun i d e => ?_⟩, S', Gr.refl _, dx, c, vt, vs, by rw [upd_ne hax.symm]; exact n1, by rw [upd_ne hal.symm]; exact n2, ne, ?_, r1.mono g, r2.mono g, r3.mono g⟩
  · obtain ⟨r, _, rfl⟩ := List.mem_map.mp (List.mem_of_getElem? q)
    exact safe_row r
  · cases i with
    | zero =>
      cases e
      obtain ⟨v, a, b⟩ := hσ.2 0 _ rfl
      obtain ⟨rfl, _⟩ := b.nm_inv
      exact ⟨_, a, .v _⟩
    | succ i =>
      obtain ⟨v, a, b⟩ := hσ.2 (i + 1) d e
      refine ⟨v, a, back b ?_⟩
      have hm : some d ∈ _ := List.mem_of_getElem? (i := i) e
      rcases List.mem_or_eq_of_mem_set hm with hm | hm
      · exact safe d hm
      · cases hm; exact safe_v _
  · have h1 := upd_rem (S := rem F' l) a2
    rw [eF'] at h1
    have h2 := upd_rem (S := F') a1
    rw [← h1] at h2
    exact h2.symm
/-- self.found.extend(x), x a list of one's own -/
theorem t1_growExt (i : Nat) {rows : List (List Int)} {a : Addr} {y s0 : Str} {apos px cpos spos p2 ys : Pos} (M : Md K mg) (hK : f.K = K) (he : env[i]? = some (some (.v (.ref a)))) (hlen : found.length + rows.length ≤ 10000000) (hN0 : f.N[0]? = some s0) (hN : f.N[i + 1]? = some y) (hv0 : Vis f.sc s0) (hv : Vis f.sc y)
    (hd0 : (s0 == ("__debug__" : Str)) = false) (hcd0 : (s0 == ("__classdict__" : Str)) = false) (hd : (y == ("__debug__" : Str)) = false) (hcd : (y == ("__classdict__" : Str)) = false)
    (hb0 : ∀ env, attributeBase (.Name s0 px) "found" env (eval (.Name s0 px) env) = eval (.Name s0 px) env := by intro _; rfl)
    (hb : ∀ env, attributeBase (.Attribute (.Name s0 px) "found" p2) "extend" env (eval (.Attribute (.Name s0 px) "found" p2) env) = eval (.Attribute (.Name s0 px) "found" p2) env := by intro _; rfl)
    (hf : ∀ env, ((backTo cpos (starEach [.Name y ys] env)).all (fun x => !x.1) && (backToKw cpos (keywordEach [] env)).all (fun x => x.1.isSome) && decide (([.Name y ys] : List Expr).length + ([] : List Keyword).length + (if ([] : List Keyword).isEmpty then 0 else 1) < 30)) = true := by intro _; rfl)
    (hli : (apos.endLine == cpos.line) = true := by rfl) (hs : ∀ env, starEach [.Name y ys] env = [(false, eval (.Name y ys) env)] := by intro _; rfl) (hpl : ∀ env, (backTo cpos (starEach [] env)).any (·.1) = false := by intro _; rfl) (hsw : ∀ l env, swapsWith (.Call (.Attribute (.Attribute (.Name s0 px) "found" p2) "extend" apos) [.Name y ys] [] cpos) none l env = pure false := by intro _ _; rfl) :
    T1 f (fun S F σ => ∃ us, F0 a = none ∧ RpL S us (rows.map dRow) ∧ Pv (some (.v (.ref x)) :: env) (GpF K cols many top found x l (upd F0 a (.lst us))) S F σ) (.Expr (.Call (.Attribute (.Attribute (.Name s0 px) "found" p2) "extend" apos) [.Name y ys] [] cpos) spos)
      (Pv (some (.v (.ref x)) :: env) (GpF K cols many top (found ++ rows) x l F0)) Rt := fun S F σ H D ⟨us, na, ru, hp⟩ hs' _ dn => by
  obtain ⟨dx, c, vt, vs, n1, n2, ne, rfl, h5, h6, h7⟩ := GpF.up hp.2
  have hax : a ≠ x := fun z => by subst z; rw [upd_same] at n1; cases n1
  have hal : a ≠ l := fun z => by subst z; rw [upd_same] at n2; cases n2
  have n1' : F0 x = none := by rwa [upd_ne hax.symm] at n1
  have n2' : F0 l = none := by rwa [upd_ne hal.symm] at n2
  refine wS_of (t := tDrop (tBM f.K "list" rExtend (tFld f.K (tVar 0) "found") (tCons (tVar (i + 1)) tNil))) (fun X hX => ps_expr (by rw [← hX.K]; exact pe_bm PySem.F.plainAttrs_list PySem.F.slot_list_extend PySem.F.type_list_extend mt_extend (pe_fld (pe_var (i := 0) (by rw [hX.N]; exact hN0) (by rw [hX.sc]; exact hv0) hd0 hcd0) (hb0 _)) (pa_cons (pe_var (i := i + 1) (by rw [hX.N]; exact hN) (by rw [hX.sc]; exact hv) hd hcd) pa_nil (hs _)) (hb _) (hf _) hli (hs _) (hpl _)) (hsw _ _)) ?_
  have hHl : H l = some (.lst vs) := hs'.prv l _ upd_same
  have hHx : H x = some (gIns K dx c l many vt) := hs'.prv x _ (by rw [upd_ne ne]; exact upd_same)
  have hHa : H a = some (.lst us) := hs'.prv a _ (by rw [upd_ne hal, upd_ne hax]; exact upd_same)
  subst hK
  refine ⟨.ref x, slot_ref (env := some (.v (.ref x)) :: env) (i := 0) hp.1 rfl, x, _, dx, _, .ref l, rfl, hHx, M.cls "Growing", M.noat "Growing" "found", rfl, .inl ⟨rfl, vs, .of hHl⟩, .ref a, slot_ref (env := some (.v (.ref x)) :: env) (i := i + 1) hp.1 he, l, a, vs, us, rfl, rfl, hHl, hHa, Nat.le_trans (show vs.length + us.length ≤ 10000000 by rw [h7.1, ru.1, List.length_map, List.length_map]; exact hlen) (by decide), ?_⟩
  have s2 := hs'.put (u := .lst (vs ++ us)) upd_same
  rw [upd_upd] at s2
  have s3 := s2.drop (p := a)
  have eF : rem (upd (upd (upd F0 a (.lst us)) x (gIns f.K dx c l many vt)) l (.lst (vs ++ us))) a = upd (upd F0 x (gIns f.K dx c l many vt)) l (.lst (vs ++ us)) := by
    funext b
    unfold rem upd
    by_cases hb : b = a
    · subst hb; rw [if_pos rfl, if_neg hal, if_neg hax, na]
    · rw [if_neg hb]
      by_cases h1 : b = l
      · rw [if_pos h1, if_pos h1]
      · rw [if_neg h1, if_neg h1]
        by_cases h2 : b = x
        · rw [if_pos h2, if_pos h2]
        · rw [if_neg h2, if_neg h2, if_neg hb]
  rw [eF] at s3
  exact dn.nx S _ σ _ (Gr.refl _) s3 (Kf.put hHl fun _ _ z => nomatch z) ⟨hp.1, S, Gr.refl _, dx, c, vt, vs ++ us, n1', n2', ne, rfl, h5, h6, by rw [List.map_append]; exact h7.append ru⟩
/-- what one made is public from here on -/
theorem t1_toldT {i : Nat} {C : Cd} {xs : List (List Key × Da)} (h : T1 f (Pv env C) st (fun S F σ => ∃ a, Pv (env'.set i (some (.v (.ref a)))) (AccT a C xs) S F σ) Rt) (hi : i < env'.length) : T1 f (Pv env C) st (Pv (env'.set i (some (.dtt xs))) C) Rt := fun S F σ H D hp hs q dn =>
  h S F σ H D hp hs q ⟨fun S' F' σ' H' g s k ⟨a, hσ, S1, g1, F1, vs, c, n, e, r⟩ => by
    subst e
    have hT := s.tell (p := a) upd_same
    rw [rem_upd n] at hT
    have hSa : S' a = none := s.freeSF upd_same
    refine dn.nx _ F1 σ' H' (g.trans (Gr.new hSa)) hT k ⟨⟨by rw [List.length_set]; rw [hσ.1, List.length_set], fun j d e => ?_⟩, c.mono (g1.trans (Gr.new hSa))⟩
    by_cases hj : i = j
    · subst hj
      rw [List.getElem?_set_self hi] at e
      cases e
      obtain ⟨v, hv, rv⟩ := hσ.2 i (.v (.ref a)) (List.getElem?_set_self hi)
      obtain rfl := rv.v_inv
      exact ⟨_, hv, .dttK upd_same (r.mono (g1.trans (Gr.new hSa)))⟩
    · rw [List.getElem?_set_ne hj] at e
      obtain ⟨v, hv, rv⟩ := hσ.2 j d (by rw [List.getElem?_set_ne hj]; exact e)
      exact ⟨v, hv, rv.mono (Gr.new hSa)⟩, fun S' F' v H' g s k hr => dn.rt S' F' v H' g s k hr⟩
end
theorem dttOf_nodup {α : Type} {key : α → List Key} {r : α → Da} {xs : List α} (h : (xs.map key).Nodup) : dttOf key r xs = xs.map fun a => (key a, r a) := by
  have gen : ∀ (xs : List α) (acc : List (List Key × Da)), (xs.map key).Nodup → (∀ a ∈ xs, key a ∉ acc.map (·.1)) → xs.foldl (fun acc a => putD acc (key a) (r a)) acc = acc ++ xs.map fun a => (key a, r a) := by
    intro xs
    induction xs with
    | nil => intro acc _ _; simp
    | cons a xs ih =>
      intro acc h hn
      rw [List.map_cons, List.nodup_cons] at h
      rw [List.foldl_cons, putD_new (hn a List.mem_cons_self), ih _ h.2 fun b hb hm => ?_]
      · simp
      · rw [List.map_append, List.mem_append] at hm
        rcases hm with hm | hm
        · exact hn b (List.mem_cons_of_mem _ hb) hm
        · have : key b = key a := by simpa using hm
          exact h.1 (this ▸ List.mem_map_of_mem hb)
  unfold dttOf
  rw [gen xs [] h (fun _ _ => by simp)]; rfl
theorem firstOf_zip (none : List Int) : ∀ (cs : List (List Int)) (k : Nat), CD.firstOf none cs k = (cs.zipIdx k).map fun p => (CD.raised none p.2, p.1)
  | [], _ => rfl
  | c :: cs, k => by rw [CD.firstOf, firstOf_zip none cs (k + 1)]; rfl
section
variable {P : Program} {w : World} {K : PySem.W.Frag} {mg : Str → Option Value} {base : Heap}
/-- return [rows] within: the list is one's own -/
theorem t1_growRet {f : Fr} {env : En} {st : Stmt} {cols : List (List Int)} {many : Nat} {top : Option (List Int)} {found rows : List (List Int)} {x l : Addr} {F0 : Hp} {Nx : Pr} (h : T1 f (Pv (gSlot K cols many top found x :: env) fun _ F => F = F0) st (fun _ _ _ => False) (fun S F v => ∃ a, v = .ref a ∧ AccL a (fun _ F => F = F0) (rows.map dRow) S F)) :
    T1 f (Pv (some (.v (.ref x)) :: env) (GpF K cols many top found x l F0)) st Nx (fun S F v => ∃ a us, v = .ref a ∧ F0 a = none ∧ RpL S us (rows.map dRow) ∧ rem (rem F l) x = upd F0 a (.lst us)) := fun S F σ H D hp hs q dn => by
  obtain ⟨dx, c, vt, vs, n1, n2, ne, eF, hx, hl, r1, r2, r3, sc⟩ := gp_open hs hp
  have h2 := t1_sc (p := l) (o := .lst vs) (t1_sc (p := x) (o := gIns K dx c l many vt) h)
  refine h2 S F σ H D sc hs q ⟨fun S' F' σ' H' g s k ⟨a1, a2, hq⟩ => hq.elim, fun S' F' v H' g s k ⟨a1, a2, hq⟩ => ?_⟩
  have hl' : S' l = none := s.freeSF a1
  have ax : F' x = some (gIns K dx c l many vt) := by rwa [rem_ne ne] at a2
  have hx' : S' x = none := s.freeSF ax
  have g' : Gr S' (upd (upd S' l (.lst vs)) x (gIns K dx c l many vt)) := (Gr.new hl').trans (Gr.new (by rw [upd_ne ne]; exact hx'))
  obtain ⟨e1, e2, e3, e4⟩ := sc_back (o1 := gIns K dx c l many vt) (found := found) (C := cG K) (dx := dx) (fs := _) hx' hl' ne ((r3.mono g).mono g')
  obtain ⟨a, rfl, F1, us, ⟨S2, g2, rfl⟩, na, eF', ru⟩ := hq
  refine dn.rt S' F' _ H' g s k ⟨a, us, rfl, na, ⟨ru.1, fun i v d p q => ?_⟩, eF'⟩
  obtain ⟨r, _, rfl⟩ := List.mem_map.mp (List.mem_of_getElem? q)
  obtain ⟨o1, o2⟩ := e2 _ (safe_row r)
  have := ((ru.2 i v _ p q).off o1 e3).off o2 e4
  rwa [e1] at this
/-- run of a Growing that one made -/
def spRun (K : PySem.W.Frag) : Sp := fun vs H Q _ => ∃ S F F0 x l cols d many top, GCfg cols d many top ∧ vs = [.ref x] ∧ Sep S F H ∧ GpF K cols many top [] x l F0 S F ∧ ∀ v S' H', Gr S S' → Sep S' F0 H' → Kf H H' → Rp S' v (.lst (((grown cols d many top).map fun r => r.take many).map dRow)) → Q v H'
theorem bne_dec (n : Int) : (n != 0) = decide (n ≠ 0) := by
  by_cases h : n = 0 <;> simp [h]
theorem m_run (M : Md K mg) : C8.Met P w K mg base 4 (cG K) "run" (spRun K) [] := by
  obtain ⟨fd, F⟩ := M.says.defs (d := d_Growing_run) (by simp [fn])
  have F' : FunD K "run" "Growing.run" d_Growing_run.params d_Growing_run.body d_Growing_run.scope [] [] (He.ma K (cG K) "run") fd := F
  refine ⟨_, fd, ["self"], [], M.cls "Growing", M.meth "Growing" "run", fn_tr (N := ["self", "none", "level", "done", "column", "at", "row", "total"]) F' (C8.fnScope_by (by decide +kernel)) (fun vs H Q E ⟨_, _, _, _, _, _, _, _, _, _, h, _⟩ => by rw [h]; rfl) ?_, F'.bindsN (fun _ _ _ _ _ _ us hl => match us, hl with | [_], _ => rfl), .nil⟩
  rintro vs H Q E ⟨S, F, F0, x, l, cols, d, many, top, G, rfl, hs, hg, hq⟩
  have B := (CD.ballOf d).length + 1
  refine ⟨S, F, Pv (some (.v (.ref x)) :: [none, none, none, none, none, none, none]) (GpF K cols many top [] x l F0), [], none_, fun S F v => ∃ a us, v = .ref a ∧ F0 a = none ∧ RpL S us (((grown cols d many top).map fun r => r.take many).map dRow) ∧ rem (rem F l) x = upd F0 a (.lst us), hs, ⟨⟨rfl, fun i z e => ?_⟩, .of hg⟩, ?_, ⟨fun _ _ _ _ _ _ _ h => h.elim, fun S' F' v H' g s k ⟨a, us, e1, na, ru, eF⟩ => ?_⟩⟩
  · match i, e with
    | 0, e => cases e; exact ⟨_, rfl, .v _⟩
    | 1, e | 2, e | 3, e | 4, e | 5, e | 6, e | 7, e => cases e
    | i + 8, e => simp at e
  · have hcl : cols.length ≤ 10000000 := Nat.le_trans G.few (by decide)
    have d0 : 1 ≤ d := by have := G.dim; omega
    have sv : ∀ {e : En} {fo : List (List Int)}, e = [none, none, none, none, none, none, none] → ∀ z, some z ∈ e → SafeD fo z := fun h z hz => by subst h; simp at hz
    -- none = tuple([0 ..])
    refine tr_cons (t1_grow (env' := [some (dRow (cols.map fun _ => 0)), none, none, none, none, none, none]) (t1_set 1 (EX.cast (ex_tuple (ex_map cols (r := fun _ => dI 0) [("column", 4)] (it_lst (ex_gcols M (ex_varN 0))) hcl (fun c _ => tg_name 4) (fun c _ => ex_int)) (M.free "tuple")) (by unfold dRow; rw [List.map_map]; rfl))) fun z hz => ?_) ?_
    · simp at hz; subst hz; exact safe_row _
    -- level = {..}
    refine tr_cons (t1_grow (env' := [some (dRow (cols.map fun _ => 0)), some (dLev (CD.GSt.start cols).level), none, none, none, none, none]) (t1_toldT (i := 2) (env' := [gSlot K cols many top [] x, some (dRow (cols.map fun _ => 0)), none, none, none, none, none, none]) (xs := (CD.GSt.start cols).level.map encL) ?_ (by simp)) fun z hz => ?_) ?_
    · have e : (CD.GSt.start cols).level.map encL = dttOf (fun p : List Int × Nat => (CD.raised (cols.map fun _ => 0) p.2).map Sum.inl) (fun p => dLis p.1) cols.zipIdx := by
        have e2 : (CD.GSt.start cols).level = CD.firstOf (cols.map fun _ => 0) cols 0 := rfl
        have nd := CD.firstOf_nodup (cols := cols) (cs := cols) (k := 0) (by omega)
        rw [firstOf_zip, List.map_map] at nd
        rw [dttOf_nodup, e2, firstOf_zip, List.map_map]
        · rfl
        · have := nd.map (f := List.map (Sum.inl : Int → Key)) (S := fun a b => a ≠ b) fun a b hne h => hne (inl_inj.mp h)
          rw [List.map_map] at this
          exact this
      rw [e]
      refine t1_setDtO 2 cols.zipIdx (enc := fun p => .tup [dI (p.2 : Nat), dLis p.1]) (envA := fun p => [gSlot K cols many top [] x, some (dRow (cols.map fun _ => 0)), none, none, some (dLis p.1), some (dI (p.2 : Nat)), none, none]) [("at", 5), ("column", 4)] (.cast (it_enumL (ex_gcols M (ex_varN 0)) (M.free "enumerate")) (enumD_map ..)) (by rw [List.length_zipIdx]; exact hcl) (fun p _ => tg_two 5 4) (fun p hp => ?_) (fun p _ => ex_var 4)
      exact EX.cast (ex_meth (m_raised M) (ex_varN 0) (ea_cons (ex_var 1) (ea_cons (ex_var 5) ea_nil)) rfl ⟨cols, many, top, [], cols.map fun _ => 0, p.2, rfl, by rw [List.length_map]; have := G.few; omega, rfl⟩) (dKey_row _).symm
    · simp at hz
      rcases hz with rfl | rfl
      · exact safe_row _
      · refine safe_lev fun p hp => ?_
        have := (G.tot 0 p hp).1
        intro h; rw [h] at this; simp at this; omega
    -- while
    refine tr_cons (Mid := Pv (some (.v (.ref x)) :: [none, none, none, none, none, none, none]) (GpF K cols many top (grown cols d many top) x l F0)) ?_ ?_
    · refine t1_conv (t1_while (fun n S F σ => n ≤ (CD.ballOf d).length + 1 ∧ Pv (some (.v (.ref x)) :: [none, some (dLev (CD.GSt.iter cols many top ((CD.ballOf d).length + 1 - n)).level), none, none, none, none, none]) (GpF K cols many top (CD.GSt.iter cols many top ((CD.ballOf d).length + 1 - n)).found x l F0) S F σ) ((CD.ballOf d).length + 1) fun n => ?_) (fun S F σ h => ⟨Nat.le_refl _, by rw [Nat.sub_self]; exact h.forget [1]⟩) (fun _ _ _ h => h) (fun _ _ _ h => h)
      refine ⟨_, _, !(((CD.GSt.iter cols many top ((CD.ballOf d).length + 1 - n)).level.map encL).length == 0), fun S F σ h => h.2, Sees.nil rfl, et_cmp od_neTE (ex_var 2) ex_dnewT, fun hb => ?_, fun hb S F σ ⟨S0, g0, hn, h⟩ => ?_⟩
      · generalize hk : (CD.ballOf d).length + 1 - n = k at hb ⊢
        have hk2 : k ≤ (CD.ballOf d).length := by
          cases hl : (CD.GSt.iter cols many top k).level with
          | nil => rw [hl] at hb; simp at hb
          | cons p ps => exact CD.level_few G.setup (p := p) (by rw [hl]; exact List.mem_cons_self)
        refine tr_pre (Q := fun S F σ => n ≤ (CD.ballOf d).length + 1 ∧ Pv (some (.v (.ref x)) :: [none, some (dLev (CD.GSt.iter cols many top k).level), none, none, none, none, none]) (GpF K cols many top (CD.GSt.iter cols many top k).found x l F0) S F σ) (tr_and fun hn => ?_) (fun S F σ ⟨S0, g0, hn, h⟩ => ⟨hn, h.mono g0⟩)
        have lev_safe : ∀ {fo : List (List Int)} (j : Nat), SafeD fo (dLev (CD.GSt.iter cols many top j).level) := fun j => safe_lev fun p hp => by
          have := (G.tot j p hp).1
          intro h; rw [h] at this; simp at this; omega
        refine tr_cons (t1_growLc (i := 2) (rows := CD.doneOf (CD.isLet many top (CD.GSt.iter cols many top k).found) (CD.GSt.iter cols many top k).level) ?_ fun z hz => ?_) (tr_ex fun a => ?_)
        · have e : (CD.doneOf (CD.isLet many top (CD.GSt.iter cols many top k).found) (CD.GSt.iter cols many top k).level).map dRow = filtered (fun p : List Int × List Int => CD.isLet many top (CD.GSt.iter cols many top k).found p.1 && !(p.2.any fun n => n != 0)) (fun p => dRow p.1) (CD.GSt.iter cols many top k).level := by
            unfold CD.doneOf filtered
            rw [List.map_map]
            simp only [bne_dec]
            rfl
          rw [e]
          refine t1_lockT 2 (kvs := (CD.GSt.iter cols many top k).level.map encL) (t1_setLcO 3 (CD.GSt.iter cols many top k).level (enc := fun p => .tup [dRow p.1, dLis p.2]) (envA := fun p => [gSlot K cols many top (CD.GSt.iter cols many top k).found x, none, some (dLev (CD.GSt.iter cols many top k).level), none, none, none, some (dRow p.1), some (dLis p.2)]) [("row", 6), ("total", 7)] (.cast (it_itemsT (srcT_var 2)) ?_) (Nat.le_trans (G.levelLen k) (by decide)) (fun p _ => tg_two 6 7) (fun p hp => ef_one (et_w (ew_and (et_val (ex_meth (m_is_let M) (ex_varN 0) (ea_cons (ex_var 6) ea_nil) rfl ⟨cols, many, top, _, p.1, G.gr k k p hp, rfl, rfl⟩)) fun _ => ew_and1 (et_not (et_val (ex_anyI (ex_var 7) (M.free "any"))))))) (fun p _ _ => ex_var 6))
          rw [List.map_map]
          refine List.map_congr_left fun p _ => ?_
          show Da.tup [dKey (p.1.map Sum.inl), dLis p.2] = _
          rw [dKey_row]
        · simp at hz; subst hz; exact lev_safe k
        · have hfl : (CD.GSt.iter cols many top k).found.length + (CD.doneOf (CD.isLet many top (CD.GSt.iter cols many top k).found) (CD.GSt.iter cols many top k).level).length ≤ 10000000 := by
            have := G.foundLen (k + 1)
            have e : (CD.GSt.iter cols many top (k + 1)).found = (CD.GSt.iter cols many top k).found ++ CD.doneOf (CD.isLet many top (CD.GSt.iter cols many top k).found) (CD.GSt.iter cols many top k).level := rfl
            rw [e, List.length_append] at this
            omega
          refine tr_cons (t1_growExt 2 (a := a) M rfl rfl hfl rfl rfl (by first | exact .inl rfl | exact .inr (.inl rfl) | exact .inr (.inr rfl)) (by first | exact .inl rfl | exact .inr (.inl rfl) | exact .inr (.inr rfl)) (by decide) (by decide) (by decide) (by decide)) ?_
          refine tr_cons (t1_grow (env' := [none, some (dLev (CD.GSt.iter cols many top (k + 1)).level), some (.v (.ref a)), none, none, none, none]) (t1_set 2 (ex_meth (m_later M) (ex_varN 0) (ea_cons (ex_var 2) ea_nil) rfl ⟨cols, many, top, _, _, G.lv k (k + 1), rfl, rfl⟩)) fun z hz => ?_) ?_
          · simp at hz
            rcases hz with rfl | rfl
            · exact lev_safe (k + 1)
            · exact safe_v _
          · refine tr_nil fun S F σ h => ⟨n - 1, by omega, by omega, ?_⟩
            rw [show (CD.ballOf d).length + 1 - (n - 1) = k + 1 by omega]
            exact h.forget [3]
      · have he : (CD.GSt.iter cols many top ((CD.ballOf d).length + 1 - n)).level = [] := by
          rw [List.length_map] at hb
          exact List.length_eq_zero_iff.mp (by simpa using hb)
        have h := (h.mono g0).forget [2]
        rw [G.grown_eq (by omega) he] at h
        exact h
    -- return
    refine tr_one (t1_growRet ?_)
    have e : ((grown cols d many top).map fun r => r.take many).map dRow = filtered (fun _ => true) (fun r : List Int => dRow (r.take many)) (grown cols d many top) := by
      unfold filtered
      rw [List.filter_eq_self.mpr (fun _ _ => rfl), List.map_map]; rfl
    rw [e]
    exact t1_retLcO (grown cols d many top) (envA := fun r => [gSlot K cols many top (grown cols d many top) x, none, none, none, none, none, some (dRow r), none]) [("row", 6)] (it_lst (ex_gfound M (ex_varN 0))) (Nat.le_trans (G.foundLen _) (by decide)) (fun r _ => tg_name 6) (fun r _ => ef_nil) (fun r _ _ => EX.cast (ex_slT (xs := r.map dI) (ex_var 6) (ex_gmany M (ex_varN 0))) (by rw [← List.map_take]; rfl))
  · subst e1
    have s2 := (s.drop (p := l)).drop (p := x)
    rw [eF] at s2
    have hT := s2.tell (p := a) upd_same
    rw [rem_upd na] at hT
    have hSa : S' a = none := s2.freeSF upd_same
    exact hq _ _ H' (g.trans (Gr.new hSa)) hT k (.lstL upd_same (ru.mono (Gr.new hSa)))
end
end Em
set_option maxHeartbeats 1000000
/-! The walk (10): objects that are made. -/
namespace Em
open PySem PySem.Spec PyProof.Rows L2 RZ
theorem putF_new (m : Str) (v : V) : ∀ (fs : List (Str × V)), m ∉ fs.map (·.1) → putF m v fs = fs ++ [(m, v)]
  | [], _ => rfl
  | (g, x) :: r, h => by
    have h1 : g ≠ m := fun e => h (by simp [e])
    have h2 : m ∉ r.map (·.1) := fun e => h (by simp at e ⊢; exact .inr e)
    show (if g = m then (g, v) :: r else (g, x) :: putF m v r) = _
    rw [if_neg h1, putF_new m v r h2]; rfl
theorem RpK.snoc {κ : Type} {S : Hp} {vs : List (κ × V)} {xs : List (κ × Da)} {k : κ} {v : V} {d : Da} (h : RpK S vs xs) (r : Rp S v d) : RpK S (vs ++ [(k, v)]) (xs ++ [(k, d)]) := by
  refine ⟨by rw [List.map_append, List.map_append, h.1]; rfl, fun i w y a b => ?_⟩
  have hl := h.length
  by_cases hi : i < vs.length
  · rw [List.getElem?_append_left hi] at a
    rw [List.getElem?_append_left (by omega)] at b
    exact h.2 i w y a b
  · rw [List.getElem?_append_right (by omega)] at a
    rw [List.getElem?_append_right (by omega), ← hl] at b
    cases hj : i - vs.length with
    | zero => rw [hj] at a b; simp at a b; subst a b; exact r
    | succ j => rw [hj] at a; simp at a
/-- an instance of one's own -/
def InsF (x C : Addr) (fds : List (Str × Da)) (F0 : Hp) : Cd := fun S F => ∃ dx vs, F0 x = none ∧ F = upd F0 x (.ins C dx vs) ∧ RpK S vs fds
theorem InsF.up {x C : Addr} {fds : List (Str × Da)} {F0 S F : Hp} (h : Up (InsF x C fds F0) S F) : InsF x C fds F0 S F := by
  obtain ⟨S0, g, dx, vs, h1, h2, h3⟩ := h
  exact ⟨dx, vs, h1, h2, h3.mono g⟩
section
variable {f : Fr} {env : En} {pos : Pos} {x C : Addr} {fds : List (Str × Da)} {F0 : Hp} {Rt : Rr}
/-- self.m = e -/
theorem t1_fldO {m s0 : Str} {e : Expr} {d : Da} {px p2 : Pos} (h : EX f (some (.v (.ref x)) :: env) e d) (c : Cls f.K C) (n : NoAttr f.K C m) (hm : m ∉ fds.map (·.1)) (hl : fds.length ≤ 900 := by simp) (hpv : f.pv = [] := by rfl) (hN0 : f.N[0]? = some s0 := by rfl) (hv0 : Vis f.sc s0 := by first | exact .inl rfl | exact .inr (.inl rfl) | exact .inr (.inr rfl))
    (hd0 : (s0 == ("__debug__" : Str)) = false := by decide) (hcd0 : (s0 == ("__classdict__" : Str)) = false := by decide) (hs : ∀ l env, swapsWith e (some (.Attribute (.Name s0 px) m p2)) l env = pure false := by intro _ _; rfl) :
    T1 f (Pv (some (.v (.ref x)) :: env) (InsF x C fds F0)) (.Assign [.Attribute (.Name s0 px) m p2] e pos) (Pv (some (.v (.ref x)) :: env) (InsF x C (fds ++ [(m, d)]) F0)) Rt := fun S F σ H D hp hs' _ dn => by
  obtain ⟨dx, vs, n0, rfl, r⟩ := InsF.up hp.2
  refine wS_of (t := sFld f.K (tVar 0) (wE f e) m) (fun X hX => by rw [← hX.K]; exact ps_fld (pe_var (i := 0) (by rw [hX.N]; exact hN0) (by rw [hX.sc]; exact hv0) hd0 hcd0) (pw_e hX) (hs _ _)) ?_
  refine h S _ σ H (fun p hp => by rw [hpv] at hp; cases hp) hp.1 hs' _ fun v S1 H1 g1 s1 k1 r1 => ?_
  have hH : H1 x = some (.ins C dx vs) := s1.prv x _ upd_same
  have hln := r.length
  refine ⟨.ref x, slot_ref (env := some (.v (.ref x)) :: env) (i := 0) hp.1 rfl, x, C, dx, vs, rfl, hH, c, n, by omega, ?_⟩
  have s2 := s1.put (u := .ins C dx (putF m v vs)) upd_same
  rw [upd_upd] at s2
  refine dn.nx S1 _ σ _ g1 s2 (k1.trans (Kf.put hH fun _ _ z => nomatch z)) ⟨hp.1.mono g1, S1, Gr.refl _, dx, putF m v vs, n0, rfl, ?_⟩
  rw [putF_new m v vs (by rw [r.1]; exact hm)]
  exact (r.mono g1).snoc r1
/-- self.m = [], the list one's own -/
theorem t1_fldNewL {m s0 : Str} {px p2 p3 : Pos} (c : Cls f.K C) (n : NoAttr f.K C m) (hm : m ∉ fds.map (·.1)) (hl : fds.length ≤ 900 := by simp) (hN0 : f.N[0]? = some s0 := by rfl) (hv0 : Vis f.sc s0 := by first | exact .inl rfl | exact .inr (.inl rfl) | exact .inr (.inr rfl))
    (hd0 : (s0 == ("__debug__" : Str)) = false := by decide) (hcd0 : (s0 == ("__classdict__" : Str)) = false := by decide) (hs : ∀ l env, swapsWith (.List [] p3) (some (.Attribute (.Name s0 px) m p2)) l env = pure false := by intro _ _; rfl) :
    T1 f (Pv (some (.v (.ref x)) :: env) (InsF x C fds F0)) (.Assign [.Attribute (.Name s0 px) m p2] (.List [] p3) pos) (fun S F _ => ∃ dx vs l, F0 x = none ∧ F0 l = none ∧ x ≠ l ∧ F = upd (upd F0 x (.ins C dx (vs ++ [(m, .ref l)]))) l (.lst []) ∧ RpK S vs fds) Rt := fun S F σ H D hp hs' _ dn => by
  obtain ⟨dx, vs, n0, rfl, r⟩ := InsF.up hp.2
  refine wS_of (t := sFld f.K (tVar 0) (tLst tNil) m) (fun X hX => by rw [← hX.K]; exact ps_fld (pe_var (i := 0) (by rw [hX.N]; exact hN0) (by rw [hX.sc]; exact hv0) hd0 hcd0) (pe_lst pa_nil) (hs _ _)) ?_
  refine ⟨by decide, fun l hn => ?_⟩
  have hH0 : H x = some (.ins C dx vs) := hs'.prv x _ upd_same
  have ne : x ≠ l := ne_of_none hH0 hn
  have hln := r.length
  have hF := hs'.freeF hn
  refine ⟨.ref x, slot_ref (env := some (.v (.ref x)) :: env) (i := 0) hp.1 rfl, x, C, dx, vs, rfl, by rw [upd_ne ne]; exact hH0, c, n, by omega, ?_⟩
  rw [putF_new m (.ref l) vs (by rw [r.1]; exact hm)]
  have s1 := hs'.newF (o := .lst []) hn
  have s2 := s1.put (p := x) (o := .ins C dx vs) (u := .ins C dx (vs ++ [(m, .ref l)])) (by rw [upd_ne ne]; exact upd_same)
  refine dn.nx S _ σ _ (Gr.refl _) s2 ((Kf.new hn).trans (Kf.put (o := .ins C dx vs) (by rw [upd_ne ne]; exact hH0) fun _ _ z => nomatch z)) ⟨dx, vs, l, n0, by rwa [upd_ne ne.symm] at hF, ne, ?_, r⟩
  funext b
  unfold upd
  by_cases h1 : b = x
  · subst h1; rw [if_pos rfl, if_neg ne, if_pos rfl]
  · rw [if_neg h1]
    by_cases h2 : b = l
    · rw [if_pos h2, if_pos h2]
    · rw [if_neg h2, if_neg h2, if_neg h1, if_neg h1]
end
section
variable {P : Program} {w : World} {K : PySem.W.Frag} {mg : Str → Option Value} {base : Heap}
/-- the columns of a sheet that a Growing takes -/
structure ColOk (ps : Ps) (bs : Bs) (top : Option (List Int)) : Prop where
  good : Good ps bs
  cfg : GCfg (columns ps bs) (joints ps).length bs.length top
def spInit (K : PySem.W.Frag) : Sp := fun vs H Q _ => ∃ S F0 x dx sv tv ps bs top, ColOk ps bs top ∧ vs = [.ref x, sv, tv] ∧ F0 x = none ∧ Sep S (upd F0 x (.ins (cG K) dx [])) H ∧ Rp S sv (Sh K ps bs) ∧ Rp S tv (dTop top) ∧ ∀ S' F' H' l, Gr S S' → Sep S' F' H' → Kf H H' → GpF K (columns ps bs) bs.length top [] x l F0 S' F' → Q .non H'
theorem mak_grow (M : Md K mg) : C8.Mak P w K mg base 4 "Growing" (cG K) (spInit K) [] := by
  obtain ⟨fd, F⟩ := M.says.defs (d := d_Growing_init) (by simp [fn])
  have F' : FunD K "__init__" "Growing.__init__" d_Growing_init.params d_Growing_init.body d_Growing_init.scope [] [] (He.ma K (cG K) "__init__") fd := F
  refine ⟨_, fd, ["self", "sheet", "top"], [], M.mkr "Growing", fn_tr (N := ["self", "sheet", "top"]) F' (C8.fnScope_by (by decide +kernel)) (fun vs H Q E ⟨_, _, _, _, _, _, _, _, _, _, h, _⟩ => by rw [h]; rfl) ?_, M.glo "Growing", F'.bindsN (fun _ _ _ _ _ _ us hl => match us, hl with | [_, _, _], _ => rfl), .nil⟩
  rintro vs H Q E ⟨S, F0, x, dx, sv, tv, ps, bs, top, ok, rfl, n0, hs, r1, r2, hq⟩
  refine ⟨S, _, Pv [some (.v (.ref x)), some (Sh K ps bs), some (dTop top)] (InsF x (cG K) [] F0), [], fun S F _ => ∃ (dx : Addr) (vs : List (Str × V)) (l : Addr), F0 x = none ∧ F0 l = none ∧ x ≠ l ∧ F = upd (upd F0 x (.ins (cG K) dx (vs ++ [(("found" : Str), V.ref l)]))) l (.lst []) ∧ RpK S vs [("columns", dCols (columns ps bs)), ("many", dI (bs.length : Nat)), ("top", dTop top)], fun _ _ _ => False, hs, ⟨⟨rfl, fun i z e => ?_⟩, .of ⟨dx, [], n0, rfl, .nil⟩⟩, ?_, ⟨fun S' F' σ' H' g s k ⟨dx', vs, l, n1, n2, ne, eF, r⟩ => ?_, fun _ _ _ _ _ _ _ h => h.elim⟩⟩
  · match i, e with
    | 0, e => cases e; exact ⟨_, rfl, .v _⟩
    | 1, e => cases e; exact ⟨_, rfl, r1⟩
    | 2, e => cases e; exact ⟨_, rfl, r2⟩
    | i + 3, e => simp at e
  · refine tr_cons (t1_fldO (m := "columns") (ex_call (c_columns_of M) (ea_cons (ex_var 1) ea_nil) ⟨ps, bs, ok.good, rfl, rfl⟩) (M.cls "Growing") (M.noat "Growing" "columns") (by decide)) ?_
    refine tr_cons (t1_fldO (m := "many") (ex_callB (cd_lenOwn (m_len M) ⟨ps, bs, rfl, rfl⟩ (hn := by have := ok.good.fewB; omega)) (ea_cons (ex_var 1) ea_nil) (M.free "len") PySem.boot_len rfl) (M.cls "Growing") (M.noat "Growing" "many") (by show (_ : Str) ∉ (["columns"] : List Str); decide)) ?_
    refine tr_cons (t1_fldO (m := "top") (ex_var 2) (M.cls "Growing") (M.noat "Growing" "top") (by show (_ : Str) ∉ (["columns", "many"] : List Str); decide)) ?_
    exact tr_one (t1_fldNewL (m := "found") (M.cls "Growing") (M.noat "Growing" "found") (by show (_ : Str) ∉ (["columns", "many", "top"] : List Str); decide))
  · match vs, r with
    | [(k1, v1), (k2, v2), (k3, v3)], r =>
      have hk := r.1
      simp only [List.map_cons, List.map_nil, List.cons.injEq, and_true] at hk
      obtain ⟨rfl, rfl, rfl⟩ := hk
      have q1 := r.2 0 _ _ rfl rfl
      have q2 := r.2 1 _ _ rfl rfl
      have q3 := r.2 2 _ _ rfl rfl
      obtain ⟨c, _, e1, _, _⟩ := id q1.lst_inv
      have e2 := q2.v_inv
      dsimp only at e1 e2 q1 q2 q3
      subst e1 e2
      exact hq S' F' H' l g s k ⟨dx', c, v3, [], n1, n2, ne, eF, q1, q3, .nil⟩
    | [], r | [_], r | [_, _], r | _ :: _ :: _ :: _ :: _, r => have := r.length; simp at this
/-- Growing(sheet, top).run() -/
theorem ex_grow {f : Fr} {env : En} {pos p1 p2 p3 : Pos} {e1 e2 : Expr} {ps : Ps} {bs : Bs} {top : Option (List Int)} (M : Md f.K f.mg) (ok : ColOk ps bs top) (h1 : EX f env e1 (Sh f.K ps bs)) (h2 : EX f env e2 (dTop top)) (hk : 5 ≤ f.k := by exact Nat.le_of_ble_eq_true rfl) (hg : GlS f "Growing" := by rfl)
    (he : ∀ env, starEach [e1, e2] env = (false, eval e1 env) :: starEach [e2] env := by intro _; rfl) (he2 : ∀ env, starEach [e2] env = (false, eval e2 env) :: starEach [] env := by intro _; rfl) (hpl : ∀ env, (backTo p1 (starEach [e2] env)).any (·.1) = false := by intro _; rfl) {pl : Env → Sem Bool}
    (ht : ∀ env, eval (.Call (.Attribute (.Call (.Name "Growing" p3) [e1, e2] [] p1) "run" p2) [] [] pos) env = (do
      let ov ← eval (.Call (.Name "Growing" p3) [e1, e2] [] p1) env
      standAt p2.atName
      let (g, first) ← holding [ov] (getMethod ov "run" (pl env))
      callWith pos g first (backTo pos (starEach [] env)) (backToKw pos (keywordEach [] env))) := by intro _; rfl) :
    EX f env (.Call (.Attribute (.Call (.Name "Growing" p3) [e1, e2] [] p1) "run" p2) [] [] pos) (.lst (((grown (columns ps bs) (joints ps).length bs.length top).map fun r => r.take bs.length).map dRow)) := fun S F σ H hp hσ hs Q q => by
  refine wE_of (te := tMeth (cG f.K) "run" (spRun f.K) [] C8.E0 (tMake (cG f.K) (spInit f.K) [] C8.E0 (wA f [e1, e2])) tNil) (fun X hX => by
    have c1 := mak_grow (P := f.P) (w := f.w) (base := f.base) M
    have c2 := m_run (P := f.P) (w := f.w) (base := f.base) M
    rw [← hX.prog, ← hX.w, ← hX.K, ← hX.mg, ← hX.base] at c1 c2
    rw [← hX.K]
    exact C8.pe_mt0 (pl := pl X.env) c2 hX.room (Nat.le_trans (by decide) hk) (C8.pe_mk c1 hX.room hk (hg.gl hX) (pw_a hX) (by decide) (he _) (hpl _)) (ht _)) ?_
  refine ea_cons h1 (ea_cons h2 ea_nil he2) he S F σ H hp hσ hs _ fun vs S1 H1 g1 s1 k1 r1 => ?_
  obtain ⟨sv, tv, rfl, rs, rt⟩ := two_args r1
  intro x dx hx hdx ne
  have n0 := s1.freeF hx
  have sA := (s1.newF (o := .own x) hdx).drop (p := dx)
  rw [rem_upd (s1.freeF hdx)] at sA
  have hx2 : upd H1 dx (.own x) x = none := by rw [upd_ne ne.symm]; exact hx
  have sB := sA.newF (o := .ins (cG f.K) dx []) hx2
  refine ⟨S1, F, x, dx, sv, tv, ps, bs, top, ok, rfl, n0, sB, rs, rt, fun S' F' H' l g s k gp => ⟨rfl, ?_⟩⟩
  obtain ⟨dx', c, vt, vs, m1, m2, m3, eF, m5, m6, m7⟩ := id gp
  refine ⟨x, dx', _, rfl, s.prv x _ (by rw [eF, upd_ne m3]; exact upd_same), rfl, S', F', F, x, l, _, _, _, _, ok.cfg, rfl, s, gp, fun v S2 H2 g2 s2 k2 r2 => ?_⟩
  exact q v S2 H2 (g1.trans (g.trans g2)) s2 (k1.trans ((Kf.new hdx).trans ((Kf.new hx2).trans (k.trans k2)))) r2
end
end Em
set_option maxHeartbeats 1000000
/-! Plain law (1): texts in order, sheets in order, columns that are small. -/
namespace Em
open PySem PySem.Spec PyProof.Rows L2 RZ
/-! ### the order of texts -/
theorem strLe_iff {i j : Str} : strLe i j = true ↔ i.cps.toList ≤ j.cps.toList := by
  unfold strLe
  rw [Bool.not_eq_true', decide_eq_false_iff_not]
  exact List.not_lt
theorem strLe_total (i j : Str) : (strLe i j || strLe j i) = true := by
  rw [Bool.or_eq_true, strLe_iff, strLe_iff]
  exact List.le_total _ _
theorem strLe_trans (i j k : Str) (h : strLe i j = true) (h' : strLe j k = true) : strLe i k = true := by
  rw [strLe_iff] at h h' ⊢
  exact List.le_trans h h'
theorem strLe_antisymm {i j : Str} (h : strLe i j = true) (h' : strLe j i = true) : i = j := by
  rw [strLe_iff] at h h'
  have := List.le_antisymm h h'
  cases i; cases j
  congr 1
  exact Array.toList_inj.mp this
theorem strLe_refl (i : Str) : strLe i i = true := by
  have := strLe_total i i
  simpa using this
def Asc (l : List Str) : Prop := l.Pairwise fun a b => strLe a b = true
def sortS (l : List Str) : List Str := l.mergeSort strLe
theorem sortS_asc (l : List Str) : Asc (sortS l) := List.pairwise_mergeSort (fun a b c => strLe_trans a b c) strLe_total l
theorem sortS_perm (l : List Str) : (sortS l).Perm l := List.mergeSort_perm l _
theorem asc_uniq {l m : List Str} (h : Asc l) (h' : Asc m) (p : l.Perm m) : l = m := List.Perm.eq_of_pairwise (fun a b _ _ h1 h2 => strLe_antisymm h1 h2) h h' p
theorem sortedS_asc : ∀ {l : List Str}, sortedS l = true → Asc l
  | [], _ => .nil
  | x :: r, h => by
    have gen : ∀ (r : List Str) (p : Str), risingS p r = true → Asc (p :: r) := by
      intro r
      induction r with
      | nil => intro p _; exact List.pairwise_singleton _ _
      | cons x r ih =>
        intro p h
        have h : (!ltCps x.cps.toList p.cps.toList && risingS x r) = true := h
        rw [Bool.and_eq_true] at h
        have h1 : strLe p x = true := by
          have := h.1
          rw [ltCps_eq] at this
          exact this
        have h2 := ih x h.2
        refine List.pairwise_cons.mpr ⟨fun y hy => ?_, h2⟩
        rcases List.mem_cons.mp hy with rfl | hy
        · exact h1
        · exact strLe_trans _ _ _ h1 ((List.pairwise_cons.mp h2).1 y hy)
    exact gen r x h
theorem sortS_uniq {xs zs : List Str} (p : zs.Perm xs) (h : sortedS zs = true) : zs = sortS xs := asc_uniq (sortedS_asc h) (sortS_asc xs) (p.trans (sortS_perm xs).symm)
theorem sortS_self {l : List Str} (h : Asc l) : sortS l = l := asc_uniq (sortS_asc l) h (sortS_perm l)
theorem sortS_congr {l m : List Str} (p : l.Perm m) : sortS l = sortS m := asc_uniq (sortS_asc l) (sortS_asc m) ((sortS_perm l).trans (p.trans (sortS_perm m).symm))
/-! ### dicts in order -/
section
variable {α : Type}
def sK (l : List (Str × α)) : List (Str × α) := l.mergeSort fun a b => strLe a.1 b.1
theorem sK_perm (l : List (Str × α)) : (sK l).Perm l := List.mergeSort_perm l _
theorem sK_asc (l : List (Str × α)) : Asc ((sK l).map (·.1)) := by
  unfold Asc
  rw [List.pairwise_map]
  exact List.pairwise_mergeSort (fun a b c => strLe_trans a.1 b.1 c.1) (fun a b => strLe_total a.1 b.1) l
theorem sK_keys (l : List (Str × α)) : (sK l).map (·.1) = sortS (l.map (·.1)) := asc_uniq (sK_asc l) (sortS_asc _) (((sK_perm l).map _).trans (sortS_perm _).symm)
theorem sK_len (l : List (Str × α)) : (sK l).length = l.length := (sK_perm l).length_eq
theorem sK_nodup {l : List (Str × α)} (h : (l.map (·.1)).Nodup) : ((sK l).map (·.1)).Nodup := ((sK_perm l).map _).nodup_iff.mpr h
theorem lk_none {l : List (Str × α)} {k : Str} (h : k ∉ l.map (·.1)) : lk l k = none := by
  unfold lk
  rw [List.find?_eq_none.mpr fun p hp => by
    simp only [decide_eq_true_eq]
    exact fun e => h (e ▸ List.mem_map_of_mem hp)]
  rfl
theorem lk_has {l : List (Str × α)} {k : Str} : (lk l k).isSome = true ↔ k ∈ l.map (·.1) := by
  constructor
  · intro h
    obtain ⟨x, hx⟩ := Option.isSome_iff_exists.mp h
    exact List.mem_map.mpr ⟨_, lk_some hx, rfl⟩
  · intro h
    cases e : lk l k with
    | some x => rfl
    | none =>
      obtain ⟨p, hp, rfl⟩ := List.mem_map.mp h
      unfold lk at e
      rw [Option.map_eq_none_iff, List.find?_eq_none] at e
      exact absurd (by simp) (e p hp)
theorem lk_perm {l m : List (Str × α)} (p : l.Perm m) (h : (l.map (·.1)).Nodup) (k : Str) : lk l k = lk m k := by
  cases e : lk l k with
  | some x => exact (lk_mem ((p.map _).nodup_iff.mp h) (p.subset (lk_some e))).symm
  | none =>
    cases e' : lk m k with
    | none => rfl
    | some x => rw [lk_mem h (p.symm.subset (lk_some e'))] at e; cases e
theorem lk_sK {l : List (Str × α)} (h : (l.map (·.1)).Nodup) (k : Str) : lk (sK l) k = lk l k := (lk_perm (sK_perm l).symm h k).symm
end
theorem Good.sorted {ps : Ps} {bs : Bs} (g : Good ps bs) : Good (sK ps) (sK bs) where
  nodP := sK_nodup g.nodP
  inv := fun p hp => by rw [lk_sK g.nodP]; exact g.inv p ((sK_perm ps).subset hp)
  wordP := fun p hp => g.wordP p ((sK_perm ps).subset hp)
  neP := fun h => g.neP (List.length_eq_zero_iff.mp (by rw [← sK_len, h]; rfl))
  fewP := by rw [sK_len]; exact g.fewP
  nodB := sK_nodup g.nodB
  wordB := fun p hp => g.wordB p ((sK_perm bs).subset hp)
  lenB := fun p hp => g.lenB p ((sK_perm bs).subset hp)
  kinds := fun b hb e he => by rw [lk_sK g.nodP]; exact g.kinds b ((sK_perm bs).subset hb) e he
  fewB := by rw [sK_len]; exact g.fewB
  neB := fun h => g.neB (List.length_eq_zero_iff.mp (by rw [← sK_len, h]; rfl))
theorem joints_asc {ps : Ps} (h : Asc (ps.map (·.1))) : Asc (joints ps) := by
  unfold joints Asc at *
  exact h.sublist (List.filter_sublist.map _)
theorem joints_perm {l m : Ps} (p : l.Perm m) : (joints l).Perm (joints m) := (p.filter _).map _
theorem joints_sK (ps : Ps) : joints (sK ps) = sortS (joints ps) := asc_uniq (joints_asc (sK_asc ps)) (sortS_asc _) ((joints_perm (sK_perm ps)).trans (sortS_perm _).symm)
theorem joints_mem_le {ps : Ps} {j : Str} (h : j ∈ joints ps) (g : (ps.map (·.1)).Nodup) : strLe j (prt ps j) = true := by
  unfold joints at h
  obtain ⟨p, hp, rfl⟩ := List.mem_map.mp h
  obtain ⟨hp, q⟩ := List.mem_filter.mp hp
  have : lk ps p.1 = some p.2 := lk_mem g hp
  unfold prt
  rw [this]; exact q
/-! ### columns -/
/-- how one end counts at a joint -/
def hit (ps : Ps) (e j : Str) : Nat := (if e = j then 1 else 0) + (if prt ps j ≠ j ∧ e = prt ps j then 1 else 0)
theorem prt_prt {ps : Ps} {bs : Bs} (g : Good ps bs) {j : Str} (h : j ∈ joints ps) : prt ps (prt ps j) = j := by
  obtain ⟨q, h1, h2⟩ := joints_mem g h
  rw [prt_of h1, prt_of h2]
theorem sum_zero : ∀ {l : List Nat}, (∀ x ∈ l, x = 0) → l.sum = 0
  | [], _ => rfl
  | a :: l, h => by rw [List.sum_cons, h a List.mem_cons_self, sum_zero fun x hx => h x (List.mem_cons_of_mem _ hx)]
theorem hits_le {ps : Ps} {bs : Bs} (g : Good ps bs) (e : Str) : ((joints ps).map (hit ps e)).sum ≤ 1 := by
  have nd := joints_nodup g
  have excl : ∀ j ∈ joints ps, ∀ j' ∈ joints ps, hit ps e j ≠ 0 → hit ps e j' ≠ 0 → j = j' := by
    intro j hj j' hj' h h'
    have key : ∀ {j : Str}, j ∈ joints ps → hit ps e j ≠ 0 → j = e ∨ j = prt ps e := fun {j} hj h => by
      unfold hit at h
      by_cases h1 : e = j
      · exact .inl h1.symm
      · by_cases h2 : prt ps j ≠ j ∧ e = prt ps j
        · exact .inr (by rw [h2.2, prt_prt g hj])
        · rw [if_neg h1, if_neg h2] at h; exact absurd rfl h
    have aux : ∀ {j j' : Str}, j ∈ joints ps → j' ∈ joints ps → j = e → j' = prt ps e → j = j' := fun {j j'} hj hj' h1 h2 => by
      subst h1
      have a := joints_mem_le hj g.nodP
      have b := joints_mem_le hj' g.nodP
      rw [h2, prt_prt g hj] at b
      rw [h2]
      exact strLe_antisymm a b
    rcases key hj h with a | a <;> rcases key hj' h' with b | b
    · rw [a, b]
    · exact aux hj hj' a b
    · exact (aux hj' hj b a).symm
    · rw [a, b]
  have one : ∀ j, hit ps e j ≤ 1 := fun j => by
    unfold hit
    split
    · rename_i h
      rw [if_neg fun q => q.1 (q.2.symm.trans h)]
      exact Nat.le_refl _
    · split <;> simp
  generalize joints ps = l at nd excl
  induction l with
  | nil => simp
  | cons j l ih =>
    rw [List.nodup_cons] at nd
    rw [List.map_cons, List.sum_cons]
    by_cases h : hit ps e j = 0
    · rw [h, Nat.zero_add]
      exact ih nd.2 fun a ha b hb => excl a (List.mem_cons_of_mem _ ha) b (List.mem_cons_of_mem _ hb)
    · have z : (l.map (hit ps e)).sum = 0 := by
        refine sum_zero fun x hx => ?_
        obtain ⟨k, hk, rfl⟩ := List.mem_map.mp hx
        apply Classical.byContradiction
        intro q
        exact nd.1 (excl j List.mem_cons_self k (List.mem_cons_of_mem _ hk) h q ▸ hk)
      have := one j
      omega
theorem cnt_cons (k e : Str) (es : List Str) : cnt k (e :: es) = (if e = k then 1 else 0) + cnt k es := by
  unfold cnt
  rw [List.filter_cons]
  by_cases h : e = k
  · rw [if_pos (by simpa using h), if_pos h, List.length_cons]; omega
  · rw [if_neg (by simpa using h), if_neg h]; omega
theorem col_abs (ps : Ps) (j : Str) : ∀ es : List Str, ((colAt ps es j).natAbs) ≤ (es.map fun e => hit ps e j).sum
  | [] => by unfold colAt cnt; simp
  | e :: es => by
    have ih := col_abs ps j es
    rw [List.map_cons, List.sum_cons]
    unfold colAt hit at *
    by_cases h : prt ps j = j
    · rw [if_pos h] at ih ⊢
      rw [cnt_cons]
      have : ¬ (prt ps j ≠ j ∧ e = prt ps j) := fun q => q.1 h
      rw [if_neg this]
      split <;> omega
    · rw [if_neg h] at ih ⊢
      rw [cnt_cons, cnt_cons]
      by_cases h1 : e = j
      · have h2 : ¬ (e = prt ps j) := fun q => h (q.symm.trans h1)
        have h3 : ¬ (prt ps j ≠ j ∧ e = prt ps j) := fun q => h2 q.2
        rw [if_pos h1, if_neg h2, if_pos h1, if_neg h3]; omega
      · by_cases h2 : e = prt ps j
        · have h3 : prt ps j ≠ j ∧ e = prt ps j := ⟨h, h2⟩
          rw [if_neg h1, if_pos h2, if_neg h1, if_pos h3]; omega
        · have h3 : ¬ (prt ps j ≠ j ∧ e = prt ps j) := fun q => h2 q.2
          rw [if_neg h1, if_neg h2, if_neg h1, if_neg h3]; omega
theorem sum_swap {α β : Type} (f : α → β → Nat) (l : List α) (m : List β) : (l.map fun a => (m.map fun b => f a b).sum).sum = (m.map fun b => (l.map fun a => f a b).sum).sum := by
  induction l with
  | nil => induction m with
    | nil => rfl
    | cons b m ih => simpa using ih
  | cons a l ih =>
    rw [List.map_cons, List.sum_cons, ih]
    clear ih
    induction m with
    | nil => rfl
    | cons b m ih =>
      rw [List.map_cons, List.sum_cons, List.map_cons, List.sum_cons, List.map_cons, List.sum_cons, List.map_cons, List.sum_cons, ← ih]
      omega
theorem sum_mono {α : Type} {f h : α → Nat} : ∀ {l : List α}, (∀ a ∈ l, f a ≤ h a) → (l.map f).sum ≤ (l.map h).sum
  | [], _ => Nat.le_refl _
  | a :: l, q => by
    rw [List.map_cons, List.sum_cons, List.map_cons, List.sum_cons]
    have := q a List.mem_cons_self
    have := sum_mono (l := l) fun b hb => q b (List.mem_cons_of_mem _ hb)
    omega
theorem sum_cast : ∀ (l : List Nat), ((l.map fun (n : Nat) => (n : Int)).sum) = ((l.sum : Nat) : Int)
  | [] => rfl
  | a :: l => by rw [List.map_cons, List.sum_cons, List.sum_cons, sum_cast l]; omega
theorem column_eq {ps : Ps} {bs : Bs} {n : Str} {es : List Str} (h : lk bs n = some es) : column ps bs n = (joints ps).map (colAt ps es) := by
  unfold column
  rw [ends_of h]; rfl
theorem column_small {ps : Ps} {bs : Bs} (g : Good ps bs) {b : Str × List Str} (hb : b ∈ bs) : CD.small (column ps bs b.1) = true := by
  unfold CD.small
  rw [column_eq (g.lkB hb), List.map_map]
  have e : ((joints ps).map ((fun x : Int => (x.natAbs : Int)) ∘ colAt ps b.2)) = ((joints ps).map fun j => (colAt ps b.2 j).natAbs).map fun (n : Nat) => (n : Int) := by rw [List.map_map]; rfl
  rw [e, sum_cast]
  have h1 := sum_mono (l := joints ps) (f := fun j => (colAt ps b.2 j).natAbs) (h := fun j => (b.2.map fun e => hit ps e j).sum) fun j _ => col_abs ps j b.2
  rw [sum_swap (fun j e => hit ps e j)] at h1
  have h2 := sum_mono (l := b.2) (f := fun e => ((joints ps).map fun j => hit ps e j).sum) (h := fun _ => 1) fun e _ => hits_le g e
  have h3 := (g.lenB b hb).2
  rw [List.map_const', List.sum_replicate_nat] at h2
  exact decide_eq_true (by omega)
/-- the places of the joints that are their own partners -/
def owns (ps : Ps) : List Nat := ((joints ps).zipIdx.filter fun j => decide (prt ps j.1 = j.1)).map (·.2)
theorem slacks_cols (ps : Ps) : slacks ps = (owns ps).map (CD.slackCol (joints ps).length) := by
  unfold slacks owns CD.slackCol
  rw [List.map_map]; rfl
theorem columns_cols (ps : Ps) (bs : Bs) : columns ps bs = CD.colsOf (bs.map fun b => column ps bs b.1) (owns ps) (joints ps).length := by
  unfold columns CD.colsOf
  rw [slacks_cols]
theorem mem_owns {ps : Ps} {i : Nat} : i ∈ owns ps ↔ ∃ j, (joints ps)[i]? = some j ∧ prt ps j = j := by
  unfold owns
  rw [List.mem_map]
  constructor
  · rintro ⟨⟨j, k⟩, h, rfl⟩
    obtain ⟨h1, h2⟩ := List.mem_filter.mp h
    exact ⟨j, List.mem_zipIdx_iff_getElem?.mp h1, of_decide_eq_true h2⟩
  · rintro ⟨j, h, e⟩
    exact ⟨(j, i), List.mem_filter.mpr ⟨List.mem_zipIdx_iff_getElem?.mpr h, decide_eq_true e⟩, rfl⟩
theorem owns_nodup (ps : Ps) : (owns ps).Nodup := by
  unfold owns
  have : ((joints ps).zipIdx.map (·.2)).Nodup := by
    rw [List.zipIdx_map_snd]
    exact List.nodup_range'
  exact this.sublist (List.filter_sublist.map _)
theorem colAt_g {ps : Ps} {es : List Str} {i : Nat} {j : Str} (h : (joints ps)[i]? = some j) : CD.g ((joints ps).map (colAt ps es)) i = colAt ps es j := by
  unfold CD.g
  rw [List.getD_eq_getElem?_getD, List.getElem?_map, h]; rfl
theorem cfg_ok {ps : Ps} {bs : Bs} (g : Good ps bs) : CD.Cfg (bs.map fun b => column ps bs b.1) (owns ps) (joints ps).length where
  len := fun c hc => by
    obtain ⟨b, hb, rfl⟩ := List.mem_map.mp hc
    unfold column; rw [List.length_map]
  lt := fun i hi => by
    obtain ⟨j, h, _⟩ := mem_owns.mp hi
    exact (List.getElem?_eq_some_iff.mp h).1
  nd := owns_nodup ps
  pos := fun c hc i hi => by
    obtain ⟨b, hb, rfl⟩ := List.mem_map.mp hc
    obtain ⟨j, h, e⟩ := mem_owns.mp hi
    rw [column_eq (g.lkB hb), colAt_g h]
    unfold colAt
    rw [if_pos e]
    exact cnt_le.1
theorem owns_le (ps : Ps) : (owns ps).length ≤ (joints ps).length := by
  unfold owns
  rw [List.length_map]
  have := List.length_filter_le (fun j : Str × Nat => decide (prt ps j.1 = j.1)) (joints ps).zipIdx
  rwa [List.length_zipIdx] at this
theorem small_slack {d i : Nat} (hd : d = 1 ∨ d = 2) : CD.small (CD.slackCol d i) = true := by
  rcases hd with rfl | rfl
  · unfold CD.small CD.slackCol
    simp [List.range_succ]
    split <;> simp
  · unfold CD.small CD.slackCol
    simp [List.range_succ]
    split <;> split <;> simp <;> omega
theorem col_ok {ps : Ps} {bs : Bs} {top : Option (List Int)} (g : Good ps bs) (hj : (joints ps).length = 1 ∨ (joints ps).length = 2) (ht : ∀ t, top = some t → t.length = bs.length) : ColOk ps bs top := by
  refine ⟨g, hj, fun c hc => ?_, fun c hc => ?_, ht, ?_, ?_, ?_⟩
  · rw [columns_cols] at hc
    rcases List.mem_append.mp hc with h | h
    · exact (cfg_ok g).len c h
    · obtain ⟨i, _, rfl⟩ := List.mem_map.mp h
      simp [CD.slackCol]
  · rw [columns_cols] at hc
    rcases List.mem_append.mp hc with h | h
    · obtain ⟨b, hb, rfl⟩ := List.mem_map.mp h
      exact column_small g hb
    · obtain ⟨i, _, rfl⟩ := List.mem_map.mp h
      exact small_slack hj
  · rw [columns_cols, CD.colsOf_len, List.length_map]; omega
  · have := g.neB
    rw [columns_cols, CD.colsOf_len, List.length_map]
    cases bs with
    | nil => exact absurd rfl this
    | cons => simp; omega
  · have := g.fewB
    have := owns_le ps
    rw [columns_cols, CD.colsOf_len, List.length_map]; omega
end Em
set_option maxHeartbeats 1000000
/-! Rules that the layer lacks (5): sorted(xs, key=lambda row: (sum(row), row)), rows tuples of numbers. -/
namespace Em
open PySem PySem.Spec PyProof.Rows L2 PySem.W LamX
/-- the key -/
def keyT (ns : List Int) : PyData := .tuple [.int ns.sum, .tuple (ns.map .int)]
def lamBody (row : Str) (p1 p2 p3 p4 p5 : Pos) (kk : Nat) : Expr := .Tuple [.Call (.Name "sum" p1) [.Name row p2] [] p3, .Name row p4] kk p5
section
variable {prog : Program} {w : World} {A : Around} {s : Shared}
theorem reads_ints {h : Heap} : ∀ {vs : List Value} {ns : List Int}, IntsAre vs ns → ReadsAll h vs (ns.map PyData.int) []
  | _, _, .nil => .nil
  | _, _, .cons _ _ h => .cons (as := []) (bs := []) (.int _ _) (reads_ints h)
theorem lam_key {f t c' : Addr} {q row : Str} {params : Arguments} {scope : Scope} {pm ctv : Value} {p1 p2 p3 p4 p5 : Pos} {kk : Nat} {vs : List Value} {ns : List Int} {mg mb : Str → Option Value} (hroom : A.depth < recursionLimit) (hd : A.handled = none)
    (hf : s.heap.get? f = some (kla_obj "<lambda>" q params (lamBody row p1 p2 p3 p4 p5 kk) scope [] pm c' ctv)) (hcode : s.heap.CodeRec (.ref c') q) (lim : s.heap.NoLimit) (hg : s.heap.Ns mainGlobals mg) (hm : mg "sum" = none) (hb : s.heap.Ns builtinsNs mb) (hv : mb "sum" = some (.builtin "sum"))
    (hk : scope.kind = .function) (hco : scope.isCoroutine = false) (hgen : scope.isGenerator = false) (hcell : ∀ x ∈ scope.names, x.2 ≠ .cell) (hrow : scope.names.lookup row = some .local) (hsum : scope.names.lookup ("sum" : Str) = some .globalImplicit) (hdb : (row == ("__debug__" : Str)) = false)
    (hbind : bindArgs (kla_fn "<lambda>" q params (lamBody row p1 p2 p3 p4 p5 kk) scope [] pm (.ref c') ctv) ⟨[.ref t], []⟩ = pure [(row, .ref t)])
    (ht : s.heap.IsTuple t vs.toArray) (hi : IntsAre vs ns) : wpAny (model prog w) A (call (.ref f) [.ref t]) (KeyPure (keyT ns) s) (fun _ _ => False) s := by
  refine wpAny_call (codeAny_mono (R := fun r s' => match r with | .ok (.ret v) => KeyPure (keyT ns) s v s' | .ok _ => False | .error _ => False) ?_ fun r s' hq => by
    cases r with
    | error e => exact hq
    | ok fl => cases fl <;> exact hq)
  refine kla_callFunE hroom hf rfl hco hgen rfl hcode ?_
  rw [hbind]
  refine wpAny_pure (wpAny_newFunctionEnv hcell (fun y hy => by rw [List.mem_singleton.mp hy]; exact hrow) (fun h₁ hns hsb => ⟨lim.fresh _ hsb, ?_⟩) hk)
  show codeAny _ _ (.expr (lamBody row p1 p2 p3 p4 p5 kk) (envX q scope s.heap.objs.size f (.ref c') [])) _ _
  have kp : ∀ b o, s.heap.get? b = some o → h₁.get? b = some o := fun b o e => hsb.extBut b o (Nat.ne_of_lt (Heap.lt_size e)) (Heap.get?_push_of_some _ e)
  refine kla_codeExpr ?_
  generalize he : envX q scope s.heap.objs.size f (.ref c') [] = env
  have e1 : env.scope = scope := by rw [← he]
  have e2 : env.locals = s.heap.objs.size := by rw [← he]
  have e3 : env.globals = mainGlobals := by rw [← he]
  have e4 : env.builtins = builtinsNs := by rw [← he]
  have name : ∀ {s2 : Shared} {p : Pos} {Q : Value → Shared → Prop} {E : Value → Shared → Prop}, (∀ b o, h₁.get? b = some o → s2.heap.get? b = some o) → Q (.ref t) s2 → wpAny (model prog w) (A.deeper env) (eval (.Name row p) env) Q E s2 := fun {s2 p Q E} k hq =>
    wpAny_Name (wpAny_loadName_local (by rw [e1]; exact hk) (by show env.scope.names.lookup row = _; rw [e1]; exact hrow) (by rw [e2]; exact hns.keeps k) (by show (List.lookup row [(row, Value.ref t)]) = _; simp) hq) hdb
  unfold lamBody
  refine wpAny_Tuple_spliced ?_
  show wpAny _ _ (spliced ((false, eval (.Call (.Name "sum" p1) [.Name row p2] [] p3) env) :: (false, eval (.Name row p4) env) :: [])) _ _ _
  refine Calls.spliced_cons ?_
  refine wpAny_Call_Name_kw (Calls.Name_function_global (by rw [e1]; exact hk) (by show env.scope.names.lookup ("sum" : Str) = _; rw [e1]; exact hsum) (Calls.loadGlobal_builtin (by rw [e3]; exact hg.keeps kp) hm (by rw [e4]; exact hb.keeps kp) hv ?_) (by decide))
  refine PyProof.Rows.callWith_builtin1 (e := .Name row p2) (rest := []) ?_ rfl rfl
  show wpAny _ _ (spliced ((false, eval (.Name row p2) env) :: [])) _ _ _
  refine Calls.spliced_cons (name (fun _ _ e => e) (Calls.spliced_nil ?_))
  have hl : h₁.IsTuple t vs.toArray := ht.at fun o e => kp _ _ e
  obtain ⟨xs, hx⟩ := hi.allInts.items
  have hn : numsOf vs.toArray.toList = ns := by rw [show vs.toArray.toList = vs from rfl, hi.numsOf]
  have hl' := hl
  rw [hx] at hl' hn
  rw [nums_intItems] at hn
  refine ktm_sumG (s := { s with heap := h₁, toks := s.toks + [(row, Value.ref t)].length }) hd hl' fun h2 tk t' hk2 => ?_
  refine Calls.spliced_cons (name hk2 (Calls.spliced_nil ⟨Nat.le_trans (show 2 ≤ 10 by decide) (by decide), ?_⟩))
  refine ⟨_, tk, rfl, fun b o e => Heap.get?_push_of_some _ (hk2 b o (kp b o e)), ?_⟩
  have es : preSum (numAt xs) xs.size = ns.sum := by rw [preSum_eq, List.take_of_length_le (by simp), hn]
  rw [es]
  refine .tuple (as := []) (Heap.get?_push_size _ rfl) rfl rfl ?_
  obtain ⟨o, ho, hc, n, hdd⟩ := hl
  refine .cons (as := []) (bs := []) (.int _ _) (.cons (as := []) (bs := []) (.tuple (Heap.get?_push_of_some _ (hk2 _ _ ho)) hc hdd (reads_ints hi)) .nil)
end
end Em
set_option maxHeartbeats 1000000
/-! Rules that the layer lacks (6): sorted(xs, key=lambda row: (sum(row), row)) as a rule of the layer. -/
namespace Em
open PySem PySem.Spec PyProof.Rows L2 PySem.W LamX
abbrev sortRows (rows : List (Addr × List Int)) : List (Addr × List Int) := rows.mergeSort (dataLe false fun r => keyT r.2)
theorem vals_refs (rows : List (Addr × List Int)) : Vals (rows.map fun r => V.ref r.1) (rows.map fun r => Value.ref r.1) := by
  induction rows with
  | nil => exact .nil
  | cons r rows ih => exact .cons rfl ih
theorem each_refs (rows : List (Addr × List Int)) : EachIs (fun (v : Value) (r : Addr × List Int) => v = .ref r.1) (rows.map fun r => Value.ref r.1) rows := by
  induction rows with
  | nil => exact .nil
  | cons r rows ih => exact .cons rfl ih
theorem each_refs_eq {rows : List (Addr × List Int)} : ∀ {vs : List Value}, EachIs (fun (v : Value) (r : Addr × List Int) => v = .ref r.1) vs rows → vs = rows.map fun r => Value.ref r.1 := by
  induction rows with
  | nil => intro vs h; cases h; rfl
  | cons r rows ih => intro vs h; cases h with | cons h t => rw [h, ih t]; rfl
theorem alike_ints : ∀ (a b : List Int), alikeAll (a.map PyData.int) (b.map PyData.int) = true
  | [], b => by simp [alikeAll]
  | x :: a, [] => by simp [alikeAll]
  | x :: a, y :: b => by simp only [List.map_cons, alikeAll, alike, Bool.true_and]; exact alike_ints a b
theorem alike_key (a b : List Int) : alike (keyT a) (keyT b) = true := by
  unfold keyT
  simp only [alike, alikeAll, Bool.true_and, Bool.and_true]
  exact alike_ints a b
theorem depth_ints : ∀ a : List Int, PyData.depthAll (a.map PyData.int) = 0
  | [] => by simp [PyData.depthAll]
  | x :: a => by simp [PyData.depthAll, PyData.depth, depth_ints a]
theorem depth_key (a : List Int) : (keyT a).depth ≤ 2 := by
  unfold keyT
  simp [PyData.depth, PyData.depthAll, depth_ints]
section
variable {X : Cx}
def tSortKey (K : PySem.W.Frag) (T : List (Addr × Str)) (te : TE) : TE := fun σ H Q => te σ H fun x H1 => Tabs T H1 ∧ ∃ (a : Addr) (rows : List (Addr × List Int)), x = .ref a ∧ SqL K H1 a (rows.map fun r => V.ref r.1) ∧ (∀ r ∈ rows, SqT K H1 r.1 (r.2.map V.int)) ∧
  ∀ H2, ExtN H1 H2 → Tabs T H2 → ∀ p, H2 p = none → Q (.ref p) (upd H2 p (.lst ((sortRows rows).map fun r => V.ref r.1)))
theorem pe_sortKey {T : List (Addr × Str)} {c P : Addr} {te : TE} {e : Expr} {row : Str} {params : Arguments} {scope : Scope} {p lpos kpos pos p1 p2 p3 p4 p5 : Pos} {kk k : Nat} (hc : X.calm = true) (hr : Room k X.A) (hg : Gl X "sorted") (hm : X.mg "sorted" = none) (hms : X.mg "sum" = none) (he : PE X e te)
    (TB : TabB X.base X.mg c P) (hcode : X.env.code = .ref c) (hmT : (P, X.env.qual ++ "<lambda>") ∈ T) (hu : ∀ p ∈ T, p.1 = P → p.2 = X.env.qual ++ "<lambda>")
    (hk : scope.kind = .function) (hco : scope.isCoroutine = false) (hgen : scope.isGenerator = false) (hnames : ∀ x ∈ scope.names, x.2 ≠ .cell ∧ x.2 ≠ .free) (hrow : scope.names.lookup row = some .local) (hsum : scope.names.lookup ("sum" : Str) = some .globalImplicit) (hdb : (row == ("__debug__" : Str)) = false)
    (hclo : ∀ cells, cloFrom cells scope.names [] = []) (hdef : defaultsOf params X.env = ([], []))
    (hbind : ∀ (q : Str) (pm cv ctv v : Value), bindArgs (PySem.W.kla_fn "<lambda>" q params (lamBody row p1 p2 p3 p4 p5 kk) scope [] pm cv ctv) ⟨[v], []⟩ = pure [(row, v)])
    (hse : backTo pos (starEach [e] X.env) = (false, eval e X.env) :: backTo pos (starEach [] X.env) := by rfl) (hpl : (backTo pos (starEach [e] X.env)).any (·.1) = false := by rfl) :
    PE X (.Call (.Name "sorted" p) [e] [⟨some "key", .Lambda params (lamBody row p1 p2 p3 p4 p5 kk) scope lpos, kpos⟩] pos) (tSortKey X.K T te) := by
  refine ⟨fun pins s σ H Q I h => ?_⟩
  refine wpAny_Call_Name_kw (ld_blt I hg hm (u := .builtin "sorted") (by decide +kernel) ?_ (by decide) (by decide))
  refine PyProof.Rows.callWith_kw ?_ hse hpl rfl rfl
  rw [hse]
  refine Calls.spliced_cons (thn (he.run pins s σ H _ I h) fun u s1 ⟨x, H1, I1, r1, hT, a, rows, ex, hs, hrs, q⟩ => Calls.spliced_nil ?_)
  subst ex
  obtain rfl : u = Value.ref a := r1
  show wpAny _ _ (evalAll ((do let v ← eval (.Lambda params (lamBody row p1 p2 p3 p4 p5 kk) scope lpos) X.env; standAt pos; pure v) :: [])) _ _ s1
  refine wpAny_evalAll_cons (wpAny_bind (lam_make2 I1 TB hcode hmT hu hT hdef (fun y hy e => absurd e (hnames y hy).2) fun f c' pm ctv H2 s2 I2 eN T2 hf hfn hfr hco' => wpAny_bind (wpAny_standAt (wpAny_pure (wpAny_evalAll_nil ?_)))))
  show wpAny _ _ (call (.builtin "sorted") [.ref a] [(Str.ofString "key", .ref f)]) _ _ s2
  have hs2 : SqL X.K H2 a (rows.map fun r => V.ref r.1) := hs.imp (fun z => z.imp (fun z => eN _ _ z fun _ z => nomatch z) fun ⟨o, z⟩ => ⟨o, eN _ _ z fun _ z => nomatch z⟩) fun z => z
  obtain ⟨its, rv, hl, hz⟩ := I2.list hs2
  have eits : its = rows.map fun r => Value.ref r.1 := by
    have : ∀ {rows : List (Addr × List Int)} {its : List Value}, Vals (rows.map fun r => V.ref r.1) its → its = rows.map fun r => Value.ref r.1 := by
      intro rows
      induction rows with
      | nil => intro its h; cases h; rfl
      | cons r rows ih => intro its h; cases h with | cons h t => rw [ih t, (show _ = Value.ref r.1 from h)]; rfl
    exact this rv
  subst eits
  rw [List.length_map] at hz
  obtain ⟨mb, hb1, hb2⟩ := I2.mod.blt
  have hclo' : cloFrom X.env.cells scope.names [] = [] := hclo _
  rw [hclo'] at hf
  obtain ⟨⟨oc, vs0, t0, hoc, hdc, hvc⟩, _, _⟩ := I2.hok c' _ hco'
  refine sorted_key_data (b := false) (fun r : Addr × List Int => keyT r.2) hl.isList (each_refs rows) (fun d hd d' hd' => ?_) (.inl fun d hd => ?_) hz (fun r hr' => ?_) (ksk_s1 _ _) (fun _ => ksk_l1 _ _) (fun _ => ksk_t1 _ _) (fun v r hv hr' h3 tk kp => ?_) fun out co h3 tk kp fresh hD hlen ho => ?_
  · obtain ⟨r, _, rfl⟩ := List.mem_map.mp hd
    obtain ⟨r', _, rfl⟩ := List.mem_map.mp hd'
    exact alike_key _ _
  · obtain ⟨r, _, rfl⟩ := List.mem_map.mp hd
    exact ⟨_, _, rfl⟩
  · have := depth_key r.2
    have := hr.units
    show X.A.units + 2 + (keyT r.2).depth < cLine
    omega
  · subst hv
    have ht2 : SqT X.K H2 r.1 (r.2.map V.int) := (hrs r hr').imp (fun z => z.imp (fun z => eN _ _ z fun _ z => nomatch z) fun ⟨o, z⟩ => ⟨o, eN _ _ z fun _ z => nomatch z⟩) fun z => z
    obtain ⟨us, ru, hu1, _⟩ := I2.tuple ht2
    have hi : IntsAre us r.2 := by
      have : ∀ {ns : List Int} {us : List Value}, Vals (ns.map V.int) us → IntsAre us ns := by
        intro ns
        induction ns with
        | nil => intro us h; cases h; exact .nil
        | cons n ns ih => intro us h; cases h with | cons h t => obtain ⟨tk, rfl⟩ := h; exact .cons _ _ (ih t)
      exact this ru
    exact lam_key (s := { s2 with heap := h3, toks := tk }) (A := X.A.in1.in1) (mg := X.mg) (mb := mb) hr.depth (I2.ok.hd hc) (kp _ _ hf) ⟨c', oc, vs0, t0, rfl, kp _ _ hoc, hdc, hvc⟩ (I2.nolimit.keeps kp) ((I2.mod.glob.keeps I2.bk).keeps kp) hms ((hb1.keeps I2.bk).keeps kp) ((hb2 "sum" (by decide)).trans (by decide +kernel)) hk hco hgen (fun y hy => (hnames y hy).1) hrow hsum hdb (hbind _ _ _ _ _) ((show s2.heap.IsTuple r.1 us.toArray from hu1).at fun o e => kp _ _ e) hi
  · have eo := each_refs_eq ho
    subst eo
    have hsz : s2.heap.objs.size ≤ s2.heap.objs.size + 1 := Nat.le_succ _
    refine ⟨.ref (s2.heap.objs.size + 1), upd H2 (s2.heap.objs.size + 1) (.lst ((sortRows rows).map fun r => V.ref r.1)), I2.laid (t' := tk) kp hsz ⟨?_, _, co, vals_refs _, hD⟩, rfl, q H2 eN T2 _ (I2.hok.fresh hsz)⟩
    rw [List.length_map, List.length_mergeSort]
    exact hz
end
end Em
set_option maxHeartbeats 1000000
/-! The logic over plain data (13): a lambda is made; sorted by a key; keys of a number and a list. -/
namespace Em
open PySem PySem.Spec PyProof.Rows L2
/-! ### where a lambda is made -/
theorem Sep.extN {S F H H2 : Hp} {T : List (Addr × Str)} {a0 : Addr} (s : Sep S F H) (h0 : S a0 = some (.tbl (encT T))) (e : LamX.ExtN H H2) (t : LamX.Tabs T H2) : Sep S F H2 where
  pub0 := fun a o h n => by
    rcases s.pub0 a o h n with z | ⟨d, ob, z⟩
    · exact .inl (e a o z n)
    · exact .inr ⟨d, ob, e a _ z fun _ z => nomatch z⟩
  tab := fun a ps h => by
    obtain ⟨T', h1, _, h3⟩ := s.tab a ps h
    have := s.one a a0 ps _ h h0
    rw [h1] at this
    have := encT_inj this
    subst this
    exact ⟨T', h1, t, h3⟩
  one := s.one
  prv := fun a o h => e a o (s.prv a o h) fun ps z => s.nte a o h (by rw [z]; exact True.intro)
  apart := s.apart
  ntup := s.ntup
  nte := s.nte
theorem Kf.extN {H H2 : Hp} (e : LamX.ExtN H H2) : Kf H H2 := fun a => by
  cases h : H a with
  | none => exact .inl (.inl h)
  | some o =>
    by_cases ht : ∃ ps, o = .tbl ps
    · obtain ⟨ps, rfl⟩ := ht
      exact .inl (.inr ⟨ps, h⟩)
    · have nt : ∀ ps, o ≠ .tbl ps := fun ps z => ht ⟨ps, z⟩
      have h2 := e a o h nt
      exact .inr ⟨loose_no h2 nt, fun b u => by rw [h2]⟩
/-! ### sorted by (sum, row) -/
def sortI (rows : List (List Int)) : List (List Int) := rows.mergeSort (PySem.W.dataLe false keyT)
theorem map_mergeSort {α β : Type} (f : α → β) (le : β → β → Bool) (l : List α) (ht : ∀ a b c : α, le (f a) (f b) = true → le (f b) (f c) = true → le (f a) (f c) = true) (hto : ∀ a b : α, (le (f a) (f b) || le (f b) (f a)) = true) : (l.mergeSort fun a b => le (f a) (f b)).map f = (l.map f).mergeSort le := by
  exact List.map_mergeSort (r := fun a b => le (f a) (f b)) (s := le) (f := f) fun a _ b _ => rfl
theorem sortRows_map (rows : List (Addr × List Int)) : (sortRows rows).map (·.2) = sortI (rows.map (·.2)) :=
  List.map_mergeSort (f := fun r : Addr × List Int => r.2) fun a _ b _ => rfl
section
variable {f : Fr} {env : En} {pos : Pos}
/-- the rows behind a list of tuples of numbers -/
theorem rows_of {S : Hp} : ∀ {rows : List (List Int)} {vs : List V}, RpL S vs (rows.map dRow) → ∃ rs : List (Addr × List Int), vs = rs.map (fun r => V.ref r.1) ∧ rs.map (·.2) = rows ∧ ∀ r ∈ rs, S r.1 = some (.tup (r.2.map V.int))
  | [], vs, h => by
    have : vs = [] := List.length_eq_zero_iff.mp h.1
    exact ⟨[], by rw [this]; rfl, rfl, by simp⟩
  | r :: rows, [], h => by have := h.1; simp at this
  | r :: rows, v :: vs, h => by
    obtain ⟨rs, e1, e2, e3⟩ := rows_of (rows := rows) (vs := vs) ⟨by have := h.1; simpa using this, fun i v x a b => h.2 (i + 1) v x (by simpa using a) (by simpa using b)⟩
    obtain ⟨a, us, rfl, h1, h2⟩ := (h.2 0 v (dRow r) rfl rfl).tup_inv
    have e := RpL.atoms (f := V.int) (xs := r) h2
    subst e
    refine ⟨(a, r) :: rs, by rw [e1]; rfl, by rw [← e2]; rfl, fun q hq => ?_⟩
    rcases List.mem_cons.mp hq with rfl | hq
    · exact h1
    · exact e3 q hq
theorem rows_rp {S : Hp} : ∀ {rs : List (Addr × List Int)}, (∀ r ∈ rs, S r.1 = some (.tup (r.2.map V.int))) → RpL S (rs.map fun r => V.ref r.1) ((rs.map (·.2)).map dRow)
  | [], _ => .nil
  | r :: rs, h => .cons (.tupL (h r List.mem_cons_self) (RpL.of_atoms V.int r.2)) (rows_rp fun q hq => h q (List.mem_cons_of_mem _ hq))
theorem ex_sortKey {T : List (Addr × Str)} {a0 c P : Addr} {q row : Str} {d0 : Da} {rows : List (List Int)} {e : Expr} {params : Arguments} {scope : Scope} {p lpos kpos p1 p2 p3 p4 p5 : Pos} {kk : Nat} (i : Nat) (h : EX f env e (.lst (rows.map dRow))) (hcq : f.cq = some (c, q)) (TB : LamX.TabB f.base f.mg c P) (hmT : (P, q ++ "<lambda>") ∈ T) (hu : ∀ p ∈ T, p.1 = P → p.2 = q ++ "<lambda>")
    (hm : f.mg "sorted" = none) (hms : f.mg "sum" = none) (he : env[i]? = some (some (.tb a0 T d0)) := by rfl) (hg : GlS f "sorted" := by rfl)
    (hk : scope.kind = .function := by rfl) (hco : scope.isCoroutine = false := by rfl) (hgen : scope.isGenerator = false := by rfl) (hnames : ∀ x ∈ scope.names, x.2 ≠ .cell ∧ x.2 ≠ .free := by decide +kernel) (hrow : scope.names.lookup row = some .local := by rfl) (hsum : scope.names.lookup ("sum" : Str) = some .globalImplicit := by rfl) (hdb : (row == ("__debug__" : Str)) = false := by decide)
    (hclo : ∀ cells, cloFrom cells scope.names [] = [] := by exact fun _ => rfl) (hdef : ∀ env, defaultsOf params env = ([], []) := by exact fun _ => rfl)
    (hbind : ∀ (q : Str) (pm cv ctv v : Value), bindArgs (PySem.W.kla_fn "<lambda>" q params (lamBody row p1 p2 p3 p4 p5 kk) scope [] pm cv ctv) ⟨[v], []⟩ = pure [(row, v)] := by exact fun _ _ _ _ _ => rfl)
    (hse : ∀ env, backTo pos (starEach [e] env) = (false, eval e env) :: backTo pos (starEach [] env) := by exact fun _ => rfl) (hpl : ∀ env, (backTo pos (starEach [e] env)).any (·.1) = false := by exact fun _ => rfl) :
    EX f env (.Call (.Name "sorted" p) [e] [⟨some "key", .Lambda params (lamBody row p1 p2 p3 p4 p5 kk) scope lpos, kpos⟩] pos) (.lst ((sortI rows).map dRow)) := fun S F σ H hp hσ hs Q hq => by
  obtain ⟨v0, _, b0⟩ := hσ.2 i _ he
  have m0 := b0.tb_inv.1
  refine wE_of (te := tSortKey f.K T (wE f e)) (fun X hX => by
    have hc := hX.code _ hcq
    rw [← hX.K]
    exact pe_sortKey (c := c) (P := P) hX.calm hX.room (hg.gl hX) (by rw [hX.mg]; exact hm) (by rw [hX.mg]; exact hms) (pw_e hX) (by rw [hX.base, hX.mg]; exact TB) hc.1 (by rw [hc.2]; exact hmT) (fun p hp h => by rw [hc.2]; exact hu p hp h) hk hco hgen hnames hrow hsum hdb hclo (hdef _) hbind (hse _) (hpl _)) ?_
  refine h S F σ H hp hσ hs _ fun v S1 H1 g1 s1 k1 r1 => ?_
  obtain ⟨a, vs, rfl, h1, rv⟩ := r1.lst_inv
  obtain ⟨rs, rfl, rfl, h3⟩ := rows_of rv
  have m1 := g1 _ _ m0
  refine ⟨s1.tabs m1, a, rs, rfl, s1.sql h1, fun r hr => s1.sqt (h3 r hr), fun H2 eN T2 p hp2 => ?_⟩
  have s2 := s1.extN m1 eN T2
  refine hq _ _ _ (g1.trans (Gr.new (s2.freeS hp2))) (s2.new hp2) (k1.trans ((Kf.extN eN).trans (Kf.new hp2))) (.lstL upd_same (RpL.mono (Gr.new (s2.freeS hp2)) ?_))
  rw [← sortRows_map]
  exact rows_rp fun r hr => h3 r ((List.mergeSort_perm _ _).subset hr)
end
end Em
set_option maxHeartbeats 1000000
/-! The walk (11): closings_of, least_closings, always_one; sheets that are made. -/
namespace Em
open PySem PySem.Spec PyProof.Rows L2 RZ
/-! ### fewer known slots, other readings of slots -/
section
variable {f : Fr} {env env' : En} {pos : Pos}
theorem EX.conv {e : Expr} {d : Da} (h : EX f env' e d) (w : ∀ S σ, SlE S σ env → SlE S σ env') : EX f env e d := fun S F σ H hp hσ hs Q q => h S F σ H hp (w _ _ hσ) hs Q q
theorem SlE.unTb {S : Hp} {σ : L2.St} (i : Nat) {a : Addr} {T : List (Addr × Str)} {d : Da} (h : SlE S σ env) (he : env[i]? = some (some (.tb a T d)) := by rfl) : SlE S σ (env.set i (some d)) := ⟨by rw [List.length_set]; exact h.1, fun j e q => by
  by_cases hj : i = j
  · subst hj
    have hl : i < env.length := (List.getElem?_eq_some_iff.mp he).1
    rw [List.getElem?_set_self hl] at q
    cases q
    obtain ⟨v, a, b⟩ := h.2 i _ he
    exact ⟨v, a, b.tb_inv.2⟩
  · rw [List.getElem?_set_ne hj] at q
    exact h.2 j e q⟩
theorem SlE.unNm {S : Hp} {σ : L2.St} (i : Nat) {v : V} {d : Da} (h : SlE S σ env) (he : env[i]? = some (some (.nm v d)) := by rfl) : SlE S σ (env.set i (some d)) := ⟨by rw [List.length_set]; exact h.1, fun j e q => by
  by_cases hj : i = j
  · subst hj
    have hl : i < env.length := (List.getElem?_eq_some_iff.mp he).1
    rw [List.getElem?_set_self hl] at q
    cases q
    obtain ⟨v, a, b⟩ := h.2 i _ he
    exact ⟨v, a, b.nm_inv.2⟩
  · rw [List.getElem?_set_ne hj] at q
    exact h.2 j e q⟩
/-- x *= e -/
def ipC : TIp := fun x y H Q => ∃ i j, x = .int i ∧ y = .int j ∧ CMul i j ∧ Q (.int (i * j)) H
theorem ip_mulC {X : Cx} : PIp X .Mult ipC := by
  intro pins s σ H x y v u Q I r1 r2 h
  obtain ⟨i, j, e1, e2, hc, q⟩ := h
  subst e1; subst e2
  obtain ⟨t, rfl⟩ := r1
  obtain ⟨t', rfl⟩ := r2
  exact imul_int ⟨.int _, H, I.tok _, ⟨_, rfl⟩, q⟩ hc.ok
theorem t1_mul {C : Cd} {Rt : Rr} (i : Nat) {x : Str} {e : Expr} {a b : Int} {px : Pos} (h : EX f env e (dI b)) (hm : CMul a b) (he : env[i]? = some (some (dI a)) := by rfl) (hc : Sees f C := by exact Sees.nil rfl) (hi : f.N[i]? = some x := by rfl) (hx : LocS f x := by first | exact .inl rfl | exact .inr ⟨rfl, rfl⟩) :
    T1 f (Pv env C) (.AugAssign (.Name x px) .Mult e pos) (Pv (env.set i (some (dI (a * b)))) C) Rt := fun S F σ H D hp hs _ dn => by
  obtain ⟨v, hv, rv⟩ := hp.1.2 i _ he
  obtain rfl := rv.v_inv
  exact wS_of (fun X hX => ps_aug (i := i) (by rw [hX.N]; exact hX.nd) (by rw [hX.N]; exact hi) (hx.loc hX) (pw_e hX) ip_mulC (hx.fn hX)) ⟨_, hv, h S F σ H (hc.up hp.2) hp.1 hs _ fun v S' H' g s k r => by
    obtain rfl := r.v_inv
    exact ⟨a, b, rfl, rfl, hm, dn.nx S' F _ H' g s k ⟨(hp.1.mono g).set i (.v _), hp.2.mono g⟩⟩⟩
end
/-! ### a def that makes lambdas -/
section
variable {P : Program} {w : World} {K : PySem.W.Frag} {mg : Str → Option Value} {base : Heap}
theorem fn_RC {d : He.DefD} {fa : Addr} {fd : FuncData} {dvs : List V} {kws : List (Str × V)} {N ps : List Str} {k : Nat} {R : List Da → Da → Prop} {CX : CXT} (F : FunD K d.name d.qual d.params d.body d.scope dvs kws fa fd) (hfa : fa = He.fAd K d.at_) (S : FnScope N ps d.scope)
    (len : ∀ ds z, R ds z → ds.length = ps.length)
    (h : ∀ ds z F0, R ds z → Tr ⟨P, w, K, mg, base, N, d.scope, k, [], fun _ => true, some ((He.cT K d.at_).1, d.qual ++ ".<locals>.")⟩ (Pv (startE N ds) fun _ F => F = F0) d.body (fun _ F _ => z = dN ∧ F = F0) (Rv z fun _ F => F = F0)) : FnOk P w K mg base CX (k + 1) fa fd ps (spR R) := by
  obtain ⟨oc, od, dV, kV, doc, pm, an, cdv, ct, osl, rfl, lk, hcd, _, _⟩ := F.ex
  obtain ⟨c, rfl⟩ := He.codeIn_ref hcd
  have ec : He.codeOf K d.at_ = c := He.codeOf_eq (by rw [← hfa]; exact lk) rfl
  refine fn_of lk hcd S (fun vs H Q E ⟨S, F, ds, z, _, r, hR, _⟩ => r.1.trans (len ds z hR)) fun A outer s H vs Q E hr ⟨S0, F0, ds, z, hs, r, hR, q⟩ => ?_
  refine ⟨_, PSs.nox (pw_ss (okx_def (pv := []) (cq := some ((He.cT K d.at_).1, d.qual ++ ".<locals>.")) S hr fun p e => by cases e; exact ⟨by rw [← ec]; rfl, rfl⟩)), h ds z F0 hR S0 F0 _ H _ ⟨sle_start r, Up.of rfl⟩ hs ⟨fun S' F' σ' H' a b c ⟨e1, e2⟩ => ?_, fun S' F' v H' a b c ⟨e1, S1, g1, e2⟩ => ?_⟩⟩
  · subst e1 e2; exact q _ S' H' a b c (.v _)
  · subst e2; exact q v S' H' a b c e1
theorem cal_RC (M : Md K mg) (d : He.DefD) (N ps : List Str) {x : Str} {k : Nat} {R : List Da → Da → Prop} (hd : d ∈ fn) (ha : d.at_ = (x, none)) (hg : hasGlo x = true) (h0 : d.dfl = []) (h00 : d.kwd = [])
    (hb : ∀ (kV doc pm : Value) (an : Option Addr) (cdv ct : Value) (us : List Value), us.length = ps.length → bindArgs (PySem.W.fnOf d.name d.qual d.params d.body d.scope .none kV doc pm an cdv ct) ⟨us, []⟩ = pure (ps.zip us))
    (hS : C8.scC N ps d.scope = true) (len : ∀ ds z, R ds z → ds.length = ps.length)
    (h : ∀ ds z F0, R ds z → Tr ⟨P, w, K, mg, base, N, d.scope, k, [], fun _ => true, some ((He.cT K d.at_).1, d.qual ++ ".<locals>.")⟩ (Pv (startE N ds) fun _ F => F = F0) d.body (fun _ F _ => z = dN ∧ F = F0) (Rv z fun _ F => F = F0)) : C8.Cal P w K mg base (k + 1) x (spR R) [] := by
  obtain ⟨fd, F⟩ := M.says.defs hd
  have e1 : He.DefD.dvs K d = [] := by unfold He.DefD.dvs; rw [h0]; rfl
  have e2 : He.DefD.kws K d = [] := by unfold He.DefD.kws; rw [h00]; rfl
  have e3 : He.fAd K d.at_ = He.ga K x := by rw [ha]; rfl
  rw [e1, e2] at F
  have F' := F
  rw [e3] at F'
  exact ⟨_, fd, ps, [], fn_RC F' e3.symm (C8.fnScope_by hS) len h, M.glo x hg, F'.kp, F'.bindsN hb, .nil⟩
/-- the tables that lambdas are made by -/
structure Tx (K : PySem.W.Frag) (mg : Str → Option Value) (base : Heap) (T : List (Addr × Str)) (p : He.Defn) (q : Str) : Prop where
  tab : LamX.TabB base mg (He.cT K p).1 (He.cT K p).2
  mem : ((He.cT K p).2, q ++ ".<locals>." ++ "<lambda>") ∈ T
  uniq : ∀ r ∈ T, r.1 = (He.cT K p).2 → r.2 = q ++ ".<locals>." ++ "<lambda>"
/-! ### closings -/
def closeds (ps : Ps) (bs : Bs) : List (List Int) := sortI ((grown (columns ps bs) (joints ps).length bs.length none).map fun r => r.take bs.length)
abbrev cloP : He.Defn := ("closings_of", none)
def rClo (K : PySem.W.Frag) (a : Addr) (T : List (Addr × Str)) : List Da → Da → Prop := fun ds d => ∃ ps bs, ColOk ps bs none ∧ ds = [.tb a T (Sh K ps bs)] ∧ d = .lst ((closeds ps bs).map dRow)
theorem c_closings_of (M : Md K mg) {a : Addr} {T : List (Addr × Str)} (X : Tx K mg base T cloP "closings_of") : C8.Cal P w K mg base 6 "closings_of" (spR (rClo K a T)) [] := by
  refine cal_RC M d_closings_of ["sheet"] ["sheet"] (by simp [fn]) rfl (by decide +kernel) rfl rfl (fun _ _ _ _ _ _ us hl => match us, hl with | [_], _ => rfl) (by decide +kernel) (fun ds d ⟨_, _, _, h, _⟩ => by subst h; rfl) ?_
  rintro ds z F0 ⟨ps, bs, ok, rfl, rfl⟩
  have hj := ok.cfg.dim
  have hb := ok.good.fewB
  refine tr_cons (t1_if (x := false) (ET.cast (et_w (ew_or (x := decide ((6 : Int) < (bs.length : Nat))) (et_gt (ex_callB (cd_lenOwn (m_len M) ⟨ps, bs, rfl, rfl⟩ (hn := by omega)) (ea_cons (EX.unTb (ex_var 0)) ea_nil) (M.free "len") PySem.boot_len rfl) (ex_mint "MOST_BLOCKS" 6 (M.int "MOST_BLOCKS" 6))) fun _ => ew_or1 (et_gt (ex_lenL (ex_meth0 (m_joints M) (EX.unTb (ex_var 0)) rfl ⟨ps, bs, ok.good, rfl, rfl⟩) (M.free "len")) (ex_mint "MOST_JOINTS" 3 (M.int "MOST_JOINTS" 3))))) ?_) (fun h => nomatch h) fun _ => tr_nil fun _ _ _ h => h) ?_
  · rw [List.length_map]
    have e1 : ¬ ((6 : Int) < (bs.length : Nat)) := by omega
    have e2 : ¬ ((3 : Int) < ((joints ps).length : Nat)) := by omega
    rw [decide_eq_false e1, decide_eq_false e2]; rfl
  · exact tr_one (t1_ret (ex_sortKey 0 (ex_grow M ok (EX.unTb (ex_var 0)) ex_non) rfl X.tab X.mem X.uniq (M.free "sorted") (M.free "sum")))
theorem zip_fst_sub {α β : Type} : ∀ (l : List α) (m : List β), ((l.zip m).map (·.1)).Sublist l
  | [], _ => by simp
  | a :: l, [] => by simp
  | a :: l, b :: m => by simpa using zip_fst_sub l m
def amRow (bs : Bs) (r : List Int) : Am := (bs.map (·.1)).zip r
def dClos (bs : Bs) (rows : List (List Int)) : Da := .lst (rows.map fun r => dA (amRow bs r))
def rLeast (K : PySem.W.Frag) (a : Addr) (T : List (Addr × Str)) : List Da → Da → Prop := fun ds d => ∃ ps bs, ColOk ps bs none ∧ (closeds ps bs).length ≤ 10000000 ∧ ds = [.tb a T (Sh K ps bs)] ∧ d = dClos bs (closeds ps bs)
theorem c_least_closings (M : Md K mg) (Z : Mz K) {a : Addr} {T : List (Addr × Str)} (X : Tx K mg base T cloP "closings_of") : C8.Cal P w K mg base 7 "least_closings" (spR (rLeast K a T)) [] := by
  refine cal_R M d_least_closings ["sheet", "row", "name", "number"] ["sheet"] (by simp [fn]) rfl (by decide +kernel) rfl rfl (fun _ _ _ _ _ _ us hl => match us, hl with | [_], _ => rfl) (by decide +kernel) (fun ds d ⟨_, _, _, _, h, _⟩ => by subst h; rfl) ?_
  rintro ds z F0 ⟨ps, bs, ok, hl, rfl, rfl⟩
  refine tr_cons (t1_expr (ex_call (c_check_sheet M Z) (ea_cons (EX.unTb (ex_var 0)) ea_nil) ⟨ps, bs, rfl, rfl⟩)) ?_
  refine tr_one (t1_ret (ex_map (closeds ps bs) (enc := dRow) (r := fun r => dA (amRow bs r)) (envA := fun r => [some (.tb a T (Sh K ps bs)), some (dRow r), none, none]) [("row", 1), ("name", 2), ("number", 3)] (it_lst (ex_call (c_closings_of M X) (ea_cons (ex_var 0) ea_nil) ⟨ps, bs, ok, rfl, rfl⟩)) hl (fun r _ => tg_name 1) (fun r _ => ?_)))
  refine EX.conv (env' := [some (Sh K ps bs), some (dRow r), none, none]) ?_ (fun S σ h => h.unTb 0)
  have hnd : ((amRow bs r).map (·.1)).Nodup := by
    exact ok.good.nodB.sublist (zip_fst_sub _ _)
  refine EX.cast (ex_lockF 0 (m := "_blocks") (C := cS K) (ex_dcP (own := [("name", 2), ("number", 3)]) (amRow bs r) (enc := fun p => .tup [dS p.1, dI p.2]) (b := fun _ => true) (key := fun p => p.1) (r := fun p => dI p.2) (.cast (it_zipOwn 0 (own_sheet M) (ex_var 1) (M.free "zip")) ?_) (few_ok (k := 3) ?_) (fun p _ => tg_two 2 3) (fun p _ => ef_nil) (fun p _ _ => ex_var 2) (fun p _ _ => ex_var 3))) ?_
  · have e : keysD (bs.map fun p => ((Sum.inr p.1 : Key), gT p.2)) = (bs.map (·.1)).map dS := by rw [keysD_dD, List.map_map]; rfl
    rw [e]
    exact zipD_map dS dI (bs.map (·.1)) r
  · have := ok.good.fewB
    unfold amRow
    rw [List.length_zip, List.length_map]; omega
  · rw [dctOf_nodup hnd]; rfl
end
end Em
set_option maxHeartbeats 1000000
/-! The walk (12): row_of, check_sub, always_one; Sheet. -/
namespace Em
open PySem PySem.Spec PyProof.Rows L2 RZ
theorem range_all_row {a b : List Int} (h : a.length = b.length) : (List.range a.length).all (fun i => decide (a.getD i 0 = b.getD i 0)) = decide (a = b) := by
  rw [Bool.eq_iff_iff, List.all_eq_true, decide_eq_true_eq]
  constructor
  · intro q
    refine List.ext_getElem h fun i h1 h2 => ?_
    have := of_decide_eq_true (q i (List.mem_range.mpr h1))
    rw [List.getD_eq_getElem?_getD, List.getD_eq_getElem?_getD, List.getElem?_eq_getElem h1, List.getElem?_eq_getElem h2] at this
    exact this
  · rintro rfl i _
    exact decide_eq_true rfl
theorem eqda_ints {a b : List Int} (i : Nat) (x y : Da) (h1 : (a.map dI)[i]? = some x) (h2 : (b.map dI)[i]? = some y) : EqDa 0 x y (decide (a.getD i 0 = b.getD i 0)) := by
  rw [List.getElem?_map] at h1 h2
  cases ha : a[i]? with
  | none => rw [ha] at h1; cases h1
  | some u => cases hb : b[i]? with
    | none => rw [hb] at h2; cases h2
    | some v =>
      rw [ha] at h1; rw [hb] at h2; cases h1; cases h2
      rw [List.getD_eq_getElem?_getD, List.getD_eq_getElem?_getD, ha, hb]
      exact .int u v
theorem eqda_row {a b : List Int} (h : a.length = b.length) : EqDa 1 (dRow a) (dRow b) (decide (a = b)) := by
  have := EqDa.tup (n := 0) (xs := a.map dI) (ys := b.map dI) (e := fun i => decide (a.getD i 0 = b.getD i 0)) (by simpa using h) eqda_ints
  rw [List.length_map, range_all_row h] at this
  exact this
theorem range_any_mem {α : Type} [DecidableEq α] {l : List α} {r d : α} : (List.range l.length).any (fun i => decide (l.getD i d = r)) = true ↔ r ∈ l := by
  rw [List.any_eq_true]
  constructor
  · rintro ⟨i, hi, q⟩
    have hi := List.mem_range.mp hi
    have := of_decide_eq_true q
    rw [List.getD_eq_getElem?_getD, List.getElem?_eq_getElem hi] at this
    exact this ▸ List.getElem_mem hi
  · intro h
    obtain ⟨i, hi, rfl⟩ := List.mem_iff_getElem.mp h
    refine ⟨i, List.mem_range.mpr hi, decide_eq_true ?_⟩
    rw [List.getD_eq_getElem?_getD, List.getElem?_eq_getElem hi]; rfl
section
variable {P : Program} {w : World} {K : PySem.W.Frag} {mg : Str → Option Value} {base : Heap}
/-- row in rows -/
theorem od_inRows {f : Fr} {r : List Int} {rows : List (List Int)} (h : ∀ q ∈ rows, q.length = r.length) : OD f (compareOp .In) (dRow r) (.lst (rows.map dRow)) (dB (decide (r ∈ rows))) := by
  have := od_inL (f := f) (n := 1) (xs := rows.map dRow) (d := dRow r) (e := fun i => decide (rows.getD i [] = r)) (fun i x hx => by
    rw [List.getElem?_map] at hx
    cases hq : rows[i]? with
    | none => rw [hq] at hx; cases hx
    | some q =>
      rw [hq] at hx; cases hx
      rw [List.getD_eq_getElem?_getD, hq]
      exact eqda_row (h q (List.mem_of_getElem? hq)))
  have e : (List.range rows.length).any (fun i => decide (rows.getD i [] = r)) = decide (r ∈ rows) := by rw [Bool.eq_iff_iff, range_any_mem, decide_eq_true_eq]
  rw [List.length_map, e] at this
  exact this
def rowOf (bs : Bs) (am : Am) : List Int := bs.map fun b => (lk am b.1).getD 0
def rRowOf (K : PySem.W.Frag) : List Da → Da → Prop := fun ds d => ∃ ps bs am, bs.length ≤ 1000 ∧ ds = [Sh K ps bs, dA am] ∧ d = dRow (rowOf bs am)
theorem c_row_of (M : Md K mg) : C8.Cal P w K mg base 2 "row_of" (spR (rRowOf K)) [] := by
  refine cal_R M d_row_of ["sheet", "amounts", "name"] ["sheet", "amounts"] (by simp [fn]) rfl (by decide +kernel) rfl rfl (fun _ _ _ _ _ _ us hl => match us, hl with | [_, _], _ => rfl) (by decide +kernel) (fun ds d ⟨_, _, _, _, h, _⟩ => by subst h; rfl) ?_
  rintro ds z F0 ⟨ps, bs, am, hl, rfl, rfl⟩
  refine tr_one (t1_ret (EX.cast (ex_tuple (ex_lockF 0 (m := "_blocks") (C := cS K) (ex_mapP bs (r := fun b => dI ((lk am b.1).getD 0)) [("name", 2)] (.cast (it_own 0 (own_sheet M)) (keysD_dD gT bs)) (few_ok hl) (fun b _ => tg_name 2) (fun b _ => ex_get2 (ex_var 1) (ex_var 2) ex_int ?_ fun X hX => ⟨rfl, rfl, rfl, rfl⟩))) (M.free "tuple")) ?_))
  · rw [valD_lk]
    cases lk am b.1 <;> rfl
  · unfold dRow rowOf
    rw [List.map_map]; rfl
def prodTo (am : Am) (i : Nat) : Int := (am.take i).foldl (fun n a => n * (a.2 + 1)) 1
def prodOf (am : Am) : Int := prodTo am am.length
theorem prodTo_succ {am : Am} {i : Nat} {a : Str × Int} (h : am[i]? = some a) : prodTo am (i + 1) = prodTo am i * (a.2 + 1) := by
  unfold prodTo
  rw [take_snoc h, List.foldl_append]; rfl
def rCheckSub : List Da → Da → Prop := fun ds d => ∃ am, am.length ≤ 1000 ∧ (∀ a ∈ am, 0 ≤ a.2 ∧ a.2 ≤ 1000000) ∧ prodOf am ≤ 3000 ∧ ds = [dA am] ∧ d = dN
theorem c_check_sub (M : Md K mg) : C8.Cal P w K mg base 1 "check_sub" (spR rCheckSub) [] := by
  refine cal_R M d_check_sub ["amounts", "number", "many"] ["amounts"] (by simp [fn]) rfl (by decide +kernel) rfl rfl (fun _ _ _ _ _ _ us hl => match us, hl with | [_], _ => rfl) (by decide +kernel) (fun ds d ⟨_, _, _, _, h, _⟩ => by subst h; rfl) ?_
  rintro ds z F0 ⟨am, hl, hb, hp, rfl, rfl⟩
  refine tr_cons (t1_set 1 ex_int) ?_
  have hlen : (am.map fun a => dI a.2).length = am.length := List.length_map _
  refine tr_cons (t1_lockV 0 (kvs := am.map fun p => (.inr p.1, dI p.2)) (t1_forP (fun i => [some (dA am), some (dI (prodTo am i)), none]) (fun i => [some (dA am), some (dI (prodTo am i)), some (dI ((am.getD i ("", 0)).2))]) (fun _ _ F => F = F0) (vs := [2]) (.cast (it_vals (src_var 0)) (vals_dD dI am)) (fun i d hd => ?_) (fun i d hd => ?_))) ?_
  · rw [List.getElem?_map] at hd
    cases ha : am[i]? with
    | none => rw [ha] at hd; cases hd
    | some a =>
      rw [ha] at hd; cases hd
      rw [List.getD_eq_getElem?_getD, ha]
      exact tg_name 2
  · rw [List.getElem?_map] at hd
    cases ha : am[i]? with
    | none => rw [ha] at hd; cases hd
    | some a =>
      rw [ha] at hd; cases hd
      have hb2 := hb a (List.mem_of_getElem? ha)
      rw [List.getD_eq_getElem?_getD, ha, prodTo_succ ha]
      refine tr_cons (t1_mul 1 (ex_add (ex_var 2) ex_int) (.inr ⟨by show -(2 ^ 64) < a.2 + 1; omega, by show a.2 + 1 < 2 ^ 64; omega⟩)) (tr_nil fun S F σ h => h.forget [2])
  · rw [hlen]
    exact tr_cons (t1_if (x := false) (ET.cast (et_gt (ex_var 1) (ex_mint "MOST_SUB" 3000 (M.int "MOST_SUB" 3000))) (decide_eq_false (by unfold prodOf at hp; omega))) (fun h => nomatch h) fun _ => tr_nil fun _ _ _ h => h) tr_end
/-- amounts that always_one takes -/
structure AoOk (ps : Ps) (bs : Bs) (am : Am) : Prop where
  col : ColOk ps bs (some (rowOf bs am))
  amok : AmOk bs am
  nn : ∀ a ∈ am, 0 ≤ a.2 ∧ a.2 ≤ 1000000
  few : prodOf am ≤ 3000
def allIn (ps : Ps) (bs : Bs) (am : Am) : Bool := decide (rowOf bs am ∈ (grown (columns ps bs) (joints ps).length bs.length (some (rowOf bs am))).map fun r => r.take bs.length)
def rAlways (K : PySem.W.Frag) : List Da → Da → Prop := fun ds d => ∃ ps bs am, AoOk ps bs am ∧ balanced ps bs am = true ∧ ds = [Sh K ps bs, dA am] ∧ d = dB (allIn ps bs am)
theorem grown_take {cols : List (List Int)} {d many : Nat} {top : Option (List Int)} (G : GCfg cols d many top) : ∀ q ∈ (grown cols d many top).map fun r => r.take many, q.length = many := fun q hq => by
  obtain ⟨r, hr, rfl⟩ := List.mem_map.mp hq
  have := G.foundRow _ r hr
  have := G.many
  rw [List.length_take]; omega
theorem c_always_one (M : Md K mg) (Z : Mz K) : C8.Cal P w K mg base 7 "always_one" (spR (rAlways K)) [] := by
  refine cal_R M d_always_one ["sheet", "amounts", "row"] ["sheet", "amounts"] (by simp [fn]) rfl (by decide +kernel) rfl rfl (fun _ _ _ _ _ _ us hl => match us, hl with | [_, _], _ => rfl) (by decide +kernel) (fun ds d ⟨_, _, _, _, _, h, _⟩ => by subst h; rfl) ?_
  rintro ds z F0 ⟨ps, bs, am, ok, hb, rfl, rfl⟩
  have g := ok.col.good
  refine tr_cons (t1_expr (ex_call (c_check_amounts M Z) (ea_cons (ex_var 0) (ea_cons (ex_var 1) ea_nil)) ⟨ps, bs, am, ok.amok, fun a ha => (ok.nn a ha).1, rfl, rfl⟩)) ?_
  refine tr_cons (t1_expr (ex_call (c_check_balanced M) (ea_cons (ex_var 0) (ea_cons (ex_var 1) ea_nil)) ⟨ps, bs, am, g, ok.amok, hb, rfl, rfl⟩)) ?_
  refine tr_cons (t1_expr (ex_call (c_check_sub M) (ea_cons (ex_var 1) ea_nil) ⟨am, ok.amok.few, ok.nn, ok.few, rfl, rfl⟩)) ?_
  refine tr_cons (t1_set 2 (ex_call (c_row_of M) (ea_cons (ex_var 0) (ea_cons (ex_var 1) ea_nil)) ⟨ps, bs, am, Nat.le_trans g.fewB (by decide), rfl, rfl⟩)) ?_
  refine tr_one (t1_ret (ex_cmp (od_inRows fun q hq => ?_) (ex_var 2) (ex_grow (top := some (rowOf bs am)) M ok.col (ex_var 0) (ex_var 2))))
  rw [grown_take ok.col.cfg q hq]
  unfold rowOf; rw [List.length_map]
/-! ### Sheet(partners, blocks) -/
def spShInit (K : PySem.W.Frag) : Sp := fun vs H Q _ => ∃ S F0 x dx pv bv ps bs, Good ps bs ∧ vs = [.ref x, pv, bv] ∧ F0 x = none ∧ Sep S (upd F0 x (.ins (cS K) dx [])) H ∧ Rp S pv (dP ps) ∧ Rp S bv (dB' bs) ∧ ∀ S' F' H', Gr S S' → Sep S' F' H' → Kf H H' → InsF x (cS K) [("_partners", dP (sK ps)), ("_blocks", dB' (sK bs))] F0 S' F' → Q .non H'
theorem sort_keys {α : Type} (g : α → Da) (l : List (Str × α)) : (l.map fun p => ((Sum.inr p.1 : Key), g p.2)).map (·.1) = (l.map (·.1)).map Sum.inr := by
  rw [List.map_map, List.map_map]; rfl
theorem ex_sortedD {f : Fr} {env : En} {pos p : Pos} {e : Expr} {α : Type} {g : α → Da} {l : List (Str × α)} (h : EX f env e (dD g l)) (h64 : l.length < 64) (hm : f.mg "sorted" = none) (hg : GlS f "sorted" := by rfl) (hse : ∀ env, starEach [e] env = [(false, eval e env)] := by intro _; rfl) : EX f env (.Call (.Name "sorted" p) [e] [] pos) (.lst ((sortS (l.map (·.1))).map dS)) :=
  ex_callB (cd_sortD (sort_keys g l) (by rw [List.length_map]; exact h64) fun zs p s => sortS_uniq p s) (ea_cons h ea_nil hse) hm (by decide +kernel) hg (by decide) (by decide) hse (fun _ => rfl)
theorem mak_sheet (M : Md K mg) : C8.Mak P w K mg base 3 "Sheet" (cS K) (spShInit K) [] := by
  obtain ⟨fd, F⟩ := M.says.defs (d := d_Sheet_init) (by simp [fn])
  have F' : FunD K "__init__" "Sheet.__init__" d_Sheet_init.params d_Sheet_init.body d_Sheet_init.scope [] [] (He.ma K (cS K) "__init__") fd := F
  refine ⟨_, fd, ["self", "partners", "blocks"], [], M.mkr "Sheet", fn_tr (N := ["self", "partners", "blocks", "kind", "name"]) F' (C8.fnScope_by (by decide +kernel)) (fun vs H Q E ⟨_, _, _, _, _, _, _, _, _, h, _⟩ => by rw [h]; rfl) ?_, M.glo "Sheet", F'.bindsN (fun _ _ _ _ _ _ us hl => match us, hl with | [_, _, _], _ => rfl), .nil⟩
  rintro vs H Q E ⟨S, F0, x, dx, pv, bv, ps, bs, g, rfl, n0, hs, r1, r2, hq⟩
  refine ⟨S, _, Pv [some (.v (.ref x)), some (dP ps), some (dB' bs), none, none] (InsF x (cS K) [] F0), [], Pv [some (.v (.ref x)), some (dP ps), some (dB' bs), none, none] (InsF x (cS K) [("_partners", dP (sK ps)), ("_blocks", dB' (sK bs))] F0), fun _ _ _ => False, hs, ⟨⟨rfl, fun i z e => ?_⟩, .of ⟨dx, [], n0, rfl, .nil⟩⟩, ?_, ⟨fun S' F' σ' H' g s k h => hq S' F' H' g s k (InsF.up h.2), fun _ _ _ _ _ _ _ h => h.elim⟩⟩
  · match i, e with
    | 0, e => cases e; exact ⟨_, rfl, .v _⟩
    | 1, e => cases e; exact ⟨_, rfl, r1⟩
    | 2, e => cases e; exact ⟨_, rfl, r2⟩
    | 3, e | 4, e => cases e
    | i + 5, e => simp at e
  · refine tr_cons (t1_if (x := false) (ET.cast (et_w (ew_or (x := false) (ET.cast (et_not (et_val (ex_call (c_are_partners M) (ea_cons (ex_var 1) ea_nil) ⟨ps, bs, g, rfl, rfl⟩))) rfl) fun _ => ew_or1 (et_not (et_val (ex_call (c_are_blocks M) (ea_cons (ex_var 2) (ea_cons (ex_var 1) ea_nil)) ⟨ps, bs, g, rfl, rfl⟩))))) rfl) (fun h => nomatch h) fun _ => tr_nil fun _ _ _ h => h) ?_
    have hP := g.fewP
    have hB := g.fewB
    have kP : (sortS (ps.map (·.1))).map dS = (sK ps).map fun p => dS p.1 := by rw [← sK_keys, List.map_map]; rfl
    have kB : (sortS (bs.map (·.1))).map dS = (sK bs).map fun p => dS p.1 := by rw [← sK_keys, List.map_map]; rfl
    refine tr_cons (t1_fldO (m := "_partners") (d := dP (sK ps)) (EX.cast (ex_dcP (own := [("kind", 3)]) (sK ps) (enc := fun p => dS p.1) (b := fun _ => true) (key := fun p => p.1) (r := fun p => dS p.2) (it_lst (EX.cast (ex_sortedD (ex_var 1) (by omega) (M.free "sorted")) (by rw [kP]))) (few_ok (k := 4) (by rw [sK_len]; exact hP)) (fun p _ => tg_name 3) (fun p _ => ef_nil) (fun p _ _ => ex_var 3) (fun p hp _ => ex_dget (ex_var 1) (ex_var 3) (by rw [valD_lk, g.lkP ((sK_perm ps).subset hp)]; rfl))).ex (by rw [dctOf_nodup (sK_nodup g.nodP)]; rfl)) (M.cls "Sheet") (M.noat "Sheet" "_partners") (by decide)) ?_
    exact tr_one (t1_fldO (m := "_blocks") (d := dB' (sK bs)) (EX.cast (ex_dcP (own := [("name", 4)]) (sK bs) (enc := fun p => dS p.1) (b := fun _ => true) (key := fun p => p.1) (r := fun p => gT p.2) (it_lst (EX.cast (ex_sortedD (ex_var 2) (by omega) (M.free "sorted")) (by rw [kB]))) (few_ok (k := 3) (by rw [sK_len]; exact hB)) (fun p _ => tg_name 4) (fun p _ => ef_nil) (fun p _ _ => ex_var 4) (fun p hp _ => ex_dget (ex_var 2) (ex_var 4) (by rw [valD_lk, g.lkB ((sK_perm bs).subset hp)]; rfl))).ex (by rw [dctOf_nodup (sK_nodup g.nodB)]; rfl)) (M.cls "Sheet") (M.noat "Sheet" "_blocks") (by show (_ : Str) ∉ (["_partners"] : List Str); decide))
theorem ex_sheet {f : Fr} {env : En} {p1 p3 : Pos} {e1 e2 : Expr} {ps : Ps} {bs : Bs} (M : Md f.K f.mg) (g : Good ps bs) (h1 : EX f env e1 (dP ps)) (h2 : EX f env e2 (dB' bs)) (hk : 4 ≤ f.k := by exact Nat.le_of_ble_eq_true rfl) (hg : GlS f "Sheet" := by rfl)
    (he : ∀ env, starEach [e1, e2] env = (false, eval e1 env) :: starEach [e2] env := by intro _; rfl) (he2 : ∀ env, starEach [e2] env = (false, eval e2 env) :: starEach [] env := by intro _; rfl) (hpl : ∀ env, (backTo p1 (starEach [e2] env)).any (·.1) = false := by intro _; rfl) :
    EX f env (.Call (.Name "Sheet" p3) [e1, e2] [] p1) (Sh f.K (sK ps) (sK bs)) := fun S F σ H hp hσ hs Q q => by
  refine wE_of (te := tMake (cS f.K) (spShInit f.K) [] C8.E0 (wA f [e1, e2])) (fun X hX => by
    have c1 := mak_sheet (P := f.P) (w := f.w) (base := f.base) M
    rw [← hX.prog, ← hX.w, ← hX.K, ← hX.mg, ← hX.base] at c1
    rw [← hX.K]
    exact C8.pe_mk c1 hX.room hk (hg.gl hX) (pw_a hX) (by decide) (he _) (hpl _)) ?_
  refine ea_cons h1 (ea_cons h2 ea_nil he2) he S F σ H hp hσ hs _ fun vs S1 H1 g1 s1 k1 r1 => ?_
  obtain ⟨pv, bv, rfl, rs, rt⟩ := two_args r1
  intro x dx hx hdx ne
  have n0 := s1.freeF hx
  have sA := (s1.newF (o := .own x) hdx).drop (p := dx)
  rw [rem_upd (s1.freeF hdx)] at sA
  have hx2 : upd H1 dx (.own x) x = none := by rw [upd_ne ne.symm]; exact hx
  have sB := sA.newF (o := .ins (cS f.K) dx []) hx2
  refine ⟨S1, F, x, dx, pv, bv, ps, bs, g, rfl, n0, sB, rs, rt, fun S' F' H' g' s k ⟨dx', vs', m1, eF, m2⟩ => ⟨rfl, ?_⟩⟩
  subst eF
  have hT := s.tell (p := x) upd_same
  rw [rem_upd m1] at hT
  have hSx : S' x = none := s.freeSF upd_same
  have gr := g1.trans (g'.trans (Gr.new (o := .ins (cS f.K) dx' vs') hSx))
  exact q _ _ H' gr hT (k1.trans ((Kf.new hdx).trans ((Kf.new hx2).trans k))) (.insK upd_same (m2.mono (Gr.new hSx)))
end
end Em
set_option maxHeartbeats 1000000
/-! The logic over plain data (14): dicts in lists, promises of objects that become the caller's own, copies of dicts. -/
namespace Em
open PySem PySem.Spec PyProof.Rows L2 RZ
/-! ### a dict in a list: xs[j] -/
def selI (i j : Nat) : L2.St → Hp → Addr → HO → Prop := fun σ S a _ => ∃ x vs, σ[i]? = some (some (.ref x)) ∧ S x = some (.lst vs) ∧ vs[j]? = some (.ref a)
section
variable {f : Fr} {env : En} {pos : Pos}
theorem src_ix (i j : Nat) {x : Str} {ds : List Da} {kvs : List (Key × Da)} {p q : Pos} {kk : Nat} (he : env[i]? = some (some (.lst ds)) := by rfl) (hl : ds[j]? = some (.dct kvs) := by rfl) (hN : f.N[i]? = some x := by rfl) (hv : Vis f.sc x := by first | exact .inl rfl | exact .inr (.inl rfl) | exact .inr (.inr rfl))
    (hd : (x == ("__debug__" : Str)) = false := by decide) (hcd : (x == ("__classdict__" : Str)) = false := by decide) : Src f env (.Subscript (.Name x p) (.Constant (.int (j : Nat)) kk q) pos) (selI i j) kvs where
  te := ⟨tOp (rIxL f.K) (tVar i) (tC (.int (j : Nat))), fun X hX => by rw [← hX.K]; exact pe_ix ix_list (pe_var (i := i) (by rw [hX.N]; exact hN) (by rw [hX.sc]; exact hv) hd hcd) pe_int (fun _ _ => rfl), fun S F σ H a u hσ hs ⟨y, vs, h1, h2, h3⟩ _ Q q => by
    exact ⟨_, h1, y, vs, _, _, rfl, rfl, hs.sql h2, atI_nat h3, q⟩⟩
  has := fun S σ h => by
    obtain ⟨v, h1, h2⟩ := h.2 i _ he
    obtain ⟨a, vs, rfl, h3, h4⟩ := h2.lst_inv
    obtain ⟨w, h5, h6⟩ := h4.get hl
    obtain ⟨b, ws, rfl, h7, _⟩ := h6.dct_inv
    exact ⟨b, ws, ⟨a, vs, h1, h3, h5⟩, h7⟩
  rep := fun S σ a u hσ ⟨y, vs, h1, h2, h3⟩ hu => by
    obtain ⟨v, e1, e2⟩ := hσ.2 i _ he
    rw [h1] at e1; cases e1
    obtain ⟨a', vs', e, h4, h5⟩ := e2.lst_inv
    cases e
    rw [h2] at h4; cases h4
    obtain ⟨w, h6, h7⟩ := h5.get hl
    rw [h3] at h6; cases h6
    obtain ⟨b, ws, e, h8, h9⟩ := h7.dct_inv
    cases e
    rw [hu] at h8; cases h8
    exact ⟨ws, rfl, h9⟩
theorem lock_ix (i j : Nat) {ds : List Da} {kvs : List (Key × Da)} (he : env[i]? = some (some (.lst ds)) := by rfl) (hl : ds[j]? = some (.dct kvs) := by rfl) : ∀ S σ, SlE S σ env → ∃ a u, selI i j σ S a u ∧ S a = some u ∧ isDic u := fun S σ h => by
  obtain ⟨v, h1, h2⟩ := h.2 i _ he
  obtain ⟨a, vs, rfl, h3, h4⟩ := h2.lst_inv
  obtain ⟨w, h5, h6⟩ := h4.get hl
  obtain ⟨b, ws, rfl, h7, _⟩ := h6.dct_inv
  exact ⟨b, _, ⟨a, vs, h1, h3, h5⟩, h7, True.intro⟩
theorem ex_lockI (i j : Nat) {e : Expr} {d : Da} {ds : List Da} {kvs : List (Key × Da)} (h : EXp (Lkd (selI i j)) f env e d) (he : env[i]? = some (some (.lst ds)) := by rfl) (hl : ds[j]? = some (.dct kvs) := by rfl) : EX f env e d := ex_lock h (lock_ix i j he hl)
/-! ### x = dict(e) -/
section
variable {C : Cd} {Rt : Rr}
theorem t1_newDictOf (i : Nat) {x : Str} {e : Expr} {kvs : List (Key × Da)} {px p cp : Pos} (h : EX f env e (.dct kvs)) (hm : f.mg "dict" = none) (hc : Sees f C := by exact Sees.nil rfl) (hg : GlS f "dict" := by rfl) (hi : f.N[i]? = some x := by rfl) (hx : LocS f x := by first | exact .inl rfl | exact .inr ⟨rfl, rfl⟩)
    (hse : ∀ env, starEach [e] env = [(false, eval e env)] := by intro _; rfl) (hsw : ∀ l env, swapsWith (.Call (.Name "dict" p) [e] [] cp) (some (.Name x px)) l env = pure false := by intro _ _; rfl) :
    T1 f (Pv env C) (.Assign [.Name x px] (.Call (.Name "dict" p) [e] [] cp) pos) (fun S F σ => ∃ a, Pv (env.set i (some (.v (.ref a)))) (AccD a C kvs) S F σ) Rt := fun S F σ H D hp hs _ dn =>
  wS_of (fun X hX => ps_set (i := i) (by rw [hX.N]; exact hX.nd) (by rw [hX.N]; exact hi) (hx.loc hX) (pe_callTy call_dictD (hg.gl hX) (by rw [hX.mg]; exact hm) (by decide +kernel) (pw_a hX) (by decide) (by decide) (hse _) rfl) (hsw _ _) (hx.fn hX))
    (ea_cons h ea_nil hse S F σ H (hc.up hp.2) hp.1 hs _ fun vs S1 H1 g1 s1 k1 r1 => by
      obtain ⟨v, rfl, r2⟩ := one_arg1 r1
      obtain ⟨a, vs, rfl, h1, h2⟩ := r2.dct_inv
      exact ⟨a, vs, rfl, s1.rd h1, fun p hp2 => dn.nx S1 _ _ _ g1 (s1.newF hp2) (k1.trans (Kf.new hp2)) ⟨p, (hp.1.mono g1).set i (.v _), S1, Gr.refl _, F, vs, hp.2.mono g1, s1.freeF hp2, rfl, h2⟩⟩)
/-- a, b = {}, e where b is a cell -/
theorem t1_parDc (i j : Nat) {x y : Str} {b : Expr} {d : Da} {px py pt pb : Pos} {kt k2 : Nat} {pt2 : Pos} (hb : EX f env b d) (hij : i ≠ j := by decide) (hc : Sees f C := by exact Sees.nil rfl) (hi : f.N[i]? = some x := by rfl) (hx : LocS f x := by first | exact .inl rfl | exact .inr ⟨rfl, rfl⟩) (hj : f.N[j]? = some y := by rfl) (hy : LocS f y := by first | exact .inl rfl | exact .inr ⟨rfl, rfl⟩)
    (hse : ∀ env, starEach [b] env = [(false, eval b env)] := by intro _; rfl)
    (hw : ∀ env : Env, env.scope = f.sc → swappedStores [.Tuple [.Name x px, .Name y py] kt pt] (.Tuple [.Dict [] [] pb, b] k2 pt2) env = pure none := by exact fun env he => by cases env; cases he; rfl) (hsw : ∀ l env, swapsWithSole [.Tuple [.Name x px, .Name y py] kt pt] (.Tuple [.Dict [] [] pb, b] k2 pt2) l env = pure false := by intro _ _; rfl)
    (h1 : ∀ env, (assignEach [.Tuple [.Name x px, .Name y py] kt pt] env).map (·.2) = [assign (.Tuple [.Name x px, .Name y py] kt pt) env] := by intro _; rfl) :
    T1 f (Pv env C) (.Assign [.Tuple [.Name x px, .Name y py] kt pt] (.Tuple [.Dict [] [] pb, b] k2 pt2) pos) (fun S F σ => ∃ l, Pv ((env.set i (some (.v (.ref l)))).set j (some d)) (AccD l C []) S F σ) Rt := fun S F σ H D hp hs _ dn =>
  wS_of (t := tAsg (tTup (tCons tDNewK (wA f [b]))) (gTup f.K 2 (gCons (gName i) (gCons (gName j) gNil)))) (fun X hX => by rw [← hX.K]; exact ps_asg (pe_tup (pa_cons (e := .Dict [] [] pb) pe_dnewK (pw_a hX) rfl)) (pg_tup (n := 2) hX.calm (pgs_cons (pw_name hX hi hx) (pgs_cons (pw_name hX hj hy) pgs_nil))) (hsw _ _) (hw _ hX.sc) (h1 _)) (by
      unfold tAsg tTup tCons tDNewK
      intro l hl
      have hF := hs.freeF hl
      refine ea_cons hb ea_nil hse S (upd F l (.dK [])) σ _ (Fr.pf_mono (Gr.new hF) (hc.up hp.2)) hp.1 (hs.newF hl) _ fun vs S' H' g s k r => ?_
      obtain ⟨v, rfl, rv⟩ := one_arg1 r
      refine ⟨by show 2 ≤ sizeLine; decide, fun t ht => ?_⟩
      refine ⟨t, [.ref l, v], rfl, .inl (.inl upd_same), rfl, .ref l, [v], rfl, v, [], rfl, rfl, ?_⟩
      have sN := (s.new (o := .tup [.ref l, v]) ht)
      have gT := Gr.new (o := .tup [.ref l, v]) (s.freeS ht)
      exact dn.nx _ _ _ _ (g.trans gT) sN ((Kf.new hl).trans (k.trans (Kf.new ht))) ⟨l, ((hp.1.mono (g.trans gT)).set i (.v _)).set j (rv.mono gT), _, Gr.refl _, F, [], hp.2.mono (g.trans gT), hF, rfl, .nil⟩)
end
end
/-! ### promises of a dict that becomes the caller's own -/
section
variable {P : Program} {w : World} {K : PySem.W.Frag} {mg : Str → Option Value} {base : Heap}
def spO (R : List Da → List (Key × Da) → Prop) : Sp := fun vs H Q _ => ∃ S F ds kvs, Sep S F H ∧ RpL S vs ds ∧ R ds kvs ∧ ∀ a us S' H', Gr S S' → F a = none → Sep S' (upd F a (.dK us)) H' → Kf H H' → RpK S' us kvs → Q (.ref a) H'
/-- .. made public at once -/
theorem spO_R {R : List Da → List (Key × Da) → Prop} {R' : List Da → Da → Prop} (h : ∀ ds d, R' ds d → ∃ kvs, R ds kvs ∧ d = .dct kvs) {vs : List V} {H : Hp} {Q : VK} {E : XK} (q : spR R' vs H Q E) : spO R vs H Q E := by
  obtain ⟨S, F, ds, d, hs, r, hR, q⟩ := q
  obtain ⟨kvs, hk, rfl⟩ := h ds d hR
  refine ⟨S, F, ds, kvs, hs, r, hk, fun a us S' H' g n s k rk => ?_⟩
  have hT := s.tell (p := a) upd_same
  rw [rem_upd n] at hT
  have hSa : S' a = none := s.freeSF upd_same
  exact q _ _ H' (g.trans (Gr.new hSa)) hT k (.dctK upd_same (rk.mono (Gr.new hSa)))
theorem Cal_mono {k : Nat} {x : Str} {sp sp' : Sp} {dvs : List V} (c : C8.Cal P w K mg base k x sp dvs) (h : ∀ vs H Q E, sp' vs H Q E → sp vs H Q E) : C8.Cal P w K mg base k x sp' dvs := by
  obtain ⟨f, fd, ps, ds, F, a, b, c, d⟩ := c.ex
  exact ⟨f, fd, ps, ds, F.imp h, a, b, c, d⟩
/-- a def's promise of its own dict, from the triple of its body -/
theorem cal_O (M : Md K mg) (d : He.DefD) (N ps : List Str) {x : Str} {k : Nat} {R : List Da → List (Key × Da) → Prop} (hd : d ∈ fn) (ha : d.at_ = (x, none)) (hg : hasGlo x = true) (h0 : d.dfl = []) (h00 : d.kwd = [])
    (hb : ∀ (kV doc pm : Value) (an : Option Addr) (cdv ct : Value) (us : List Value), us.length = ps.length → bindArgs (PySem.W.fnOf d.name d.qual d.params d.body d.scope .none kV doc pm an cdv ct) ⟨us, []⟩ = pure (ps.zip us))
    (hS : C8.scC N ps d.scope = true) (len : ∀ ds z, R ds z → ds.length = ps.length)
    (h : ∀ ds kvs F0, R ds kvs → Tr ⟨P, w, K, mg, base, N, d.scope, k, [], fun _ => true, none⟩ (Pv (startE N ds) fun _ F => F = F0) d.body none_ (fun S F v => ∃ a, v = .ref a ∧ AccD a (fun _ F => F = F0) kvs S F)) : C8.Cal P w K mg base (k + 1) x (spO R) [] := by
  obtain ⟨fd, F⟩ := M.says.defs hd
  have e1 : He.DefD.dvs K d = [] := by unfold He.DefD.dvs; rw [h0]; rfl
  have e2 : He.DefD.kws K d = [] := by unfold He.DefD.kws; rw [h00]; rfl
  have e3 : He.fAd K d.at_ = He.ga K x := by rw [ha]; rfl
  rw [e1, e2, e3] at F
  refine ⟨_, fd, ps, [], fn_tr F (C8.fnScope_by hS) (fun vs H Q E ⟨S, F, ds, z, _, r, hR, _⟩ => r.1.trans (len ds z hR)) (fun vs H Q E ⟨S0, F0, ds, kvs, hs, r, hR, q⟩ => ?_), M.glo x hg, F.kp, F.bindsN hb, .nil⟩
  refine ⟨S0, F0, _, [], _, _, hs, ⟨sle_start r, Up.of rfl⟩, h ds kvs F0 hR, ⟨fun _ _ _ _ _ _ _ z => z.elim, fun S' F' v H' g s k ⟨a, e, F1, us, ⟨S1, g1, e1⟩, n, eF, rk⟩ => ?_⟩⟩
  subst e e1 eF
  exact q a us S' H' g n s k rk
end
section
variable {f : Fr} {env : En} {pos : Pos} {C : Cd} {Nx : Pr}
/-- return x, x a dict of one's own -/
theorem t1_retD (i : Nat) {a : Addr} {xs : List (Key × Da)} {x : Str} {px : Pos} (he : env[i]? = some (some (.v (.ref a))) := by rfl) (hN : f.N[i]? = some x := by rfl) (hv : Vis f.sc x := by first | exact .inl rfl | exact .inr (.inl rfl) | exact .inr (.inr rfl))
    (hd : (x == ("__debug__" : Str)) = false := by decide) (hcd : (x == ("__classdict__" : Str)) = false := by decide) : T1 f (Pv env (AccD a C xs)) (.Return (some (.Name x px)) pos) Nx (fun S F v => ∃ a, v = .ref a ∧ AccD a C xs S F) := fun S F σ H D hp hs _ dn =>
  wS_of (fun X hX => ps_ret (pe_var (i := i) (by rw [hX.N]; exact hN) (by rw [hX.sc]; exact hv) hd hcd)) ⟨_, slot_ref hp.1 he, dn.rt S F _ H (Gr.refl _) hs (Kf.refl _) ⟨a, rfl, by
    obtain ⟨S0, g, F0, vs, c, n, e, r⟩ := hp.2
    exact ⟨F0, vs, c.mono g, n, e, r.mono g⟩⟩⟩
end
end Em
set_option maxHeartbeats 1000000
/-! The walk (13): the law's own look at sheets and amounts. -/
namespace Em
open PySem PySem.Spec PyProof.Rows L2 RZ
def dTold (ps : Ps) (bs : Bs) : Da := .lst [dP ps, dB' bs]
/-- amounts that the law looks at -/
structure AmB (bs : Bs) (am : Am) : Prop where
  nod : (am.map (·.1)).Nodup
  has : ∀ a ∈ am, (lk bs a.1).isSome = true
  nn : ∀ a ∈ am, 0 ≤ a.2 ∧ a.2 ≤ 1000
def amt (am : Am) (n : Str) : Int := (lk am n).getD 0
def copies (bs : Bs) (am : Am) : List Str := (sortS (bs.map (·.1))).flatMap fun n => List.replicate (amt am n).toNat n
def ends3 (bs : Bs) (ns : List Str) : List (Nat × Nat × Str) := ns.zipIdx.flatMap fun p => (ends bs p.1).zipIdx.map fun q => (p.2, q.2, q.1)
def enc3 (t : Nat × Nat × Str) : Da := .tup [dI (t.1 : Nat), dI (t.2.1 : Nat), dS t.2.2]
theorem amt_nn {bs : Bs} {am : Am} (h : AmB bs am) (n : Str) : 0 ≤ amt am n ∧ amt am n ≤ 1000 := by
  unfold amt
  cases e : lk am n with
  | none => exact ⟨Int.le_refl _, by decide⟩
  | some v => exact h.nn _ (lk_some e)
theorem flatMap_len {α β : Type} (f : α → List β) (c : Nat) : ∀ (l : List α), (∀ a ∈ l, (f a).length ≤ c) → (l.flatMap f).length ≤ l.length * c
  | [], _ => by simp
  | a :: l, h => by
    have h1 := h a List.mem_cons_self
    have h2 := flatMap_len f c l fun b hb => h b (List.mem_cons_of_mem _ hb)
    rw [List.flatMap_cons, List.length_append, List.length_cons, Nat.succ_mul]; omega
theorem copies_len {bs : Bs} {am : Am} (h : AmB bs am) (hb : bs.length ≤ 3) : ∀ i, (((sortS (bs.map (·.1))).take i).flatMap fun n => List.replicate (amt am n).toNat n).length ≤ 3000 := fun i => by
  have h1 := flatMap_len (fun n => List.replicate (amt am n).toNat n) 1000 ((sortS (bs.map (·.1))).take i) fun n _ => by
    have := amt_nn h n
    rw [List.length_replicate]; omega
  have h2 : (sortS (bs.map (·.1))).length = bs.length := by rw [(sortS_perm _).length_eq, List.length_map]
  rw [List.length_take] at h1
  have : min i (sortS (bs.map (·.1))).length * 1000 ≤ 3 * 1000 := Nat.mul_le_mul_right _ (by omega)
  omega
section
variable {P : Program} {w : World} {K : PySem.W.Frag} {mg : Str → Option Value} {base : Heap}
def rLJoints : List Da → Da → Prop := fun ds d => ∃ ps bs, Good ps bs ∧ ds = [dTold ps bs] ∧ d = .lst ((sortS (joints ps)).map dS)
theorem c_law_joints (M : Md K mg) : C8.Cal P w K mg base 1 "_law_joints" (spR rLJoints) [] := by
  refine cal_R M d_law_joints ["_law_sheet_here", "_law_kind"] ["_law_sheet_here"] (by simp [fn]) rfl (by decide +kernel) rfl rfl (fun _ _ _ _ _ _ us hl => match us, hl with | [_], _ => rfl) (by decide +kernel) (fun ds d ⟨_, _, _, h, _⟩ => by subst h; rfl) ?_
  rintro ds z F0 ⟨ps, bs, g, rfl, rfl⟩
  refine tr_one (t1_ret (ex_callB (cd_sortS (xs := joints ps) (by have := joints_len g; omega) fun zs p s => sortS_uniq p s) (ea_cons (EX.cast (ex_lockI 0 0 (ex_filP ps (enc := fun p => dS p.1) (b := fun p => strLe p.1 p.2) (r := fun p => dS p.1) [("_law_kind", 1)] (.cast (it_keys (src_ix 0 0)) (keysD_dD dS ps)) (few_ok g.fewP) (fun p _ => tg_name 1) (fun p hp => et_cmp od_leS (ex_var 1) (ex_dget (ex_ixL (ex_var 0) ex_int rfl) (ex_var 1) (by rw [valD_lk, g.lkP hp]; rfl))) (fun p _ _ => ex_var 1))) ?_) ea_nil) (M.free "sorted") (by decide +kernel)))
  unfold joints
  rw [List.map_map]; rfl
def rLCopies : List Da → Da → Prop := fun ds d => ∃ ps bs am, Good ps bs ∧ AmB bs am ∧ ds = [dTold ps bs, dA am] ∧ d = .lst ((copies bs am).map dS)
theorem c_law_copies (M : Md K mg) : C8.Cal P w K mg base 1 "_law_copies" (spR rLCopies) [] := by
  refine cal_R M d_law_copies ["_law_sheet_here", "_law_amounts_here", "_law_found", "_law_name", "_law_copy"] ["_law_sheet_here", "_law_amounts_here"] (by simp [fn]) rfl (by decide +kernel) rfl rfl (fun _ _ _ _ _ _ us hl => match us, hl with | [_, _], _ => rfl) (by decide +kernel) (fun ds d ⟨_, _, _, _, _, h, _⟩ => by subst h; rfl) ?_
  rintro ds z F0 ⟨ps, bs, am, g, ok, rfl, rfl⟩
  have hB := g.fewB
  refine tr_cons (t1_newL 2) (tr_ex fun l => ?_)
  refine tr_cons (t1_for (sortS (bs.map (·.1))) (envA := fun n => [some (dTold ps bs), some (dA am), some (.v (.ref l)), some (dS n), none]) (fun i => AccL l (fun _ F => F = F0) ((((sortS (bs.map (·.1))).take i).flatMap fun n => List.replicate (amt am n).toNat n).map dS)) (it_lst (ex_sortedD (g := gT) (ex_ixL (ex_var 0) ex_int rfl) (by omega) (M.free "sorted"))) (fun n _ => tg_name 3) fun i n hn => ?_) ?_
  · have hl := copies_len ok hB i
    have ha := amt_nn ok n
    rw [take_snoc hn, List.flatMap_append, List.map_append]
    refine tr_cons (t1_ext 2 (ds := (([n] : List Str).flatMap fun n => List.replicate (amt am n).toNat n).map dS) (EX.cast (ex_map (List.range (amt am n).toNat) (r := fun _ => dS n) [("_law_copy", 4)] (it_rng (n := (amt am n).toNat) (ex_if (et_din (ex_var 3) (ex_var 1)) (fun h => ex_dget (ex_var 1) (ex_var 3) ?_) (fun h => EX.cast ex_int ?_)) (M.free "range") (by omega)) (by rw [List.length_range]; omega) (fun _ _ => tg_name 4) (fun _ _ => ex_var 3)) ?_) (hl := ?_)) (tr_nil fun S F σ h => h.forget [3])
    · rw [valD_lk, Option.isSome_map] at h
      rw [valD_lk]
      obtain ⟨v, hv⟩ := Option.isSome_iff_exists.mp h
      have : amt am n = v := by unfold amt; rw [hv]; rfl
      rw [hv]
      show some (dI v) = some (dI ((amt am n).toNat : Nat))
      rw [Int.toNat_of_nonneg ha.1, this]
    · rw [valD_lk, Option.isSome_map] at h
      have : amt am n = 0 := by
        unfold amt
        cases e : lk am n with
        | none => rfl
        | some v => rw [e] at h; cases h
      rw [this]; rfl
    · simp [List.map_const']
    · rw [List.length_map, List.length_map]
      simp only [List.flatMap_cons, List.flatMap_nil, List.append_nil, List.length_replicate]
      omega
  · refine tr_tellL 2 rfl (tr_one (t1_ret (EX.cast (ex_var 2) ?_)))
    rw [List.take_length]; rfl
def rLEnds : List Da → Da → Prop := fun ds d => ∃ ps bs ns, Good ps bs ∧ (∀ n ∈ ns, (lk bs n).isSome = true) ∧ ns.length ≤ 10000 ∧ ds = [dTold ps bs, .lst (ns.map dS)] ∧ d = .lst ((ends3 bs ns).map enc3)
theorem c_law_ends (M : Md K mg) : C8.Cal P w K mg base 1 "_law_ends" (spR rLEnds) [] := by
  refine cal_R M d_law_ends ["_law_sheet_here", "_law_blocks_here", "_law_found", "_law_copy", "_law_name", "_law_end", "_law_kind"] ["_law_sheet_here", "_law_blocks_here"] (by simp [fn]) rfl (by decide +kernel) rfl rfl (fun _ _ _ _ _ _ us hl => match us, hl with | [_, _], _ => rfl) (by decide +kernel) (fun ds d ⟨_, _, _, _, _, _, h, _⟩ => by subst h; rfl) ?_
  rintro ds z F0 ⟨ps, bs, ns, g, hn, hl, rfl, rfl⟩
  refine tr_cons (t1_newL 2) (tr_ex fun l => ?_)
  refine tr_cons (t1_for ns.zipIdx (envA := fun p => [some (dTold ps bs), some (.lst (ns.map dS)), some (.v (.ref l)), some (dI (p.2 : Nat)), some (dS p.1), none, none]) (fun i => AccL l (fun _ F => F = F0) (((ns.zipIdx.take i).flatMap fun p => (ends bs p.1).zipIdx.map fun q => (p.2, q.2, q.1)).map enc3)) (.cast (it_enumL (ex_var 1) (M.free "enumerate")) (enumD_map ..)) (fun p _ => tg_two 3 4) fun i p hp => ?_) ?_
  · have hpm : p.1 ∈ ns := List.mem_of_getElem? (zipIdx_get hp).1
    obtain ⟨es, he⟩ := Option.isSome_iff_exists.mp (hn _ hpm)
    have h3 := g.endsLen he
    have hi : i < ns.length := by have := (List.getElem?_eq_some_iff.mp hp).1; rwa [List.length_zipIdx] at this
    have hfl := flatMap_len (fun p : Str × Nat => (ends bs p.1).zipIdx.map fun q => (p.2, q.2, q.1)) 3 (ns.zipIdx.take i) fun q hq => by
      have hqm : q.1 ∈ ns := by
        obtain ⟨j, hj, e⟩ := List.mem_iff_getElem.mp (List.mem_of_mem_take hq)
        exact List.mem_of_getElem? (zipIdx_get (List.getElem?_eq_some_iff.mpr ⟨hj, e⟩)).1
      obtain ⟨es', he'⟩ := Option.isSome_iff_exists.mp (hn _ hqm)
      have := g.endsLen he'
      rw [List.length_map, List.length_zipIdx, ends_of he']; exact this
    rw [List.length_take, List.length_zipIdx] at hfl
    have : min i ns.length * 3 ≤ 10000 * 3 := Nat.mul_le_mul_right _ (by omega)
    rw [take_snoc hp, List.flatMap_append, List.map_append]
    refine tr_cons (t1_ext 2 (ds := ((ends bs p.1).zipIdx.map fun q => (p.2, q.2, q.1)).map enc3) (EX.cast (ex_map es.zipIdx (enc := fun q => .tup [dI (q.2 : Nat), dS q.1]) (r := fun q => enc3 (p.2, q.2, q.1)) (envA := fun q => [some (dTold ps bs), some (.lst (ns.map dS)), some (.v (.ref l)), some (dI (p.2 : Nat)), some (dS p.1), some (dI (q.2 : Nat)), some (dS q.1)]) [("_law_end", 5), ("_law_kind", 6)] (.cast (it_enumT (ex_dget (ex_ixL (ex_var 0) ex_int rfl) (ex_var 4) (d := gT es) (by rw [valD_lk, he]; rfl)) (M.free "enumerate")) (enumD_map ..)) (by rw [List.length_zipIdx]; omega) (fun _ _ => tg_two 5 6) (fun q _ => ex_tup (ea_cons (ex_var 3) (ea_cons (ex_var 5) (ea_cons (ex_var 6) ea_nil))) (hl := by show 3 ≤ 10000000; decide))) (by rw [ends_of he, List.map_map]; rfl)) (hl := ?_)) (tr_nil fun S F σ h => ?_)
    · rw [List.length_map, List.length_map, List.length_map, List.length_zipIdx, ends_of he]
      omega
    · rw [show ([p] : List (Str × Nat)).flatMap (fun p => (ends bs p.1).zipIdx.map fun q => (p.2, q.2, q.1)) = (ends bs p.1).zipIdx.map fun q => (p.2, q.2, q.1) from by simp]
      exact h.forget [3, 4]
  · refine tr_tellL 2 rfl (tr_one (t1_ret (EX.cast (ex_var 2) ?_)))
    have : (ns.zipIdx.map fun p => Da.tup [dI (p.2 : Nat), dS p.1]).length = ns.zipIdx.length := by rw [List.length_map]
    rw [List.take_length]; rfl
end
end Em
set_option maxHeartbeats 1000000
/-! The walk (14): the law's excess, its balance. -/
namespace Em
open PySem PySem.Spec PyProof.Rows L2 RZ
def kindsOf (bs : Bs) (am : Am) : List Str := (ends3 bs (copies bs am)).map fun t => t.2.2
def lexAt (ps : Ps) (ks : List Str) (j : Str) : Int := if prt ps j = j then cnt j ks % 2 else cnt j ks - cnt (prt ps j) ks
def exD (ps : Ps) (bs : Bs) (am : Am) : List (Str × Int) := (sortS (joints ps)).map fun j => (j, lexAt ps (kindsOf bs am) j)
theorem copies_few {bs : Bs} {am : Am} (h : AmB bs am) (hb : bs.length ≤ 3) : (copies bs am).length ≤ 3000 := by
  have := copies_len h hb (sortS (bs.map (·.1))).length
  rw [List.take_length] at this; exact this
theorem copies_has {bs : Bs} {am : Am} {n : Str} (h : n ∈ copies bs am) : (lk bs n).isSome = true := by
  unfold copies at h
  obtain ⟨m, hm, h⟩ := List.mem_flatMap.mp h
  have := List.eq_of_mem_replicate h
  subst this
  exact lk_has.mpr ((sortS_perm _).mem_iff.mp hm)
theorem ends3_len {bs : Bs} {ns : List Str} (h : ∀ n ∈ ns, (ends bs n).length ≤ 3) : (ends3 bs ns).length ≤ ns.length * 3 := by
  have := flatMap_len (fun p : Str × Nat => (ends bs p.1).zipIdx.map fun q => (p.2, q.2, q.1)) 3 ns.zipIdx fun q hq => by
    have hqm : q.1 ∈ ns := by
      obtain ⟨j, hj, e⟩ := List.mem_iff_getElem.mp hq
      exact List.mem_of_getElem? (zipIdx_get (List.getElem?_eq_some_iff.mpr ⟨hj, e⟩)).1
    have := h _ hqm
    rw [List.length_map, List.length_zipIdx]; exact this
  rw [List.length_zipIdx] at this; exact this
theorem Good.endsLen3 {ps : Ps} {bs : Bs} (g : Good ps bs) (n : Str) : (ends bs n).length ≤ 3 := by
  cases e : lk bs n with
  | none => unfold ends; rw [e]; decide
  | some es => rw [ends_of e]; exact g.endsLen e
theorem sortJ_mem {ps : Ps} {j : Str} : j ∈ sortS (joints ps) ↔ j ∈ joints ps := (sortS_perm _).mem_iff
theorem joints_lk {ps : Ps} {bs : Bs} (g : Good ps bs) {j : Str} (h : j ∈ joints ps) : lk ps j = some (prt ps j) := by
  unfold joints at h
  obtain ⟨p, hp, e⟩ := List.mem_map.mp h
  have := g.lkP (List.mem_filter.mp hp).1
  subst e
  unfold prt; rw [this]; rfl
theorem sortJ_nodup {ps : Ps} {bs : Bs} (g : Good ps bs) : (sortS (joints ps)).Nodup := (sortS_perm _).nodup_iff.mpr (joints_nodup g)
section
variable {P : Program} {w : World} {K : PySem.W.Frag} {mg : Str → Option Value} {base : Heap}
def rLExcess : List Da → List (Key × Da) → Prop := fun ds kvs => ∃ ps bs am, Good ps bs ∧ AmB bs am ∧ ds = [dTold ps bs, dA am] ∧ kvs = (exD ps bs am).map fun p => ((Sum.inr p.1 : Key), dI p.2)
theorem c_law_excess (M : Md K mg) : C8.Cal P w K mg base 2 "_law_excess" (spO rLExcess) [] := by
  refine cal_O M d_law_excess ["_law_sheet_here", "_law_amounts_here", "_law_found", "_law_kinds", "_law_joint", "_law_here", "_law_partner", "_law_end", "_law_kind"] ["_law_sheet_here", "_law_amounts_here"] (by simp [fn]) rfl (by decide +kernel) rfl rfl (fun _ _ _ _ _ _ us hl => match us, hl with | [_, _], _ => rfl) (by decide +kernel) (fun ds d ⟨_, _, _, _, _, h, _⟩ => by subst h; rfl) ?_
  rintro ds kvs F0 ⟨ps, bs, am, g, ok, rfl, rfl⟩
  have hc := copies_few ok g.fewB
  have he3 := ends3_len (bs := bs) (ns := copies bs am) fun n _ => g.endsLen3 n
  have hk : (kindsOf bs am).length ≤ 9000 := by unfold kindsOf; rw [List.length_map]; omega
  refine tr_cons (t1_parD 2 3 (d := .lst ((kindsOf bs am).map dS)) (EX.cast (ex_map (ends3 bs (copies bs am)) (enc := enc3) (r := fun t => dS t.2.2) [("_law_end", 7)] (it_lst (ex_call (c_law_ends M) (ea_cons (ex_var 0) (ea_cons (ex_call (c_law_copies M) (ea_cons (ex_var 0) (ea_cons (ex_var 1) ea_nil)) ⟨ps, bs, am, g, ok, rfl, rfl⟩) ea_nil)) ⟨ps, bs, copies bs am, g, fun n hn => copies_has hn, by omega, rfl, rfl⟩)) (by omega) (fun _ _ => tg_name 7) (fun t _ => ex_ixT (ex_var 7) ex_int rfl)) (by unfold kindsOf; rw [List.map_map]; rfl)) (hw := fun env he => by cases env; cases he; rfl)) (tr_ex fun l => ?_)
  refine tr_cons (t1_for (sortS (joints ps)) (envA := fun n => [some (dTold ps bs), some (dA am), some (.v (.ref l)), some (.lst ((kindsOf bs am).map dS)), some (dS n), none, none, none, none]) (fun i => AccD l (fun _ F => F = F0) (((sortS (joints ps)).take i).map fun j => ((Sum.inr j : Key), dI (lexAt ps (kindsOf bs am) j)))) (it_lst (ex_call (c_law_joints M) (ea_cons (ex_var 0) ea_nil) ⟨ps, bs, g, rfl, rfl⟩)) (fun n _ => tg_name 4) fun i n hn => ?_) ?_
  · have hm : n ∈ joints ps := sortJ_mem.mp (List.mem_of_getElem? hn)
    have hl : i < 10000000 := by
      have h1 := (List.getElem?_eq_some_iff.mp hn).1
      have h2 := (sortS_perm (joints ps)).length_eq
      have h3 := joints_len g
      omega
    have hfil : ∀ (env : En) (x : Str) (i : Nat) (d : Da), True := fun _ _ _ _ => trivial
    have hnew : (Sum.inr n : Key) ∉ (((sortS (joints ps)).take i).map fun j => ((Sum.inr j : Key), dI (lexAt ps (kindsOf bs am) j))).map (·.1) := by
      rw [List.map_map]
      intro h
      obtain ⟨j, hj, e⟩ := List.mem_map.mp h
      cases e
      obtain ⟨q, hq, e2⟩ := List.mem_iff_getElem.mp hj
      have hq2 : q < i := by rw [List.length_take] at hq; omega
      rw [List.getElem_take] at e2
      have h1 := List.getElem?_eq_some_iff.mp hn
      have := (List.getElem_inj (h₀ := by rw [List.length_take] at hq; omega) (h₁ := h1.1) (sortJ_nodup g)).mp (e2.trans h1.2.symm)
      omega
    refine tr_cons (t1_unp 5 6 (d := dI (cnt n (kindsOf bs am))) (e := dS (prt ps n)) (ex_tup (ea_cons (EX.cast (ex_lenL (ex_fil (kindsOf bs am) (enc := dS) (b := fun k => decide (k = n)) (r := dS) [("_law_kind", 8)] (it_lst (ex_var 3)) (by omega) (fun _ _ => tg_name 8) (fun _ _ => et_eqS (ex_var 8) (ex_var 4)) (fun _ _ _ => ex_var 8)) (M.free "len")) (by rw [List.length_map]; rfl)) (ea_cons (ex_dget (ex_ixL (ex_var 0) ex_int rfl) (ex_var 4) (by rw [valD_lk, joints_lk g hm]; rfl)) ea_nil)) (hl := by show 2 ≤ 10000000; decide)) (hw := fun env he => by cases env; cases he; rfl)) ?_
    refine tr_cons (t1_put 2 (d := dI (lexAt ps (kindsOf bs am) n)) (ex_if (x := decide (prt ps n = n)) (et_eqS (ex_var 6) (ex_var 4)) (fun h => EX.cast (ex_mod (ex_var 5) ex_int (by decide)) ?_) (fun h => EX.cast (ex_sub (ex_var 5) (ex_lenL (ex_fil (kindsOf bs am) (enc := dS) (b := fun k => decide (k = prt ps n)) (r := dS) [("_law_kind", 8)] (it_lst (ex_var 3)) (by omega) (fun _ _ => tg_name 8) (fun _ _ => et_eqS (ex_var 8) (ex_var 6)) (fun _ _ _ => ex_var 8)) (M.free "len"))) ?_)) (ex_var 4) (hl := ?_)) (tr_nil fun S F σ h => ?_)
    · unfold lexAt; rw [if_pos (of_decide_eq_true h)]
    · unfold lexAt; rw [if_neg (of_decide_eq_false h), List.length_map]; rfl
    · rw [List.length_map, List.length_take]; omega
    · rw [putD_new hnew] at h
      rw [take_snoc hn, List.map_append]
      exact h.forget [4, 5, 6]
  · refine tr_one (t1_conv (t1_retD 2) (fun _ _ _ h => h) (fun _ _ _ h => h) fun S F v h => ?_)
    obtain ⟨a, e, h⟩ := h
    refine ⟨a, e, ?_⟩
    rw [List.take_length] at h
    unfold exD; rw [List.map_map]; exact h
def rLBal : List Da → Da → Prop := fun ds d => ∃ ps bs am, Good ps bs ∧ AmB bs am ∧ ds = [dTold ps bs, dA am] ∧ d = dB ((exD ps bs am).all fun p => decide (p.2 = 0))
theorem c_law_excessR (M : Md K mg) : C8.Cal P w K mg base 2 "_law_excess" (spR fun ds d => ∃ ps bs am, Good ps bs ∧ AmB bs am ∧ ds = [dTold ps bs, dA am] ∧ d = dD dI (exD ps bs am)) [] := Cal_mono (c_law_excess M) fun vs H Q E q => spO_R (R := rLExcess) (fun ds d ⟨ps, bs, am, g, ok, h, e⟩ => ⟨_, ⟨ps, bs, am, g, ok, h, rfl⟩, e⟩) q
theorem exD_nodup {ps : Ps} {bs : Bs} {am : Am} (g : Good ps bs) : ((exD ps bs am).map (·.1)).Nodup := by
  unfold exD; rw [List.map_map]
  exact (List.map_id (sortS (joints ps))).symm ▸ sortJ_nodup g
theorem exD_len {ps : Ps} {bs : Bs} {am : Am} (g : Good ps bs) : (exD ps bs am).length ≤ 4 := by
  unfold exD; rw [List.length_map, (sortS_perm _).length_eq]; exact joints_len g
theorem c_law_balanced (M : Md K mg) : C8.Cal P w K mg base 3 "_law_balanced" (spR rLBal) [] := by
  refine cal_R M d_law_balanced ["_law_sheet_here", "_law_amounts_here", "_law_found", "_law_joint"] ["_law_sheet_here", "_law_amounts_here"] (by simp [fn]) rfl (by decide +kernel) rfl rfl (fun _ _ _ _ _ _ us hl => match us, hl with | [_, _], _ => rfl) (by decide +kernel) (fun ds d ⟨_, _, _, _, _, h, _⟩ => by subst h; rfl) ?_
  rintro ds z F0 ⟨ps, bs, am, g, ok, rfl, rfl⟩
  have hl := exD_len (am := am) g
  refine tr_cons (t1_set 2 (ex_call (c_law_excessR M) (ea_cons (ex_var 0) (ea_cons (ex_var 1) ea_nil)) ⟨ps, bs, am, g, ok, rfl, rfl⟩)) ?_
  exact tr_one (t1_ret (ex_all (xs := exD ps bs am) (r := fun p => decide (p.2 = 0)) (ex_lockV 2 (ex_mapP (exD ps bs am) (enc := fun p => dS p.1) (r := fun p => dB (decide (p.2 = 0))) [("_law_joint", 3)] (.cast (it_keys (src_var 2)) (keysD_dD dI _)) (by omega) (fun _ _ => tg_name 3) (fun p hp => ex_eqI (ex_dget (ex_var 2) (ex_var 3) (by rw [valD_lk, lk_mem (exD_nodup g) hp]; rfl)) ex_int))) (M.free "all")))
end
end Em
set_option maxHeartbeats 1000000
/-! The walk (15): the law's total, parts, sub-amounts. -/
namespace Em
open PySem PySem.Spec PyProof.Rows L2 RZ
section
variable {f : Fr} {pos : Pos}
theorem t1_forE {pre : Pre} {α : Type} (xs : List α) {enc : α → Da} (E : Nat → En) (envA : Nat → α → En) (Ci : Nat → Cd) {vs : List Nat} {tg it : Expr} {body : List Stmt} {Rt : Rr} (hi : IT pre f (E 0) tg it (xs.map enc)) (ht : ∀ i a, xs[i]? = some a → TGT f tg (enc a) (E i) (envA i a) vs)
    (hb : ∀ i a, xs[i]? = some a → Tr f (Pv (envA i a) (Ci i)) body (Pv (E (i + 1)) (Ci (i + 1))) Rt) (hc : Sees f (Ci 0) := by exact Sees.nil rfl) (hfs : ∀ env x, foldedSetIterable it env x = pure x := by intro _ _; rfl) :
    Tr1 pre f (Pv (E 0) (Ci 0)) (.For tg it body [] pos) (Pv (E xs.length) (Ci xs.length)) Rt := by
  have h := t1_forP (pos := pos) (body := body) (Rt := Rt) E (fun i => match xs[i]? with | some a => envA i a | none => E i) Ci hi (fun i d hd => by
    rw [List.getElem?_map] at hd
    cases hx : xs[i]? with
    | none => rw [hx] at hd; cases hd
    | some a => rw [hx] at hd; cases hd; exact ht i a hx) (fun i d hd => by
    rw [List.getElem?_map] at hd
    cases hx : xs[i]? with
    | none => rw [hx] at hd; cases hd
    | some a => exact hb i a hx) hc hfs
  rwa [List.length_map] at h
/-- a word on plain data, held within Ci -/
theorem tr_fact {env : En} {φ : Prop} {C : Cd} {ss : List Stmt} {Nx : Pr} {Rt : Rr} (h : φ → Tr f (Pv env C) ss Nx Rt) : Tr f (Pv env fun S F => φ ∧ C S F) ss Nx Rt := fun S F σ H D hp hs dn => by
  obtain ⟨e, S0, g, p, c⟩ := hp
  exact h p S F σ H D ⟨e, S0, g, c⟩ hs dn
end
def total (am : Am) : Int := (am.map (·.2)).sum
def isPart (one other : Am) : Bool := one.all fun p => decide (p.2 ≤ amt other p.1)
def subStep (am : Am) (rows : List Am) (n : Str) : List Am := rows.flatMap fun row => (List.range (amt am n + 1).toNat).map fun (k : Nat) => row ++ [(n, (k : Int))]
def subAms (am : Am) (ns : List Str) : List Am := ns.foldl (subStep am) [[]]
def keyD (am : Am) : Da := .tup [dI (total am), dLis ((sortS (am.map (·.1))).map (amt am))]
theorem dA_keys (am : Am) : (am.map fun p => ((Sum.inr p.1 : Key), dI p.2)).map (·.1) = (am.map (·.1)).map Sum.inr := by rw [List.map_map, List.map_map]; rfl
theorem amt_mem {am : Am} {p : Str × Int} (h : (am.map (·.1)).Nodup) (hp : p ∈ am) : amt am p.1 = p.2 := by unfold amt; rw [lk_mem h hp]; rfl
theorem subAms_succ {am : Am} {ns : List Str} {i : Nat} {n : Str} (h : ns[i]? = some n) : subAms am (ns.take (i + 1)) = subStep am (subAms am (ns.take i)) n := by
  unfold subAms
  rw [take_snoc h, List.foldl_append]; rfl
theorem subStep_keys {am : Am} {rows : List Am} {n : Str} {ks : List Str} (h : ∀ r ∈ rows, r.map (·.1) = ks) : ∀ r ∈ subStep am rows n, r.map (·.1) = ks ++ [n] := fun r hr => by
  obtain ⟨row, h1, h2⟩ := List.mem_flatMap.mp hr
  obtain ⟨k, _, e⟩ := List.mem_map.mp h2
  subst e
  rw [List.map_append, h row h1]; rfl
theorem foldl_keys {am : Am} : ∀ (ns : List Str) {rows : List Am} {ks : List Str}, (∀ r ∈ rows, r.map (·.1) = ks) → ∀ r ∈ ns.foldl (subStep am) rows, r.map (·.1) = ks ++ ns
  | [], rows, ks, h => by simpa using h
  | n :: ns, rows, ks, h => by
    have := foldl_keys (am := am) ns (subStep_keys (am := am) (n := n) h)
    rw [List.append_assoc] at this
    exact this
theorem subAms_keys {am : Am} {ns : List Str} : ∀ r ∈ subAms am ns, r.map (·.1) = ns := fun r hr => by
  have := foldl_keys (am := am) ns (rows := [[]]) (ks := []) (by simp) r hr
  exact this
theorem subStep_len {am : Am} {rows : List Am} {n : Str} (h : amt am n ≤ 20) : (subStep am rows n).length ≤ rows.length * 21 := flatMap_len _ 21 rows fun r _ => by rw [List.length_map, List.length_range]; omega
theorem foldl_len {am : Am} : ∀ (ns : List Str) {rows : List Am}, (∀ n ∈ ns, amt am n ≤ 20) → (ns.foldl (subStep am) rows).length ≤ rows.length * 21 ^ ns.length
  | [], rows, h => by simp
  | n :: ns, rows, h => by
    have h1 := foldl_len ns (rows := subStep am rows n) fun m hm => h m (List.mem_cons_of_mem _ hm)
    have h2 := subStep_len (rows := rows) (h n List.mem_cons_self)
    rw [List.foldl_cons, List.length_cons, Nat.pow_succ]
    calc _ ≤ (subStep am rows n).length * 21 ^ ns.length := h1
      _ ≤ (rows.length * 21) * 21 ^ ns.length := Nat.mul_le_mul_right _ h2
      _ = _ := by rw [Nat.mul_assoc, Nat.mul_comm 21]
/-- amounts small enough to be listed -/
structure SmA (am : Am) : Prop where
  nod : (am.map (·.1)).Nodup
  few : am.length ≤ 3
  nn : ∀ a ∈ am, 0 ≤ a.2 ∧ a.2 ≤ 20
theorem SmA.le {am : Am} (h : SmA am) (n : Str) : 0 ≤ amt am n ∧ amt am n ≤ 20 := by
  unfold amt
  cases e : lk am n with
  | none => exact ⟨Int.le_refl _, by decide⟩
  | some v => exact h.nn _ (lk_some e)
def namesOf (am : Am) : List Str := sortS (am.map (·.1))
theorem SmA.len {am : Am} (h : SmA am) (i : Nat) : (subAms am ((namesOf am).take i)).length ≤ 9261 := by
  have h1 := foldl_len (am := am) ((namesOf am).take i) (rows := [[]]) fun n _ => (h.le n).2
  have h2 : (namesOf am).length ≤ 3 := by unfold namesOf; rw [(sortS_perm _).length_eq, List.length_map]; exact h.few
  have h3 : ((namesOf am).take i).length ≤ 3 := by rw [List.length_take]; omega
  have h4 : 21 ^ ((namesOf am).take i).length ≤ 21 ^ 3 := Nat.pow_le_pow_right (by decide) h3
  unfold subAms
  simp only [List.length_cons, List.length_nil, Nat.zero_add, Nat.one_mul] at h1
  exact Nat.le_trans h1 h4
section
variable {P : Program} {w : World} {K : PySem.W.Frag} {mg : Str → Option Value} {base : Heap}
def rLTotal : List Da → Da → Prop := fun ds d => ∃ am : Am, (am.map (·.1)).Nodup ∧ am.length ≤ 1000 ∧ ds = [dA am] ∧ d = dI (total am)
theorem c_law_total (M : Md K mg) : C8.Cal P w K mg base 1 "_law_total" (spR rLTotal) [] := by
  refine cal_R M d_law_total ["_law_amounts_here", "_law_name"] ["_law_amounts_here"] (by simp [fn]) rfl (by decide +kernel) rfl rfl (fun _ _ _ _ _ _ us hl => match us, hl with | [_], _ => rfl) (by decide +kernel) (fun ds d ⟨_, _, _, h, _⟩ => by subst h; rfl) ?_
  rintro ds z F0 ⟨am, nd, hl, rfl, rfl⟩
  exact tr_one (t1_ret (ex_sum (xs := am) (r := fun p => p.2) (ex_lockV 0 (ex_mapP am (enc := fun p => dS p.1) (r := fun p => dI p.2) [("_law_name", 1)] (.cast (it_keys (src_var 0)) (keysD_dD dI _)) (few_ok hl) (fun _ _ => tg_name 1) (fun p hp => ex_dget (ex_var 0) (ex_var 1) (by rw [valD_lk, lk_mem nd hp]; rfl)))) (M.free "sum")))
def rLPart : List Da → Da → Prop := fun ds d => ∃ one other : Am, (one.map (·.1)).Nodup ∧ one.length ≤ 1000 ∧ ds = [dA one, dA other] ∧ d = dB (isPart one other)
theorem c_law_is_part (M : Md K mg) : C8.Cal P w K mg base 1 "_law_is_part" (spR rLPart) [] := by
  refine cal_R M d_law_is_part ["_law_one", "_law_other", "_law_name"] ["_law_one", "_law_other"] (by simp [fn]) rfl (by decide +kernel) rfl rfl (fun _ _ _ _ _ _ us hl => match us, hl with | [_, _], _ => rfl) (by decide +kernel) (fun ds d ⟨_, _, _, _, h, _⟩ => by subst h; rfl) ?_
  rintro ds z F0 ⟨one, other, nd, hl, rfl, rfl⟩
  refine tr_one (t1_ret (ex_all (xs := one) (r := fun p => decide (p.2 ≤ amt other p.1)) (ex_lockV 0 (ex_mapP one (enc := fun p => dS p.1) (r := fun p => dB (decide (p.2 ≤ amt other p.1))) [("_law_name", 2)] (.cast (it_keys (src_var 0)) (keysD_dD dI _)) (few_ok hl) (fun _ _ => tg_name 2) (fun p hp => ex_le (ex_dget (ex_var 0) (ex_var 2) (by rw [valD_lk, lk_mem nd hp]; rfl)) (ex_if (et_din (ex_var 2) (ex_var 1)) (fun h => ex_dget (ex_var 1) (ex_var 2) ?_) (fun h => EX.cast ex_int ?_))))) (M.free "all")))
  · rw [valD_lk, Option.isSome_map] at h
    rw [valD_lk]
    obtain ⟨v, hv⟩ := Option.isSome_iff_exists.mp h
    unfold amt; rw [hv]; rfl
  · rw [valD_lk, Option.isSome_map] at h
    unfold amt
    cases e : lk other p.1 with
    | none => rfl
    | some v => rw [e] at h; cases h
def rLKey : List Da → Da → Prop := fun ds d => ∃ am : Am, (am.map (·.1)).Nodup ∧ am.length ≤ 63 ∧ ds = [dA am] ∧ d = keyD am
theorem c_law_key (M : Md K mg) : C8.Cal P w K mg base 2 "_law_key" (spR rLKey) [] := by
  refine cal_R M d_law_key ["_law_amounts_here", "_law_name"] ["_law_amounts_here"] (by simp [fn]) rfl (by decide +kernel) rfl rfl (fun _ _ _ _ _ _ us hl => match us, hl with | [_], _ => rfl) (by decide +kernel) (fun ds d ⟨_, _, _, h, _⟩ => by subst h; rfl) ?_
  rintro ds z F0 ⟨am, nd, hl, rfl, rfl⟩
  have h2 : (sortS (am.map (·.1))).length ≤ 63 := by rw [(sortS_perm _).length_eq, List.length_map]; exact hl
  refine tr_one (t1_ret (ex_tup (ea_cons (ex_call (c_law_total M) (ea_cons (ex_var 0) ea_nil) ⟨am, nd, by omega, rfl, rfl⟩) (ea_cons (EX.cast (ex_map (sortS (am.map (·.1))) (enc := dS) (r := fun n => dI (amt am n)) [("_law_name", 1)] (it_lst (ex_sortedD (g := dI) (ex_var 0) (by omega) (M.free "sorted"))) (by omega) (fun _ _ => tg_name 1) (fun n hn => ex_dget (ex_var 0) (ex_var 1) ?_)) (by unfold dLis; rw [List.map_map]; rfl)) ea_nil)) (hl := by show 2 ≤ 10000000; decide)))
  obtain ⟨v, hv⟩ := Option.isSome_iff_exists.mp (lk_has.mpr ((sortS_perm _).mem_iff.mp hn))
  rw [valD_lk]; unfold amt; rw [hv]; rfl
def rLSub : List Da → Da → Prop := fun ds d => ∃ am : Am, SmA am ∧ ds = [dA am] ∧ d = .lst ((subAms am (namesOf am)).map dA)
theorem c_law_sub_amounts (M : Md K mg) : C8.Cal P w K mg base 1 "_law_sub_amounts" (spR rLSub) [] := by
  refine cal_R M d_law_sub_amounts ["_law_amounts_here", "_law_found", "_law_name", "_law_grown", "_law_row", "_law_number_here", "_law_more"] ["_law_amounts_here"] (by simp [fn]) rfl (by decide +kernel) rfl rfl (fun _ _ _ _ _ _ us hl => match us, hl with | [_], _ => rfl) (by decide +kernel) (fun ds d ⟨_, _, h, _⟩ => by subst h; rfl) ?_
  rintro ds z F0 ⟨am, ok, rfl, rfl⟩
  have h2 : (namesOf am).length ≤ 3 := by unfold namesOf; rw [(sortS_perm _).length_eq, List.length_map]; exact ok.few
  have hnd : (namesOf am).Nodup := (sortS_perm _).nodup_iff.mpr ok.nod
  refine tr_cons (t1_set 1 (d := .lst ((subAms am ((namesOf am).take 0)).map dA)) (ex_lst (ea_cons ex_dnew ea_nil) (hl := by show 1 ≤ 10000000; decide))) ?_
  refine tr_cons (t1_forE (namesOf am) (fun i => [some (dA am), some (.lst ((subAms am ((namesOf am).take i)).map dA)), none, none, none, none, none]) (fun i n => [some (dA am), some (.lst ((subAms am ((namesOf am).take i)).map dA)), some (dS n), none, none, none, none]) (fun _ _ F => F = F0) (it_lst (ex_sortedD (g := dI) (ex_var 0) (by have := ok.few; omega) (M.free "sorted"))) (fun _ n _ => tg_name 2) fun i n hn => ?_) ?_
  · have hnm : n ∈ namesOf am := List.mem_of_getElem? hn
    have ha := ok.le n
    obtain ⟨v, hv⟩ := Option.isSome_iff_exists.mp (lk_has.mpr ((sortS_perm _).mem_iff.mp hnm))
    have hav : amt am n = v := by unfold amt; rw [hv]; rfl
    have hlen := ok.len i
    have hni : n ∉ (namesOf am).take i := fun h => by
      obtain ⟨q, hq, e2⟩ := List.mem_iff_getElem.mp h
      have hq2 : q < i := by rw [List.length_take] at hq; omega
      rw [List.getElem_take] at e2
      have h1 := List.getElem?_eq_some_iff.mp hn
      have := (List.getElem_inj (h₀ := by rw [List.length_take] at hq; omega) (h₁ := h1.1) hnd).mp (e2.trans h1.2.symm)
      omega
    generalize hR : subAms am ((namesOf am).take i) = rows at *
    have hk : ∀ r ∈ rows, r.map (·.1) = (namesOf am).take i := fun r hr => subAms_keys r (hR ▸ hr)
    refine tr_cons (t1_newL 3) (tr_ex fun l => ?_)
    refine tr_cons (t1_for rows (envA := fun r => [some (dA am), some (.lst (rows.map dA)), some (dS n), some (.v (.ref l)), some (dA r), none, none]) (fun j => AccL l (fun _ F => F = F0) ((subStep am (rows.take j) n).map dA)) (it_lst (ex_var 1)) (fun _ _ => tg_name 4) fun j r hr => ?_) ?_
    · have hpre := subStep_len (am := am) (rows := rows.take j) (n := n) ha.2
      have hj2 : (rows.take j).length ≤ 9261 := by rw [List.length_take]; omega
      rw [show subStep am (rows.take j) n = subStep am (rows.take j) n ++ ((List.range (amt am n + 1).toNat).take 0).map fun (k : Nat) => r ++ [(n, (k : Int))] from by rw [List.take_zero, List.map_nil, List.append_nil]]
      refine tr_cons (t1_for (List.range (amt am n + 1).toNat) (envA := fun k => [some (dA am), some (.lst (rows.map dA)), some (dS n), some (.v (.ref l)), some (dA r), some (dI (k : Nat)), none]) (fun q => AccL l (fun _ F => F = F0) (((subStep am (rows.take j) n) ++ ((List.range (amt am n + 1).toNat).take q).map fun (k : Nat) => r ++ [(n, (k : Int))]).map dA)) (it_rng (n := (amt am n + 1).toNat) (EX.cast (ex_add (ex_dget (ex_var 0) (ex_var 2) (d := dI v) (by rw [valD_lk, hv]; rfl)) ex_int) (by rw [Int.toNat_of_nonneg (by omega), hav])) (M.free "range") (by omega)) (fun _ _ => tg_name 5) fun q k hq => ?_) ?_
      · have hk2 : k < 21 ∧ q < 21 := by
          obtain ⟨h1, h2⟩ := List.getElem?_eq_some_iff.mp hq
          rw [List.length_range] at h1
          rw [List.getElem_range] at h2
          omega
        refine tr_cons (t1_newDictOf 6 (ex_var 4) (M.free "dict")) (tr_ex fun a => ?_)
        refine tr_cons (t1_put 6 (ex_var 5) (ex_var 2) (hl := ?_)) ?_
        · have := congrArg List.length (hk r (List.mem_of_getElem? hr))
          rw [List.length_map, List.length_take] at this
          rw [List.length_map]; omega
        rw [putD_new (by rw [dA_keys, hk r (List.mem_of_getElem? hr)]; intro h; obtain ⟨x, hx, e⟩ := List.mem_map.mp h; cases e; exact hni hx)]
        refine tr_tellD 6 rfl ?_
        refine tr_cons (t1_app 3 (d := dA (r ++ [(n, (k : Int))])) (EX.cast (ex_var 6) (by unfold dA dD; rw [List.map_append]; rfl)) (hl := ?_)) (tr_nil fun S F σ h => ?_)
        · rw [List.length_map, List.length_append, List.length_map, List.length_take]; omega
        · rw [take_snoc hq, List.map_append (f := fun (k : Nat) => r ++ [(n, (k : Int))]), ← List.append_assoc, List.map_append (f := dA)]
          exact h.forget [5, 6]
      · refine tr_nil fun S F σ h => ?_
        rw [List.take_length, show subStep am (rows.take j) n ++ (List.range (amt am n + 1).toNat).map (fun (k : Nat) => r ++ [(n, (k : Int))]) = subStep am (rows.take (j + 1)) n from by rw [take_snoc hr]; unfold subStep; rw [List.flatMap_append]; simp] at h
        exact h.forget [4]
    · rw [List.take_length]
      refine tr_tellL 3 rfl ?_
      refine tr_cons (t1_set 1 (ex_callTy cd_list (ea_cons (ex_var 3) ea_nil) (M.free "list") (by decide +kernel))) (tr_nil fun S F σ h => ?_)
      rw [subAms_succ hn, hR]
      exact h.forget [2, 3]
  · rw [List.take_length]
    exact tr_one (t1_ret (ex_var 1))
end
end Em
set_option maxHeartbeats 1000000
/-! The walk (16): the law's brute force, its told rows, its sums. -/
namespace Em
open PySem PySem.Spec PyProof.Rows L2 RZ
def lbal (ps : Ps) (bs : Bs) (am : Am) : Bool := (exD ps bs am).all fun p => decide (p.2 = 0)
def goodSubs (ps : Ps) (bs : Bs) (am : Am) : List Am := (subAms am (namesOf am)).filter fun r => decide (0 < total r) && lbal ps bs r
def leastIn (ps : Ps) (bs : Bs) (am : Am) : List Am := (goodSubs ps bs am).filter fun r => !((goodSubs ps bs am).any fun o => decide (o ≠ r) && isPart o r)
def keyE (a b : Am) : Key → Bool
  | .inr k => decide (amt a k = amt b k)
  | .inl _ => true
/-- dicts with the same keys differ -/
theorem od_neRow {f : Fr} {a b : Am} (n1 : (a.map (·.1)).Nodup) (h : a.map (·.1) = b.map (·.1)) : OD f (compareOp .NotEq) (dA a) (dA b) (dB (decide (a ≠ b))) := by
  have n2 : (b.map (·.1)).Nodup := h ▸ n1
  have := od_neD (f := f) (xs := a.map fun p => ((Sum.inr p.1 : Key), dI p.2)) (ys := b.map fun p => ((Sum.inr p.1 : Key), dI p.2)) (e := keyE a b) (fun k x y hx hy => by
    obtain ⟨p, hp, e⟩ := List.mem_map.mp hx
    cases e
    rw [valD_lk] at hy
    cases e : lk b p.1 with
    | none => rw [e] at hy; cases hy
    | some v =>
      rw [e] at hy; cases hy
      refine ⟨p.2, v, rfl, rfl, ?_⟩
      show decide (amt a p.1 = amt b p.1) = _
      have : amt b p.1 = v := by unfold amt; rw [e]; rfl
      rw [amt_mem n1 hp, this])
  have hE : (!((a.map fun p => ((Sum.inr p.1 : Key), dI p.2)).length == (b.map fun p => ((Sum.inr p.1 : Key), dI p.2)).length && (a.map fun p => ((Sum.inr p.1 : Key), dI p.2)).all fun p => (valD (b.map fun p => ((Sum.inr p.1 : Key), dI p.2)) p.1).isSome && keyE a b p.1)) = decide (a ≠ b) := by
    have hlen : a.length = b.length := by have := congrArg List.length h; rwa [List.length_map, List.length_map] at this
    by_cases hab : a = b
    · subst hab
      rw [decide_eq_false (by simp), Bool.not_eq_false', Bool.and_eq_true, List.all_eq_true]
      refine ⟨by simp, fun p hp => ?_⟩
      obtain ⟨q, hq, e⟩ := List.mem_map.mp hp
      subst e
      rw [valD_lk, lk_mem n1 hq]
      simp [keyE]
    · rw [decide_eq_true hab]
      rw [Bool.not_eq_true']
      cases hc : ((a.map fun p => ((Sum.inr p.1 : Key), dI p.2)).length == (b.map fun p => ((Sum.inr p.1 : Key), dI p.2)).length && (a.map fun p => ((Sum.inr p.1 : Key), dI p.2)).all fun p => (valD (b.map fun p => ((Sum.inr p.1 : Key), dI p.2)) p.1).isSome && keyE a b p.1) with
      | false => rfl
      | true =>
        rw [Bool.and_eq_true, List.all_eq_true] at hc
        refine absurd (List.ext_getElem hlen fun i h1 h2 => ?_) hab
        have hk : a[i].1 = b[i].1 := by
          have := congrArg (fun l => l[i]?) h
          simp only [List.getElem?_map, List.getElem?_eq_getElem h1, List.getElem?_eq_getElem h2, Option.map_some] at this
          exact Option.some.inj this
        have hv := hc.2 _ (List.mem_map_of_mem (f := fun p : Str × Int => ((Sum.inr p.1 : Key), dI p.2)) (List.getElem_mem h1))
        rw [Bool.and_eq_true] at hv
        have hv := of_decide_eq_true hv.2
        rw [amt_mem n1 (List.getElem_mem h1), hk, amt_mem n2 (List.getElem_mem h2)] at hv
        exact Prod.ext hk hv
  rw [hE] at this
  exact this
theorem SmA.amB {bs : Bs} {am : Am} (h : SmA am) (hb : ∀ a ∈ am, (lk bs a.1).isSome = true) {r : Am} (hr : r ∈ subAms am (namesOf am)) : AmB bs r ∧ (r.map (·.1)) = namesOf am ∧ r.length ≤ 3 := by
  have hk := subAms_keys r hr
  have hnd : (namesOf am).Nodup := (sortS_perm _).nodup_iff.mpr h.nod
  refine ⟨⟨hk ▸ hnd, fun a ha => ?_, fun a ha => ?_⟩, hk, ?_⟩
  · have : a.1 ∈ namesOf am := hk ▸ List.mem_map_of_mem ha
    obtain ⟨b, hb1, e⟩ := List.mem_map.mp ((sortS_perm _).mem_iff.mp this)
    rw [← e]; exact hb b hb1
  · have key : ∀ (ns : List Str) (rows : List Am), (∀ r ∈ rows, ∀ a ∈ r, 0 ≤ a.2 ∧ a.2 ≤ 1000) → ∀ r ∈ ns.foldl (subStep am) rows, ∀ a ∈ r, 0 ≤ a.2 ∧ a.2 ≤ 1000 := by
      intro ns
      induction ns with
      | nil => exact fun _ h => h
      | cons n ns ih =>
        intro rows hrows
        refine ih _ fun r hr a ha => ?_
        obtain ⟨row, h1, h2⟩ := List.mem_flatMap.mp hr
        obtain ⟨k, hk, e⟩ := List.mem_map.mp h2
        subst e
        rcases List.mem_append.mp ha with ha | ha
        · exact hrows row h1 a ha
        · rw [List.mem_singleton] at ha
          subst ha
          have := h.le n
          have := List.mem_range.mp hk
          simp only
          omega
    exact key (namesOf am) [[]] (by simp) r hr a ha
  · have := congrArg List.length hk
    unfold namesOf at this
    rw [List.length_map, (sortS_perm _).length_eq, List.length_map] at this
    have := h.few
    omega
/-- a row that is a part can always be taken away -/
def subA (am r : Am) : Am := am.map fun p => (p.1, p.2 - amt r p.1)
def SumGood (rows : List Am) : Nat → Am → Prop
  | 0, am => total am = 0
  | n + 1, am => total am = 0 ∨ ((∃ r ∈ rows, isPart r am = true) ∧ ∀ r ∈ rows, isPart r am = true → SumGood rows n (subA am r))
section
variable {P : Program} {w : World} {K : PySem.W.Frag} {mg : Str → Option Value} {base : Heap}
def rLLeast : List Da → Da → Prop := fun ds d => ∃ ps bs am, Good ps bs ∧ SmA am ∧ (∀ a ∈ am, (lk bs a.1).isSome = true) ∧ ds = [dTold ps bs, dA am] ∧ d = .lst ((leastIn ps bs am).map dA)
theorem c_law_least_within (M : Md K mg) : C8.Cal P w K mg base 4 "_law_least_within" (spR rLLeast) [] := by
  refine cal_R M d_law_least_within ["_law_sheet_here", "_law_amounts_here", "_law_good", "_law_row", "_law_other"] ["_law_sheet_here", "_law_amounts_here"] (by simp [fn]) rfl (by decide +kernel) rfl rfl (fun _ _ _ _ _ _ us hl => match us, hl with | [_, _], _ => rfl) (by decide +kernel) (fun ds d ⟨_, _, _, _, _, _, h, _⟩ => by subst h; rfl) ?_
  rintro ds z F0 ⟨ps, bs, am, g, ok, hb, rfl, rfl⟩
  have hlen := ok.len (namesOf am).length
  rw [List.take_length] at hlen
  have hgl : (goodSubs ps bs am).length ≤ 9261 := Nat.le_trans (List.length_filter_le _ _) hlen
  have hgm : ∀ r ∈ goodSubs ps bs am, r ∈ subAms am (namesOf am) := fun r hr => (List.mem_filter.mp hr).1
  refine tr_cons (t1_setC 2 (d := .lst ((goodSubs ps bs am).map dA)) (ex_fil (subAms am (namesOf am)) (enc := dA) (b := fun r => decide (0 < total r) && lbal ps bs r) (r := dA) [("_law_row", 3)] (it_lst (ex_call (c_law_sub_amounts M) (ea_cons (ex_var 1) ea_nil) ⟨am, ok, rfl, rfl⟩)) (by omega) (fun _ _ => tg_name 3) (fun r hr => ?_) (fun _ _ _ => ex_var 3))) ?_
  · obtain ⟨h1, h2, h3⟩ := ok.amB hb hr
    exact et_w (ew_and (et_gt (ex_call (c_law_total M) (ea_cons (ex_var 3) ea_nil) ⟨r, h1.nod, by omega, rfl, rfl⟩) ex_int) fun _ => ew_and1 (et_val (ex_call (c_law_balanced M) (ea_cons (ex_var 0) (ea_cons (ex_var 3) ea_nil)) ⟨ps, bs, r, g, h1, rfl, rfl⟩)))
  · refine tr_one (t1_ret (ex_fil (goodSubs ps bs am) (enc := dA) (b := fun r => !((goodSubs ps bs am).any fun o => decide (o ≠ r) && isPart o r)) (r := dA) [("_law_row", 3)] (it_lst (ex_var 2)) (by omega) (fun _ _ => tg_name 3) (fun r hr => et_not (et_val (ex_any (xs := goodSubs ps bs am) (r := fun o => decide (o ≠ r) && isPart o r) (ex_map (goodSubs ps bs am) (enc := dA) (r := fun o => dB (decide (o ≠ r) && isPart o r)) [("_law_other", 4)] (it_lst (ex_var 2)) (by omega) (fun _ _ => tg_name 4) (fun o ho => ?_)) (M.free "any")))) (fun _ _ _ => ex_var 3)))
    obtain ⟨h1, h2, h3⟩ := ok.amB hb (hgm r hr)
    obtain ⟨q1, q2, q3⟩ := ok.amB hb (hgm o ho)
    exact ex_and (ex_cmp (od_neRow q1.nod (q2.trans h2.symm)) (ex_var 4) (ex_var 3)) fun _ => ex_one (ex_call (c_law_is_part M) (ea_cons (ex_var 4) (ea_cons (ex_var 3) ea_nil)) ⟨o, r, q1.nod, by omega, rfl, rfl⟩)
theorem c_law_told (M : Md K mg) (Z : Mz K) {a : Addr} {T : List (Addr × Str)} (X : Tx K mg base T cloP "closings_of") : C8.Cal P w K mg base 8 "_law_told" (spR (rLeast K a T)) [] := by
  refine cal_R M d_law_told ["_law_sheet_here"] ["_law_sheet_here"] (by simp [fn]) rfl (by decide +kernel) rfl rfl (fun _ _ _ _ _ _ us hl => match us, hl with | [_], _ => rfl) (by decide +kernel) (fun ds d ⟨_, _, _, _, h, _⟩ => by subst h; rfl) ?_
  rintro ds z F0 ⟨ps, bs, ok, hl, rfl, rfl⟩
  exact tr_one (t1_ret (ex_call (c_least_closings M Z X) (ea_cons (ex_var 0) ea_nil) ⟨ps, bs, ok, hl, rfl, rfl⟩))
structure SumOk (rows : List Am) (am : Am) : Prop where
  nod : (am.map (·.1)).Nodup
  few : am.length ≤ 1000
  rno : ∀ r ∈ rows, (r.map (·.1)).Nodup ∧ r.length ≤ 1000 ∧ ∀ p ∈ am, (lk r p.1).isSome = true
theorem SumOk.sub {rows : List Am} {am : Am} (h : SumOk rows am) (r : Am) : SumOk rows (subA am r) where
  nod := by unfold subA; rw [List.map_map]; exact h.nod
  few := by unfold subA; rw [List.length_map]; exact h.few
  rno := fun q hq => ⟨(h.rno q hq).1, (h.rno q hq).2.1, fun p hp => by
    unfold subA at hp
    obtain ⟨p', hp', e⟩ := List.mem_map.mp hp
    subst e
    exact (h.rno q hq).2.2 p' hp'⟩
def rLSum (n : Nat) : List Da → Da → Prop := fun ds d => ∃ (t : Da) (am : Am) (rows : List Am), SumOk rows am ∧ SumGood rows n am ∧ ds = [t, dA am, .lst (rows.map dA)] ∧ d = dB true
theorem c_law_is_sum_step (M : Md K mg) (n : Nat) (ih : ∀ m, n = m + 1 → C8.Cal P w K mg base (m + 2) "_law_is_sum" (spR (rLSum m)) []) : C8.Cal P w K mg base (n + 2) "_law_is_sum" (spR (rLSum n)) [] := by
  refine cal_R M d_law_is_sum ["_law_sheet_here", "_law_amounts_here", "_law_rows", "_law_row", "_law_rest", "_law_name"] ["_law_sheet_here", "_law_amounts_here", "_law_rows"] (by simp [fn]) rfl (by decide +kernel) rfl rfl (fun _ _ _ _ _ _ us hl => match us, hl with | [_, _, _], _ => rfl) (by decide +kernel) (fun ds d ⟨_, _, _, _, _, h, _⟩ => by subst h; rfl) ?_
  rintro ds z F0 ⟨t, am, rows, ok, sg, rfl, rfl⟩
  have kk : 1 ≤ n + 1 := by omega
  by_cases ht : total am = 0
  · exact tr_cons (Mid := none_) (t1_if (x := true) (ET.cast (et_eqI (ex_call (c_law_total M) (ea_cons (ex_var 1) ea_nil) ⟨am, ok.nod, ok.few, rfl, rfl⟩ (hk := kk)) ex_int) (decide_eq_true ht)) (fun _ => tr_one (t1_ret ex_bl)) (fun h => nomatch h)) tr_no
  refine tr_cons (t1_if (x := false) (ET.cast (et_eqI (ex_call (c_law_total M) (ea_cons (ex_var 1) ea_nil) ⟨am, ok.nod, ok.few, rfl, rfl⟩ (hk := kk)) ex_int) (decide_eq_false ht)) (fun h => nomatch h) (fun _ => tr_nil fun S F σ h => h)) ?_
  cases n with
  | zero => exact absurd sg ht
  | succ m =>
    obtain ⟨⟨r0, hr0, hp0⟩, sg⟩ := sg.resolve_left ht
    refine tr_pre (Q := Pv [some t, some (dA am), some (.lst (rows.map dA)), none, none, none] fun S F => (∀ r ∈ rows.take 0, isPart r am = false) ∧ F = F0) ?_ (fun S F σ h => ⟨h.1, h.2.imp fun S0 q => ⟨q.1, fun r hr => by simp at hr, q.2⟩⟩)
    refine tr_cons (t1_for rows (envA := fun r => [some t, some (dA am), some (.lst (rows.map dA)), some (dA r), none, none]) (fun i S F => (∀ r ∈ rows.take i, isPart r am = false) ∧ F = F0) (it_lst (ex_var 2)) (fun _ _ => tg_name 3) fun i r hr => tr_fact (C := fun _ F => F = F0) fun hφ => ?_) (tr_fact (C := fun _ F => F = F0) fun hφ => ?_)
    · have hrm := List.mem_of_getElem? hr
      obtain ⟨rn, rl, rh⟩ := ok.rno r hrm
      by_cases hp : isPart r am = true
      · refine tr_one (t1_if (x := true) (ET.cast (et_val (ex_call (c_law_is_part M) (ea_cons (ex_var 3) (ea_cons (ex_var 1) ea_nil)) ⟨r, am, rn, rl, rfl, rfl⟩ (hk := by show 1 ≤ m + 2; omega))) hp) (fun _ => ?_) (fun h => nomatch h))
        refine tr_cons (t1_newD 4) (tr_ex fun a => ?_)
        refine tr_cons (t1_lockV 1 (t1_for am (envA := fun p => [some t, some (dA am), some (.lst (rows.map dA)), some (dA r), some (.v (.ref a)), some (dS p.1)]) (fun q => AccD a (fun _ F => F = F0) ((am.take q).map fun p => ((Sum.inr p.1 : Key), dI (p.2 - amt r p.1)))) (.cast (it_keys (src_var 1)) (keysD_dD dI _)) (fun _ _ => tg_name 5) fun q p hq => ?_)) ?_
        · have hpm := List.mem_of_getElem? hq
          obtain ⟨v, hv⟩ := Option.isSome_iff_exists.mp (rh p hpm)
          have hav : amt r p.1 = v := by unfold amt; rw [hv]; rfl
          have hql := (List.getElem?_eq_some_iff.mp hq).1
          have hfew := ok.few
          refine tr_cons (t1_put 4 (d := dI (p.2 - amt r p.1)) (ex_sub (ex_dget (ex_var 1) (ex_var 5) (by rw [valD_lk, lk_mem ok.nod hpm]; rfl)) (ex_dget (ex_var 3) (ex_var 5) (by rw [valD_lk, hv, hav]; rfl))) (ex_var 5) (hl := by rw [List.length_map, List.length_take]; omega)) (tr_nil fun S F σ h => ?_)
          rw [putD_new (fun hm => by
            rw [List.map_map] at hm
            obtain ⟨p', hp', e⟩ := List.mem_map.mp hm
            have e : p'.1 = p.1 := Sum.inr.inj e
            have h1 : p'.1 ∈ (am.take q).map (·.1) := List.mem_map_of_mem hp'
            rw [List.map_take] at h1
            obtain ⟨j, hj, e2⟩ := List.mem_iff_getElem.mp h1
            rw [List.length_take, List.length_map] at hj
            rw [List.getElem_take] at e2
            have h3 : (am.map (·.1))[q]'(by rw [List.length_map]; exact hql) = p.1 := by rw [List.getElem_map, (List.getElem?_eq_some_iff.mp hq).2]
            have := (List.getElem_inj (h₀ := by rw [List.length_map]; omega) (h₁ := by rw [List.length_map]; exact hql) ok.nod).mp (e2.trans (e.trans h3.symm))
            omega)] at h
          rw [take_snoc hq, List.map_append]
          exact h.forget [5]
        · refine tr_tellD 4 rfl ?_
          rw [List.take_length]
          refine tr_one (t1_ret (ex_call (ih m rfl) (ea_cons (ex_var 0) (ea_cons (EX.cast (ex_var 4) ?_) (ea_cons (ex_var 2) ea_nil))) ⟨t, subA am r, rows, ok.sub r, sg r hrm hp, rfl, rfl⟩ (hk := Nat.le_refl _)))
          unfold dA dD subA; rw [List.map_map]; rfl
      · refine tr_one (t1_if (x := false) (ET.cast (et_val (ex_call (c_law_is_part M) (ea_cons (ex_var 3) (ea_cons (ex_var 1) ea_nil)) ⟨r, am, rn, rl, rfl, rfl⟩ (hk := by show 1 ≤ m + 2; omega))) (Bool.eq_false_iff.mpr hp)) (fun h => nomatch h) (fun _ => tr_nil fun S F σ h => ?_))
        refine ⟨(h.forget [3]).1, h.2.imp fun S0 q => ⟨q.1, fun x hx => ?_, q.2⟩⟩
        rw [take_snoc hr] at hx
        rcases List.mem_append.mp hx with hx | hx
        · exact hφ x hx
        · rw [List.mem_singleton] at hx; subst hx; exact Bool.eq_false_iff.mpr hp
    · rw [List.take_length] at hφ
      rw [hφ r0 hr0] at hp0; cases hp0
theorem c_law_is_sum (M : Md K mg) : ∀ n, C8.Cal P w K mg base (n + 2) "_law_is_sum" (spR (rLSum n)) []
  | 0 => c_law_is_sum_step M 0 fun m h => by cases h
  | n + 1 => c_law_is_sum_step M (n + 1) fun m h => by cases h; exact c_law_is_sum M n
end
end Em
set_option maxHeartbeats 1000000
/-! The plain law (2): the law's balance is the program's; amounts as rows. -/
namespace Em
open PySem PySem.Spec PyProof.Rows L2 RZ
theorem amt_cons (a : Str × Int) (r : Am) (x : Str) : amt (a :: r) x = if a.1 = x then a.2 else amt r x := by
  unfold amt lk
  rw [List.find?_cons]
  by_cases h : a.1 = x
  · simp [h]
  · simp [h]
theorem amt_off {am : Am} {x : Str} (h : x ∉ am.map (·.1)) : amt am x = 0 := by unfold amt; rw [lk_none h]; rfl
theorem sum0 {α : Type} : ∀ l : List α, (l.map fun _ => (0 : Int)).sum = 0
  | [] => rfl
  | a :: l => by rw [List.map_cons, List.sum_cons, sum0 l]; rfl
theorem sum_add {α : Type} (f h : α → Int) : ∀ l : List α, (l.map fun a => f a + h a).sum = (l.map f).sum + (l.map h).sum
  | [] => rfl
  | a :: l => by simp only [List.map_cons, List.sum_cons, sum_add f h l]; omega
theorem sum_sub {α : Type} (f h : α → Int) : ∀ l : List α, (l.map fun a => f a - h a).sum = (l.map f).sum - (l.map h).sum
  | [] => rfl
  | a :: l => by simp only [List.map_cons, List.sum_cons, sum_sub f h l]; omega
theorem sum_ind {β : Type} (f : Str → Int) (x : Str) (v : Int) : ∀ {bs : List (Str × β)}, (bs.map (·.1)).Nodup → x ∈ bs.map (·.1) → (bs.map fun b => (if x = b.1 then v else 0) * f b.1).sum = v * f x
  | [], _, h => by cases h
  | b :: r, hn, h => by
    rw [List.map_cons, List.nodup_cons] at hn
    rw [List.map_cons, List.sum_cons]
    by_cases hb : x = b.1
    · have h0 : (r.map fun b => (if x = b.1 then v else 0) * f b.1) = r.map fun _ => 0 := List.map_congr_left fun c hc => by
        have : x ≠ c.1 := fun z => hn.1 (by rw [← hb, z]; exact List.mem_map_of_mem hc)
        rw [if_neg this, Int.zero_mul]
      rw [if_pos hb, h0, sum0, ← hb]; omega
    · have h2 : x ∈ r.map (·.1) := by
        rw [List.map_cons, List.mem_cons] at h
        exact h.resolve_left hb
      rw [if_neg hb, sum_ind f x v hn.2 h2]; omega
theorem sum_over {β : Type} (f : Str → Int) {bs : List (Str × β)} (hn : (bs.map (·.1)).Nodup) : ∀ {am : Am}, (am.map (·.1)).Nodup → (∀ a ∈ am, a.1 ∈ bs.map (·.1)) → (bs.map fun b => amt am b.1 * f b.1).sum = (am.map fun a => a.2 * f a.1).sum
  | [], _, _ => by
    have : (bs.map fun b => amt [] b.1 * f b.1) = bs.map fun _ => 0 := List.map_congr_left fun b _ => by rw [amt_off (by simp), Int.zero_mul]
    rw [this, sum0]; rfl
  | a :: r, ha, hs => by
    rw [List.map_cons, List.nodup_cons] at ha
    have ih := sum_over f hn ha.2 fun x hx => hs x (List.mem_cons_of_mem _ hx)
    have h1 := sum_ind f a.1 a.2 hn (hs a List.mem_cons_self)
    have h2 : (bs.map fun b => amt (a :: r) b.1 * f b.1) = bs.map fun b => (if a.1 = b.1 then a.2 else 0) * f b.1 + amt r b.1 * f b.1 := List.map_congr_left fun b _ => by
      rw [amt_cons]
      by_cases hb : a.1 = b.1
      · rw [if_pos hb, if_pos hb, amt_off (hb ▸ ha.1), Int.zero_mul, Int.add_zero]
      · rw [if_neg hb, if_neg hb, Int.zero_mul, Int.zero_add]
    rw [h2, sum_add, h1, ih, List.map_cons, List.sum_cons]
def endsW (bs : Bs) (am : Am) (k : Str) : Int := (bs.map fun b => amt am b.1 * cnt k b.2).sum
theorem endsAt_W {ps : Ps} {bs : Bs} {am : Am} (g : Good ps bs) (ok : AmB bs am) (k : Str) : endsAt bs am k = endsW bs am k := by
  unfold endsAt endsW
  rw [← sum_over (fun n => cnt k (ends bs n)) g.nodB ok.nod fun a ha => lk_has.mp (ok.has a ha)]
  exact congrArg List.sum (List.map_congr_left fun b hb => by rw [ends_of (g.lkB hb)])
theorem cnt_app (k : Str) (xs ys : List Str) : cnt k (xs ++ ys) = cnt k xs + cnt k ys := by
  unfold cnt; rw [List.filter_append, List.length_append, Int.natCast_add]
theorem cnt_flat {α : Type} (k : Str) (f : α → List Str) : ∀ l : List α, cnt k (l.flatMap f) = (l.map fun a => cnt k (f a)).sum
  | [] => rfl
  | a :: l => by rw [List.flatMap_cons, cnt_app, cnt_flat k f l, List.map_cons, List.sum_cons]
theorem kinds_flat (bs : Bs) (ns : List Str) : (ends3 bs ns).map (fun t => t.2.2) = ns.flatMap (ends bs) := by
  unfold ends3
  rw [List.map_flatMap]
  have : ∀ (l : List Str) (k : Nat), ((l.zipIdx k).flatMap fun p => ((ends bs p.1).zipIdx.map fun q => (p.2, q.2, q.1)).map fun t => t.2.2) = l.flatMap (ends bs) := by
    intro l
    induction l with
    | nil => intro k; rfl
    | cons n r ih =>
      intro k
      rw [List.zipIdx_cons, List.flatMap_cons, ih, List.flatMap_cons, List.map_map]
      refine congrArg (· ++ _) ?_
      show ((ends bs n).zipIdx.map fun q => q.1) = _
      exact List.zipIdx_map_fst 0 (ends bs n)
  exact this ns 0
theorem cnt_rep (k n : Str) (bs : Bs) : ∀ m : Nat, cnt k ((List.replicate m n).flatMap (ends bs)) = (m : Nat) * cnt k (ends bs n)
  | 0 => by show (0 : Int) = ((0 : Nat) : Int) * _; omega
  | m + 1 => by
    rw [List.replicate_succ, List.flatMap_cons, cnt_app, cnt_rep k n bs m, Int.natCast_add, Int.add_mul]
    show _ = _ + 1 * _
    omega
theorem sum_perm {l m : List Int} (h : l.Perm m) : l.sum = m.sum := by
  induction h with
  | nil => rfl
  | cons x _ ih => rw [List.sum_cons, List.sum_cons, ih]
  | swap x y l => simp only [List.sum_cons]; omega
  | trans _ _ ih ih' => exact ih.trans ih'
theorem kinds_W {ps : Ps} {bs : Bs} {am : Am} (g : Good ps bs) (ok : AmB bs am) (k : Str) : cnt k (kindsOf bs am) = endsW (sK bs) am k := by
  unfold kindsOf
  rw [kinds_flat]
  unfold copies
  rw [List.flatMap_assoc, cnt_flat]
  unfold endsW
  rw [← sK_keys, List.map_map]
  refine congrArg List.sum (List.map_congr_left fun b hb => ?_)
  show cnt k ((List.replicate (amt am b.1).toNat b.1).flatMap (ends bs)) = _
  have hb2 : b ∈ bs := (sK_perm bs).mem_iff.mp hb
  rw [cnt_rep, Int.toNat_of_nonneg (amt_nn ok b.1).1, ends_of (g.lkB hb2)]
theorem prt_sK {ps : Ps} {bs : Bs} (g : Good ps bs) (k : Str) : prt (sK ps) k = prt ps k := by unfold prt; rw [lk_sK g.nodP]
theorem AmB.sorted {bs : Bs} {am : Am} (hn : (bs.map (·.1)).Nodup) (ok : AmB bs am) : AmB (sK bs) am := ⟨ok.nod, fun a ha => by rw [lk_sK hn]; exact ok.has a ha, ok.nn⟩
/-- the law's own balance -/
theorem lbal_eq {ps : Ps} {bs : Bs} {am : Am} (g : Good ps bs) (ok : AmB bs am) : lbal ps bs am = balanced (sK ps) (sK bs) am := by
  unfold lbal exD balanced
  rw [joints_sK, List.all_map]
  refine congrArg (fun f => (sortS (joints ps)).all f) (funext fun j => ?_)
  show decide (lexAt ps (kindsOf bs am) j = 0) = decide (excessAt (sK ps) (sK bs) am j = 0)
  have e : lexAt ps (kindsOf bs am) j = excessAt (sK ps) (sK bs) am j := by
    unfold lexAt excessAt
    rw [prt_sK g, kinds_W g ok, kinds_W g ok, endsAt_W g.sorted (ok.sorted g.nodB), endsAt_W g.sorted (ok.sorted g.nodB)]
  rw [e]
/-! ### amounts as rows -/
theorem sum_at {α : Type} (F : α → Int) (l : List α) (G : Nat → Int) (h : ∀ j (hj : j < l.length), G j = F l[j]) : CD.S l.length G = (l.map F).sum := by
  have e : (l.map F).sum = CD.S (l.map F).length (CD.g (l.map F)) := CD.sum_S _
  rw [e, List.length_map]
  refine CD.S_congr fun i hi => ?_
  rw [h i hi, CD.g_lt (by rw [List.length_map]; exact hi), List.getElem_map]
theorem rowOf_g {bs : Bs} {am : Am} {j : Nat} (hj : j < bs.length) : CD.g (rowOf bs am) j = amt am bs[j].1 := by
  unfold rowOf
  rw [CD.g_lt (by rw [List.length_map]; exact hj), List.getElem_map]; rfl
def cbOf (ps : Ps) (bs : Bs) : List (List Int) := bs.map fun b => column ps bs b.1
theorem C_row {ps : Ps} {bs : Bs} {am : Am} (g : Good ps bs) {i : Nat} {j : Str} (hj : (joints ps)[i]? = some j) : CD.C (cbOf ps bs) (rowOf bs am) i = if prt ps j = j then endsW bs am j else endsW bs am j - endsW bs am (prt ps j) := by
  have h1 : CD.C (cbOf ps bs) (rowOf bs am) i = (bs.map fun b => amt am b.1 * colAt ps b.2 j).sum := by
    unfold CD.C cbOf
    rw [List.length_map]
    refine sum_at (fun b => amt am b.1 * colAt ps b.2 j) bs _ fun q hq => ?_
    rw [rowOf_g hq]
    unfold CD.cj
    rw [List.getD_eq_getElem?_getD, List.getElem?_map, List.getElem?_eq_getElem hq]
    show _ * CD.g (column ps bs bs[q].1) i = _
    rw [column_eq (g.lkB (List.getElem_mem hq)), colAt_g hj]
  rw [h1]
  by_cases hp : prt ps j = j
  · rw [if_pos hp]
    unfold endsW
    exact congrArg List.sum (List.map_congr_left fun b _ => by unfold colAt; rw [if_pos hp])
  · rw [if_neg hp]
    unfold endsW
    rw [← sum_sub]
    exact congrArg List.sum (List.map_congr_left fun b _ => by unfold colAt; rw [if_neg hp, Int.mul_sub])
theorem bal_iff {ps : Ps} {bs : Bs} {am : Am} (g : Good ps bs) (ok : AmB bs am) : balanced ps bs am = true ↔ CD.bal (cbOf ps bs) (owns ps) (joints ps).length (rowOf bs am) := by
  unfold balanced
  rw [List.all_eq_true]
  have key : ∀ i j, (joints ps)[i]? = some j → (decide (excessAt ps bs am j = 0) = true ↔ if i ∈ owns ps then CD.C (cbOf ps bs) (rowOf bs am) i % 2 = 0 else CD.C (cbOf ps bs) (rowOf bs am) i = 0) := fun i j hj => by
    rw [decide_eq_true_iff, C_row g hj]
    unfold excessAt
    rw [endsAt_W g ok, endsAt_W g ok]
    by_cases hp : prt ps j = j
    · have : i ∈ owns ps := mem_owns.mpr ⟨j, hj, hp⟩
      rw [if_pos hp, if_pos hp, if_pos this]
    · have : i ∉ owns ps := fun z => by
        obtain ⟨j', h1, h2⟩ := mem_owns.mp z
        rw [hj] at h1; cases h1; exact hp h2
      rw [if_neg hp, if_neg hp, if_neg this]
  constructor
  · intro h i hi
    exact (key i _ (List.getElem?_eq_getElem hi)).mp (h _ (List.getElem_mem hi))
  · intro h j hj
    obtain ⟨i, hi, e⟩ := List.mem_iff_getElem.mp hj
    exact (key i j (by rw [List.getElem?_eq_getElem hi, e])).mpr (h i hi)
theorem total_row {bs : Bs} {am : Am} (hn : (bs.map (·.1)).Nodup) (ok : AmB bs am) : total am = (rowOf bs am).sum := by
  have h := sum_over (fun _ => 1) hn ok.nod fun a ha => lk_has.mp (ok.has a ha)
  simp only [Int.mul_one] at h
  exact h.symm
end Em
set_option maxHeartbeats 1000000
/-! The plain law (3): the closings are the least ones. -/
namespace Em
open PySem PySem.Spec PyProof.Rows L2 RZ
theorem rowOf_len (bs : Bs) (am : Am) : (rowOf bs am).length = bs.length := by unfold rowOf; rw [List.length_map]
theorem cbOf_len (ps : Ps) (bs : Bs) : (cbOf ps bs).length = bs.length := by unfold cbOf; rw [List.length_map]
theorem g_mem {l : List Int} {x : Int} (h : x ∈ l) : ∃ i, i < l.length ∧ CD.g l i = x := by
  obtain ⟨i, hi, e⟩ := List.mem_iff_getElem.mp h
  exact ⟨i, hi, by rw [CD.g_lt hi]; exact e⟩
theorem sum_pos {l : List Int} (h : ∀ i, 0 ≤ CD.g l i) : 0 < l.sum ↔ ∃ i, i < l.length ∧ CD.g l i ≠ 0 := by
  rw [CD.sum_S]
  constructor
  · intro h0
    exact Classical.byContradiction fun hc => by
      have : CD.S l.length (CD.g l) = CD.S l.length (fun _ => 0) := CD.S_congr fun i hi => Classical.byContradiction fun z => hc ⟨i, hi, z⟩
      rw [this, CD.S_zero] at h0
      omega
  · rintro ⟨i, hi, hne⟩
    have := CD.S_term (f := CD.g l) (fun i _ => h i) hi
    have := h i
    omega
theorem row_nn {bs : Bs} {am : Am} (ok : AmB bs am) (i : Nat) : 0 ≤ CD.g (rowOf bs am) i := by
  by_cases hi : i < bs.length
  · rw [rowOf_g hi]; exact (amt_nn ok _).1
  · rw [CD.g_ge (by rw [rowOf_len]; omega)]; exact Int.le_refl _
section
variable {ps : Ps} {bs : Bs}
abbrev Lst (ps : Ps) (bs : Bs) : List Int → Prop := CD.Least (cbOf ps bs) (owns ps) (joints ps).length
theorem clo_iff (g : Good ps bs) {am : Am} (ok : AmB bs am) : CD.Clo (cbOf ps bs) (owns ps) (joints ps).length (rowOf bs am) ↔ balanced ps bs am = true ∧ 0 < total am := by
  rw [bal_iff g ok, total_row g.nodB ok, sum_pos (row_nn ok)]
  constructor
  · intro h
    obtain ⟨i, hi, hne⟩ := h.nz
    exact ⟨h.bal, i, by rw [rowOf_len, ← cbOf_len ps]; exact hi, hne⟩
  · rintro ⟨h1, i, hi, hne⟩
    exact ⟨by rw [rowOf_len, cbOf_len], row_nn ok, ⟨i, by rw [cbOf_len, ← rowOf_len bs am]; exact hi, hne⟩, h1⟩
theorem rowOf_amRow (g : Good ps bs) {r : List Int} (h : r.length = bs.length) : rowOf bs (amRow bs r) = r := by
  refine List.ext_getElem (by rw [rowOf_len, h]) fun i h1 h2 => ?_
  have hi : i < bs.length := by rwa [rowOf_len] at h1
  have hz : (bs[i].1, r[i]) ∈ amRow bs r := by
    unfold amRow
    refine List.mem_iff_getElem.mpr ⟨i, by rw [List.length_zip, List.length_map]; omega, ?_⟩
    rw [List.getElem_zip, List.getElem_map]
  have hk : ((amRow bs r).map (·.1)).Nodup := by
    unfold amRow
    rw [List.map_fst_zip (by rw [List.length_map]; omega)]
    exact g.nodB
  have := rowOf_g (bs := bs) (am := amRow bs r) hi
  rw [CD.g_lt h1] at this
  rw [this, amt_mem hk hz]
theorem amRow_keys {r : List Int} (h : r.length = bs.length) : (amRow bs r).map (·.1) = bs.map (·.1) := by
  unfold amRow
  exact List.map_fst_zip (by rw [List.length_map]; omega)
theorem amRow_vals {r : List Int} (h : r.length = bs.length) : (amRow bs r).map (·.2) = r := by
  unfold amRow
  exact List.map_snd_zip (by rw [List.length_map]; omega)
theorem amRow_total {r : List Int} (h : r.length = bs.length) : total (amRow bs r) = r.sum := by unfold total; rw [amRow_vals h]
theorem amRow_B (g : Good ps bs) {r : List Int} (h : r.length = bs.length) (hb : ∀ i, 0 ≤ CD.g r i ∧ CD.g r i ≤ 1000) : AmB bs (amRow bs r) where
  nod := by rw [amRow_keys h]; exact g.nodB
  has := fun a ha => by
    have : a.1 ∈ (amRow bs r).map (·.1) := List.mem_map_of_mem ha
    rw [amRow_keys h] at this
    exact lk_has.mpr this
  nn := fun a ha => by
    have : a.2 ∈ (amRow bs r).map (·.2) := List.mem_map_of_mem ha
    rw [amRow_vals h] at this
    obtain ⟨i, _, e⟩ := g_mem this
    have := hb i
    rw [e] at this; exact this
variable (g : Good ps bs) (hj : (joints ps).length = 1 ∨ (joints ps).length = 2)
include g hj
theorem gcfg (top : Option (List Int)) (ht : ∀ t, top = some t → t.length = bs.length) : GCfg (columns ps bs) (joints ps).length bs.length top := (col_ok g hj ht).cfg
theorem grown_mem (top : Option (List Int)) (ht : ∀ t, top = some t → t.length = bs.length) : (((grown (columns ps bs) (joints ps).length bs.length top).map fun r => r.take bs.length).Nodup) ∧ ∀ row, row ∈ (grown (columns ps bs) (joints ps).length bs.length top).map (fun r => r.take bs.length) ↔ Lst ps bs row ∧ ∀ t, top = some t → CD.Le row t := by
  have G := gcfg g hj top ht
  have U := G.setup
  have E := G.end_
  rw [columns_cols] at U E
  have hl : bs.length = (cbOf ps bs).length := (cbOf_len ps bs).symm
  unfold grown
  rw [columns_cols]
  rw [hl] at U E ⊢
  exact CD.found_least (cfg_ok g) U E
theorem least_len {r : List Int} (h : Lst ps bs r) : r.length = bs.length := by rw [h.clo.len, cbOf_len]
theorem least_small {r : List Int} (h : Lst ps bs r) (i : Nat) : 0 ≤ CD.g r i ∧ CD.g r i ≤ 30 := by
  refine ⟨h.clo.nn i, ?_⟩
  have m := CD.least_min (cfg_ok g) h
  have G := gcfg g hj none (fun t z => nomatch z)
  have U := G.setup
  rw [columns_cols, ← cbOf_len ps bs] at U
  have h1 := CD.min_sm U m rfl
  have h2 := CD.g_le_sm m.sol.len m.sol.nn i
  have h3 := CD.ballOf_len hj
  by_cases hi : i < (cbOf ps bs).length
  · have h4 : CD.g (CD.ext_ (cbOf ps bs) (owns ps) r) i = CD.g r i := CD.ext_lo h.clo.len hi
    rw [← h4]
    have h5 : ((CD.ballOf (joints ps).length).length : Int) + 1 ≤ 30 := by omega
    exact Int.le_trans h2 (Int.le_trans h1 h5)
  · rw [CD.g_ge (by rw [h.clo.len]; omega)]; decide
theorem closeds_perm : (closeds ps bs).Perm ((grown (columns ps bs) (joints ps).length bs.length none).map fun r => r.take bs.length) := List.mergeSort_perm _ _
theorem closeds_nodup : (closeds ps bs).Nodup := (closeds_perm g hj).nodup_iff.mpr (grown_mem g hj none fun t z => nomatch z).1
theorem mem_closeds {r : List Int} : r ∈ closeds ps bs ↔ Lst ps bs r := by
  rw [(closeds_perm g hj).mem_iff, (grown_mem g hj none fun t z => nomatch z).2]
  exact ⟨fun h => h.1, fun h => ⟨h, fun t z => nomatch z⟩⟩
theorem allIn_iff {am : Am} : allIn ps bs am = true ↔ Lst ps bs (rowOf bs am) := by
  unfold allIn
  rw [decide_eq_true_iff, (grown_mem g hj (some (rowOf bs am)) fun t z => by cases z; exact rowOf_len bs am).2]
  exact ⟨fun h => h.1, fun h => ⟨h, fun t z => by cases z; exact CD.Le.refl _⟩⟩
theorem closed_ok {r : List Int} (h : r ∈ closeds ps bs) : AmB bs (amRow bs r) ∧ balanced ps bs (amRow bs r) = true ∧ 0 < total (amRow bs r) ∧ rowOf bs (amRow bs r) = r ∧ r.length = bs.length := by
  have hl := (mem_closeds g hj).mp h
  have hlen := least_len g hj hl
  have hB := amRow_B g hlen fun i => ⟨(least_small g hj hl i).1, Int.le_trans (least_small g hj hl i).2 (by decide)⟩
  have hr := rowOf_amRow g hlen
  have := (clo_iff g hB).mp (by rw [hr]; exact hl.clo)
  exact ⟨hB, this.1, this.2, hr, hlen⟩
omit hj in
theorem part_le {one other : Am} (k1 : one.map (·.1) = bs.map (·.1)) : isPart one other = true ↔ CD.Le (rowOf bs one) (rowOf bs other) := by
  have hn : (one.map (·.1)).Nodup := k1 ▸ g.nodB
  unfold isPart
  rw [List.all_eq_true]
  constructor
  · intro h i
    by_cases hi : i < bs.length
    · rw [rowOf_g hi, rowOf_g hi]
      have hm : bs[i].1 ∈ one.map (·.1) := by rw [k1]; exact List.mem_map_of_mem (List.getElem_mem hi)
      obtain ⟨p, hp, e⟩ := List.mem_map.mp hm
      have := of_decide_eq_true (h p hp)
      rw [← e, amt_mem hn hp]; exact this
    · rw [CD.g_ge (by rw [rowOf_len]; omega), CD.g_ge (by rw [rowOf_len]; omega)]; exact Int.le_refl _
  · intro h p hp
    have hm : p.1 ∈ bs.map (·.1) := k1 ▸ List.mem_map_of_mem hp
    obtain ⟨b, hb, e⟩ := List.mem_map.mp hm
    obtain ⟨i, hi, e2⟩ := List.mem_iff_getElem.mp hb
    have := h i
    rw [rowOf_g hi, rowOf_g hi, e2, e, amt_mem hn hp] at this
    exact decide_eq_true this
end
end Em
set_option maxHeartbeats 1000000
/-! The logic over plain data (15): what is drawn: an expression gives some data of a kind. -/
namespace Em
open PySem PySem.Spec PyProof.Rows L2 RZ
/-- e gives data of the kind D -/
def EN (f : Fr) (env : En) (e : Expr) (D : Da → Prop) : Prop := ∀ S F σ H, f.pf F → SlE S σ env → Sep S F H → ∀ Q, (∀ d, D d → PQ S F H d Q) → wE f e σ H Q
def EAN (f : Fr) (env : En) (es : List Expr) (L : List Da → Prop) : Prop := ∀ S F σ H, f.pf F → SlE S σ env → Sep S F H → ∀ Q, (∀ ds, L ds → PL S F H ds Q) → wA f es σ H Q
def ETN (f : Fr) (env : En) (e : Expr) (B : Bool → Prop) : Prop := ∀ S F σ H, f.pf F → SlE S σ env → Sep S F H → ∀ Q, (∀ b, B b → PB S F H b Q) → wT f e σ H Q
/-- a def's promise of data of a kind -/
def spN (R : List Da → (Da → Prop) → Prop) : Sp := fun vs H Q _ => ∃ S F ds D, Sep S F H ∧ RpL S vs ds ∧ R ds D ∧ ∀ d, D d → PQ S F H d Q
section
variable {f : Fr} {env : En} {pos : Pos}
theorem EX.en {e : Expr} {d : Da} (h : EX f env e d) : EN f env e (fun x => x = d) := fun S F σ H hp hσ hs Q q => h S F σ H hp hσ hs Q (q d rfl)
theorem EX.enD {e : Expr} {d : Da} {D : Da → Prop} (h : EX f env e d) (w : D d) : EN f env e D := fun S F σ H hp hσ hs Q q => h S F σ H hp hσ hs Q (q d w)
theorem EN.imp {e : Expr} {D D' : Da → Prop} (h : EN f env e D) (w : ∀ d, D d → D' d) : EN f env e D' := fun S F σ H hp hσ hs Q q => h S F σ H hp hσ hs Q fun d hd => q d (w d hd)
theorem ean_nil : EAN f env [] (fun ds => ds = []) := fun S F σ H hp hσ hs Q q => ea_nil S F σ H hp hσ hs Q (q [] rfl)
theorem EA.ean {es : List Expr} {ds : List Da} (h : EA f env es ds) : EAN f env es (fun x => x = ds) := fun S F σ H hp hσ hs Q q => h S F σ H hp hσ hs Q (q ds rfl)
theorem ean_cons {e : Expr} {es : List Expr} {D : Da → Prop} {L : List Da → Prop} (h : EN f env e D) (t : EAN f env es L) (hs : ∀ env, starEach (e :: es) env = (false, eval e env) :: starEach es env := by intro _; rfl) : EAN f env (e :: es) (fun ds => ∃ d r, ds = d :: r ∧ D d ∧ L r) := fun S F σ H hp hσ hsp Q q =>
  wA_of (fun X hX => pa_cons (pw_e hX) (pw_a hX) (hs _)) (h S F σ H hp hσ hsp _ fun d hd v S1 H1 g1 s1 k1 r1 => t S1 F σ H1 hp (hσ.mono g1) s1 _ fun ds hL vs S2 H2 g2 s2 k2 r2 => q (d :: ds) ⟨d, ds, rfl, hd, hL⟩ (v :: vs) S2 H2 (g1.trans g2) s2 (k1.trans k2) (.cons (r1.mono g2) r2))
theorem en_call {x : Str} {p : Pos} {e : Expr} {es : List Expr} {R : List Da → (Da → Prop) → Prop} {k : Nat} {L : List Da → Prop} {D : Da → Prop} (c : C8.Cal f.P f.w f.K f.mg f.base k x (spN R) []) (ha : EAN f env (e :: es) L) (hR : ∀ ds, L ds → R ds D) (hk : k ≤ f.k := by exact Nat.le_of_ble_eq_true rfl) (hg : GlS f x := by rfl)
    (hdb : (x == ("__debug__" : Str)) = false := by decide) (he : ∀ env, starEach (e :: es) env = (false, eval e env) :: starEach es env := by intro _; rfl) (hpl : ∀ env, (backTo pos (starEach es env)).any (·.1) = false := by intro _; rfl) :
    EN f env (.Call (.Name x p) (e :: es) [] pos) D := fun S F σ H hp hσ hs Q q =>
  wE_of (fun X hX => C8.pe_c (k := k) (sp := spN R) (dvs := []) (by rw [hX.prog, hX.w, hX.K, hX.mg, hX.base]; exact c) hX.room hk (hg.gl hX) (pw_a hX) hdb (he _) (hpl _))
    (ha S F σ H hp hσ hs _ fun ds hL vs S1 H1 g1 s1 k1 r1 => ⟨S1, F, ds, D, s1, by rw [List.append_nil]; exact r1, hR ds hL, fun d hd => (q d hd).step g1 k1⟩)
theorem en_tOp {m : Value → Value → Sem Value} {a b : Expr} {A B D : Da → Prop} (ha : EN f env a A) (hb : EN f env b B) (o : ∀ x y, A x → B y → ∃ z, D z ∧ OD f m x y z) {S F : Hp} {σ : L2.St} {H : Hp} {Q : VK} (hp : f.pf F) (hσ : SlE S σ env) (hs : Sep S F H) (q : ∀ z, D z → PQ S F H z Q) : tOp (wO f m) (wE f a) (wE f b) σ H Q :=
  ha S F σ H hp hσ hs _ fun x hx v1 S1 H1 g1 s1 k1 r1 => hb S1 F σ H1 hp (hσ.mono g1) s1 _ fun y hy v2 S2 H2 g2 s2 k2 r2 => by
    obtain ⟨z, hz, o⟩ := o x y hx hy
    exact o S2 F H2 v1 v2 hp s2 (r1.mono g2) r2 Q ((q z hz).step (g1.trans g2) (k1.trans k2))
theorem en_op {op : Operator} {a b : Expr} {A B D : Da → Prop} (ha : EN f env a A) (hb : EN f env b B) (o : ∀ x y, A x → B y → ∃ z, D z ∧ OD f (binaryOp op) x y z) : EN f env (.BinOp a op b pos) D := fun S F σ H hp hσ hs Q q =>
  wE_of (fun X hX => pe_op (wO_op hX) (pw_e hX) (pw_e hX)) (en_tOp ha hb o hp hσ hs q)
def isInt (lo hi : Int) : Da → Prop := fun d => ∃ i : Int, d = dI i ∧ lo ≤ i ∧ i ≤ hi
theorem en_add1 {a b : Expr} {i lo hi : Int} (ha : EX f env a (dI i)) (hb : EN f env b (isInt lo hi)) : EN f env (.BinOp a .Add b pos) (isInt (i + lo) (i + hi)) := en_op ha.en hb fun x y hx hy => by
  obtain ⟨j, rfl, h1, h2⟩ := hy
  subst hx
  exact ⟨dI (i + j), ⟨i + j, rfl, by omega, by omega⟩, od_I0 (g := fun i j => .int (i + j)) (fun X => op_add) i j⟩
theorem etn_eqI {a b : Expr} {D : Da → Prop} {j : Int} (ha : EN f env a D) (hD : ∀ d, D d → ∃ i : Int, d = dI i) (hb : EX f env b (dI j)) (hm : behindInMarks .Eq b = false := by first | exact nomark _ | rfl) : ETN f env (.Compare a [.Eq] [b] pos) (fun _ => True) := fun S F σ H hp hσ hs Q q =>
  wT_of (fun X hX => pt_cmpR (wO_op hX) (pw_e hX) (pw_e hX) hm) (en_tOp (D := fun z => ∃ b, z = dB b) ha hb.en (fun x y hx hy => by
    obtain ⟨i, rfl⟩ := hD x hx
    subst hy
    exact ⟨_, ⟨_, rfl⟩, od_eq (x := .int i) (y := .int j) rfl⟩) hp hσ hs fun z ⟨b, e⟩ v S' H' g s k r => by subst e; obtain rfl := r.v_inv; exact ⟨b, rfl, q b trivial S' H' g s k⟩)
theorem en_lst {es : List Expr} {L : List Da → Prop} {D : Da → Prop} (h : EAN f env es L) (hl : ∀ ds, L ds → ds.length ≤ 10000000) (w : ∀ ds, L ds → D (.lst ds)) : EN f env (.List es pos) D := fun S F σ H hp hσ hs Q q =>
  wE_of (fun X hX => pe_lst (pw_a hX)) (h S F σ H hp hσ hs _ fun ds hL vs S' H' g s k r => by
    refine ⟨by rw [r.1]; exact Nat.le_trans (hl ds hL) (by decide), fun p hp' => ?_⟩
    exact ((q _ (w ds hL)).step g k).fresh s hp' (.lstL upd_same (r.mono (Gr.new (s.freeS hp')))))
theorem en_callTy {x : Str} {T : String} {p : Pos} {e : Expr} {es : List Expr} {L : List Da → Prop} {D : Da → Prop} (ha : EAN f env (e :: es) L) (c : ∀ ds, L ds → ∃ z, D z ∧ CD f (.type T) ds z) (hm : f.mg x = none) (hv : bootBuiltins x = some (.type T)) (hg : GlS f x := by rfl) (hn : x ≠ "__name__" := by decide) (hdb : (x == ("__debug__" : Str)) = false := by decide)
    (he : ∀ env, starEach (e :: es) env = (false, eval e env) :: starEach es env := by intro _; rfl) (hpl : ∀ env, (backTo pos (starEach es env)).any (·.1) = false := by intro _; rfl) : EN f env (.Call (.Name x p) (e :: es) [] pos) D := fun S F σ H hp hσ hs Q q =>
  wE_of (fun X hX => pe_callTy (wC_r hX) (hg.gl hX) (by rw [hX.mg]; exact hm) hv (pw_a hX) hn hdb (he _) (hpl _)) (ha S F σ H hp hσ hs _ fun ds hL vs S1 H1 g1 s1 k1 r1 => by
    obtain ⟨z, hz, c⟩ := c ds hL
    exact c S1 F H1 vs hp s1 r1 Q ((q z hz).step g1 k1))
/-! ### places -/
theorem RpL.atI {S : Hp} {vs : List V} {xs : List Da} {i : Int} {d : Da} (h2 : RpL S vs xs) (hi : atI xs i = some d) : ∃ v, atI vs i = some v ∧ Rp S v d := by
  unfold L2.atI at hi ⊢
  rw [← h2.1] at hi
  cases hx : ixN vs.length i with
  | none => rw [hx] at hi; cases hi
  | some j =>
    rw [hx] at hi
    obtain ⟨v, hv, rv⟩ := h2.get (show xs[j]? = some d from hi)
    exact ⟨v, hv, rv⟩
theorem en_ixL {a b : Expr} {B D : Da → Prop} {A : Da → Prop} (ha : EN f env a A) (hb : EN f env b B) (hi : ∀ x y, A x → B y → ∃ xs i d, x = .lst xs ∧ y = dI i ∧ atI xs i = some d ∧ D d) (hpi : PlainIx b := by exact fun _ _ => rfl) : EN f env (.Subscript a b pos) D := fun S F σ H hp hσ hs Q q =>
  wE_of (te := tOp (rIxL f.K) (wE f a) (wE f b)) (fun X hX => by rw [← hX.K]; exact pe_ix ix_list (pw_e hX) (pw_e hX) hpi) (ha S F σ H hp hσ hs _ fun x hx v1 S1 H1 g1 s1 k1 r1 => hb S1 F σ H1 hp (hσ.mono g1) s1 _ fun y hy v2 S2 H2 g2 s2 k2 r2 => by
    obtain ⟨xs, i, d, rfl, rfl, h3, hd⟩ := hi x y hx hy
    obtain ⟨l, vs, rfl, h4, h5⟩ := (r1.mono g2).lst_inv
    obtain rfl := r2.v_inv
    obtain ⟨v, e1, e2⟩ := RpL.atI h5 h3
    exact ⟨l, vs, i, v, rfl, rfl, s2.sql h4, e1, q d hd v S2 H2 (g1.trans g2) s2 (k1.trans k2) e2⟩)
theorem en_ixS {a b : Expr} {x : Str} {B D : Da → Prop} (ha : EX f env a (dS x)) (hb : EN f env b B) (hi : ∀ y, B y → ∃ i c, y = dI i ∧ atI x.cps.toList i = some c ∧ D (dS ⟨#[c]⟩)) (hl : x.length ≤ 10000000) (hpi : PlainIx b := by exact fun _ _ => rfl) : EN f env (.Subscript a b pos) D := fun S F σ H hp hσ hs Q q =>
  wE_of (te := tOp rIxS (wE f a) (wE f b)) (fun X hX => pe_ix ix_str (pw_e hX) (pw_e hX) hpi) (ha S F σ H hp hσ hs _ fun v1 S1 H1 g1 s1 k1 r1 => hb S1 F σ H1 hp (hσ.mono g1) s1 _ fun y hy v2 S2 H2 g2 s2 k2 r2 => by
    obtain ⟨i, c, rfl, h3, hd⟩ := hi y hy
    obtain rfl := r1.v_inv
    obtain rfl := r2.v_inv
    exact ⟨x, i, c, rfl, rfl, big_ok hl, h3, q _ hd _ S2 H2 (g1.trans g2) s2 (k1.trans k2) (.v _)⟩)
/-! ### a list of things drawn -/
theorem en_lc {α : Type} (xs : List α) {enc : α → Da} {E : Da → Prop} {envA : α → En} {own : List (Str × Nat)} {vs : List Nat} {elt tg iter : Expr} {scope : Scope} (hi : IT yes f env tg iter (xs.map enc)) (hl : xs.length ≤ 10000000)
    (ht : ∀ a ∈ xs, TGT (f.blk scope) tg (enc a) (wipeE env (own.map (·.2))) (envA a) vs) (he : ∀ a ∈ xs, EN (f.blk scope) (envA a) elt E)
    (ok : blkC f.N f.sc scope own = true := by (try dsimp only [Fr.blk]); decide +kernel) (hv : ∀ i ∈ vs, i ∈ own.map (·.2) := by decide) (hfs : ∀ env x, foldedSetIterable iter env x = pure x := by intro _ _; rfl) :
    EN f env (.ListComp elt [⟨tg, iter, [], 0⟩] scope pos) (fun d => ∃ ds, d = .lst ds ∧ ds.length = xs.length ∧ ∀ x ∈ ds, E x) := fun S F σ H hp hσ hs Q q =>
  wE_of (fun X hX => pe_lc (own := own) hX.calm (by rw [hX.N]; exact hX.nd) (pw_i hX) (by rw [hX.N, hX.sc]; exact blkOk_by ok)
    (fun s H C cl fp => pw_g (hX.blk s H scope C cl fp)) (fun s H C cl fp => pw_f (hX.blk s H scope C cl fp)) (fun s H C cl fp => pw_e (hX.blk s H scope C cl fp)) (hfs _)) (by
    refine hi S F σ H hp hσ hs True.intro _ fun J S1 H1 g1 s1 k1 wk D hD => ?_
    refine ⟨fun i m H' => m = xs.length - i ∧ i ≤ xs.length ∧ ∃ S' acc ds, Gr S1 S' ∧ Sep S' (upd F D (.lst acc)) H' ∧ Kf H1 H' ∧ RpL S' acc ds ∧ ds.length = i ∧ ∀ x ∈ ds, E x, ⟨_, rfl, Nat.zero_le _, S1, [], [], Gr.refl _, s1.newF hD, Kf.new hD, RpL.nil, rfl, by simp⟩, ?_⟩
    rintro i m H' ⟨rfl, hi, S', acc, ds, g', s', k', ra, hlen, hE⟩
    obtain ⟨stop, turn⟩ := wk S' _ H' g' s' k'
    by_cases hlt : i < xs.length
    · refine .inr ?_
      obtain ⟨a, ha⟩ : ∃ a, xs[i]? = some a := ⟨_, List.getElem?_eq_getElem hlt⟩
      have hmem : a ∈ xs := List.mem_of_getElem? ha
      obtain ⟨go, yl⟩ := turn i (enc a) (by rw [List.getElem?_map, ha]; rfl)
      refine ⟨go, fun H4 => ∃ S4 acc4 ds4, Gr S1 S4 ∧ Sep S4 (upd F D (.lst acc4)) H4 ∧ Kf H1 H4 ∧ RpL S4 acc4 ds4 ∧ ds4.length = i + 1 ∧ ∀ x ∈ ds4, E x, fun H4 ⟨S4, acc4, ds4, h1, h2, h3, h4, h5, h6⟩ => ⟨xs.length - (i + 1), by omega, rfl, hlt, S4, acc4, ds4, h1, h2, h3, h4, h5, h6⟩, fun x H3 yy => ?_⟩
      obtain ⟨S3, g3, s3, k3, r3⟩ := yl x H3 yy
      refine ht a hmem S3 _ _ H3 x (((hσ.mono g1).mono (g'.trans g3)).wipe _) s3 r3 _ fun σ2 hσ2 hw => ⟨?_, ?_⟩
      · rw [hw (own.map (·.2)) hv, wipe_wipe (fun i hi => hi)]
      have hF : F D = none := s1.freeF hD
      have hpf : (f.blk scope).pf (upd F D (.lst acc)) := Fr.pf_mono (f := f.blk scope) (Gr.new hF) hp
      refine ef_nil (f := f.blk scope) S3 _ σ2 H3 hpf hσ2 s3 _ fun S5 H5 g5 s5 k5 => ?_
      rw [if_pos rfl]
      refine he a hmem S5 _ σ2 H5 hpf (hσ2.mono g5) s5 _ fun d hd v S6 H6 g6 s6 k6 r6 => ?_
      have hz : acc.length < sizeLine := by
        have := ra.1
        exact Nat.lt_of_lt_of_le (show acc.length < 10000001 by omega) (by decide)
      refine ⟨acc, s6.prv D _ upd_same, hz, S6, acc ++ [v], ds ++ [d], g'.trans (g3.trans (g5.trans g6)), ?_, ((k'.trans k3).trans (k5.trans k6)).trans (Kf.put (s6.prv D _ upd_same) fun _ _ z => nomatch z), (ra.mono (g3.trans (g5.trans g6))).snoc r6, by rw [List.length_append, hlen]; rfl, fun x hx => ?_⟩
      · have := s6.put (u := .lst (acc ++ [v])) upd_same
        rw [upd_upd] at this
        exact this
      · rcases List.mem_append.mp hx with hx | hx
        · exact hE x hx
        · rw [List.mem_singleton] at hx; subst hx; exact hd
    · refine .inl ?_
      have hi : i = xs.length := by omega
      subst hi
      rw [List.length_map] at stop
      refine ⟨stop, ?_⟩
      have hF : F D = none := s1.freeF hD
      have hT := s'.tell (p := D) upd_same
      rw [rem_upd hF] at hT
      have hSD : S' D = none := s'.freeSF upd_same
      exact q (.lst ds) ⟨ds, rfl, hlen, hE⟩ (.ref D) _ H' (g1.trans (g'.trans (Gr.new hSD))) hT (k1.trans k') (.lstL upd_same (ra.mono (Gr.new hSD))))
/-- "".join(drawn texts) -/
theorem en_join {o e : Expr} {apos : Pos} {A D : Da → Prop} (ho : EX f env o (dS "")) (he : EN f env e A) (w : ∀ d, A d → ∃ ys : List Str, d = .lst (ys.map dS) ∧ (ys.map (·.length)).sum ≤ 1000000 ∧ D (dS (Txt.join "" ys)))
    (hs : ∀ env, starEach [e] env = [(false, eval e env)] := by intro _; rfl) (hb : ∀ env, attributeBase o "join" env (eval o env) = eval o env := by intro _; rfl) (hl : (apos.endLine == pos.line) = true := by rfl) : EN f env (.Call (.Attribute o "join" apos) [e] [] pos) D := fun S F σ H hp hσ hsp Q q =>
  wE_of (te := tM1 (fun x xs H Q => ∃ a p, ∃ ys : List Str, x = .str a ∧ xs = [.ref p] ∧ (SqL f.K H p (ys.map V.str) ∨ SqT f.K H p (ys.map V.str)) ∧ (ys.map (·.length)).sum + ys.length * a.length ≤ 16777216 ∧ Q (.str (Txt.join a ys)) H) (wE f o) (wE f e)) (fun X hX => by rw [← hX.K]; exact pe_join (pw_e hX) (pw_e hX) (hs _) (hb _) hl) (ho S F σ H hp hσ hsp _ fun v1 S1 H1 g1 s1 k1 r1 => by
    obtain rfl := r1.v_inv
    refine ⟨⟨_, rfl⟩, he S1 F σ H1 hp (hσ.mono g1) s1 _ fun d hd v2 S2 H2 g2 s2 k2 r2 => ?_⟩
    obtain ⟨ys, rfl, h2, hD⟩ := w d hd
    obtain ⟨l, vs, rfl, h4, h5⟩ := r2.lst_inv
    have e1 := h5.atoms (f := fun x => V.str x)
    subst e1
    refine ⟨"", l, ys, rfl, rfl, .inl (s2.sql h4), ?_, q _ hD _ S2 H2 (g1.trans g2) s2 (k1.trans k2) (.v _)⟩
    show _ + ys.length * 0 ≤ _; omega)
end
/-! ### statements -/
section
variable {f : Fr} {env : En} {pos : Pos} {C : Cd} {Nx : Pr} {Rt : Rr}
theorem t1_setN (i : Nat) {x : Str} {e : Expr} {D : Da → Prop} {px : Pos} (h : EN f env e D) (hc : Sees f C := by exact Sees.nil rfl) (hi : f.N[i]? = some x := by rfl) (hx : LocS f x := by first | exact .inl rfl | exact .inr ⟨rfl, rfl⟩) (hsw : ∀ l env, swapsWith e (some (.Name x px)) l env = pure false := by intro _ _; rfl) :
    T1 f (Pv env C) (.Assign [.Name x px] e pos) (fun S F σ => ∃ d, D d ∧ Pv (env.set i (some d)) C S F σ) Rt := fun S F σ H D hp hs _ dn =>
  wS_of (fun X hX => ps_set (i := i) (by rw [hX.N]; exact hX.nd) (by rw [hX.N]; exact hi) (hx.loc hX) (pw_e hX) (hsw _ _) (hx.fn hX)) (h S F σ H (hc.up hp.2) hp.1 hs _ fun d hd v S' H' g s k r => dn.nx S' F _ H' g s k ⟨d, hd, (hp.1.mono g).set i r, hp.2.mono g⟩)
def RvN (D : Da → Prop) (C : Cd) : Rr := fun S F v => ∃ d, D d ∧ Rv d C S F v
theorem t1_retN {e : Expr} {D : Da → Prop} (h : EN f env e D) (hc : Sees f C := by exact Sees.nil rfl) : T1 f (Pv env C) (.Return (some e) pos) Nx (RvN D C) := fun S F σ H D hp hs _ dn =>
  wS_of (fun X hX => ps_ret (pw_e hX)) (h S F σ H (hc.up hp.2) hp.1 hs _ fun d hd v S' H' g s k r => dn.rt S' F v H' g s k ⟨d, hd, r, hp.2.mono g⟩)
theorem t1_ifN {c : Expr} {a b : List Stmt} {B : Bool → Prop} (h : ETN f env c B) (h1 : B true → Tr f (Pv env C) a Nx Rt) (h2 : B false → Tr f (Pv env C) b Nx Rt) (hc : Sees f C := by exact Sees.nil rfl) : T1 f (Pv env C) (.If c a b pos) Nx Rt := fun S F σ H D hp hs _ dn =>
  wS_of (fun X hX => ps_if (pw_t hX) (pw_ss hX) (pw_ss hX)) (h S F σ H (hc.up hp.2) hp.1 hs _ fun x hx S' H' g s k => by
    cases x with
    | true => exact h1 hx S' F σ H' D (hp.mono g) s (dn.step g k)
    | false => exact h2 hx S' F σ H' D (hp.mono g) s (dn.step g k))
/-- d[k] = drawn, d one's own -/
theorem t1_putN (i : Nat) {a : Addr} {xs : List (Key × Da)} {D : Da → Prop} {k : Str} {x : Str} {e ke : Expr} {px spos : Pos} (h : EN f env e D) (hk : EX f env ke (dS k)) (he : env[i]? = some (some (.v (.ref a))) := by rfl) (hl : xs.length < 10000000) (hc : Sees f (AccD a C xs) := by exact Sees.nil rfl) (hN : f.N[i]? = some x := by rfl) (hv : Vis f.sc x := by first | exact .inl rfl | exact .inr (.inl rfl) | exact .inr (.inr rfl))
    (hd : (x == ("__debug__" : Str)) = false := by decide) (hcd : (x == ("__classdict__" : Str)) = false := by decide) (hsw : ∀ l env, swapsWith e (some (.Subscript (.Name x px) ke spos)) l env = pure false := by intro _ _; rfl) :
    T1 f (Pv env (AccD a C xs)) (.Assign [.Subscript (.Name x px) ke spos] e pos) (fun S F σ => ∃ d, D d ∧ Pv env (AccD a C (putD xs (.inr k) d)) S F σ) Rt := fun S F σ H D hp hs' _ dn =>
  wS_of (fun X hX => ps_dput (room1 hX) (pe_var (i := i) (by rw [hX.N]; exact hN) (by rw [hX.sc]; exact hv) hd hcd) (pw_e hX) (pw_e hX) (hsw _ _)) (by
    obtain ⟨hσ, S0, g0, F0, vs, c, n, rfl, r⟩ := hp
    have hpf : f.pf (upd F0 a (.dK vs)) := hc S0 _ ⟨F0, vs, c, n, rfl, r⟩
    refine h S _ σ H hpf hσ hs' _ fun d hdd v S1 H1 g1 s1 k1 r1 => ⟨.ref a, slot_ref hσ he, hk S1 _ σ H1 hpf (hσ.mono g1) s1 _ fun w S2 H2 g2 s2 k2 r2 => ?_⟩
    obtain rfl := r2.v_inv
    have hH2 : H2 a = some (.dK vs) := s2.prv a _ upd_same
    refine ⟨a, _, rfl, .inl ⟨vs, .inr k, hH2, rfl, Nat.lt_of_lt_of_le (show vs.length < 10000001 by rw [r.length]; omega) (by decide), rfl⟩, ?_⟩
    have s3 := s2.put (u := .dK (putK vs (.inr k) v)) upd_same
    rw [upd_upd] at s3
    exact dn.nx S2 _ σ _ (g1.trans g2) s3 ((k1.trans k2).trans (Kf.put hH2 fun _ _ z => nomatch z)) ⟨d, hdd, hσ.mono (g1.trans g2), S2, Gr.refl _, F0, _, c.mono (g0.trans (g1.trans g2)), n, rfl, (r.mono (g0.trans (g1.trans g2))).put (r1.mono g2)⟩)
/-- a, b = drawn, {} -/
theorem t1_parND (i j : Nat) {x y : Str} {b : Expr} {D : Da → Prop} {px py pt pb : Pos} {kt k2 : Nat} {pt2 : Pos} (hb : EN f env b D) (hij : i ≠ j := by decide) (hc : Sees f C := by exact Sees.nil rfl) (hi : f.N[i]? = some x := by rfl) (hj : f.N[j]? = some y := by rfl)
    (hx : f.sc.names.lookup x = some .local := by rfl) (hy : f.sc.names.lookup y = some .local := by rfl) (hse : ∀ env, starEach [b, .Dict [] [] pb] env = (false, eval b env) :: starEach [.Dict [] [] pb] env := by intro _; rfl)
    (hw : ∀ env : Env, env.scope = f.sc → swappedStores [.Tuple [.Name x px, .Name y py] kt pt] (.Tuple [b, .Dict [] [] pb] k2 pt2) env = pure (some [x, y])) (hsw : ∀ l env, swapsWithSole [.Tuple [.Name x px, .Name y py] kt pt] (.Tuple [b, .Dict [] [] pb] k2 pt2) l env = pure false := by intro _ _; rfl) :
    T1 f (Pv env C) (.Assign [.Tuple [.Name x px, .Name y py] kt pt] (.Tuple [b, .Dict [] [] pb] k2 pt2) pos) (fun S F σ => ∃ d, D d ∧ ∃ l, Pv ((env.set i (some d)).set j (some (.v (.ref l)))) (AccD l C []) S F σ) Rt := fun S F σ H D hp hs _ dn =>
  wS_of (fun X hX => ps_par hX.calm (by rw [hX.N]; exact hX.nd) (by rw [hX.N]; exact hi) (by rw [hX.N]; exact hj) hij (by rw [hX.sc]; exact hx) (by rw [hX.sc]; exact hy) (pa_cons (pw_e hX) (pa_cons (e := .Dict [] [] pb) pe_dnewK pa_nil rfl) (hse _)) (hw _ hX.sc) (hsw _ _))
    (show tCons (wE f b) (tCons tDNewK tNil) σ H _ from hb S F σ H (hc.up hp.2) hp.1 hs _ fun d hd v S' H' g s k r l hl => by
      have hF := s.freeF hl
      exact ⟨v, .ref l, rfl, dn.nx S' _ _ _ g (s.newF hl) (k.trans (Kf.new hl)) ⟨d, hd, l, ((hp.1.mono g).set i r).set j (.v _), S', Gr.refl _, F, [], hp.2.mono g, hF, rfl, .nil⟩⟩)
/-- for over a drawn list -/
theorem t1_forN {tg it : Expr} {body : List Stmt} {L : List Da → Prop} {vs : List Nat} (h : EN f env it (fun d => ∃ ds, d = .lst ds ∧ L ds))
    (hb : ∀ ds, L ds → ∃ (env' env2 : Nat → En) (Ci : Nat → Cd), env' 0 = env ∧ (∀ S F, C S F → Ci 0 S F) ∧ (∀ i d, ds[i]? = some d → TGT f tg d (env' i) (env2 i) vs) ∧ (∀ i d, ds[i]? = some d → Tr f (Pv (env2 i) (Ci i)) body (Pv (env' (i + 1)) (Ci (i + 1))) Rt) ∧ ∀ S F σ, Pv (env' ds.length) (Ci ds.length) S F σ → Nx S F σ)
    (hc : Sees f C := by exact Sees.nil rfl) (hfs : ∀ env x, foldedSetIterable it env x = pure x := by intro _ _; rfl) :
    T1 f (Pv env C) (.For tg it body [] pos) Nx Rt := fun S F σ H D hp hs _ dn =>
  wS_of (fun X hX => ps_for (never_own hX) hX.calm (pw_i hX) (pw_g hX) (pw_ss hX) (hfs _)) (wI_of (wi := iList f.K (wE f it)) (fun X hX => by rw [← hX.K]; exact pi_list (pw_e hX)) (h S F σ H (hc.up hp.2) hp.1 hs _ fun d hd v S1 H1 g1 s1 k1 r1 => by
    obtain ⟨ds, rfl, hL⟩ := hd
    obtain ⟨env', env2, Ci, e0, c0, ht, hb, hend⟩ := hb ds hL
    obtain ⟨a, ws, rfl, h1, h2⟩ := r1.lst_inv
    refine ⟨a, rfl, ⟨ws, s1.sql h1⟩, ?_⟩
    refine ⟨fun i m σ' H' => m = ds.length - i ∧ i ≤ ds.length ∧ ∃ S' F', Gr S1 S' ∧ Sep S' F' H' ∧ Kf H1 H' ∧ Pv (env' i) (Ci i) S' F' σ', ⟨_, rfl, Nat.zero_le _, S1, F, Gr.refl _, s1, Kf.refl _, by rw [e0]; exact ⟨(hp.mono g1).1, (hp.mono g1).2.imp fun _ q => ⟨q.1, c0 _ _ q.2⟩⟩⟩, ?_⟩
    rintro i m σ' H' ⟨rfl, hil, S', F', g', s', k', pv⟩
    by_cases hlt : i < ds.length
    · refine .inr ?_
      have hd : ds[i]? = some ds[i] := List.getElem?_eq_getElem hlt
      obtain ⟨v, hv, rv⟩ := h2.get hd
      refine ⟨⟨ws, v, s'.sql (g' _ _ h1), hv⟩, fun σ4 H4 => ∃ S4 F4, Gr S1 S4 ∧ Sep S4 F4 H4 ∧ Kf H1 H4 ∧ Pv (env' (i + 1)) (Ci (i + 1)) S4 F4 σ4, fun σ4 H4 ⟨S4, F4, h1, h2, h3, h4⟩ => ⟨ds.length - (i + 1), by omega, rfl, hlt, S4, F4, h1, h2, h3, h4⟩, fun x H3 yy => ?_⟩
      obtain ⟨rfl, yy⟩ := yy
      have := yy ws (s'.sql (g' _ _ h1))
      rw [hv] at this; cases this
      refine ht i _ hd S' F' σ' _ _ pv.1 s' (rv.mono g') _ fun σ2 hσ2 _ => ?_
      refine hb i _ hd S' F' σ2 _ _ ⟨hσ2, pv.2⟩ s' ⟨fun S4 F4 σ4 H4 a b c e => ⟨S4, F4, g'.trans a, b, k'.trans c, e⟩, fun S4 F4 v H4 a b c e => dn.rt S4 F4 v H4 (g1.trans (g'.trans a)) b (k1.trans (k'.trans c)) e⟩
    · have e : i = ds.length := by omega
      subst e
      exact .inl ⟨⟨ws, s'.sql (g' _ _ h1), by rw [h2.1]; exact Nat.le_refl _⟩, dn.nx S' F' σ' H' (g1.trans g') s' (k1.trans k') (hend _ _ _ pv)⟩))
end
end Em
set_option maxHeartbeats 1000000
/-! The logic over plain data (16): promises of things drawn; the draw object opened while a number is drawn. -/
namespace Em
open PySem PySem.Spec PyProof.Rows L2 RZ
section
variable {P : Program} {w : World} {K : PySem.W.Frag} {mg : Str → Option Value} {base : Heap}
theorem cal_N (M : Md K mg) (d : He.DefD) (N ps : List Str) {x : Str} {k : Nat} {R : List Da → (Da → Prop) → Prop} (hd : d ∈ fn) (ha : d.at_ = (x, none)) (hg : hasGlo x = true) (h0 : d.dfl = []) (h00 : d.kwd = [])
    (hb : ∀ (kV doc pm : Value) (an : Option Addr) (cdv ct : Value) (us : List Value), us.length = ps.length → bindArgs (PySem.W.fnOf d.name d.qual d.params d.body d.scope .none kV doc pm an cdv ct) ⟨us, []⟩ = pure (ps.zip us))
    (hS : C8.scC N ps d.scope = true) (len : ∀ ds z, R ds z → ds.length = ps.length)
    (h : ∀ ds D F0, R ds D → Tr ⟨P, w, K, mg, base, N, d.scope, k, [], fun _ => true, none⟩ (Pv (startE N ds) fun _ F => F = F0) d.body none_ (RvN D fun _ F => F = F0)) : C8.Cal P w K mg base (k + 1) x (spN R) [] := by
  obtain ⟨fd, F⟩ := M.says.defs hd
  have e1 : He.DefD.dvs K d = [] := by unfold He.DefD.dvs; rw [h0]; rfl
  have e2 : He.DefD.kws K d = [] := by unfold He.DefD.kws; rw [h00]; rfl
  have e3 : He.fAd K d.at_ = He.ga K x := by rw [ha]; rfl
  rw [e1, e2, e3] at F
  refine ⟨_, fd, ps, [], fn_tr F (C8.fnScope_by hS) (fun vs H Q E ⟨S, F, ds, z, _, r, hR, _⟩ => r.1.trans (len ds z hR)) (fun vs H Q E ⟨S0, F0, ds, D, hs, r, hR, q⟩ => ?_), M.glo x hg, F.kp, F.bindsN hb, .nil⟩
  refine ⟨S0, F0, _, [], _, _, hs, ⟨sle_start r, Up.of rfl⟩, h ds D F0 hR, ⟨fun _ _ _ _ _ _ _ z => z.elim, fun S' F' v H' g s k ⟨d, hd, e, S1, g1, e1⟩ => ?_⟩⟩
  subst e1
  exact q d hd v S' H' g s k e
end
/-! ### // by a long divisor -/
def CDivL (i j : Int) : Prop := 0 < j ∧ j.natAbs.log2 < 9000
theorem op_fdivL {X : Cx} : OpR X (binaryOp .FloorDiv) (rI CDivL fun i j => .int (i / j)) := opI fun i j _ _ _ _ _ hc q => by
  have h1 : (0 : Int) < j := hc.1
  exact floordiv_int (by omega) (by rw [Int.fdiv_eq_ediv_of_nonneg i (by omega)]; exact q) (.inl (PyProof.noPylong_of_log2 hc.2))
section
variable {f : Fr} {env : En} {pos : Pos} {a b : Expr} {i j : Int}
theorem ex_fdivL (ha : EX f env a (dI i)) (hb : EX f env b (dI j)) (c : CDivL i j) : EX f env (.BinOp a .FloorDiv b pos) (dI (i / j)) := ex_op (od_I (g := fun i j => .int (i / j)) (fun X => op_fdivL) c) ha hb
end
/-! ### the draw object -/
theorem drawO_no {a c : Addr} {w : V} {q : Str} {h : Heap} {P : Program} {wd : World} {H : Hp} (x : ObjOk P wd H h a (DrawO a w)) (e : H a = some (DrawO a w)) (e2 : H c = some (LamX.CodeO c q)) : c ≠ a := fun z => by
  subst z
  rw [e] at e2
  have e3 := Option.some.inj e2
  rw [e3] at x
  have y : ObjOk P wd H h c (DrawO c w) := by rw [e3]; exact x
  obtain ⟨⟨oc, vs, t, h1, h2, _⟩, _⟩ := x
  obtain ⟨⟨n, its, cap, _, h3⟩, _⟩ := y
  rw [h1] at h3
  cases h3
  cases h2
/-- the draw object as a list of one's own -/
theorem Sep.open_ {S F H : Hp} {a : Addr} {w : V} {o : HO} (s : Sep S F H) (h : S a = some (DrawO a w)) (no : ∀ c q, H c = some (LamX.CodeO c q) → c ≠ a) (n : ∀ vs, o ≠ .tup vs) (n2 : ¬ isTE o) : Sep (rem S a) (upd F a o) (upd H a o) where
  pub0 := fun b u e nt => by
    have hb : b ≠ a := fun z => by subst z; rw [rem_same] at e; cases e
    rw [rem_ne hb] at e
    exact rd_ne (s.pub0 b u e nt) hb
  tab := fun b ps e => by
    have hb : b ≠ a := fun z => by subst z; rw [rem_same] at e; cases e
    rw [rem_ne hb] at e
    obtain ⟨T, h3, h4, h5⟩ := s.tab b ps e
    have hH : H a = some (DrawO a w) := by
      rcases s.pub0 a _ h (fun ps z => nomatch z) with z | ⟨z, _⟩
      · exact z
      · exact z.elim
    refine ⟨T, h3, fun q hq => ?_, h5⟩
    obtain ⟨ps, h1, h2, h3⟩ := h4 q hq
    have n1 : q.1 ≠ a := fun z => by rw [z, hH] at h1; cases h1
    refine ⟨ps, by rw [upd_ne n1]; exact h1, h2, fun pos cv hc => ?_⟩
    obtain ⟨c, e1, e2⟩ := h3 pos cv hc
    exact ⟨c, e1, by rw [upd_ne (no c _ e2)]; exact e2⟩
  one := fun b c ps qs e e' => by
    have hb : b ≠ a := fun z => by subst z; rw [rem_same] at e; cases e
    have hc : c ≠ a := fun z => by subst z; rw [rem_same] at e'; cases e'
    rw [rem_ne hb] at e; rw [rem_ne hc] at e'
    exact s.one b c ps qs e e'
  prv := fun b u e => by
    by_cases hb : b = a
    · subst hb; rw [upd_same] at e ⊢; exact e
    · rw [upd_ne hb] at e ⊢; exact s.prv b u e
  apart := fun b u e => by
    have hb : b ≠ a := fun z => by subst z; rw [rem_same] at e; cases e
    rw [rem_ne hb] at e
    rw [upd_ne hb]; exact s.apart b u e
  ntup := ntup_upd s.ntup n
  nte := nte_upd s.nte n2
/-- .. and back -/
theorem Sep.shut {S F H : Hp} {a : Addr} {w : V} {o : HO} (s : Sep S F H) (h : F a = some o) : Sep (upd S a (DrawO a w)) (rem F a) (upd H a (DrawO a w)) where
  pub0 := fun b u e nt => by
    by_cases hb : b = a
    · subst hb; rw [upd_same] at e; cases e; exact .inl upd_same
    · rw [upd_ne hb] at e; exact rd_ne (s.pub0 b u e nt) hb
  tab := fun b ps e => by
    by_cases hb : b = a
    · subst hb; rw [upd_same] at e; cases e
    · rw [upd_ne hb] at e
      exact s.tabU (fun o' e => by rw [s.prv a o h] at e; cases e; exact s.nte a o h) b ps e
  one := fun b c ps qs e e' => by
    have hb : b ≠ a := fun z => by subst z; rw [upd_same] at e; cases e
    have hc : c ≠ a := fun z => by subst z; rw [upd_same] at e'; cases e'
    rw [upd_ne hb] at e; rw [upd_ne hc] at e'
    exact s.one b c ps qs e e'
  prv := fun b u e => by
    unfold rem at e; split at e
    · cases e
    · next hb => rw [upd_ne hb]; exact s.prv b u e
  apart := fun b u e => by
    unfold rem; split
    · rfl
    · next hb => rw [upd_ne hb] at e; exact s.apart b u e
  ntup := fun b vs e => by
    unfold rem at e; split at e
    · cases e
    · exact s.ntup b vs e
  nte := fun b u e => by
    unfold rem at e; split at e
    · cases e
    · exact s.nte b u e
def DrawL (w : V) (n : Nat) : HO := .lst [w, .int 0, .int (n : Int)]
/-- ends, the draw object shut -/
def shutD (a : Addr) (w : V) (D : Ends) : Ends where
  nx := fun σ H => (∃ n, H a = some (DrawL w n)) ∧ D.nx σ (upd H a (DrawO a w))
  rt := fun v H => (∃ n, H a = some (DrawL w n)) ∧ D.rt v (upd H a (DrawO a w))
  bk := fun σ H => (∃ n, H a = some (DrawL w n)) ∧ D.bk σ (upd H a (DrawO a w))
  ct := fun σ H => (∃ n, H a = some (DrawL w n)) ∧ D.ct σ (upd H a (DrawO a w))
theorem draw_shut {X : Cx} {pins : List (Addr × Obj)} {σ : L2.St} {H : Hp} {s : Shared} {a : Addr} {w : V} (I : Inv X pins σ H s) (h : ∃ n, H a = some (DrawL w n)) : Inv X pins σ (upd H a (DrawO a w)) s := by
  obtain ⟨n, h⟩ := h
  obtain ⟨hz, its, cap, r, e⟩ := I.hok a _ h
  refine I.write (x := a) (e := a) (t' := s.toks) (h' := s.heap) (by rw [h]; exact True.intro) (.inl rfl) (fun b u _ q => q) ⟨_, e⟩ ?_
  refine ⟨⟨n, its, cap, r, e⟩, ⟨_, e⟩, fun h1 h2 ⟨n, its, cap, r, e⟩ k => ⟨n, its, cap, r, k _ e⟩⟩
theorem wSs_open {f : Fr} {ss : List Stmt} {D : Ends} {σ : L2.St} {H : Hp} {a : Addr} {w : V} (h : H a = some (DrawO a w)) (q : ∀ n : Nat, (∀ c q, H c = some (LamX.CodeO c q) → c ≠ a) → wSs f ss (shutD a w D) σ (upd H a (DrawL w n))) : wSs f ss D σ H := fun X pins s hX I => by
  have x := I.hok a _ h
  have no : ∀ c q, H c = some (LamX.CodeO c q) → c ≠ a := fun c q e => drawO_no x h e
  obtain ⟨⟨n, its, cap, r, e⟩, _⟩ := x
  have I2 : Inv X pins σ (upd H a (DrawL w n)) s := I.write (x := a) (e := a) (t' := s.toks) (h' := s.heap) (by rw [h]; exact True.intro) (.inl rfl) (fun b u _ q => q) ⟨_, e⟩ ⟨by show 3 ≤ sizeLine; decide, its, cap, r, e⟩
  refine thn (q n no X pins s hX I2) fun fl s1 k => ?_
  cases fl with
  | next => obtain ⟨σ', H', I', hn, k⟩ := k; exact ⟨σ', _, draw_shut I' hn, k⟩
  | brk => obtain ⟨σ', H', I', hn, k⟩ := k; exact ⟨σ', _, draw_shut I' hn, k⟩
  | cont => obtain ⟨σ', H', I', hn, k⟩ := k; exact ⟨σ', _, draw_shut I' hn, k⟩
  | ret u => obtain ⟨v, σ', H', I', r, hn, k⟩ := k; exact ⟨v, σ', _, draw_shut I' hn, r, k⟩
end Em
set_option maxHeartbeats 1000000
/-! The walk (17): a number is drawn. -/
namespace Em
open PySem PySem.Spec PyProof.Rows L2 RZ
def primes : List Int := [1000003, 1000033, 1000037, 1000039, 1000081, 1000099, 1000117, 1000121, 1000133, 1000151, 1000159, 1000171, 1000183, 1000187, 1000193, 1000199]
def drawV (cell k bound : Int) : Int := (cell * 48271 + k * 69621) % primes.getD (k % 16).toNat 1 % bound
def numV (cell k bound : Int) : Int :=
  if 0 < (cell - 10 ^ 18) / 1009 ^ (k % 24).toNat then (cell - 10 ^ 18) / 1009 ^ (k % 24).toNat % 1009 % bound
  else drawV ((cell % 1000003 + 977 * k) * (cell % 1000003 + 31 * k + 5)) (k % 9 + 1) 999983 % bound
theorem numV_in {cell k bound : Int} (h : 0 < bound) : 0 ≤ numV cell k bound ∧ numV cell k bound < bound := by
  unfold numV
  split
  · exact ⟨Int.emod_nonneg _ (by omega), Int.emod_lt_of_pos _ h⟩
  · exact ⟨Int.emod_nonneg _ (by omega), Int.emod_lt_of_pos _ h⟩
def intsE : List Expr → Option (List Int)
  | [] => some []
  | .Constant (.int i) _ _ :: r => (intsE r).map fun ns => i :: ns
  | _ => none
theorem ea_ints {f : Fr} {env : En} : ∀ {es : List Expr} {ns : List Int}, intsE es = some ns → EA f env es (ns.map dI)
  | [], ns, h => by cases h; exact ea_nil
  | e :: es, ns, h => by
    unfold intsE at h
    split at h
    · next heq => cases heq
    · next i k p r heq =>
      cases heq
      cases h2 : intsE es with
      | none => rw [h2] at h; cases h
      | some ms =>
        rw [h2] at h; cases h
        exact ea_cons ex_int (ea_ints h2)
    · cases h
section
variable {P : Program} {w : World} {K : PySem.W.Frag} {mg : Str → Option Value} {base : Heap}
def rLCell : List Da → Da → Prop := fun ds d => ∃ (ns : List Int) (k : Nat), ds = [dLis ns, dI (k : Nat)] ∧ d = dI (ns.getD k 0)
theorem c_law_cell_at (M : Md K mg) : C8.Cal P w K mg base 1 "_law_cell_at" (spR rLCell) [] := by
  refine cal_R M d_law_cell_at ["_law_script", "_law_k"] ["_law_script", "_law_k"] (by simp [fn]) rfl (by decide +kernel) rfl rfl (fun _ _ _ _ _ _ us hl => match us, hl with | [_, _], _ => rfl) (by decide +kernel) (fun ds d ⟨_, _, h, _⟩ => by subst h; rfl) ?_
  rintro ds z F0 ⟨ns, k, rfl, rfl⟩
  by_cases hk : k < ns.length
  · refine tr_cons (Mid := none_) (t1_if (x := true) (ET.cast (et_lt (ex_var 1) (ex_lenL (ex_var 0) (M.free "len"))) (by rw [List.length_map]; exact decide_eq_true (by omega))) (fun _ => tr_one (t1_ret (ex_ixL (ex_var 0) (ex_var 1) ?_))) (fun h => nomatch h)) tr_no
    refine atI_nat ?_
    rw [List.getElem?_map, List.getD_eq_getElem?_getD, List.getElem?_eq_getElem hk]; rfl
  · refine tr_cons (t1_if (x := false) (ET.cast (et_lt (ex_var 1) (ex_lenL (ex_var 0) (M.free "len"))) (by rw [List.length_map]; exact decide_eq_false (by omega))) (fun h => nomatch h) (fun _ => tr_nil fun _ _ _ h => h)) (tr_one (t1_ret (EX.cast ex_int ?_)))
    rw [List.getD_eq_getElem?_getD, List.getElem?_eq_none (by omega)]; rfl
def rLDraw : List Da → Da → Prop := fun ds d => ∃ cell k bound : Int, 0 < bound ∧ ds = [dI cell, dI k, dI bound] ∧ d = dI (drawV cell k bound)
theorem primes_pos : ∀ i < 16, 0 < primes.getD i 1 ∧ primes[i]? = some (primes.getD i 1) := by decide
theorem c_law_draw (M : Md K mg) : C8.Cal P w K mg base 1 "_law_draw" (spR rLDraw) [] := by
  refine cal_R M d_law_draw ["_law_cell", "_law_k", "_law_bound", "_law_primes"] ["_law_cell", "_law_k", "_law_bound"] (by simp [fn]) rfl (by decide +kernel) rfl rfl (fun _ _ _ _ _ _ us hl => match us, hl with | [_, _, _], _ => rfl) (by decide +kernel) (fun ds d ⟨_, _, _, _, h, _⟩ => by subst h; rfl) ?_
  rintro ds z F0 ⟨cell, k, bound, hb, rfl, rfl⟩
  have hk : (k % 16).toNat < 16 := by have := Int.emod_lt_of_pos k (show (0 : Int) < 16 by decide); have := Int.emod_nonneg k (show (16 : Int) ≠ 0 by decide); omega
  have hp := primes_pos _ hk
  obtain ⟨es, p1, p2, p3, k1, rest, hb1, hi, hr⟩ : ∃ es p1 p2 p3 k rest, d_law_draw.body = .Assign [.Name "_law_primes" p1] (.Tuple es k p2) p3 :: rest ∧ intsE es = some primes ∧ rest = d_law_draw.body.tail := ⟨_, _, _, _, _, _, rfl, rfl, rfl⟩
  rw [hb1]
  refine tr_cons (t1_set 3 (d := dRow primes) (ex_tup (ea_ints hi) (hl := by show 16 ≤ 10000000; decide))) ?_
  rw [hr]
  show Tr _ _ [_] _ _
  refine tr_one (t1_ret (ex_mod (ex_mod (ex_intc (ex_add (ex_mul (ex_var 0) ex_int (.inr (by decide))) (ex_mul (ex_var 1) ex_int (.inr (by decide)))) (M.free "int")) (ex_ixT (i := k % 16) (ex_var 3) (ex_mod (ex_intc (ex_var 1) (M.free "int")) ex_int (by decide)) ?_) hp.1) (ex_var 2) hb))
  rw [show k % 16 = (((k % 16).toNat : Nat) : Int) from (Int.toNat_of_nonneg (Int.emod_nonneg k (by decide))).symm]
  refine atI_nat ?_
  rw [List.getElem?_map, Int.toNat_natCast, hp.2]; rfl
def rLNumber : List Da → Da → Prop := fun ds d => ∃ cell k bound : Int, 0 < bound ∧ 0 ≤ k ∧ k ≤ 1000 ∧ ds = [dI cell, dI k, dI bound] ∧ d = dI (numV cell k bound)
theorem pow_log : ∀ n < 24, ((1009 : Int) ^ n).natAbs.log2 < 9000 ∧ (0 : Int) < 1009 ^ n := by decide +kernel
theorem c_law_number (M : Md K mg) : C8.Cal P w K mg base 2 "_law_number" (spR rLNumber) [] := by
  refine cal_R M d_law_number ["_law_cell", "_law_k", "_law_bound", "_law_power", "_law_lap", "_law_remains", "_law_small"] ["_law_cell", "_law_k", "_law_bound"] (by simp [fn]) rfl (by decide +kernel) rfl rfl (fun _ _ _ _ _ _ us hl => match us, hl with | [_, _, _], _ => rfl) (by decide +kernel) (fun ds d ⟨_, _, _, _, _, _, h, _⟩ => by subst h; rfl) ?_
  rintro ds z F0 ⟨cell, k, bound, hb, hk0, hk, rfl, rfl⟩
  have h24 : (k % 24).toNat < 24 := by have := Int.emod_lt_of_pos k (show (0 : Int) < 24 by decide); have := Int.emod_nonneg k (show (24 : Int) ≠ 0 by decide); omega
  have e24 : (((k % 24).toNat : Nat) : Int) = k % 24 := Int.toNat_of_nonneg (Int.emod_nonneg k (by decide))
  have hpw := pow_log _ h24
  refine tr_cons (t1_set 3 (d := dI (1009 ^ 0)) ex_int) ?_
  refine tr_cons (t1_forE (List.range (k % 24).toNat) (fun i => [some (dI cell), some (dI k), some (dI bound), some (dI (1009 ^ i)), none, none, none]) (fun i q => [some (dI cell), some (dI k), some (dI bound), some (dI (1009 ^ i)), some (dI (q : Nat)), none, none]) (fun _ _ F => F = F0) (it_rng (n := (k % 24).toNat) (EX.cast (ex_mod (ex_intc (ex_var 1) (M.free "int")) ex_int (by decide)) (by rw [e24])) (M.free "range") (by omega)) (fun _ _ _ => tg_name 4) fun i q hq => ?_) ?_
  · refine tr_cons (t1_set 3 (d := dI (1009 ^ (i + 1))) (EX.cast (ex_mul (ex_var 3) ex_int (.inr (by decide))) (by rw [Int.pow_succ]))) (tr_nil fun S F σ h => h.forget [4])
  rw [List.length_range]
  refine tr_cons (t1_set 5 (ex_fdivL (ex_sub (ex_var 0) (ex_pow ex_int ex_int ⟨by decide, by decide, by decide⟩)) (ex_var 3) ⟨hpw.2, hpw.1⟩)) ?_
  have e18 : ((10 : Int) ^ (18 : Int).toNat) = 10 ^ 18 := rfl
  rw [e18]
  generalize hr : (cell - 10 ^ 18) / 1009 ^ (k % 24).toNat = r
  by_cases hp : 0 < r
  · refine tr_cons (Mid := none_) (t1_if (x := true) (ET.cast (et_gt (ex_var 5) ex_int) (decide_eq_true hp)) (fun _ => tr_one (t1_ret (EX.cast (ex_mod (ex_mod (ex_intc (ex_var 5) (M.free "int")) ex_int (by decide)) (ex_var 2) hb) ?_))) (fun h => nomatch h)) tr_no
    unfold numV; rw [hr, if_pos hp]
  · refine tr_cons (t1_if (x := false) (ET.cast (et_gt (ex_var 5) ex_int) (decide_eq_false hp)) (fun h => nomatch h) (fun _ => tr_nil fun _ _ _ h => h)) ?_
    refine tr_cons (t1_set 6 (ex_mod (ex_intc (ex_var 0) (M.free "int")) ex_int (by decide))) ?_
    have hs1 := Int.emod_lt_of_pos cell (show (0 : Int) < 1000003 by decide)
    have hs2 := Int.emod_nonneg cell (show (1000003 : Int) ≠ 0 by decide)
    refine tr_one (t1_ret (EX.cast (ex_mod (ex_call (c_law_draw M) (ea_cons (ex_mul (ex_add (ex_var 6) (ex_mul ex_int (ex_var 1) (.inl (by decide)))) (ex_add (ex_add (ex_var 6) (ex_mul ex_int (ex_var 1) (.inl (by decide)))) ex_int) (.inl (by constructor <;> omega))) (ea_cons (ex_add (ex_mod (ex_intc (ex_var 1) (M.free "int")) ex_int (by decide)) ex_int) (ea_cons ex_int ea_nil))) ⟨_, _, _, by decide, rfl, rfl⟩) (ex_var 2) hb) ?_))
    unfold numV; rw [hr, if_neg hp]
end
end Em
set_option maxHeartbeats 1000000
/-! The walk (18): the draw goes on; things drawn. -/
namespace Em
open PySem PySem.Spec PyProof.Rows L2 RZ
def rNext : List Da → (Da → Prop) → Prop := fun ds D => ∃ (ns : List Int) (bound : Int), 0 < bound ∧ ds = [.drw (dLis ns), dI bound] ∧ D = isInt 0 (bound - 1)
section
variable {f : Fr} {Nx : Pr} {Rt : Rr} {ss : List Stmt}
/-- what is private of a draw object opened at a -/
def OpC (a b : Addr) (ns : List Int) (n : Nat) (F0 : Hp) : Cd := fun S F => S b = some (.lst (ns.map V.int)) ∧ F0 a = none ∧ F = upd F0 a (DrawL (.ref b) n)
theorem tr_open {ns : List Int} {bound : Int} {D0 : Da → Prop} (h : ∀ a b n F0, Tr f (Pv [some (.v (.ref a)), some (dI bound), none, none] (OpC a b ns n F0)) ss none_ (fun S F v => ∃ r : Int, D0 (dI r) ∧ v = .int r ∧ ∃ m, F = upd F0 a (DrawL (.ref b) m))) (F0 : Hp) :
    Tr f (Pv [some (.drw (dLis ns)), some (dI bound), none, none] fun _ F => F = F0) ss none_ (RvN D0 fun _ F => F = F0) := fun S F σ H D hp hs dn => by
  obtain ⟨hσ, S00, g00, e⟩ := hp
  subst e
  obtain ⟨v, hv, rv⟩ := hσ.2 0 _ rfl
  obtain ⟨a, w, rfl, hSa, rw'⟩ := rv.drw_inv
  obtain ⟨b, ws, rfl, hSb, rb⟩ := rw'.lst_inv
  have eb := rb.atoms (f := fun x => V.int x)
  subst eb
  have hH : H a = some (DrawO a (.ref b)) := by
    rcases hs.pub0 a _ hSa (fun ps z => nomatch z) with z | ⟨z, _⟩
    · exact z
    · exact z.elim
  have hba : b ≠ a := fun z => by subst z; rw [hSa] at hSb; cases hSb
  have hFa : F a = none := hs.apart a _ hSa
  refine wSs_open hH fun n no => ?_
  have hS1 := hs.open_ (o := DrawL (.ref b) n) hSa no (fun _ z => nomatch z) (fun z => z)
  obtain ⟨v1, hv1, rv1⟩ := hσ.2 1 _ rfl
  have hsl : SlE (rem S a) σ [some (.v (.ref a)), some (dI bound), none, none] := ⟨hσ.1, fun i d e => by
    match i with
    | 0 => cases e; exact ⟨_, hv, .v _⟩
    | 1 => cases e; obtain rfl := rv1.v_inv; exact ⟨_, hv1, .v _⟩
    | 2 => cases e
    | 3 => cases e
    | n + 4 => cases e⟩
  have hk0 : Kf H (upd H a (DrawL (.ref b) n)) := Kf.put hH (fun _ _ z => nomatch z) (fun _ _ z => nomatch z) (fun _ z => nomatch z)
  refine h a b n F (rem S a) _ σ _ _ ⟨hsl, _, Gr.refl _, by rw [rem_ne hba]; exact hSb, hFa, rfl⟩ hS1 ⟨fun _ _ _ _ _ _ _ z => z.elim, fun S' F' v' H' g s k ⟨r, hD, ev, m, eF⟩ => ?_⟩
  subst ev eF
  have hHa : H' a = some (DrawL (.ref b) m) := s.prv a _ upd_same
  refine ⟨⟨m, hHa⟩, ?_⟩
  have hsh := s.shut (w := .ref b) (a := a) (o := DrawL (.ref b) m) upd_same
  rw [rem_upd hFa] at hsh
  refine dn.rt (upd S' a (DrawO a (.ref b))) F _ _ (fun c o e => ?_) hsh ((hk0.trans k).trans (Kf.put hHa (fun _ _ z => nomatch z) (fun _ _ z => nomatch z) (fun _ z => nomatch z))) ⟨_, hD, .v _, S, fun c o e => ?_, rfl⟩
  all_goals
    by_cases hc : c = a
    · subst hc; rw [hSa] at e; cases e; exact upd_same
    · rw [upd_ne hc]; exact g c o (by rw [rem_ne hc]; exact e)
/-- the draw's number grows -/
theorem t1_drawn {a b : Addr} {ns : List Int} {bound : Int} {n : Nat} {F0 : Hp} {x : Str} {pos p1 p2 p3 p4 p5 p6 p7 p8 : Pos} {k1 k2 k3 : Nat} (hN : f.N[0]? = some x) (hv : Vis f.sc x) (hd : (x == ("__debug__" : Str)) = false := by decide) (hcd : (x == ("__classdict__" : Str)) = false := by decide) :
    T1 f (Pv [some (.v (.ref a)), some (dI bound), none, none] (OpC a b ns n F0)) (.Assign [.Subscript (.Name x p1) (.Constant (.int 2) k1 p2) p3] (.BinOp (.Subscript (.Name x p4) (.Constant (.int 2) k2 p5) p6) .Add (.Constant (.int 1) k3 p7) p8) pos) (Pv [some (.v (.ref a)), some (dI bound), none, none] (OpC a b ns (n + 1) F0)) Rt := fun S F σ H D hp hs _ dn => by
  obtain ⟨hσ, S0, g0, hb, hF0, rfl⟩ := hp
  obtain ⟨v, hv0, rv⟩ := hσ.2 0 _ rfl
  obtain rfl := rv.v_inv
  have hHa : H a = some (DrawL (.ref b) n) := hs.prv a _ upd_same
  refine wS_of (t := tAsg (tOp (rI0 fun i j => .int (i + j)) (tOp (rIxL f.K) (tVar 0) (tC (.int 2))) (tC (.int 1))) (gSub (tVar 0) (tC (.int 2)) rSetL)) (fun X hX => ?_) ?_
  · have pv : ∀ {p : Pos}, PE X (.Name x p) (tVar 0) := fun {p} => pe_var (i := 0) (by rw [hX.N]; exact hN) (by rw [hX.sc]; exact hv) hd hcd
    rw [← hX.K]
    exact ps_asg (pe_op op_add (pe_ix ix_list pv pe_int (fun _ _ => rfl)) pe_int) (pg_sub pv pe_int set_list)
  · refine ⟨_, hv0, a, [.ref b, .int 0, .int (n : Int)], 2, .int (n : Int), rfl, rfl, .inl (.inl hHa), rfl, _, _, rfl, rfl, ?_⟩
    refine ⟨_, hv0, a, [.ref b, .int 0, .int (n : Int)], 2, 2, rfl, rfl, hHa, rfl, ?_⟩
    have s2 := hs.put (p := a) (u := DrawL (.ref b) (n + 1)) upd_same
    rw [upd_upd] at s2
    refine dn.nx S _ σ _ (Gr.refl _) s2 (Kf.put hHa (fun _ _ z => nomatch z) (fun _ _ z => nomatch z) (fun _ z => nomatch z)) ⟨hσ, S0, g0, hb, hF0, rfl⟩
end
section
variable {P : Program} {w : World} {K : PySem.W.Frag} {mg : Str → Option Value} {base : Heap}
theorem c_law_next (M : Md K mg) : C8.Cal P w K mg base 3 "_law_next" (spN rNext) [] := by
  refine cal_N M d_law_next ["_law_draw_here", "_law_bound", "_law_at", "_law_cell"] ["_law_draw_here", "_law_bound"] (by simp [fn]) rfl (by decide +kernel) rfl rfl (fun _ _ _ _ _ _ us hl => match us, hl with | [_, _], _ => rfl) (by decide +kernel) (fun ds d ⟨_, _, _, h, _⟩ => by subst h; rfl) ?_
  rintro ds z F0 ⟨ns, bound, hb, rfl, rfl⟩
  refine tr_open (fun a b n F0 => ?_) F0
  refine tr_cons (t1_drawn rfl (.inl rfl)) ?_
  refine fun S F σ H D hp hs dn => tr_sc (p := a) (o := DrawL (.ref b) (n + 1)) (P := Pv [some (.lst [dLis ns, dI 0, dI ((n + 1 : Nat) : Int)]), some (dI bound), none, none] fun _ F => F = F0) (Nx := none_) (Rt := fun S F v => ∃ r : Int, 0 ≤ r ∧ r ≤ bound - 1 ∧ v = .int r ∧ F = F0) ?_ (fun _ z => nomatch z) (fun _ _ z => nomatch z) (fun z => z) S F σ H D ?_ hs ⟨fun _ _ _ _ _ _ _ z => z.2.elim, fun S' F' v H' g s k ⟨h1, r, h2, h3, h4, h5⟩ => dn.rt S' F' v H' g s k ⟨r, ⟨r, rfl, h2, h3⟩, h4, n + 1, ?_⟩⟩
  · have hq : (((n + 1) / 12 : Nat) : Int) = ((n + 1 : Nat) : Int) / 12 := by omega
    refine tr_cons (t1_set 2 (d := dI (((n + 1) / 12 : Nat) : Int)) (EX.cast (ex_fdiv (ex_ixL (ex_var 0) ex_int rfl) ex_int ⟨by decide, by decide⟩) (by rw [hq]))) ?_
    refine tr_cons (t1_set 3 (ex_add (ex_call (c_law_cell_at M) (ea_cons (ex_ixL (ex_var 0) ex_int rfl) (ea_cons (EX.cast (ex_add (ex_ixL (ex_var 0) ex_int rfl) (ex_var 2)) (by rw [Int.zero_add])) ea_nil)) ⟨ns, (n + 1) / 12, rfl, rfl⟩) (ex_mul ex_int (ex_var 2) (.inl (by decide))))) ?_
    have hm1 := Int.emod_lt_of_pos ((n + 1 : Nat) : Int) (show (0 : Int) < 12 by decide)
    have hm2 := Int.emod_nonneg ((n + 1 : Nat) : Int) (show (12 : Int) ≠ 0 by decide)
    refine tr_one (t1_conv (t1_ret (ex_call (c_law_number M) (ea_cons (ex_var 3) (ea_cons (ex_add (ex_mod (ex_intc (ex_ixL (ex_var 0) ex_int rfl) (M.free "int")) ex_int (by decide)) ex_int) (ea_cons (ex_var 1) ea_nil))) ⟨_, _, _, hb, by omega, by omega, rfl, rfl⟩)) (fun _ _ _ h => h) (fun _ _ _ h => h) fun S F v h => ?_)
    obtain ⟨h1, S1, g1, h2⟩ := h
    have hn := numV_in (cell := ns.getD ((n + 1) / 12) 0 + 31 * (((n + 1) / 12 : Nat) : Int)) (k := ((n + 1 : Nat) : Int) % 12 + 1) hb
    exact ⟨_, hn.1, by omega, h1.v_inv, h2⟩
  · obtain ⟨hσ, S0, g0, hb', hF0, rfl⟩ := hp
    have hSb : S b = some (.lst (ns.map V.int)) := g0 _ _ hb'
    have hba : b ≠ a := fun z => by subst z; have := hs.apart _ _ hSb; rw [upd_same] at this; cases this
    refine ⟨upd_same, ⟨hσ.1, fun i d e => ?_⟩, _, Gr.refl _, rem_upd hF0⟩
    obtain ⟨v0, hv0, rv0⟩ := hσ.2 0 _ rfl
    obtain ⟨v1, hv1, rv1⟩ := hσ.2 1 _ rfl
    obtain rfl := rv0.v_inv
    obtain rfl := rv1.v_inv
    match i with
    | 0 => cases e; exact ⟨_, hv0, .lstL upd_same (.cons (.lstL (by rw [upd_ne hba]; exact hSb) (.of_atoms V.int ns)) (.cons (.v _) (.cons (.v _) .nil)))⟩
    | 1 => cases e; exact ⟨_, hv1, .v _⟩
    | 2 => cases e
    | 3 => cases e
    | n + 4 => cases e
  · funext c
    by_cases hc : c = a
    · subst hc; rw [h1, upd_same]
    · rw [upd_ne hc, ← h5, rem_ne hc]
end
end Em
set_option maxHeartbeats 1000000
/-! The walk (19): things drawn: a thing of a list, a word. -/
namespace Em
open PySem PySem.Spec PyProof.Rows L2 RZ
def rPick : List Da → (Da → Prop) → Prop := fun ds D => ∃ (ns : List Int) (xs : List Da), xs ≠ [] ∧ xs.length ≤ 1000000 ∧ (∀ x ∈ xs, D x) ∧ ds = [.drw (dLis ns), .lst xs]
def isW : Da → Prop := fun d => ∃ x : Str, d = dS x ∧ isWord x = true
def rWordN : List Da → (Da → Prop) → Prop := fun ds D => ∃ ns : List Int, ds = [.drw (dLis ns)] ∧ D = isW
theorem atI_in {α : Type} {xs : List α} {i : Int} (h0 : 0 ≤ i) (h1 : i < xs.length) : ∃ x ∈ xs, atI xs i = some x := by
  have h2 : i.toNat < xs.length := by omega
  refine ⟨xs[i.toNat], List.getElem_mem h2, ?_⟩
  have := atI_nat (List.getElem?_eq_getElem h2)
  rwa [Int.toNat_of_nonneg h0] at this
theorem join_letters : ∀ ys : List Str, (∀ y ∈ ys, ∃ c, c ∈ letters.cps.toList ∧ y = ⟨#[c]⟩) → (Str.join "" ys).cps.toList.length = ys.length ∧ ∀ c ∈ (Str.join "" ys).cps.toList, c ∈ letters.cps.toList
  | [], _ => ⟨rfl, fun c h => by cases h⟩
  | [y], h => by
    obtain ⟨c, hc, rfl⟩ := h y List.mem_cons_self
    refine ⟨rfl, fun d hd => ?_⟩
    have : d ∈ [c] := hd
    rw [List.mem_singleton] at this; subst this; exact hc
  | y :: z :: r, h => by
    obtain ⟨c, hc, rfl⟩ := h y List.mem_cons_self
    obtain ⟨h1, h2⟩ := join_letters (z :: r) fun x hx => h x (List.mem_cons_of_mem _ hx)
    have e : (Str.join "" (⟨#[c]⟩ :: z :: r)).cps.toList = c :: (Str.join "" (z :: r)).cps.toList := by
      show ((#[c] ++ #[]) ++ (Str.join "" (z :: r)).cps).toList = _
      simp
    refine ⟨by rw [e, List.length_cons, h1]; rfl, fun d hd => ?_⟩
    rw [e] at hd
    rcases List.mem_cons.mp hd with hd | hd
    · subst hd; exact hc
    · exact h2 d hd
theorem join_word {ys : List Str} (h : ∀ y ∈ ys, ∃ c, c ∈ letters.cps.toList ∧ y = ⟨#[c]⟩) (h1 : 1 ≤ ys.length) (h8 : ys.length ≤ 8) : isWord (Txt.join "" ys) = true := by
  rw [TL.join_eq]
  obtain ⟨a, b⟩ := join_letters ys h
  have hl : (Str.join "" ys).length = ys.length := by unfold Str.length; rw [← Array.length_toList]; exact a
  unfold isWord
  rw [hl, decide_eq_true h1, decide_eq_true h8, Bool.true_and, Bool.true_and, List.all_eq_true]
  exact fun c hc => decide_eq_true (b c hc)
theorem ones_sum : ∀ {ys : List Str}, (∀ y ∈ ys, ∃ c, c ∈ letters.cps.toList ∧ y = ⟨#[c]⟩) → (ys.map (·.length)).sum = ys.length
  | [], _ => rfl
  | y :: r, h => by
    obtain ⟨c, hc, rfl⟩ := h y List.mem_cons_self
    rw [List.map_cons, List.sum_cons, ones_sum fun x hx => h x (List.mem_cons_of_mem _ hx), List.length_cons]
    show 1 + r.length = _
    omega
/-- a list of such texts is a list of texts -/
theorem all_strs {φ : Str → Prop} : ∀ {ds : List Da}, (∀ d ∈ ds, ∃ x : Str, d = dS x ∧ φ x) → ∃ ys : List Str, ds = ys.map dS ∧ ∀ y ∈ ys, φ y
  | [], _ => ⟨[], rfl, by simp⟩
  | d :: r, h => by
    obtain ⟨x, rfl, hx⟩ := h d List.mem_cons_self
    obtain ⟨ys, rfl, hy⟩ := all_strs fun d hd => h d (List.mem_cons_of_mem _ hd)
    exact ⟨x :: ys, rfl, fun y hy' => (List.mem_cons.mp hy').elim (fun z => z ▸ hx) (hy y)⟩
section
variable {P : Program} {w : World} {K : PySem.W.Frag} {mg : Str → Option Value} {base : Heap}
theorem c_law_pick (M : Md K mg) : C8.Cal P w K mg base 4 "_law_pick" (spN rPick) [] := by
  refine cal_N M d_law_pick ["_law_draw_here", "_law_things"] ["_law_draw_here", "_law_things"] (by simp [fn]) rfl (by decide +kernel) rfl rfl (fun _ _ _ _ _ _ us hl => match us, hl with | [_, _], _ => rfl) (by decide +kernel) (fun ds d ⟨_, _, _, _, _, h⟩ => by subst h; rfl) ?_
  rintro ds D F0 ⟨ns, xs, hne, hl, hD, rfl⟩
  have hpos : 0 < xs.length := List.length_pos_iff.mpr hne
  refine tr_one (t1_retN (en_ixL (B := isInt 0 ((xs.length : Nat) - 1)) (ex_var 1).en (en_call (c_law_next M) (ea_cons (ex_var 0) (ea_cons (ex_lenL (ex_var 1) (M.free "len")) ea_nil)).ean (fun ds hds => ⟨ns, xs.length, by omega, hds, rfl⟩)) ?_))
  rintro x y rfl ⟨i, rfl, h0, h1⟩
  obtain ⟨d, hd, e⟩ := atI_in (xs := xs) h0 (by omega)
  exact ⟨xs, i, d, rfl, rfl, e, hD d hd⟩
theorem c_law_word (M : Md K mg) : C8.Cal P w K mg base 5 "_law_word" (spN rWordN) [] := by
  refine cal_N M d_law_word ["_law_draw_here", "_law_letters", "_law_many", "_law_turn"] ["_law_draw_here"] (by simp [fn]) rfl (by decide +kernel) rfl rfl (fun _ _ _ _ _ _ us hl => match us, hl with | [_], _ => rfl) (by decide +kernel) (fun ds d ⟨_, h, _⟩ => by subst h; rfl) ?_
  rintro ds D F0 ⟨ns, rfl, rfl⟩
  refine tr_cons (t1_set 1 (d := dS letters) ex_str) ?_
  refine tr_cons (t1_setN 2 (D := isInt 1 8) (en_call (c_law_pick M) (ean_cons (ex_var 0).en (ean_cons (en_lst (D := fun d => ∃ xs, d = .lst xs ∧ xs.length = 6 ∧ ∀ x ∈ xs, isInt 1 8 x)
    (ean_cons (EX.enD (D := isInt 1 8) ex_int ⟨1, rfl, by decide, by decide⟩) (ean_cons (EX.enD (D := isInt 1 8) ex_int ⟨1, rfl, by decide, by decide⟩) (ean_cons (EX.enD (D := isInt 1 8) ex_int ⟨2, rfl, by decide, by decide⟩) (ean_cons (EX.enD (D := isInt 1 8) ex_int ⟨3, rfl, by decide, by decide⟩) (ean_cons (EX.enD (D := isInt 1 8) ex_int ⟨8, rfl, by decide, by decide⟩) (ean_cons (EN.imp (en_add1 (lo := 0) (hi := 7) ex_int (en_call (c_law_next M) (ea_cons (ex_var 0) (ea_cons ex_int ea_nil)).ean (fun ds hds => ⟨ns, 8, by decide, hds, rfl⟩))) (fun d h => (h : isInt 1 8 d))) ean_nil)))))) (fun ds h => ?_) (fun ds h => ?_)) ean_nil)) (fun ds h => ?_))) (tr_ex fun d => tr_and fun hd => ?_)
  · obtain ⟨_, _, rfl, _, _, _, rfl, _, _, _, rfl, _, _, _, rfl, _, _, _, rfl, _, _, _, rfl, _, rfl⟩ := h
    show 6 ≤ 10000000; decide
  · obtain ⟨_, _, rfl, a1, _, _, rfl, a2, _, _, rfl, a3, _, _, rfl, a4, _, _, rfl, a5, _, _, rfl, a6, rfl⟩ := h
    exact ⟨_, rfl, rfl, fun x hx => by simp only [List.mem_cons, List.not_mem_nil, or_false] at hx; rcases hx with rfl | rfl | rfl | rfl | rfl | rfl <;> assumption⟩
  · obtain ⟨d0, r, rfl, rfl, d1, r1, rfl, ⟨xs, rfl, hl, hx⟩, rfl⟩ := h
    exact ⟨ns, xs, List.length_pos_iff.mp (by omega), by omega, hx, rfl⟩
  · obtain ⟨i, rfl, h1, h8⟩ := hd
    have ei : ((i.toNat : Nat) : Int) = i := Int.toNat_of_nonneg (by omega)
    refine tr_one (t1_retN (en_join ex_str (en_lc (List.range i.toNat) (E := fun d => ∃ x : Str, d = dS x ∧ ∃ c, c ∈ letters.cps.toList ∧ x = ⟨#[c]⟩) (own := [("_law_turn", 3)]) (it_rng (n := i.toNat) (EX.cast (ex_var 2) (by rw [ei])) (M.free "range") (by omega)) (by rw [List.length_range]; omega) (fun _ _ => tg_name 3) (fun _ _ => en_ixS (B := isInt 0 25) (ex_var 1) (en_call (c_law_next M) (ea_cons (ex_var 0) (ea_cons ex_int ea_nil)).ean (fun ds hds => ⟨ns, 26, by decide, hds, rfl⟩)) ?_ (by decide))) ?_))
    · rintro y ⟨j, rfl, j0, j1⟩
      obtain ⟨c, hc, e⟩ := atI_in (xs := letters.cps.toList) (i := j) j0 (Int.lt_of_le_of_lt j1 (by decide))
      exact ⟨j, c, rfl, e, _, rfl, c, hc, rfl⟩
    · rintro d ⟨ds, rfl, hl, hE⟩
      obtain ⟨ys, rfl, hy⟩ := all_strs hE
      rw [List.length_map, List.length_range] at hl
      exact ⟨ys, rfl, by rw [ones_sum hy]; omega, _, rfl, join_word hy (by omega) (by omega)⟩
end
end Em
set_option maxHeartbeats 1000000
/-! The walk (20): an object of one's own looked at; words drawn. -/
namespace Em
open PySem PySem.Spec PyProof.Rows L2 RZ
section
variable {f : Fr}
theorem inV_strs {x : Str} : ∀ {ws : List Str}, inV (.str x) (ws.map V.str) = decide (x ∈ ws)
  | [] => by simp [inV]
  | y :: r => by
    have ih := inV_strs (x := x) (ws := r)
    unfold inV at ih ⊢
    rw [List.map_cons, List.any_cons, ih]
    show (eqV (.str y) (.str x) || _) = _
    have : eqV (.str y) (.str x) = decide (y = x) := by
      unfold eqV
      by_cases h : y = x
      · subst h; simp
      · simp [h]
    rw [this]
    by_cases h : y = x
    · subst h; simp
    · have h2 : ¬ x = y := fun z => h z.symm
      simp [h, h2]
theorem flat_strs : ∀ {ws : List Str}, (ws.map V.str).all flatV = true
  | [] => rfl
  | _ :: r => by rw [List.map_cons, List.all_cons, flat_strs]; rfl
theorem od_inStrL {x : Str} {ws : List Str} : OD f (compareOp .In) (dS x) (.lst (ws.map dS)) (dB (decide (x ∈ ws))) := .of (rIn f.K false) (fun X hX => by rw [← hX.K]; exact op_in_seq) fun S F H vx vy hp hs rx ry Q k => by
  obtain rfl := rx.v_inv
  obtain ⟨a, vs, rfl, h1, h2⟩ := ry.lst_inv
  have e := h2.atoms (f := fun x => V.str x)
  subst e
  exact ⟨a, _, rfl, .inl (hs.sql h1), rfl, flat_strs, by rw [if_neg (by decide), inV_strs]; exact k.here hs (.v _)⟩
theorem od_inStrT {x : Str} {ws : List Str} : OD f (compareOp .In) (dS x) (gT ws) (dB (decide (x ∈ ws))) := .of (rIn f.K false) (fun X hX => by rw [← hX.K]; exact op_in_seq) fun S F H vx vy hp hs rx ry Q k => by
  obtain rfl := rx.v_inv
  obtain ⟨a, vs, rfl, h1, h2⟩ := ry.tup_inv
  have e := h2.atoms (f := fun x => V.str x)
  subst e
  exact ⟨a, _, rfl, .inr (hs.sqt h1), rfl, flat_strs, by rw [if_neg (by decide), inV_strs]; exact k.here hs (.v _)⟩
theorem od_ninStrL {x : Str} {ws : List Str} : OD f (compareOp .NotIn) (dS x) (.lst (ws.map dS)) (dB (!decide (x ∈ ws))) := .of (rIn f.K true) (fun X hX => by rw [← hX.K]; exact op_notIn_seq) fun S F H vx vy hp hs rx ry Q k => by
  obtain rfl := rx.v_inv
  obtain ⟨a, vs, rfl, h1, h2⟩ := ry.lst_inv
  have e := h2.atoms (f := fun x => V.str x)
  subst e
  exact ⟨a, _, rfl, .inl (hs.sql h1), rfl, flat_strs, by rw [if_pos rfl, inV_strs]; exact k.here hs (.v _)⟩
end
/-! ### one's own object looked at -/
def Own (l : Addr) (o : HO) (F0 : Hp) : Cd := fun _ F => F0 l = none ∧ F = upd F0 l o
def nmE (val : Nat → V) : Nat → En → En
  | _, [] => []
  | k, none :: r => none :: nmE val (k + 1) r
  | k, some d :: r => some (.nm (val k) d) :: nmE val (k + 1) r
theorem nmE_get {val : Nat → V} : ∀ {env : En} {k i : Nat}, (nmE val k env)[i]? = (env[i]?).map fun d => d.map fun d => Da.nm (val (k + i)) d
  | [], k, i => by simp [nmE]
  | none :: r, k, 0 => by simp [nmE]
  | some d :: r, k, 0 => by simp [nmE]
  | none :: r, k, i + 1 => by
    rw [nmE, List.getElem?_cons_succ, nmE_get, List.getElem?_cons_succ]
    simp only [show k + 1 + i = k + (i + 1) from by omega]
  | some d :: r, k, i + 1 => by
    rw [nmE, List.getElem?_cons_succ, nmE_get, List.getElem?_cons_succ]
    simp only [show k + 1 + i = k + (i + 1) from by omega]
theorem nmE_len {val : Nat → V} : ∀ {env : En} {k : Nat}, (nmE val k env).length = env.length
  | [], _ => rfl
  | none :: r, k => by rw [nmE, List.length_cons, nmE_len, List.length_cons]
  | some d :: r, k => by rw [nmE, List.length_cons, nmE_len, List.length_cons]
def valE (σ : L2.St) (k : Nat) : V := match σ[k]? with
  | some (some v) => v
  | _ => .non
theorem valE_of {σ : L2.St} {k : Nat} {v : V} (h : σ[k]? = some (some v)) : valE σ k = v := by unfold valE; rw [h]
/-- every slot by its value -/
theorem SlE.named {S : Hp} {σ : L2.St} {env : En} (h : SlE S σ env) : SlE S σ (nmE (valE σ) 0 env) := ⟨by rw [nmE_len]; exact h.1, fun i d e => by
  rw [nmE_get] at e
  cases he : env[i]? with
  | none => rw [he] at e; cases e
  | some d0 =>
    rw [he] at e
    cases d0 with
    | none => cases e
    | some d1 =>
      cases e
      obtain ⟨v, hv, rv⟩ := h.2 i d1 he
      refine ⟨v, hv, ?_⟩
      have : valE σ (0 + i) = v := by rw [Nat.zero_add]; exact valE_of hv
      rw [this]
      exact .nm rv⟩
section
variable {f : Fr} {env : En} {pos : Pos} {st : Stmt} {P Nx : Pr} {Rt : Rr}
theorem t1_pv (p : List (Addr × HO)) (h : T1 { f with pv := p } P st Nx Rt) : T1 f P st Nx Rt := fun S F σ H D hp hs q dn X pins s hX I => h S F σ H D hp hs q dn X pins s ⟨hX.prog, hX.w, hX.K, hX.mg, hX.base, hX.N, hX.sc, hX.calm, hX.room, hX.nox, hX.fn, hX.nd, hX.code⟩ I
/-- x = e, where e's answer is a new object of one's own, while another is looked at -/
theorem t1_open (i j : Nat) {l : Addr} {o u : HO} {d0 : Da} {F00 : Hp} (he : env[i]? = some (some (.v (.ref l)))) (hij : i ≠ j) (hd : ∀ S : Hp, S l = some o → Rp S (.ref l) d0) (n1 : ∀ vs, o ≠ .tup vs) (n2 : ∀ b v, o ≠ .frz b v) (n3 : ¬ isTE o)
    (h : ∀ val : Nat → V, T1 f (Pv (nmE val 0 (env.set i (some d0))) fun _ F => F = F00) st (fun S F σ => ∃ a, Pv ((nmE val 0 (env.set i (some d0))).set j (some (.v (.ref a)))) (Own a u F00) S F σ) (fun _ _ _ => False)) :
    T1 f (Pv env (Own l o F00)) st (fun S F σ => ∃ a, a ≠ l ∧ F00 a = none ∧ Pv (env.set j (some (.v (.ref a)))) (fun _ F => F00 l = none ∧ F = upd (upd F00 l o) a u) S F σ) Rt := fun S F σ H D hp hs _ dn => by
  obtain ⟨hσ, S0, g0, hF0, rfl⟩ := hp
  have hFl : upd F00 l o l = some o := upd_same
  have hSl := hs.freeSF hFl
  have hHl := hs.prv l o hFl
  have hil : i < env.length := (List.getElem?_eq_some_iff.mp he).1
  obtain ⟨v0, hv0, rv0⟩ := hσ.2 i _ he
  obtain rfl := rv0.v_inv
  have hσ1 : SlE (upd S l o) σ (env.set i (some d0)) := ⟨by rw [List.length_set]; exact hσ.1, fun k d e => by
    by_cases hk : k = i
    · subst hk
      rw [List.getElem?_set_self hil] at e
      cases e
      exact ⟨_, hv0, hd _ upd_same⟩
    · rw [List.getElem?_set_ne (fun z => hk z.symm)] at e
      obtain ⟨v, h1, h2⟩ := hσ.2 k d e
      exact ⟨v, h1, h2.mono (Gr.new hSl)⟩⟩
  have hT := hs.tell hFl
  refine h _ (upd S l o) (rem (upd F00 l o) l) σ H D ⟨hσ1.named, _, Gr.refl _, rem_upd hF0⟩ hT True.intro ⟨fun S' F' σ' H' g s k z => ?_, fun _ _ _ _ _ _ _ z => z.elim⟩
  obtain ⟨a, hp', S1, g1, hFa, rfl⟩ := z
  have h' : S' l = some o := g l o upd_same
  have hal : a ≠ l := fun z => by subst z; have := s.apart _ _ h'; rw [upd_same] at this; cases this
  have hun := s.untell h' (s.exact h' hHl n2 k (fun ps z => n3 (by rw [z]; exact True.intro)) (fun ps z => n3 (by rw [z]; exact True.intro))) n1 n3
  refine dn.nx (rem S' l) (upd (upd F00 a u) l o) σ' H' (Gr.rem_ hSl g) hun k ⟨a, hal, hFa, ⟨?_, fun q d e => ?_⟩, _, Gr.refl _, hF0, ?_⟩
  · have := hp'.1; rw [List.length_set, nmE_len, List.length_set] at this; rw [List.length_set]; exact this
  · by_cases hq : q = j
    · subst hq
      have hlt : q < env.length := by
        have := (List.getElem?_eq_some_iff.mp e).1
        rwa [List.length_set] at this
      rw [List.getElem?_set_self hlt] at e
      cases e
      obtain ⟨v, h1, h2⟩ := hp'.2 q _ (by rw [List.getElem?_set_self (by rw [nmE_len, List.length_set]; exact hlt)])
      obtain rfl := h2.v_inv
      exact ⟨_, h1, .v _⟩
    · rw [List.getElem?_set_ne (fun z => hq z.symm)] at e
      by_cases hqi : q = i
      · subst hqi
        rw [he] at e; cases e
        obtain ⟨v, h1, h2⟩ := hp'.2 q (.nm _ d0) (by rw [List.getElem?_set_ne (fun z => hq z.symm), nmE_get, List.getElem?_set_self hil]; rfl)
        obtain ⟨e1, _⟩ := h2.nm_inv
        have e2 : valE σ (0 + q) = .ref l := by rw [Nat.zero_add]; exact valE_of hv0
        rw [e2] at e1
        subst e1
        exact ⟨_, h1, .v _⟩
      · obtain ⟨v, h1, h2⟩ := hσ.2 q d e
        obtain ⟨v', h3, h4⟩ := hp'.2 q (.nm _ d) (by rw [List.getElem?_set_ne (fun z => hq z.symm), nmE_get, List.getElem?_set_ne (fun z => hqi z.symm), e]; rfl)
        obtain ⟨e1, _⟩ := h4.nm_inv
        have e2 : valE σ (0 + q) = v := by rw [Nat.zero_add]; exact valE_of h1
        rw [e2] at e1
        subst e1
        exact ⟨_, h3, h2.mono (Gr.rem_ hSl g)⟩
  · funext c
    by_cases h1 : c = l
    · subst h1; rw [upd_same, upd_ne (fun z => hal z.symm), upd_same]
    · rw [upd_ne h1]
      by_cases h2 : c = a
      · subst h2; rw [upd_same, upd_same]
      · rw [upd_ne h2, upd_ne h2, upd_ne h1]
/-- a simple thing read off one's own object -/
theorem ex_open (i : Nat) {l : Addr} {o : HO} {d0 : Da} {x : V} {e : Expr} (he : env[i]? = some (some (.v (.ref l)))) (hd : ∀ S : Hp, S l = some o → Rp S (.ref l) d0) (n1 : ∀ vs, o ≠ .tup vs) (n2 : ∀ b v, o ≠ .frz b v) (n3 : ¬ isTE o) (hpv : f.pv = [(l, o)])
    (h : EX { f with pv := [] } (env.set i (some d0)) e (.v x)) : EX f env e (.v x) := fun S F σ H hp hσ hs Q q X pins s hX I => by
  have hFl : F l = some o := hp (l, o) (by rw [hpv]; exact List.mem_singleton.mpr rfl)
  have hSl := hs.freeSF hFl
  have hHl := hs.prv l o hFl
  have hil : i < env.length := (List.getElem?_eq_some_iff.mp he).1
  obtain ⟨v0, hv0, rv0⟩ := hσ.2 i _ he
  obtain rfl := rv0.v_inv
  have hσ1 : SlE (upd S l o) σ (env.set i (some d0)) := ⟨by rw [List.length_set]; exact hσ.1, fun k d e => by
    by_cases hk : k = i
    · subst hk
      rw [List.getElem?_set_self hil] at e
      cases e
      exact ⟨_, hv0, hd _ upd_same⟩
    · rw [List.getElem?_set_ne (fun z => hk z.symm)] at e
      obtain ⟨v, h1, h2⟩ := hσ.2 k d e
      exact ⟨v, h1, h2.mono (Gr.new hSl)⟩⟩
  refine h (upd S l o) (rem F l) σ H (fun p hp => by cases hp) hσ1 (hs.tell hFl) Q (fun v S' H' g s k r => ?_) X pins s ⟨hX.prog, hX.w, hX.K, hX.mg, hX.base, hX.N, hX.sc, hX.calm, hX.room, hX.nox, hX.fn, hX.nd, hX.code⟩ I
  have h' : S' l = some o := g l o upd_same
  have hun := s.untell h' (s.exact h' hHl n2 k (fun ps z => n3 (by rw [z]; exact True.intro)) (fun ps z => n3 (by rw [z]; exact True.intro))) n1 n3
  have eF : upd (rem F l) l o = F := by
    funext c
    by_cases hc : c = l
    · subst hc; rw [upd_same, hFl]
    · rw [upd_ne hc, rem_ne hc]
  rw [eF] at hun
  obtain rfl := r.v_inv
  exact q _ (rem S' l) H' (Gr.rem_ hSl g) hun k (.v _)
end
end Em
set_option maxHeartbeats 1000000
/-! The walk (21): words that differ, drawn. -/
namespace Em
open PySem PySem.Spec PyProof.Rows L2 RZ
def oL (ws : List Str) : HO := .lst (ws.map V.str)
theorem oL_rp {l : Addr} {ws : List Str} (S : Hp) (h : S l = some (oL ws)) : Rp S (.ref l) (.lst (ws.map dS)) := .lstL h (.of_atoms V.str ws)
theorem own_acc {l : Addr} {ws : List Str} {F0 S F : Hp} (h : Own l (oL ws) F0 S F) : AccL l (fun _ F => F = F0) (ws.map dS) S F := ⟨F0, _, ⟨S, Gr.refl _, rfl⟩, h.1, h.2, .of_atoms V.str ws⟩
theorem acc_own {l : Addr} {ws : List Str} {F0 S F : Hp} (h : AccL l (fun _ F => F = F0) (ws.map dS) S F) : Own l (oL ws) F0 S F := by
  obtain ⟨F1, vs, ⟨S1, _, rfl⟩, n, e, r⟩ := h
  have := r.atoms (f := fun x => V.str x)
  subst this
  exact ⟨n, e⟩
theorem Up.map {C C' : Cd} {S F : Hp} (h : Up C S F) (w : ∀ S F, C S F → C' S F) : Up C' S F := h.imp fun _ q => ⟨q.1, w _ _ q.2⟩
section
variable {f : Fr} {env : En} {ss : List Stmt} {Nx : Pr} {Rt : Rr}
theorem tr_exC {α : Type} {C : α → Cd} (h : ∀ a, Tr f (Pv env (C a)) ss Nx Rt) : Tr f (Pv env fun S F => ∃ a, C a S F) ss Nx Rt := fun S F σ H D hp hs dn => by
  obtain ⟨e, S0, g, a, c⟩ := hp
  exact h a S F σ H D ⟨e, S0, g, c⟩ hs dn
end
theorem sub_len {α : Type} [DecidableEq α] : ∀ {l m : List α}, l.Nodup → (∀ x ∈ l, x ∈ m) → l.length ≤ m.length
  | [], m, _, _ => Nat.zero_le _
  | a :: l, m, hn, hs => by
    have h1 := sub_len (m := m.erase a) (List.nodup_cons.mp hn).2 fun x hx => (List.mem_erase_of_ne (fun z => (List.nodup_cons.mp hn).1 (by subst z; exact hx))).mpr (hs x (List.mem_cons_of_mem _ hx))
    rw [List.length_erase_of_mem (hs a List.mem_cons_self)] at h1
    have : 0 < m.length := List.length_pos_of_mem (hs a List.mem_cons_self)
    rw [List.length_cons]; omega
def spareW : List Str := ["b", "cd", "e", "fgh", "i", "jk", "l", "mno", "p"]
theorem spareW_ok : spareW.Nodup ∧ ∀ x ∈ spareW, isWord x = true := by decide +kernel
def spares (ws : List Str) : List Str := spareW.filter fun x => !decide (x ∈ ws)
theorem spares_ne {ws : List Str} (h : ws.length < 9) : spares ws ≠ [] := fun z => by
  have h1 : ∀ x ∈ spareW, x ∈ ws := fun x hx => by
    by_cases hw : x ∈ ws
    · exact hw
    · have : x ∈ spares ws := List.mem_filter.mpr ⟨hx, by simp [hw]⟩
      rw [z] at this; cases this
  have := sub_len spareW_ok.1 h1
  have h9 : spareW.length = 9 := rfl
  omega
structure VOk (ws : List Str) (n : Nat) : Prop where
  len : ws.length = n
  nod : ws.Nodup
  word : ∀ x ∈ ws, isWord x = true
def rVocab : List Da → (Da → Prop) → Prop := fun ds D => ∃ (ns : List Int) (n : Nat), n ≤ 8 ∧ ds = [.drw (dLis ns), dI (n : Nat)] ∧ D = fun d => ∃ ws, d = .lst (ws.map dS) ∧ VOk ws n
def strsE : List Expr → Option (List Str)
  | [] => some []
  | .Constant (.str i) _ _ :: r => (strsE r).map fun ns => i :: ns
  | _ => none
theorem ea_strs {f : Fr} {env : En} : ∀ {es : List Expr} {ns : List Str}, strsE es = some ns → EA f env es (ns.map dS)
  | [], ns, h => by cases h; exact ea_nil
  | e :: es, ns, h => by
    unfold strsE at h
    split at h
    · next heq => cases heq
    · next i k p r heq =>
      cases heq
      cases h2 : strsE es with
      | none => rw [h2] at h; cases h
      | some ms =>
        rw [h2] at h; cases h
        exact ea_cons ex_str (ea_strs h2)
    · cases h
section
variable {P : Program} {w : World} {K : PySem.W.Frag} {mg : Str → Option Value} {base : Heap}
theorem c_law_vocab (M : Md K mg) : C8.Cal P w K mg base 6 "_law_vocab" (spN rVocab) [] := by
  refine cal_N M d_law_vocab ["_law_draw_here", "_law_many", "_law_found", "_law_turn", "_law_word_here", "_law_spare", "_law_one"] ["_law_draw_here", "_law_many"] (by simp [fn]) rfl (by decide +kernel) rfl rfl (fun _ _ _ _ _ _ us hl => match us, hl with | [_, _], _ => rfl) (by decide +kernel) (fun ds d ⟨_, _, _, h, _⟩ => by subst h; rfl) ?_
  rintro ds D F0 ⟨ns, n, hn, rfl, rfl⟩
  refine tr_cons (t1_newL 2) (tr_ex fun l => ?_)
  refine tr_pre (Q := Pv [some (.drw (dLis ns)), some (dI (n : Nat)), some (.v (.ref l)), none, none, none, none] fun S F => ∃ ws, VOk ws 0 ∧ Own l (oL ws) F0 S F) ?_ (fun S F σ h => ⟨h.1, h.2.map fun S F q => ⟨[], ⟨rfl, List.nodup_nil, by simp⟩, acc_own (ws := []) q⟩⟩)
  refine tr_cons (t1_for (List.range n) (envA := fun k => [some (.drw (dLis ns)), some (dI (n : Nat)), some (.v (.ref l)), some (dI (k : Nat)), none, none, none]) (fun i S F => ∃ ws, VOk ws i ∧ Own l (oL ws) F0 S F) (it_rng (n := n) (ex_var 1) (M.free "range") (by omega)) (fun _ _ => tg_name 3) fun i k hk => tr_exC fun ws => tr_fact fun ok => ?_) (tr_exC fun ws => tr_fact fun ok => ?_)
  · have hi : i < n := by have := (List.getElem?_eq_some_iff.mp hk).1; rwa [List.length_range] at this
    refine tr_cons (t1_setN 4 (en_call (c_law_word M) (ea_cons (ex_var 0) ea_nil).ean (fun ds hds => ⟨ns, hds, rfl⟩))) (tr_ex fun d => tr_and fun hd => ?_)
    obtain ⟨x, rfl, hx⟩ := hd
    have hlen := ok.len
    have hne := spares_ne (ws := ws) (by omega)
    obtain ⟨y, r, hy⟩ : ∃ y r, spares ws = y :: r := by cases h : spares ws with | nil => exact absurd h hne | cons y r => exact ⟨y, r, rfl⟩
    have hym : y ∈ spareW ∧ y ∉ ws := by
      have : y ∈ spares ws := by rw [hy]; exact List.mem_cons_self
      have := List.mem_filter.mp this
      exact ⟨this.1, by simpa using this.2⟩
    refine tr_cons (t1_open 2 5 (o := oL ws) (u := oL (spares ws)) (d0 := .lst (ws.map dS)) rfl (by decide) oL_rp (fun _ z => nomatch z) (fun _ _ z => nomatch z) (fun z => z) fun val => ?_) ?_
    · refine t1_conv (P' := Pv [some (.nm (val 0) (.drw (dLis ns))), some (.nm (val 1) (dI (n : Nat))), some (.nm (val 2) (.lst (ws.map dS))), some (.nm (val 3) (dI (k : Nat))), some (.nm (val 4) (dS x)), none, none] fun _ F => F = F0) (Nx' := fun S F σ => ∃ a, Pv (List.set [some (.nm (val 0) (.drw (dLis ns))), some (.nm (val 1) (dI (n : Nat))), some (.nm (val 2) (.lst (ws.map dS))), some (.nm (val 3) (dI (k : Nat))), some (.nm (val 4) (dS x)), none, none] 5 (some (.v (.ref a)))) (AccL a (fun _ F => F = F0) ((spares ws).map dS)) S F σ) (Rt' := fun _ _ _ => False) ?_ (fun _ _ _ h => h) (fun S F σ h => ?_) (fun _ _ _ h => h)
      · exact t1_setLcO 5 spareW (enc := dS) (b := fun x => !decide (x ∈ ws)) (r := dS) (envA := fun x0 => [some (.nm (val 0) (.drw (dLis ns))), some (.nm (val 1) (dI (n : Nat))), some (.nm (val 2) (.lst (ws.map dS))), some (.nm (val 3) (dI (k : Nat))), some (.nm (val 4) (dS x)), none, some (dS x0)]) (vs := [6]) [("_law_one", 6)] (it_tup (ex_tup (ea_strs (ns := spareW) rfl) (hl := by show 9 ≤ 10000000; decide))) (by show 9 ≤ 10000000; decide) (fun _ _ => tg_name 6) (fun _ _ => ef_one (et_cmp od_ninStrL (ex_var 6) (ex_varN 2) rfl)) (fun _ _ _ => ex_var 6)
      obtain ⟨a, hp, ha⟩ := h
      exact ⟨a, hp, ha.map fun S F q => acc_own (ws := spares ws) q⟩
    · refine tr_ex fun a => tr_and fun hal => tr_and fun hFa => ?_
      refine tr_pre (Q := Pv [some (.drw (dLis ns)), some (dI (n : Nat)), some (.v (.ref l)), some (dI (k : Nat)), some (dS x), some (.v (.ref a)), none] (AccL a (Own l (oL ws) F0) ((spares ws).map dS))) (tr_tellL 5 rfl ?_) (fun S F σ hp => ⟨hp.1, hp.2.map fun S F q => ⟨upd F0 l (oL ws), _, ⟨S, Gr.refl _, q.1, rfl⟩, by rw [upd_ne hal]; exact hFa, q.2, .of_atoms V.str (spares ws)⟩⟩)
      let nw := if x ∈ ws then y else x
      refine tr_pre (Q := Pv [some (.drw (dLis ns)), some (dI (n : Nat)), some (.v (.ref l)), some (dI (k : Nat)), some (dS x), some (.lst ((spares ws).map dS)), none] (AccL l (fun _ F => F = F0) (ws.map dS))) ?_ (fun S F σ h => ⟨h.1, h.2.map fun _ _ q => own_acc q⟩)
      refine tr_cons (t1_pv [(l, oL ws)] (t1_app 2 (d := dS nw) (ex_open 2 (d0 := .lst (ws.map dS)) rfl oL_rp (fun _ z => nomatch z) (fun _ _ z => nomatch z) (fun z => z) rfl (ex_if (x := decide (x ∈ ws)) (et_cmp od_inStrL (ex_var 4) (ex_var 2) rfl) (fun h => ex_ixL (ex_var 5) ex_int ?_) (fun h => EX.cast (ex_var 4) ?_))) (hl := by rw [List.length_map]; omega) (hc := fun S F q p hp => ?_))) (tr_nil fun S F σ h => ?_)
      · rw [hy, show nw = y from if_pos (of_decide_eq_true h)]; exact atI_nat (j := 0) rfl
      · rw [show nw = x from if_neg (of_decide_eq_false h)]
      · cases List.mem_singleton.mp hp
        have := (acc_own q).2
        rw [this]; exact upd_same
      · have h2 : Pv [some (.drw (dLis ns)), some (dI (n : Nat)), some (.v (.ref l)), some (dI (k : Nat)), some (dS x), some (.lst ((spares ws).map dS)), none] (AccL l (fun _ F => F = F0) ((ws ++ [nw]).map dS)) S F σ := by rw [List.map_append]; exact h
        have hnw : nw ∉ ws ∧ isWord nw = true := by
          by_cases hxw : x ∈ ws
          · rw [show nw = y from if_pos hxw]; exact ⟨hym.2, spareW_ok.2 y hym.1⟩
          · rw [show nw = x from if_neg hxw]; exact ⟨hxw, hx⟩
        refine ⟨(h2.forget [3, 4, 5]).1, h2.2.map fun S F q => ⟨ws ++ [nw], ⟨by rw [List.length_append, hlen]; rfl, List.nodup_append.mpr ⟨ok.nod, by simp, fun a ha b hb => ?_⟩, fun z hz => ?_⟩, acc_own q⟩⟩
        · rw [List.mem_singleton] at hb; subst hb; exact fun z => hnw.1 (z ▸ ha)
        · rcases List.mem_append.mp hz with hz | hz
          · exact ok.word z hz
          · rw [List.mem_singleton] at hz; subst hz; exact hnw.2
  · rw [List.length_range] at ok
    refine tr_pre (Q := Pv [some (.drw (dLis ns)), some (dI (n : Nat)), some (.v (.ref l)), none, none, none, none] (AccL l (fun _ F => F = F0) (ws.map dS))) ?_ (fun S F σ h => ⟨h.1, h.2.map fun _ _ q => own_acc q⟩)
    exact tr_tellL 2 rfl (tr_one (t1_retN ((ex_var 2).enD ⟨ws, rfl, ok⟩)))
end
end Em
set_option maxHeartbeats 1000000
/-! The walk (22): partners, blocks, sheets drawn. -/
namespace Em
open PySem PySem.Spec PyProof.Rows L2 RZ
theorem lk_app {α : Type} (l m : List (Str × α)) (k : Str) : lk (l ++ m) k = (lk l k).or (lk m k) := by
  unfold lk
  rw [List.find?_append]
  cases List.find? (fun p => decide (p.1 = k)) l <;> rfl
theorem lk_none' {α : Type} {l : List (Str × α)} {k : Str} (h : k ∉ l.map (·.1)) : lk l k = none := lk_none h
theorem lk_one {α : Type} {k : Str} {x : α} : lk [(k, x)] k = some x := by unfold lk; simp
structure PsOk (ps : Ps) : Prop where
  nodP : (ps.map (·.1)).Nodup
  inv : ∀ p ∈ ps, lk ps p.2 = some p.1
  wordP : ∀ p ∈ ps, isWord p.1 = true
  neP : ps ≠ []
  fewP : ps.length ≤ 4
  j12 : (joints ps).length = 1 ∨ (joints ps).length = 2
structure PInv (ws : List Str) (i : Nat) (ps : Ps) : Prop where
  keys : ∀ p ∈ ps, p.1 ∈ ws.take (2 * i)
  nod : (ps.map (·.1)).Nodup
  inv : ∀ p ∈ ps, lk ps p.2 = some p.1
  len : ps.length ≤ 2 * i
  jl : (joints ps).length = i
theorem joints_app (l m : Ps) : joints (l ++ m) = joints l ++ joints m := by unfold joints; rw [List.filter_append, List.map_append]
theorem PInv.new {ws : List Str} {i : Nat} {ps : Ps} (h : PInv ws i ps) (hn : ws.Nodup) {j : Nat} {x : Str} (hj : 2 * i ≤ j) (hx : ws[j]? = some x) : x ∉ ps.map (·.1) := fun hm => by
  obtain ⟨p, hp, e⟩ := List.mem_map.mp hm
  have hk := h.keys p hp
  rw [e] at hk
  obtain ⟨q, hq, e2⟩ := List.mem_iff_getElem.mp hk
  have hq2 : q < 2 * i := by rw [List.length_take] at hq; omega
  rw [List.getElem_take] at e2
  have h1 := List.getElem?_eq_some_iff.mp hx
  have := (List.getElem_inj (h₀ := by rw [List.length_take] at hq; omega) (h₁ := h1.1) hn).mp (e2.trans h1.2.symm)
  omega
theorem take_mono {ws : List Str} {i j : Nat} (h : i ≤ j) {x : Str} (hx : x ∈ ws.take i) : x ∈ ws.take j := by
  have : ws.take i = (ws.take j).take i := by rw [List.take_take, Nat.min_eq_left h]
  rw [this] at hx
  exact List.mem_of_mem_take hx
theorem mem_take {ws : List Str} {i j : Nat} {x : Str} (h : ws[i]? = some x) (hj : i < j) : x ∈ ws.take j := by
  obtain ⟨h1, h2⟩ := List.getElem?_eq_some_iff.mp h
  exact List.mem_iff_getElem.mpr ⟨i, by rw [List.length_take]; omega, by rw [List.getElem_take]; exact h2⟩
theorem PInv.self {ws : List Str} {i : Nat} {ps : Ps} (h : PInv ws i ps) (hn : ws.Nodup) {a : Str} (ha : ws[2 * i]? = some a) : PInv ws (i + 1) (ps ++ [(a, a)]) := by
  have hna := h.new hn (Nat.le_refl _) ha
  refine ⟨fun p hp => ?_, ?_, fun p hp => ?_, ?_, ?_⟩
  · rcases List.mem_append.mp hp with hp | hp
    · exact take_mono (by omega) (h.keys p hp)
    · rw [List.mem_singleton] at hp; subst hp; exact mem_take ha (by omega)
  · rw [List.map_append]
    exact List.nodup_append.mpr ⟨h.nod, by simp, fun x hx y hy => by rw [List.map_cons, List.map_nil, List.mem_singleton] at hy; subst hy; exact fun z => hna (z ▸ hx)⟩
  · rcases List.mem_append.mp hp with hp | hp
    · rw [lk_app, h.inv p hp]; rfl
    · rw [List.mem_singleton] at hp; subst hp
      rw [lk_app, lk_none' hna, lk_one]; rfl
  · rw [List.length_append]; have := h.len; simp only [List.length_cons, List.length_nil]; omega
  · rw [joints_app, List.length_append, h.jl]
    have : joints [(a, a)] = [a] := by unfold joints; rw [List.filter_cons_of_pos (by show strLe a a = true; exact strLe_refl a)]; rfl
    rw [this]; rfl
theorem PInv.two {ws : List Str} {i : Nat} {ps : Ps} (h : PInv ws i ps) (hn : ws.Nodup) {a b : Str} (ha : ws[2 * i]? = some a) (hb : ws[2 * i + 1]? = some b) : PInv ws (i + 1) (ps ++ [(a, b), (b, a)]) ∧ a ≠ b := by
  have hna := h.new hn (Nat.le_refl _) ha
  have hnb := h.new hn (show 2 * i ≤ 2 * i + 1 by omega) hb
  have hab : a ≠ b := fun z => by
    subst z
    obtain ⟨h1, h2⟩ := List.getElem?_eq_some_iff.mp ha
    obtain ⟨h3, h4⟩ := List.getElem?_eq_some_iff.mp hb
    have := (List.getElem_inj hn).mp (h2.trans h4.symm)
    omega
  refine ⟨⟨fun p hp => ?_, ?_, fun p hp => ?_, ?_, ?_⟩, hab⟩
  · rcases List.mem_append.mp hp with hp | hp
    · exact take_mono (by omega) (h.keys p hp)
    · simp only [List.mem_cons, List.not_mem_nil, or_false] at hp
      rcases hp with rfl | rfl
      · exact mem_take ha (by omega)
      · exact mem_take hb (by omega)
  · rw [List.map_append]
    refine List.nodup_append.mpr ⟨h.nod, by simp [hab], fun x hx y hy => ?_⟩
    simp only [List.map_cons, List.map_nil, List.mem_cons, List.not_mem_nil, or_false] at hy
    rcases hy with rfl | rfl
    · exact fun z => hna (z ▸ hx)
    · exact fun z => hnb (z ▸ hx)
  · rcases List.mem_append.mp hp with hp | hp
    · rw [lk_app, h.inv p hp]; rfl
    · simp only [List.mem_cons, List.not_mem_nil, or_false] at hp
      rcases hp with rfl | rfl
      · rw [lk_app, lk_none' hnb]
        show lk [(a, b), (b, a)] b = some a
        unfold lk; simp [hab]
      · rw [lk_app, lk_none' hna]
        show lk [(a, b), (b, a)] a = some b
        unfold lk; simp
  · rw [List.length_append]; have := h.len; simp only [List.length_cons, List.length_nil]; omega
  · rw [joints_app, List.length_append, h.jl]
    have : (joints [(a, b), (b, a)]).length = 1 := by
      unfold joints
      rw [List.length_map]
      cases h1 : strLe a b with
      | true =>
        have h2 : strLe b a = false := by
          cases h3 : strLe b a with
          | false => rfl
          | true => exact absurd (strLe_antisymm h1 h3) hab
        rw [List.filter_cons_of_pos (by exact h1), List.filter_cons_of_neg (by show ¬ strLe b a = true; rw [h2]; decide)]; rfl
      | false =>
        have h2 : strLe b a = true := by
          have := strLe_total a b
          rw [h1] at this
          exact this
        rw [List.filter_cons_of_neg (by show ¬ strLe a b = true; rw [h1]; decide), List.filter_cons_of_pos (by exact h2)]; rfl
    rw [this]
def psD (ps : Ps) : List (Key × Da) := ps.map fun p => ((Sum.inr p.1 : Key), dS p.2)
theorem psD_keys {ps : Ps} {x : Str} (h : x ∉ ps.map (·.1)) : (Sum.inr x : Key) ∉ (psD ps).map (·.1) := by
  unfold psD
  rw [List.map_map]
  intro hm
  obtain ⟨p, hp, e⟩ := List.mem_map.mp hm
  exact h (List.mem_map.mpr ⟨p, hp, Sum.inr.inj e⟩)
theorem psD_put {ps : Ps} {x y : Str} (h : x ∉ ps.map (·.1)) : putD (psD ps) (.inr x) (dS y) = psD (ps ++ [(x, y)]) := by
  rw [putD_new (psD_keys h)]
  unfold psD; rw [List.map_append]; rfl
def rPartners : List Da → (Da → Prop) → Prop := fun ds D => ∃ (ns : List Int) (n : Nat), (n = 1 ∨ n = 2) ∧ ds = [.drw (dLis ns), dI (n : Nat)] ∧ D = fun d => ∃ ps, d = dP ps ∧ PsOk ps
section
variable {P : Program} {w : World} {K : PySem.W.Frag} {mg : Str → Option Value} {base : Heap}
theorem c_law_partners (M : Md K mg) : C8.Cal P w K mg base 7 "_law_partners" (spN rPartners) [] := by
  refine cal_N M d_law_partners ["_law_draw_here", "_law_many", "_law_words", "_law_found", "_law_at", "_law_one", "_law_two"] ["_law_draw_here", "_law_many"] (by simp [fn]) rfl (by decide +kernel) rfl rfl (fun _ _ _ _ _ _ us hl => match us, hl with | [_, _], _ => rfl) (by decide +kernel) (fun ds d ⟨_, _, _, h, _⟩ => by subst h; rfl) ?_
  rintro ds D F0 ⟨ns, n, hn, rfl, rfl⟩
  refine tr_cons (t1_parND 2 3 (D := fun d => ∃ ws, d = .lst (ws.map dS) ∧ VOk ws (2 * n)) (en_call (c_law_vocab M) (ea_cons (ex_var 0) (ea_cons (EX.cast (d' := dI ((2 * n : Nat) : Int)) (ex_mul ex_int (ex_var 1) (.inl (by decide))) (by rw [Int.natCast_mul]; rfl)) ea_nil)).ean (fun ds hds => ⟨ns, 2 * n, by omega, hds, rfl⟩)) (hw := fun env he => by cases env; cases he; rfl)) (tr_ex fun d => tr_and fun hd => tr_ex fun l => ?_)
  obtain ⟨ws, rfl, ok⟩ := hd
  refine tr_pre (Q := Pv [some (.drw (dLis ns)), some (dI (n : Nat)), some (.lst (ws.map dS)), some (.v (.ref l)), none, none, none] fun S F => ∃ ps, PInv ws 0 ps ∧ AccD l (fun _ F => F = F0) (psD ps) S F) ?_ (fun S F σ h => ⟨h.1, h.2.map fun S F q => ⟨[], ⟨by simp, by simp, by simp, by simp, rfl⟩, q⟩⟩)
  refine tr_cons (t1_for (List.range n) (envA := fun k => [some (.drw (dLis ns)), some (dI (n : Nat)), some (.lst (ws.map dS)), some (.v (.ref l)), some (dI (k : Nat)), none, none]) (fun i S F => ∃ ps, PInv ws i ps ∧ AccD l (fun _ F => F = F0) (psD ps) S F) (it_rng (n := n) (ex_var 1) (M.free "range") (by omega)) (fun _ _ => tg_name 4) fun i k hk => tr_exC fun ps => tr_fact fun pi => ?_) (tr_exC fun ps => tr_fact fun pi => ?_)
  · obtain ⟨h1, h2⟩ := List.getElem?_eq_some_iff.mp hk
    rw [List.length_range] at h1
    rw [List.getElem_range] at h2
    subst h2
    have hlen := ok.len
    obtain ⟨a, ha⟩ : ∃ a, ws[2 * i]? = some a := ⟨_, List.getElem?_eq_getElem (by omega)⟩
    obtain ⟨b, hb⟩ : ∃ b, ws[2 * i + 1]? = some b := ⟨_, List.getElem?_eq_getElem (by omega)⟩
    have hna := pi.new ok.nod (Nat.le_refl _) ha
    have hpl := pi.len
    refine tr_cons (t1_par 5 6 (d := dS a) (e := dS b) (ex_ixL (i := ((2 * i : Nat) : Int)) (ex_var 2) (EX.cast (ex_mul ex_int (ex_var 4) (.inl (by decide))) (by rw [Int.natCast_mul]; rfl)) (atI_nat (by rw [List.getElem?_map, ha]; rfl))) (ex_ixL (i := ((2 * i + 1 : Nat) : Int)) (ex_var 2) (EX.cast (ex_add (ex_mul ex_int (ex_var 4) (.inl (by decide))) ex_int) (by rw [Int.natCast_add, Int.natCast_mul]; rfl)) (atI_nat (by rw [List.getElem?_map, hb]; rfl))) (hw := fun env he => by cases env; cases he; rfl)) ?_
    refine tr_one (t1_ifN (B := fun _ => True) (etn_eqI (D := isInt 0 3) (en_call (c_law_next M) (ea_cons (ex_var 0) (ea_cons ex_int ea_nil)).ean (fun ds hds => ⟨ns, 4, by decide, hds, rfl⟩)) (fun d hd => hd.imp fun _ q => q.1) ex_int) (fun _ => ?_) (fun _ => ?_))
    · refine tr_cons (t1_put 3 (ex_var 5) (ex_var 5) (hl := by unfold psD; rw [List.length_map]; omega)) (tr_nil fun S F σ h => ?_)
      rw [psD_put hna] at h
      exact ⟨(h.forget [4, 5, 6]).1, h.2.map fun S F q => ⟨_, pi.self ok.nod ha, q⟩⟩
    · obtain ⟨p2, hab⟩ := pi.two ok.nod ha hb
      refine tr_cons (t1_put 3 (ex_var 6) (ex_var 5) (hl := by unfold psD; rw [List.length_map]; omega)) ?_
      rw [psD_put hna]
      refine tr_cons (t1_put 3 (ex_var 5) (ex_var 6) (hl := by unfold psD; rw [List.length_map, List.length_append]; simp only [List.length_cons, List.length_nil]; omega)) (tr_nil fun S F σ h => ?_)
      rw [psD_put (by
        rw [List.map_append]
        intro hm
        rcases List.mem_append.mp hm with hm | hm
        · exact pi.new ok.nod (show 2 * i ≤ 2 * i + 1 by omega) hb hm
        · rw [List.map_cons, List.map_nil, List.mem_singleton] at hm; exact hab hm.symm), List.append_assoc] at h
      exact ⟨(h.forget [4, 5, 6]).1, h.2.map fun S F q => ⟨_, p2, q⟩⟩
  · rw [List.length_range] at pi
    refine tr_tellD 3 rfl (tr_one (t1_retN ((ex_var 3).enD ⟨ps, rfl, ?_⟩)))
    refine ⟨pi.nod, pi.inv, fun p hp => ok.word _ (List.mem_of_mem_take (pi.keys p hp)), fun z => ?_, ?_, ?_⟩
    · subst z; have := pi.jl; rcases hn with rfl | rfl <;> cases this
    · have := pi.len; omega
    · rw [pi.jl]; exact hn
structure BInv (ps : Ps) (ws : List Str) (i : Nat) (bs : Bs) : Prop where
  keys : bs.map (·.1) = ws.take i
  lenB : ∀ b ∈ bs, 1 ≤ b.2.length ∧ b.2.length ≤ 3
  kinds : ∀ b ∈ bs, ∀ e ∈ b.2, (lk ps e).isSome = true
def bsD (bs : Bs) : List (Key × Da) := bs.map fun p => ((Sum.inr p.1 : Key), gT p.2)
def rBlocks : List Da → (Da → Prop) → Prop := fun ds D => ∃ (ns : List Int) (ps : Ps) (n : Nat), PsOk ps ∧ 1 ≤ n ∧ n ≤ 3 ∧ ds = [.drw (dLis ns), dP ps, dI (n : Nat), dI 3] ∧ D = fun d => ∃ bs, d = dB' bs ∧ Good ps bs
theorem c_law_blocks (M : Md K mg) : C8.Cal P w K mg base 7 "_law_blocks" (spN rBlocks) [] := by
  refine cal_N M d_law_blocks ["_law_draw_here", "_law_partners_here", "_law_many", "_law_top", "_law_found", "_law_kinds", "_law_name", "_law_ends_here", "_law_turn"] ["_law_draw_here", "_law_partners_here", "_law_many", "_law_top"] (by simp [fn]) rfl (by decide +kernel) rfl rfl (fun _ _ _ _ _ _ us hl => match us, hl with | [_, _, _, _], _ => rfl) (by decide +kernel) (fun ds d ⟨_, _, _, _, _, _, h, _⟩ => by subst h; rfl) ?_
  rintro ds D F0 ⟨ns, ps, n, ok, hn1, hn3, rfl, rfl⟩
  refine tr_cons (t1_parDc 4 5 (d := .lst (ps.map fun p => dS p.1)) (EX.cast (ex_callTy cd_listD (ea_cons (ex_var 1) ea_nil) (M.free "list") (by decide +kernel)) (by rw [List.map_map]; rfl))) (tr_ex fun l => ?_)
  refine tr_cons (t1_forN (vs := [6]) (Nx := fun S F σ => ∃ bs, Good ps bs ∧ Pv [some (.drw (dLis ns)), some (dP ps), some (dI (n : Nat)), some (dI 3), some (.v (.ref l)), some (.lst (ps.map fun p => dS p.1)), none, none, none] (AccD l (fun _ F => F = F0) (bsD bs)) S F σ) (L := fun ds => ∃ ws, ds = ws.map dS ∧ VOk ws n) (EN.imp (en_call (c_law_vocab M) (ea_cons (ex_var 0) (ea_cons (ex_var 2) ea_nil)).ean (fun ds hds => ⟨ns, n, by omega, hds, rfl⟩)) (fun d ⟨ws, e, hw⟩ => ⟨_, e, ws, rfl, hw⟩)) fun ds hL => ?_) (tr_ex fun bs => tr_and fun g => ?_)
  · obtain ⟨ws, rfl, vo⟩ := hL
    refine ⟨fun _ => [some (.drw (dLis ns)), some (dP ps), some (dI (n : Nat)), some (dI 3), some (.v (.ref l)), some (.lst (ps.map fun p => dS p.1)), none, none, none], fun i => [some (.drw (dLis ns)), some (dP ps), some (dI (n : Nat)), some (dI 3), some (.v (.ref l)), some (.lst (ps.map fun p => dS p.1)), some (dS (ws.getD i "")), none, none], fun i S F => ∃ bs, BInv ps ws i bs ∧ AccD l (fun _ F => F = F0) (bsD bs) S F, rfl, fun S F q => ⟨[], ⟨rfl, by simp, by simp⟩, q⟩, fun i d hd => ?_, fun i d hd => tr_exC fun bs => tr_fact fun bi => ?_, fun S F σ h => ?_⟩
    · rw [List.getElem?_map] at hd
      cases hw : ws[i]? with
      | none => rw [hw] at hd; cases hd
      | some x =>
        rw [hw] at hd; cases hd
        have : ws.getD i "" = x := by rw [List.getD_eq_getElem?_getD, hw]; rfl
        dsimp only
        rw [this]
        exact tg_name 6
    · rw [List.getElem?_map] at hd
      cases hw : ws[i]? with
      | none => rw [hw] at hd; cases hd
      | some x =>
        have hx : ws.getD i "" = x := by rw [List.getD_eq_getElem?_getD, hw]; rfl
        dsimp only
        rw [hx]
        have hi : i < ws.length := (List.getElem?_eq_some_iff.mp hw).1
        have hbl : bs.length = i := by have := congrArg List.length bi.keys; rw [List.length_map, List.length_take] at this; omega
        have hvl := vo.len
        refine tr_cons (t1_setN 7 (D := isInt 1 3) (EN.imp (en_add1 (lo := 0) (hi := 2) ex_int (en_call (c_law_next M) (ea_cons (ex_var 0) (ea_cons (ex_var 3) ea_nil)).ean (fun ds hds => ⟨ns, 3, by decide, hds, rfl⟩))) (fun d h => (h : isInt 1 3 d)))) (tr_ex fun d => tr_and fun hd => ?_)
        obtain ⟨m, rfl, m1, m3⟩ := hd
        have em : ((m.toNat : Nat) : Int) = m := Int.toNat_of_nonneg (by omega)
        refine tr_cons (t1_putN 4 (D := fun d => ∃ es : List Str, d = gT es ∧ es.length = m.toNat ∧ ∀ e ∈ es, (lk ps e).isSome = true) (en_callTy (T := "tuple") (ean_cons (en_lc (List.range m.toNat) (E := fun d => ∃ x : Str, d = dS x ∧ (lk ps x).isSome = true) (own := [("_law_turn", 8)]) (it_rng (n := m.toNat) (EX.cast (ex_var 7) (by rw [em])) (M.free "range") (by omega)) (by rw [List.length_range]; omega) (fun _ _ => tg_name 8) (fun _ _ => en_call (c_law_pick M) (ea_cons (ex_var 0) (ea_cons (ex_var 5) ea_nil)).ean (fun ds hds => ⟨ns, _, ?_, ?_, ?_, hds⟩))) ean_nil) (fun ds h => ?_) (M.free "tuple") (by decide +kernel)) (ex_var 6) (hl := by unfold bsD; rw [List.length_map]; omega)) (tr_ex fun d => tr_and fun hd => tr_nil fun S F σ h => ?_)
        · exact fun z => ok.neP (List.map_eq_nil_iff.mp z)
        · rw [List.length_map]; have := ok.fewP; omega
        · intro x hx
          obtain ⟨p, hp, e⟩ := List.mem_map.mp hx
          exact ⟨p.1, e.symm, lk_has.mpr (List.mem_map_of_mem hp)⟩
        · obtain ⟨d, r, rfl, ⟨xs, rfl, hl, hE⟩, rfl⟩ := h
          obtain ⟨ys, rfl, hy⟩ := all_strs hE
          rw [List.length_map, List.length_range] at hl
          exact ⟨_, ⟨ys, rfl, hl, hy⟩, cd_tuple⟩
        · obtain ⟨es, rfl, hel, hek⟩ := hd
          have hnx : x ∉ bs.map (·.1) := by
            rw [bi.keys]
            intro hm
            obtain ⟨q, hq, e2⟩ := List.mem_iff_getElem.mp hm
            have hq2 : q < i := by rw [List.length_take] at hq; omega
            rw [List.getElem_take] at e2
            have h1 := List.getElem?_eq_some_iff.mp hw
            have := (List.getElem_inj (h₀ := by rw [List.length_take] at hq; omega) (h₁ := h1.1) vo.nod).mp (e2.trans h1.2.symm)
            omega
          have hput : putD (bsD bs) (.inr x) (gT es) = bsD (bs ++ [(x, es)]) := by
            rw [putD_new]
            · unfold bsD; rw [List.map_append]; rfl
            · unfold bsD
              rw [List.map_map]
              intro hm
              obtain ⟨p, hp, e⟩ := List.mem_map.mp hm
              exact hnx (List.mem_map.mpr ⟨p, hp, Sum.inr.inj e⟩)
          rw [hput] at h
          refine ⟨(h.forget [6, 7]).1, h.2.map fun S F q => ⟨_, ⟨?_, fun b hb => ?_, fun b hb => ?_⟩, q⟩⟩
          · rw [List.map_append, bi.keys, take_snoc hw]; rfl
          · rcases List.mem_append.mp hb with hb | hb
            · exact bi.lenB b hb
            · rw [List.mem_singleton] at hb; subst hb; simp only; omega
          · rcases List.mem_append.mp hb with hb | hb
            · exact bi.kinds b hb
            · rw [List.mem_singleton] at hb; subst hb; exact hek
    · obtain ⟨h1, S0, g0, bs, bi, q⟩ := h
      have hk := bi.keys
      rw [List.length_map, List.take_length] at hk
      have hvl := vo.len
      refine ⟨bs, ⟨ok.nodP, ok.inv, ok.wordP, ok.neP, ok.fewP, hk ▸ vo.nod, fun b hb => vo.word _ (hk ▸ List.mem_map_of_mem hb), bi.lenB, bi.kinds, ?_, fun z => ?_⟩, h1, S0, g0, q⟩
      · have := congrArg List.length hk; rw [List.length_map] at this; omega
      · subst z; have := congrArg List.length hk; rw [List.map_nil] at this; simp only [List.length_nil] at this; omega
  · exact tr_tellD 4 rfl (tr_one (t1_retN ((ex_var 4).enD ⟨bs, rfl, g⟩)))
def rSheetN : List Da → (Da → Prop) → Prop := fun ds D => ∃ (ns : List Int) (j n : Nat), (j = 1 ∨ j = 2) ∧ 1 ≤ n ∧ n ≤ 3 ∧ ds = [.drw (dLis ns), dI (j : Nat), dI (n : Nat), dI 3] ∧ D = fun d => ∃ ps bs, d = dTold ps bs ∧ Good ps bs ∧ ((joints ps).length = 1 ∨ (joints ps).length = 2)
theorem c_law_sheet (M : Md K mg) : C8.Cal P w K mg base 8 "_law_sheet" (spN rSheetN) [] := by
  refine cal_N M d_law_sheet ["_law_draw_here", "_law_joints_here", "_law_many", "_law_top", "_law_partners_here"] ["_law_draw_here", "_law_joints_here", "_law_many", "_law_top"] (by simp [fn]) rfl (by decide +kernel) rfl rfl (fun _ _ _ _ _ _ us hl => match us, hl with | [_, _, _, _], _ => rfl) (by decide +kernel) (fun ds d ⟨_, _, _, _, _, _, h, _⟩ => by subst h; rfl) ?_
  rintro ds D F0 ⟨ns, j, n, hj, hn1, hn3, rfl, rfl⟩
  refine tr_cons (t1_setN 4 (en_call (c_law_partners M) (ea_cons (ex_var 0) (ea_cons (ex_var 1) ea_nil)).ean (fun ds hds => ⟨ns, j, hj, hds, rfl⟩))) (tr_ex fun d => tr_and fun hd => ?_)
  obtain ⟨ps, rfl, ok⟩ := hd
  refine tr_one (t1_retN (en_lst (ean_cons (ex_var 4).en (ean_cons (en_call (c_law_blocks M) (ea_cons (ex_var 0) (ea_cons (ex_var 4) (ea_cons (ex_var 2) (ea_cons (ex_var 3) ea_nil)))).ean (fun ds hds => ⟨ns, ps, n, ok, hn1, hn3, hds, rfl⟩)) ean_nil)) (fun ds h => ?_) (fun ds h => ?_)))
  · obtain ⟨d, r, rfl, rfl, d2, r2, rfl, _, rfl⟩ := h
    show 2 ≤ 10000000; decide
  · obtain ⟨d, r, rfl, rfl, d2, r2, rfl, ⟨bs, rfl, g⟩, rfl⟩ := h
    exact ⟨ps, bs, rfl, g, ok.j12⟩
end
end Em
set_option maxHeartbeats 1000000
/-! The walk (23): amounts drawn. -/
namespace Em
open PySem PySem.Spec PyProof.Rows L2 RZ
theorem RpL.rev {S : Hp} {vs : List V} {xs : List Da} (h : RpL S vs xs) : RpL S vs.reverse xs.reverse := by
  refine ⟨by rw [List.length_reverse, List.length_reverse, h.1], fun i v x a b => ?_⟩
  have hi : i < vs.length := by have := (List.getElem?_eq_some_iff.mp a).1; rwa [List.length_reverse] at this
  rw [List.getElem?_reverse hi] at a
  rw [List.getElem?_reverse (by rw [← h.1]; exact hi), ← h.1] at b
  exact h.2 _ v x a b
section
variable {f : Fr} {env : En} {pos : Pos} {C : Cd} {Rt : Rr}
/-- xs[::-1] -/
theorem ex_rev {e : Expr} {xs : List Da} {k : Nat} {p1 p2 p3 : Pos} (h : EX f env e (.lst xs)) : EX f env (.Subscript e (.Slice none none (some (.UnaryOp .USub (.Constant (.int 1) k p1) p2)) p3) pos) (.lst xs.reverse) := fun S F σ H hp hσ hs Q q =>
  wE_of (te := tRevL f.K (wE f e)) (fun X hX => by rw [← hX.K]; exact pe_revL (pw_e hX)) (h S F σ H hp hσ hs _ fun v S1 H1 g1 s1 k1 r1 => by
    obtain ⟨a, vs, rfl, h1, h2⟩ := r1.lst_inv
    exact ⟨a, vs, rfl, s1.sql h1, fun p hp' => (q.step g1 k1).fresh s1 hp' (.lstL upd_same ((RpL.rev h2).mono (Gr.new (s1.freeS hp'))))⟩)
/-- x = a call whose answer is a dict of one's own -/
theorem t1_setO (i : Nat) {y x : Str} {p py : Pos} {e : Expr} {es : List Expr} {R : List Da → List (Key × Da) → Prop} {k : Nat} {ds : List Da} {kvs : List (Key × Da)} (c : C8.Cal f.P f.w f.K f.mg f.base k x (spO R) []) (ha : EA f env (e :: es) ds) (hR : R ds kvs) (hk : k ≤ f.k := by exact Nat.le_of_ble_eq_true rfl) (hg : GlS f x := by rfl) (hc : Sees f C := by exact Sees.nil rfl)
    (hi : f.N[i]? = some y := by rfl) (hy : LocS f y := by first | exact .inl rfl | exact .inr ⟨rfl, rfl⟩) {cp : Pos}
    (hdb : (x == ("__debug__" : Str)) = false := by decide) (he : ∀ env, starEach (e :: es) env = (false, eval e env) :: starEach es env := by intro _; rfl) (hpl : ∀ env, (backTo cp (starEach es env)).any (·.1) = false := by intro _; rfl)
    (hsw : ∀ l env, swapsWith (.Call (.Name x p) (e :: es) [] cp) (some (.Name y py)) l env = pure false := by intro _ _; rfl) :
    T1 f (Pv env C) (.Assign [.Name y py] (.Call (.Name x p) (e :: es) [] cp) pos) (fun S F σ => ∃ a, Pv (env.set i (some (.v (.ref a)))) (AccD a C kvs) S F σ) Rt := fun S F σ H D hp hs _ dn =>
  wS_of (fun X hX => ps_set (i := i) (by rw [hX.N]; exact hX.nd) (by rw [hX.N]; exact hi) (hy.loc hX) (C8.pe_c (k := k) (sp := spO R) (dvs := []) (by rw [hX.prog, hX.w, hX.K, hX.mg, hX.base]; exact c) hX.room hk (hg.gl hX) (pw_a hX) hdb (he _) (hpl _)) (hsw _ _) (hy.fn hX))
    (ha S F σ H (hc.up hp.2) hp.1 hs _ fun vs S1 H1 g1 s1 k1 r1 => ⟨S1, F, ds, kvs, s1, by rw [List.append_nil]; exact r1, hR, fun a us S' H' g n s k r => dn.nx S' _ _ H' (g1.trans g) s (k1.trans k) ⟨a, (hp.1.mono (g1.trans g)).set i (.v _), S', Gr.refl _, F, us, hp.2.mono (g1.trans g), n, rfl, r⟩⟩)
theorem od_neNil {xs : List Da} : OD f (compareOp .NotEq) (.lst xs) (.lst []) (dB (!decide (xs = []))) := by
  cases xs with
  | nil => exact od_neL (n := 0) (e := fun _ => true) rfl (fun i x y h => by cases h)
  | cons x r => exact od_neLen (by simp)
end
def amD (am : Am) : List (Key × Da) := am.map fun p => ((Sum.inr p.1 : Key), dI p.2)
def oA (am : Am) : HO := .dK (am.map fun p => ((Sum.inr p.1 : Key), V.int p.2))
theorem rpk_ints {S : Hp} : ∀ {am : Am} {us : List (Key × V)}, RpK S us (amD am) → us = am.map fun p => ((Sum.inr p.1 : Key), V.int p.2)
  | [], us, h => by
    have := h.length
    unfold amD at this
    exact List.eq_nil_of_length_eq_zero this
  | p :: r, us, h => by
    cases us with
    | nil => have := h.length; cases this
    | cons u us =>
      obtain ⟨a, v⟩ := u
      obtain ⟨h1, h2, h3⟩ := RpK.uncons (a := a) (v := v) (b := .inr p.1) (x := dI p.2) (vs := us) (xs := amD r) h
      rw [h1, h2.v_inv, rpk_ints h3]; rfl
theorem rpk_of {S : Hp} : ∀ (am : Am), RpK S (am.map fun p => ((Sum.inr p.1 : Key), V.int p.2)) (amD am)
  | [] => .nil
  | p :: r => .cons (.v _) (rpk_of r)
theorem oA_rp {l : Addr} {am : Am} (S : Hp) (h : S l = some (oA am)) : Rp S (.ref l) (dA am) := .dctK h (rpk_of am)
theorem ownA_acc {l : Addr} {am : Am} {F0 S F : Hp} (h : Own l (oA am) F0 S F) : AccD l (fun _ F => F = F0) (amD am) S F := ⟨F0, _, ⟨S, Gr.refl _, rfl⟩, h.1, h.2, rpk_of am⟩
theorem acc_ownA {l : Addr} {am : Am} {F0 S F : Hp} (h : AccD l (fun _ F => F = F0) (amD am) S F) : Own l (oA am) F0 S F := by
  obtain ⟨F1, vs, ⟨S1, _, rfl⟩, n, e, r⟩ := h
  have := rpk_ints r
  subst this
  exact ⟨n, e⟩
structure AInv (bs : Bs) (top : Int) (am : Am) : Prop where
  keys : am.map (·.1) = (sortS (bs.map (·.1))).reverse
  nn : ∀ a ∈ am, 0 ≤ a.2
  tot : total am ≤ 3 * top
theorem sum_nn : ∀ {am : Am}, (∀ a ∈ am, 0 ≤ a.2) → 0 ≤ total am ∧ ∀ a ∈ am, a.2 ≤ total am
  | [], _ => ⟨Int.le_refl _, by simp⟩
  | p :: r, h => by
    obtain ⟨h1, h2⟩ := sum_nn (am := r) fun a ha => h a (List.mem_cons_of_mem _ ha)
    have h0 := h p List.mem_cons_self
    have e : total (p :: r) = p.2 + total r := by unfold total; rw [List.map_cons, List.sum_cons]
    refine ⟨by omega, fun a ha => ?_⟩
    rcases List.mem_cons.mp ha with ha | ha
    · subst ha; omega
    · have := h2 a ha; omega
theorem AInv.amB {ps : Ps} {bs : Bs} {top : Int} {am : Am} (g : Good ps bs) (h : AInv bs top am) (ht : top ≤ 7) : AmB bs am := by
  have hs := sum_nn h.nn
  refine ⟨?_, fun a ha => ?_, fun a ha => ⟨h.nn a ha, ?_⟩⟩
  · rw [h.keys]; exact (List.reverse_perm _).nodup_iff.mpr ((sortS_perm _).nodup_iff.mpr g.nodB)
  · have : a.1 ∈ am.map (·.1) := List.mem_map_of_mem ha
    rw [h.keys, List.mem_reverse] at this
    exact lk_has.mpr ((sortS_perm _).mem_iff.mp this)
  · have := hs.2 a ha; have := h.tot; omega
theorem AInv.len {bs : Bs} {top : Int} {am : Am} (h : AInv bs top am) : am.length = bs.length := by
  have := congrArg List.length h.keys
  rwa [List.length_map, List.length_reverse, (sortS_perm _).length_eq, List.length_map] at this
def bump (am : Am) (n : Str) : Am := am.map fun p => if p.1 = n then (p.1, p.2 + 1) else p
theorem bump_keys (am : Am) (n : Str) : (bump am n).map (·.1) = am.map (·.1) := by
  unfold bump; rw [List.map_map]
  refine List.map_congr_left fun p _ => ?_
  show (if p.1 = n then (p.1, p.2 + 1) else p).1 = p.1
  split <;> rfl
theorem bump_off {n : Str} : ∀ {am : Am}, n ∉ am.map (·.1) → bump am n = am
  | [], _ => rfl
  | p :: r, h => by
    rw [List.map_cons, List.mem_cons, not_or] at h
    unfold bump
    rw [List.map_cons, if_neg (fun z => h.1 z.symm)]
    have := bump_off h.2
    unfold bump at this
    rw [this]
theorem bump_total {n : Str} : ∀ {am : Am}, (am.map (·.1)).Nodup → n ∈ am.map (·.1) → total (bump am n) = total am + 1
  | [], _, h => by cases h
  | p :: r, hn, h => by
    rw [List.map_cons, List.nodup_cons] at hn
    have e : total (p :: r) = p.2 + total r := by unfold total; rw [List.map_cons, List.sum_cons]
    by_cases hp : p.1 = n
    · have : bump (p :: r) n = (p.1, p.2 + 1) :: r := by
        have h2 := bump_off (n := n) (am := r) (hp ▸ hn.1)
        unfold bump at h2 ⊢
        rw [List.map_cons, if_pos hp, h2]
      rw [this, e]
      show ((p.2 + 1) :: r.map (·.2)).sum = _
      rw [List.sum_cons]; unfold total; omega
    · have h2 : n ∈ r.map (·.1) := by
        rw [List.map_cons, List.mem_cons] at h
        exact h.resolve_left fun z => hp z.symm
      have ih := bump_total hn.2 h2
      have : bump (p :: r) n = p :: bump r n := by unfold bump; rw [List.map_cons, if_neg hp]
      rw [this, e]
      show (p.2 :: (bump r n).map (·.2)).sum = _
      rw [List.sum_cons]
      unfold total at ih ⊢; omega
theorem bump_put {am : Am} {n : Str} (hn : (am.map (·.1)).Nodup) (h : n ∈ am.map (·.1)) : putD (amD am) (.inr n) (dI (amt am n + 1)) = amD (bump am n) := by
  unfold putD
  have h1 : (amD am).any (fun kv => decide (kv.1 = .inr n)) = true := by
    obtain ⟨p, hp, e⟩ := List.mem_map.mp h
    exact List.any_eq_true.mpr ⟨_, List.mem_map_of_mem hp, by simp [e]⟩
  rw [if_pos h1]
  unfold amD bump
  rw [List.map_map, List.map_map]
  refine List.map_congr_left fun p hp => ?_
  by_cases hpn : p.1 = n
  · have : amt am n = p.2 := by rw [← hpn]; exact amt_mem hn hp
    simp [hpn, this]
  · simp [hpn]
theorem AInv.bump {bs : Bs} {top : Int} {am : Am} {n : Str} (h : AInv bs top am) (hn : (am.map (·.1)).Nodup) (hm : n ∈ am.map (·.1)) (ht : total am < 3 * top) : AInv bs top (bump am n) where
  keys := by rw [bump_keys]; exact h.keys
  nn := fun a ha => by
    unfold Em.bump at ha
    obtain ⟨p, hp, e⟩ := List.mem_map.mp ha
    have := h.nn p hp
    subst e
    split
    · show 0 ≤ p.2 + 1; omega
    · exact this
  tot := by rw [bump_total hn hm]; omega
end Em
set_option maxHeartbeats 2000000
/-! The walk (24): amounts drawn, the def. -/
namespace Em
open PySem PySem.Spec PyProof.Rows L2 RZ
def rAmounts : List Da → (Da → Prop) → Prop := fun ds D => ∃ (ns : List Int) (ps : Ps) (bs : Bs) (top : Int), Good ps bs ∧ 0 ≤ top ∧ top ≤ 7 ∧ ds = [.drw (dLis ns), dTold ps bs, dI top] ∧ D = fun d => ∃ am, d = dA am ∧ AInv bs top am
theorem tot_le {top : Int} : ∀ {am : Am}, (∀ a ∈ am, a.2 ≤ top) → total am ≤ am.length * top
  | [], _ => by simp [total]
  | p :: r, h => by
    have ih := tot_le (am := r) fun a ha => h a (List.mem_cons_of_mem _ ha)
    have h0 := h p List.mem_cons_self
    have e : total (p :: r) = p.2 + total r := by unfold total; rw [List.map_cons, List.sum_cons]
    rw [e, List.length_cons, Int.natCast_add, Int.add_mul]
    show _ ≤ _ + 1 * top
    omega
theorem not_take {ws : List Str} {i : Nat} {x : Str} (hn : ws.Nodup) (hw : ws[i]? = some x) : x ∉ ws.take i := fun hm => by
  obtain ⟨q, hq, e2⟩ := List.mem_iff_getElem.mp hm
  have hq2 : q < i := by rw [List.length_take] at hq; omega
  rw [List.getElem_take] at e2
  have h1 := List.getElem?_eq_some_iff.mp hw
  have := (List.getElem_inj (h₀ := by rw [List.length_take] at hq; omega) (h₁ := h1.1) hn).mp (e2.trans h1.2.symm)
  omega
theorem amD_keys {am : Am} {x : Str} (h : x ∉ am.map (·.1)) : (Sum.inr x : Key) ∉ (amD am).map (·.1) := by
  unfold amD
  rw [List.map_map]
  intro hm
  obtain ⟨p, hp, e⟩ := List.mem_map.mp hm
  exact h (List.mem_map.mpr ⟨p, hp, Sum.inr.inj e⟩)
section
variable {P : Program} {w : World} {K : PySem.W.Frag} {mg : Str → Option Value} {base : Heap}
theorem c_law_amounts (M : Md K mg) : C8.Cal P w K mg base 5 "_law_amounts" (spN rAmounts) [] := by
  refine cal_N M d_law_amounts ["_law_draw_here", "_law_sheet_here", "_law_top", "_law_found", "_law_name", "_law_turn", "_law_over", "_law_joint", "_law_want", "_law_good"] ["_law_draw_here", "_law_sheet_here", "_law_top"] (by simp [fn]) rfl (by decide +kernel) rfl rfl (fun _ _ _ _ _ _ us hl => match us, hl with | [_, _, _], _ => rfl) (by decide +kernel) (fun ds d ⟨_, _, _, _, _, _, _, h, _⟩ => by subst h; rfl) ?_
  rintro ds D F0 ⟨ns, ps, bs, top, g, ht0, ht7, rfl, rfl⟩
  have hB := g.fewB
  have hnd : (sortS (bs.map (·.1))).Nodup := (sortS_perm _).nodup_iff.mpr g.nodB
  have hsl : (sortS (bs.map (·.1))).length = bs.length := by rw [(sortS_perm _).length_eq, List.length_map]
  have hrn : (sortS (bs.map (·.1))).reverse.Nodup := (List.reverse_perm _).nodup_iff.mpr hnd
  refine tr_cons (t1_newD 3) (tr_ex fun l => ?_)
  refine tr_pre (Q := Pv [some (.drw (dLis ns)), some (dTold ps bs), some (dI top), some (.v (.ref l)), none, none, none, none, none, none] fun S F => ∃ am : Am, (am.map (·.1) = (sortS (bs.map (·.1))).reverse.take 0 ∧ ∀ a ∈ am, 0 ≤ a.2 ∧ a.2 ≤ top) ∧ AccD l (fun _ F => F = F0) (amD am) S F) ?_ (fun S F σ h => ⟨h.1, h.2.map fun S F q => ⟨[], ⟨rfl, by simp⟩, q⟩⟩)
  refine tr_cons (t1_for (sortS (bs.map (·.1))).reverse (envA := fun n => [some (.drw (dLis ns)), some (dTold ps bs), some (dI top), some (.v (.ref l)), some (dS n), none, none, none, none, none]) (fun i S F => ∃ am : Am, (am.map (·.1) = (sortS (bs.map (·.1))).reverse.take i ∧ ∀ a ∈ am, 0 ≤ a.2 ∧ a.2 ≤ top) ∧ AccD l (fun _ F => F = F0) (amD am) S F) (it_lst (EX.cast (ex_rev (ex_sortedD (g := gT) (ex_ixL (ex_var 1) ex_int rfl) (by omega) (M.free "sorted"))) (by rw [List.map_reverse]))) (fun _ _ => tg_name 4) fun i n hn => tr_exC fun am => tr_fact fun ai => ?_) (tr_exC fun am => tr_fact fun ai => ?_)
  · have hna : n ∉ am.map (·.1) := by rw [ai.1]; exact not_take hrn hn
    have hal : am.length ≤ i := by have := congrArg List.length ai.1; rw [List.length_map, List.length_take] at this; omega
    have hi := (List.getElem?_eq_some_iff.mp hn).1
    rw [List.length_reverse] at hi
    refine tr_cons (t1_putN 3 (D := isInt 0 top) (EN.imp (en_call (c_law_next M) (ea_cons (ex_var 0) (ea_cons (ex_add (ex_var 2) ex_int) ea_nil)).ean (fun ds hds => ⟨ns, top + 1, by omega, hds, rfl⟩)) (fun d ⟨i, e, h1, h2⟩ => ⟨i, e, h1, by omega⟩)) (ex_var 4) (hl := by unfold amD; rw [List.length_map]; omega)) (tr_ex fun d => tr_and fun hd => tr_nil fun S F σ h => ?_)
    obtain ⟨v, rfl, v0, v1⟩ := hd
    rw [putD_new (amD_keys hna)] at h
    refine ⟨(h.forget [4]).1, h.2.map fun S F q => ⟨am ++ [(n, v)], ⟨by rw [List.map_append, ai.1, take_snoc hn]; rfl, fun a ha => ?_⟩, by unfold amD at q ⊢; rw [List.map_append]; exact q⟩⟩
    rcases List.mem_append.mp ha with ha | ha
    · exact ai.2 a ha
    · rw [List.mem_singleton] at ha; subst ha; exact ⟨v0, v1⟩
  rw [List.take_length] at ai
  have aI : AInv bs top am := ⟨ai.1, fun a ha => (ai.2 a ha).1, by
    have h1 := tot_le fun a ha => (ai.2 a ha).2
    have h2 : am.length = bs.length := by have := congrArg List.length ai.1; rwa [List.length_map, List.length_reverse, hsl] at this
    rw [h2] at h1
    have : (bs.length : Int) * top ≤ 3 * top := Int.mul_le_mul_of_nonneg_right (by omega) ht0
    omega⟩
  refine tr_pre (Q := Pv [some (.drw (dLis ns)), some (dTold ps bs), some (dI top), some (.v (.ref l)), none, none, none, none, none, none] fun S F => ∃ am, AInv bs top am ∧ Own l (oA am) F0 S F) ?_ (fun S F σ h => ⟨h.1, h.2.map fun S F q => ⟨am, aI, acc_ownA q⟩⟩)
  clear aI ai am
  refine tr_cons (t1_for (List.range 6) (envA := fun (k : Nat) => [some (.drw (dLis ns)), some (dTold ps bs), some (dI top), some (.v (.ref l)), none, some (dI (k : Nat)), none, none, none, none]) (fun i S F => ∃ am, AInv bs top am ∧ Own l (oA am) F0 S F) (it_rng (n := 6) ex_int (M.free "range") (by omega)) (fun _ _ => tg_name 5) fun i k hk => tr_exC fun am => tr_fact fun aI => ?_) (tr_exC fun am => tr_fact fun aI => ?_)
  · refine tr_cons (t1_open 3 6 (o := oA am) (u := oA (exD ps bs am)) (d0 := dA am) rfl (by decide) oA_rp (fun _ z => nomatch z) (fun _ _ z => nomatch z) (fun z => z) fun val => ?_) ?_
    · refine t1_conv (P' := Pv [some (.nm (val 0) (.drw (dLis ns))), some (.nm (val 1) (dTold ps bs)), some (.nm (val 2) (dI top)), some (.nm (val 3) (dA am)), none, some (.nm (val 5) (dI (k : Nat))), none, none, none, none] fun _ F => F = F0) (Nx' := fun S F σ => ∃ a, Pv (List.set [some (.nm (val 0) (.drw (dLis ns))), some (.nm (val 1) (dTold ps bs)), some (.nm (val 2) (dI top)), some (.nm (val 3) (dA am)), none, some (.nm (val 5) (dI (k : Nat))), none, none, none, none] 6 (some (.v (.ref a)))) (AccD a (fun _ F => F = F0) (amD (exD ps bs am))) S F σ) (Rt' := fun _ _ _ => False) ?_ (fun _ _ _ h => h) (fun S F σ h => ?_) (fun _ _ _ h => h)
      · exact t1_setO 6 (c_law_excess M) (ea_cons (ex_varN 1) (ea_cons (ex_varN 3) ea_nil)) ⟨ps, bs, am, g, aI.amB g ht7, rfl, rfl⟩
      · obtain ⟨a, hp, ha⟩ := h
        exact ⟨a, hp, ha.map fun S F q => acc_ownA q⟩
    · refine tr_ex fun a => tr_and fun hal => tr_and fun hFa => ?_
      refine tr_pre (Q := Pv [some (.drw (dLis ns)), some (dTold ps bs), some (dI top), some (.v (.ref l)), none, some (dI (k : Nat)), some (.v (.ref a)), none, none, none] (AccD a (Own l (oA am) F0) (amD (exD ps bs am)))) (tr_tellD 6 rfl ?_) (fun S F σ hp => ⟨hp.1, hp.2.map fun S F q => ⟨upd F0 l (oA am), _, ⟨S, Gr.refl _, q.1, rfl⟩, by rw [upd_ne hal]; exact hFa, q.2, rpk_of _⟩⟩)
      generalize hex : exD ps bs am = ex
      have hexj : ∀ p ∈ ex, p.1 ∈ joints ps := fun p hp => by
        rw [← hex] at hp
        unfold exD at hp
        obtain ⟨j, hj, e⟩ := List.mem_map.mp hp
        subst e; exact sortJ_mem.mp hj
      have hexn : (ex.map (·.1)).Nodup := hex ▸ exD_nodup g
      refine tr_pre (Q := Pv [some (.drw (dLis ns)), some (dTold ps bs), some (dI top), some (.v (.ref l)), none, some (dI (k : Nat)), some (.dct (amD ex)), none, none, none] fun S F => ∃ am, AInv bs top am ∧ Own l (oA am) F0 S F) ?_ (fun S F σ h => ⟨h.1, h.2.map fun S F q => ⟨am, aI, q⟩⟩)
      clear hex aI hal hFa a am
      refine tr_cons (t1_lockV 6 (t1_for ex (envA := fun p => [some (.drw (dLis ns)), some (dTold ps bs), some (dI top), some (.v (.ref l)), none, some (dI (k : Nat)), some (.dct (amD ex)), some (dS p.1), none, none]) (fun i S F => ∃ am, AInv bs top am ∧ Own l (oA am) F0 S F) (.cast (it_keys (src_var 6)) (keysD_dD dI _)) (fun _ _ => tg_name 7) fun q p hp => tr_exC fun am => tr_fact fun aI => ?_)) (tr_nil fun S F σ h => ?_)
      · have hpm := List.mem_of_getElem? hp
        have hpj := hexj p hpm
        have hv : valD (amD ex) (.inr p.1) = some (dI p.2) := by unfold amD; rw [valD_lk, lk_mem hexn hpm]; rfl
        have hamn : (am.map (·.1)).Nodup := (aI.amB g ht7).nod
        have haml := aI.len
        generalize hw : (if 0 < p.2 then prt ps p.1 else p.1) = wnt
        refine tr_cons (t1_set 8 (d := dS wnt) (ex_if (x := decide (0 < p.2)) (et_gt (ex_dget (ex_var 6) (ex_var 7) hv) ex_int) (fun h => ex_dget (ex_ixL (ex_var 1) ex_int rfl) (ex_var 7) ?_) (fun h => EX.cast (ex_var 7) ?_))) ?_
        · rw [valD_lk, joints_lk g hpj, ← hw, if_pos (of_decide_eq_true h)]; rfl
        · rw [← hw, if_neg (of_decide_eq_false h)]
        refine tr_cons (t1_setLc 9 (sortS (bs.map (·.1))) (enc := dS) (b := fun n => !decide (p.2 = 0) && decide (wnt ∈ ends bs n)) (r := dS) (vs := [4]) (envA := fun n => [some (.drw (dLis ns)), some (dTold ps bs), some (dI top), some (.v (.ref l)), some (dS n), some (dI (k : Nat)), some (.dct (amD ex)), some (dS p.1), some (dS wnt), none]) [("_law_name", 4)] (it_lst (ex_sortedD (g := gT) (ex_ixL (ex_var 1) ex_int rfl) (by omega) (M.free "sorted"))) (by omega) (fun _ _ => tg_name 4) (fun n hn => ef_one (et_w (ew_and (et_neI (ex_dget (ex_var 6) (ex_var 7) hv) ex_int) fun _ => ew_and1 (et_cmp od_inStrT (ex_var 8) (ex_dget (ex_ixL (ex_var 1) ex_int rfl) (ex_var 4) ?_) rfl)))) (fun _ _ _ => ex_var 4)) ?_
        · obtain ⟨es, he⟩ := Option.isSome_iff_exists.mp (lk_has.mpr ((sortS_perm _).mem_iff.mp hn))
          rw [valD_lk, he, ends_of he]; rfl
        generalize hgd : (sortS (bs.map (·.1))).filter (fun n => !decide (p.2 = 0) && decide (wnt ∈ ends bs n)) = good
        have hgm : ∀ n ∈ good, n ∈ am.map (·.1) := fun n hn => by
          rw [← hgd] at hn
          rw [aI.keys, List.mem_reverse]
          exact (List.mem_filter.mp hn).1
        have hgl : good.length ≤ 3 := by
          rw [← hgd]
          have := List.length_filter_le (fun n => !decide (p.2 = 0) && decide (wnt ∈ ends bs n)) (sortS (bs.map (·.1)))
          omega
        refine tr_pre (Q := Pv [some (.drw (dLis ns)), some (dTold ps bs), some (dI top), some (.v (.ref l)), none, some (dI (k : Nat)), some (.dct (amD ex)), some (dS p.1), some (dS wnt), some (.lst (good.map dS))] (Own l (oA am) F0)) ?_ (fun S F σ h => by unfold filtered at h; rw [hgd] at h; exact h)
        have hsees : ∀ {f : Fr}, f.pv = [(l, oA am)] → Sees f (Own l (oA am) F0) := fun {f} e S F q x hx => by
          rw [e] at hx
          cases List.mem_singleton.mp hx
          rw [q.2]; exact upd_same
        refine tr_one (t1_pv [(l, oA am)] (t1_if (x := !decide (good.map dS = []) && decide (total am < 3 * top)) (et_w (ew_and (et_cmp od_neNil (ex_var 9) (ex_lst ea_nil)) fun _ => ew_and1 (et_lt (ex_open 3 (o := oA am) (d0 := dA am) rfl oA_rp (fun _ z => nomatch z) (fun _ _ z => nomatch z) (fun z => z) rfl (ex_sum (xs := am) (r := fun p => p.2) (ex_lockV 3 (ex_mapP am (enc := fun p => dS p.1) (r := fun p => dI p.2) [("_law_name", 4)] (.cast (it_keys (src_var 3)) (keysD_dD dI _)) (by omega) (fun _ _ => tg_name 4) (fun p hp => ex_dget (ex_var 3) (ex_var 4) (by rw [valD_lk, lk_mem hamn hp]; rfl)))) (M.free "sum"))) (ex_mul ex_int (ex_var 2) (.inl (by decide)))))) (fun h => ?_) (fun _ => tr_nil fun S F σ h => ?_) (hc := hsees rfl)))
        · rw [Bool.and_eq_true] at h
          have hne : good ≠ [] := fun z => by rw [z] at h; simp at h
          have hlt := of_decide_eq_true h.2
          refine tr_cons (t1_setN 4 (D := fun d => ∃ n, d = dS n ∧ n ∈ good) (en_call (c_law_pick M) (ea_cons (ex_var 0) (ea_cons (ex_var 9) ea_nil)).ean (fun ds hds => ⟨ns, _, fun z => hne (List.map_eq_nil_iff.mp z), by rw [List.length_map]; omega, fun x hx => ?_, hds⟩)) (hc := hsees rfl)) (tr_ex fun d => tr_and fun hd => ?_)
          · obtain ⟨n, hn, e⟩ := List.mem_map.mp hx
            exact ⟨n, e.symm, hn⟩
          obtain ⟨n, rfl, hn⟩ := hd
          have hnm := hgm n hn
          obtain ⟨v, hvn⟩ := Option.isSome_iff_exists.mp (lk_has.mpr hnm)
          have hav : amt am n = v := by unfold amt; rw [hvn]; rfl
          refine tr_pre (Q := Pv [some (.drw (dLis ns)), some (dTold ps bs), some (dI top), some (.v (.ref l)), some (dS n), some (dI (k : Nat)), some (.dct (amD ex)), some (dS p.1), some (dS wnt), some (.lst (good.map dS))] (AccD l (fun _ F => F = F0) (amD am))) ?_ (fun S F σ h => ⟨h.1, h.2.map fun S F q => ownA_acc q⟩)
          refine tr_cons (t1_put 3 (d := dI (amt am n + 1)) (ex_open 3 (o := oA am) (d0 := dA am) rfl oA_rp (fun _ z => nomatch z) (fun _ _ z => nomatch z) (fun z => z) rfl (ex_add (ex_dget (ex_var 3) (ex_var 4) (by rw [valD_lk, hvn, hav]; rfl)) ex_int)) (ex_var 4) (hl := by unfold amD; rw [List.length_map]; omega) (hc := fun S F q => hsees rfl S F (acc_ownA q))) (tr_nil fun S F σ h => ?_)
          rw [bump_put hamn hnm] at h
          exact ⟨(h.forget [4, 7, 8, 9]).1, h.2.map fun S F q => ⟨bump am n, aI.bump hamn hnm hlt, acc_ownA q⟩⟩
        · exact ⟨(h.forget [7, 8, 9]).1, h.2.map fun S F q => ⟨am, aI, q⟩⟩
      · exact ⟨(h.forget [5, 6]).1, h.2⟩
  · refine tr_pre (Q := Pv [some (.drw (dLis ns)), some (dTold ps bs), some (dI top), some (.v (.ref l)), none, none, none, none, none, none] (AccD l (fun _ F => F = F0) (amD am))) (tr_tellD 3 rfl (tr_one (t1_retN ((ex_var 3).enD ⟨am, rfl, aI⟩)))) (fun S F σ h => ⟨h.1, h.2.map fun S F q => ownA_acc q⟩)
end
end Em
set_option maxHeartbeats 1000000
/-! The plain law (4): sums, the brute force. -/
namespace Em
open PySem PySem.Spec PyProof.Rows L2 RZ
theorem amt_subA {am r : Am} {x : Str} (h : x ∈ am.map (·.1)) : amt (subA am r) x = amt am x - amt r x := by
  induction am with
  | nil => cases h
  | cons a t ih =>
    show amt ((a.1, a.2 - amt r a.1) :: subA t r) x = _
    rw [amt_cons, amt_cons]
    by_cases hx : a.1 = x
    · rw [if_pos hx, if_pos hx, hx]
    · rw [if_neg hx, if_neg hx]
      rw [List.map_cons, List.mem_cons] at h
      exact ih (h.resolve_left fun z => hx z.symm)
theorem subA_keys (am r : Am) : (subA am r).map (·.1) = am.map (·.1) := by unfold subA; rw [List.map_map]; rfl
def lawRows (ps : Ps) (bs : Bs) : List Am := (closeds ps bs).map (amRow bs)
section
variable {ps : Ps} {bs : Bs} (g : Good ps bs) (hj : (joints ps).length = 1 ∨ (joints ps).length = 2)
include g hj
theorem row_sub {am r : Am} (ok : AmB bs am) (okr : AmB bs r) (hle : CD.Le (rowOf bs r) (rowOf bs am)) {i : Nat} (hi : i < bs.length) : amt (subA am r) bs[i].1 = amt am bs[i].1 - amt r bs[i].1 := by
  by_cases hm : bs[i].1 ∈ am.map (·.1)
  · exact amt_subA hm
  · have h1 := hle i
    rw [rowOf_g hi, rowOf_g hi, amt_off hm] at h1
    have h2 := (amt_nn okr bs[i].1).1
    rw [amt_off (by rw [subA_keys]; exact hm), amt_off hm]; omega
theorem sub_B {am r : Am} (ok : AmB bs am) (okr : AmB bs r) (hle : CD.Le (rowOf bs r) (rowOf bs am)) : AmB bs (subA am r) where
  nod := by rw [subA_keys]; exact ok.nod
  has := fun a ha => by
    have : a.1 ∈ (subA am r).map (·.1) := List.mem_map_of_mem ha
    rw [subA_keys] at this
    obtain ⟨b, hb, e⟩ := List.mem_map.mp this
    rw [← e]; exact ok.has b hb
  nn := fun a ha => by
    unfold subA at ha
    obtain ⟨b, hb, e⟩ := List.mem_map.mp ha
    subst e
    show 0 ≤ b.2 - amt r b.1 ∧ b.2 - amt r b.1 ≤ 1000
    have h1 := ok.nn b hb
    have h2 := (amt_nn okr b.1).1
    obtain ⟨c, hc, e⟩ := List.mem_map.mp (lk_has.mp (ok.has b hb))
    obtain ⟨i, hi, e2⟩ := List.mem_iff_getElem.mp hc
    have h3 := hle i
    rw [rowOf_g hi, rowOf_g hi, e2, e, amt_mem ok.nod hb] at h3
    omega
theorem C_sub {am r : Am} (ok : AmB bs am) (okr : AmB bs r) (hle : CD.Le (rowOf bs r) (rowOf bs am)) (i : Nat) : CD.C (cbOf ps bs) (rowOf bs (subA am r)) i = CD.C (cbOf ps bs) (rowOf bs am) i - CD.C (cbOf ps bs) (rowOf bs r) i := by
  unfold CD.C
  rw [← CD.S_sub]
  refine CD.S_congr fun q hq => ?_
  rw [cbOf_len] at hq
  rw [rowOf_g hq, rowOf_g hq, rowOf_g hq, row_sub g hj ok okr hle hq, Int.sub_mul]
theorem sub_bal {am r : Am} (ok : AmB bs am) (okr : AmB bs r) (hle : CD.Le (rowOf bs r) (rowOf bs am)) (b1 : balanced ps bs am = true) (b2 : balanced ps bs r = true) : balanced ps bs (subA am r) = true := by
  rw [bal_iff g (sub_B g hj ok okr hle)]
  have h1 := (bal_iff g ok).mp b1
  have h2 := (bal_iff g okr).mp b2
  intro i hi
  have h1 := h1 i hi
  have h2 := h2 i hi
  rw [C_sub g hj ok okr hle]
  by_cases ho : i ∈ owns ps
  · rw [if_pos ho] at h1 h2 ⊢; omega
  · rw [if_neg ho] at h1 h2 ⊢; omega
theorem sub_total {am r : Am} (ok : AmB bs am) (okr : AmB bs r) (hle : CD.Le (rowOf bs r) (rowOf bs am)) : total (subA am r) = total am - total r := by
  rw [total_row g.nodB (sub_B g hj ok okr hle), total_row g.nodB ok, total_row g.nodB okr]
  unfold rowOf
  rw [← sum_sub]
  refine congrArg List.sum (List.map_congr_left fun b hb => ?_)
  obtain ⟨i, hi, e⟩ := List.mem_iff_getElem.mp hb
  have := row_sub g hj ok okr hle hi
  rw [e] at this
  exact this
theorem lawRow_ok {r : Am} (h : r ∈ lawRows ps bs) : AmB bs r ∧ balanced ps bs r = true ∧ 0 < total r ∧ r.map (·.1) = bs.map (·.1) ∧ Lst ps bs (rowOf bs r) ∧ amRow bs (rowOf bs r) = r := by
  unfold lawRows at h
  obtain ⟨v, hv, e⟩ := List.mem_map.mp h
  obtain ⟨h1, h2, h3, h4, h5⟩ := closed_ok g hj hv
  subst e
  exact ⟨h1, h2, h3, amRow_keys h5, by rw [h4]; exact (mem_closeds g hj).mp hv, by rw [h4]⟩
theorem sumGood : ∀ (n : Nat) (am : Am), AmB bs am → balanced ps bs am = true → (total am).toNat ≤ n → SumGood (lawRows ps bs) n am
  | 0, am, ok, hb, hn => by
    have := (sum_nn (am := am) fun a ha => (ok.nn a ha).1).1
    show total am = 0
    omega
  | n + 1, am, ok, hb, hn => by
    have h0 := (sum_nn (am := am) fun a ha => (ok.nn a ha).1).1
    by_cases ht : total am = 0
    · exact .inl ht
    · refine .inr ⟨?_, fun r hr hp => ?_⟩
      · obtain ⟨s, hs, hle⟩ := CD.least_below (cfg_ok g) ((clo_iff g ok).mpr ⟨hb, by omega⟩)
        have hlen := least_len g hj hs
        refine ⟨amRow bs s, List.mem_map_of_mem ((mem_closeds g hj).mpr hs), ?_⟩
        rw [part_le g (amRow_keys hlen), rowOf_amRow g hlen]; exact hle
      · obtain ⟨h1, h2, h3, h4, h5, _⟩ := lawRow_ok g hj hr
        have hle := (part_le g h4).mp hp
        have ht' := sub_total g hj ok h1 hle
        exact sumGood n _ (sub_B g hj ok h1 hle) (sub_bal g hj ok h1 hle hb h2) (by omega)
end
/-! ### the brute force -/
theorem mem_fold {am : Am} : ∀ {ns : List Str} {rows : List Am} {r : Am}, r ∈ ns.foldl (subStep am) rows ↔ ∃ r0 ∈ rows, ∃ t : Am, r = r0 ++ t ∧ t.map (·.1) = ns ∧ ∀ p ∈ t, 0 ≤ p.2 ∧ (p.2 ≤ amt am p.1 ∨ False)
  | [], rows, r => by
    constructor
    · intro h; exact ⟨r, h, [], by simp, rfl, by simp⟩
    · rintro ⟨r0, h, t, e, ht, _⟩
      have : t = [] := List.map_eq_nil_iff.mp ht
      subst this
      rw [List.append_nil] at e; subst e; exact h
  | n :: ns, rows, r => by
    rw [List.foldl_cons, mem_fold]
    constructor
    · rintro ⟨r1, h, t, e, ht, hb⟩
      obtain ⟨r0, h0, h2⟩ := List.mem_flatMap.mp h
      obtain ⟨k, hk, e2⟩ := List.mem_map.mp h2
      have hk := List.mem_range.mp hk
      subst e2 e
      refine ⟨r0, h0, (n, (k : Int)) :: t, by simp, by rw [List.map_cons, ht], fun p hp => ?_⟩
      rcases List.mem_cons.mp hp with hp | hp
      · subst hp; exact ⟨by simp only; omega, .inl (by simp only; omega)⟩
      · exact hb p hp
    · rintro ⟨r0, h0, t, e, ht, hb⟩
      cases t with
      | nil => cases ht
      | cons p t =>
        rw [List.map_cons, List.cons.injEq] at ht
        have hp := hb p List.mem_cons_self
        refine ⟨r0 ++ [p], ?_, t, by rw [e]; simp, ht.2, fun q hq => hb q (List.mem_cons_of_mem _ hq)⟩
        refine List.mem_flatMap.mpr ⟨r0, h0, List.mem_map.mpr ⟨p.2.toNat, List.mem_range.mpr ?_, ?_⟩⟩
        · have h1 := hp.2.resolve_right id
          rw [ht.1] at h1
          omega
        · rw [← ht.1, Int.toNat_of_nonneg hp.1]
theorem mem_subAms {am : Am} {ns : List Str} {r : Am} : r ∈ subAms am ns ↔ r.map (·.1) = ns ∧ ∀ p ∈ r, 0 ≤ p.2 ∧ p.2 ≤ amt am p.1 := by
  unfold subAms
  rw [mem_fold]
  constructor
  · rintro ⟨r0, h0, t, e, ht, hb⟩
    rw [List.mem_singleton] at h0
    subst h0 e
    exact ⟨ht, fun p hp => ⟨(hb p hp).1, (hb p hp).2.resolve_right id⟩⟩
  · rintro ⟨h1, h2⟩
    exact ⟨[], List.mem_singleton.mpr rfl, r, rfl, h1, fun p hp => ⟨(h2 p hp).1, .inl (h2 p hp).2⟩⟩
theorem fold_nodup {am : Am} : ∀ {ns : List Str} {rows : List Am} {n : Nat}, rows.Nodup → (∀ r ∈ rows, r.length = n) → (ns.foldl (subStep am) rows).Nodup
  | [], rows, n, h, _ => h
  | m :: ns, rows, n, h, hl => by
    refine fold_nodup (ns := ns) (rows := subStep am rows m) (n := n + 1) ?_ fun r hr => ?_
    · unfold subStep
      refine List.pairwise_flatMap.mpr ⟨fun r _ => ?_, ?_⟩
      · refine List.pairwise_map.mpr (List.Pairwise.imp (R := fun a b => a ≠ b) (fun {a b} hab => ?_) (List.nodup_range (n := (amt am m + 1).toNat)))
        intro z
        have := List.append_cancel_left z
        simp at this; exact hab (by omega)
      · refine List.Pairwise.imp_of_mem (fun {a b} ha hb hab x hx y hy z => hab ?_) h
        obtain ⟨k, _, e1⟩ := List.mem_map.mp hx
        obtain ⟨q, _, e2⟩ := List.mem_map.mp hy
        rw [← e1, ← e2] at z
        exact (List.append_inj z (by rw [hl a ha, hl b hb])).1
    · obtain ⟨r0, h0, h2⟩ := List.mem_flatMap.mp hr
      obtain ⟨k, _, e⟩ := List.mem_map.mp h2
      subst e
      rw [List.length_append, hl r0 h0]; rfl
theorem subAms_nodup {am : Am} {ns : List Str} : (subAms am ns).Nodup := fold_nodup (n := 0) (by simp) (by simp)
end Em
set_option maxHeartbeats 1000000
/-! The plain law (5): the brute force gives the least ones below; their order. -/
namespace Em
open PySem PySem.Spec PyProof.Rows L2 RZ
theorem am_of_row {bs : Bs} {r : Am} (hn : (bs.map (·.1)).Nodup) (h : r.map (·.1) = bs.map (·.1)) : amRow bs (rowOf bs r) = r := by
  have hlen : r.length = bs.length := by have := congrArg List.length h; rwa [List.length_map, List.length_map] at this
  have hrn : (r.map (·.1)).Nodup := h ▸ hn
  unfold amRow
  refine List.ext_getElem (by rw [List.length_zip, List.length_map, rowOf_len, hlen]; omega) fun i h1 h2 => ?_
  have hi : i < bs.length := by omega
  rw [List.getElem_zip, List.getElem_map]
  have hk : bs[i].1 = r[i].1 := by
    have := congrArg (fun l => l[i]?) h
    simp only [List.getElem?_map, List.getElem?_eq_getElem hi, List.getElem?_eq_getElem h2, Option.map_some] at this
    exact (Option.some.inj this).symm
  have hv : (rowOf bs r)[i]'(by rw [rowOf_len]; exact hi) = r[i].2 := by
    have := rowOf_g (bs := bs) (am := r) hi
    rw [CD.g_lt (by rw [rowOf_len]; exact hi)] at this
    rw [this, hk, amt_mem hrn (List.getElem_mem h2)]
  exact Prod.ext hk hv
section
variable {ps0 : Ps} {bs0 : Bs} (g0 : Good ps0 bs0) (hj : (joints (sK ps0)).length = 1 ∨ (joints (sK ps0)).length = 2)
/-- amounts to be listed: all names, in order -/
structure LAm (bs : Bs) (am : Am) : Prop where
  names : namesOf am = bs.map (·.1)
  sm : SmA am
include g0 in
theorem sub_ok {am : Am} (h : LAm (sK bs0) am) {r : Am} (hr : r ∈ subAms am (namesOf am)) : AmB (sK bs0) r ∧ r.map (·.1) = (sK bs0).map (·.1) := by
  have hh : ∀ a ∈ am, (lk (sK bs0) a.1).isSome = true := fun a ha => by
    have : a.1 ∈ namesOf am := (sortS_perm _).mem_iff.mpr (List.mem_map_of_mem ha)
    rw [h.names] at this
    exact lk_has.mpr this
  obtain ⟨h1, h2, _⟩ := h.sm.amB hh hr
  exact ⟨h1, h2.trans h.names⟩
include g0 in
theorem mem_good {am : Am} (h : LAm (sK bs0) am) {r : Am} : r ∈ goodSubs ps0 bs0 am ↔ r.map (·.1) = (sK bs0).map (·.1) ∧ CD.Clo (cbOf (sK ps0) (sK bs0)) (owns (sK ps0)) (joints (sK ps0)).length (rowOf (sK bs0) r) ∧ CD.Le (rowOf (sK bs0) r) (rowOf (sK bs0) am) := by
  have g := g0.sorted
  have hB : ∀ {r : Am}, AmB (sK bs0) r → AmB bs0 r := fun ok => ⟨ok.nod, fun a ha => by rw [← lk_sK g0.nodB]; exact ok.has a ha, ok.nn⟩
  unfold goodSubs
  rw [List.mem_filter]
  constructor
  · rintro ⟨h1, h2⟩
    obtain ⟨ok, hk⟩ := sub_ok g0 h h1
    rw [Bool.and_eq_true, decide_eq_true_iff, lbal_eq g0 (hB ok)] at h2
    refine ⟨hk, (clo_iff g ok).mpr ⟨h2.2, h2.1⟩, (part_le g hk).mp ?_⟩
    unfold isPart
    rw [List.all_eq_true]
    exact fun p hp => decide_eq_true ((mem_subAms.mp h1).2 p hp).2
  · rintro ⟨hk, hc, hle⟩
    have h1 : r ∈ subAms am (namesOf am) := mem_subAms.mpr ⟨hk.trans h.names.symm, fun p hp => by
      have h3 := List.all_eq_true.mp ((part_le g hk).mpr hle) p hp
      refine ⟨?_, of_decide_eq_true h3⟩
      have hm : p.1 ∈ (sK bs0).map (·.1) := hk ▸ List.mem_map_of_mem hp
      obtain ⟨b, hb, e⟩ := List.mem_map.mp hm
      obtain ⟨i, hi, e2⟩ := List.mem_iff_getElem.mp hb
      have := hc.nn i
      rw [rowOf_g hi, e2, e, amt_mem (hk ▸ g.nodB) hp] at this
      exact this⟩
    obtain ⟨ok, _⟩ := sub_ok g0 h h1
    have := (clo_iff g ok).mp hc
    exact ⟨h1, by rw [Bool.and_eq_true, decide_eq_true_iff, lbal_eq g0 (hB ok)]; exact ⟨this.2, this.1⟩⟩
include g0 in
theorem mem_leastIn {am : Am} (h : LAm (sK bs0) am) {r : Am} : r ∈ leastIn ps0 bs0 am ↔ r.map (·.1) = (sK bs0).map (·.1) ∧ Lst (sK ps0) (sK bs0) (rowOf (sK bs0) r) ∧ CD.Le (rowOf (sK bs0) r) (rowOf (sK bs0) am) := by
  have g := g0.sorted
  unfold leastIn
  rw [List.mem_filter, mem_good g0 h, Bool.not_eq_true', List.any_eq_false]
  constructor
  · rintro ⟨⟨hk, hc, hle⟩, h2⟩
    refine ⟨hk, ⟨hc, fun y hy hyr => ?_⟩, hle⟩
    have hyl : y.length = (sK bs0).length := by rw [hy.len, cbOf_len]
    have hk2 := amRow_keys hyl
    have hr2 := rowOf_amRow g hyl
    have h3 := h2 (amRow (sK bs0) y) ((mem_good g0 h).mpr ⟨hk2, by rw [hr2]; exact hy, by rw [hr2]; exact hyr.trans hle⟩)
    have h4 : isPart (amRow (sK bs0) y) r = true := (part_le g hk2).mpr (by rw [hr2]; exact hyr)
    rw [h4, Bool.and_true] at h3
    have h5 : amRow (sK bs0) y = r := Classical.byContradiction fun z => h3 (decide_eq_true z)
    rw [← h5, hr2]
  · rintro ⟨hk, hl, hle⟩
    refine ⟨⟨hk, hl.clo, hle⟩, fun o ho => ?_⟩
    obtain ⟨hko, hco, _⟩ := (mem_good g0 h).mp ho
    intro z
    rw [Bool.and_eq_true, decide_eq_true_iff] at z
    have := hl.least _ hco ((part_le g hko).mp z.2)
    refine z.1 ?_
    rw [← am_of_row g.nodB hko, ← am_of_row g.nodB hk, this]
theorem leastIn_nodup (ps : Ps) (bs : Bs) (am : Am) : (leastIn ps bs am).Nodup := by
  unfold leastIn goodSubs
  exact List.Nodup.sublist (List.filter_sublist.trans List.filter_sublist) subAms_nodup
include g0 hj in
/-- as rows: the closings below -/
theorem leastIn_perm {am : Am} (h : LAm (sK bs0) am) : ((leastIn ps0 bs0 am).map (rowOf (sK bs0))).Perm ((closeds (sK ps0) (sK bs0)).filter fun r => isPart (amRow (sK bs0) r) am) := by
  have g := g0.sorted
  refine (List.perm_ext_iff_of_nodup ?_ (List.Nodup.sublist List.filter_sublist (closeds_nodup g hj))).mpr fun r => ?_
  · refine List.pairwise_map.mpr (List.Pairwise.imp_of_mem (fun {a b} ha hb hab z => hab ?_) (leastIn_nodup ps0 bs0 am))
    rw [← am_of_row g.nodB ((mem_leastIn g0 h).mp ha).1, ← am_of_row g.nodB ((mem_leastIn g0 h).mp hb).1, z]
  · rw [List.mem_filter, mem_closeds g hj]
    constructor
    · intro hr
      obtain ⟨a, ha, e⟩ := List.mem_map.mp hr
      obtain ⟨h1, h2, h3⟩ := (mem_leastIn g0 h).mp ha
      subst e
      refine ⟨h2, ?_⟩
      rw [am_of_row g.nodB h1]
      exact (part_le g h1).mpr h3
    · rintro ⟨h1, h2⟩
      have hl := least_len g hj h1
      have hr2 := rowOf_amRow g hl
      refine List.mem_map.mpr ⟨amRow (sK bs0) r, (mem_leastIn g0 h).mpr ⟨amRow_keys hl, by rw [hr2]; exact h1, (part_le g (amRow_keys hl)).mp h2⟩, hr2⟩
include g0 hj in
/-- below a closing there is itself alone -/
theorem leastIn_self {r : Am} (hr : r ∈ lawRows (sK ps0) (sK bs0)) (h : LAm (sK bs0) r) : leastIn ps0 bs0 r = [r] := by
  have g := g0.sorted
  obtain ⟨h1, h2, h3, h4, h5, h6⟩ := lawRow_ok g hj hr
  have hm : ∀ q, q ∈ leastIn ps0 bs0 r ↔ q = r := fun q => by
    rw [mem_leastIn g0 h]
    constructor
    · rintro ⟨k1, k2, k3⟩
      have := h5.least _ k2.clo k3
      rw [← am_of_row g.nodB k1, this, h6]
    · rintro rfl
      exact ⟨h4, h5, CD.Le.refl _⟩
  have hn := leastIn_nodup ps0 bs0 r
  revert hn hm
  generalize leastIn ps0 bs0 r = l
  intro hm hn
  cases l with
  | nil => exact absurd ((hm r).mpr rfl) (by simp)
  | cons a t =>
    have ha := (hm a).mp List.mem_cons_self
    cases t with
    | nil => rw [ha]
    | cons b t =>
      have hb := (hm b).mp (by simp)
      rw [List.nodup_cons] at hn
      exact absurd (by rw [ha, hb]; simp) hn.1
end
end Em
set_option maxHeartbeats 1000000
/-! The logic over plain data (17): keys (a number, a list of numbers) compared and sorted. -/
namespace Em
open PySem PySem.Spec PyProof.Rows L2 RZ PySem.W
def keyRow (r : List Int) : Da := .tup [dI r.sum, dLis r]
def keyL (ns : List Int) : PyData := .tuple [.int ns.sum, .list (ns.map .int)]
theorem toks_eq (r : List Int) : keyToks (keyL r) = keyToks (keyT r) := by
  unfold keyL keyT
  simp [keyToks, keyToksAll]
theorem dataLe_eq : dataLe false keyL = dataLe false keyT := by
  unfold dataLe
  exact congrArg _ (funext toks_eq)
theorem dataLt_eq (a b : List Int) : dataLt (keyL a) (keyL b) = dataLt (keyT a) (keyT b) := by
  unfold dataLt
  rw [toks_eq, toks_eq]
theorem alike_keyL (a b : List Int) : alike (keyL a) (keyL b) = true := by
  unfold keyL
  simp only [alike, alikeAll, Bool.true_and, Bool.and_true]
  exact alike_ints a b
theorem depth_keyL (a : List Int) : (keyL a).depth ≤ 2 := by
  unfold keyL
  simp [PyData.depth, PyData.depthAll, depth_ints]
theorem reads_intsV {h : Heap} : ∀ {ns : List Int} {its : List Value}, Vals (ns.map V.int) its → ReadsAll h its (ns.map PyData.int) []
  | [], its, r => by cases r; exact .nil
  | n :: ns, its, r => by
    cases r with
    | cons r t =>
      obtain ⟨tk, rfl⟩ := r
      exact ReadsAll.cons (.int n tk) (reads_intsV t)
section
variable {X : Cx} {pins : List (Addr × Obj)} {σ : L2.St} {H S F : Hp} {s : Shared}
theorem rp_reads (I : Inv X pins σ H s) (hs : Sep S F H) {x : V} {v : Value} {r : List Int} (rp : Rp S x (keyRow r)) (rv : RelV x v) : ∃ a, x = .ref a ∧ v = .ref a ∧ ∃ as, Reads s.heap v (keyL r) as := by
  obtain ⟨a, vs, rfl, h1, h2⟩ := rp.tup_inv
  cases rv
  refine ⟨a, rfl, rfl, ?_⟩
  obtain ⟨v1, v2, rfl, r1, r2⟩ := two_args h2
  obtain rfl := r1.v_inv
  obtain ⟨l, ws, rfl, h3, h4⟩ := r2.lst_inv
  have e := h4.atoms (f := fun x => V.int x)
  subst e
  obtain ⟨its, rv1, p1, _⟩ := I.tuple (hs.sqt (K := X.K) h1)
  obtain ⟨its2, rv2, p2, _⟩ := I.list (hs.sql (K := X.K) h3)
  obtain ⟨o1, e1, c1, n1, d1⟩ := p1
  obtain ⟨o2, e2, c2, n2, d2⟩ := p2.isList
  cases rv1 with
  | cons q1 t1 =>
    cases t1 with
    | cons q2 t2 =>
      cases t2
      obtain ⟨tk, rfl⟩ := q1
      cases q2
      exact ⟨_, .tuple e1 c1 d1 (.cons (.int _ tk) (.cons (.list e2 c2 d2 (reads_intsV rv2)) .nil))⟩
end
section
variable {f : Fr}
theorem od_ltKey {a b : List Int} : OD f (compareOp .Lt) (keyRow a) (keyRow b) (dB (dataLt (keyT a) (keyT b))) := od_of fun X hX pins s σ S F H x y v u I hs r1 r2 rx ry E Q q => by
  have hu := hX.room.un
  obtain ⟨_, _, _, as, h1⟩ := rp_reads I hs r1 rx
  obtain ⟨_, _, _, bs, h2⟩ := rp_reads I hs r2 ry
  have hd := depth_keyL a
  have := rcLt_alike (keyL a) (keyL b) X.A s v u as bs h1 h2 (alike_keyL a b) (fun z => nomatch z) (by omega) X.prog X.w E Q (by rw [dataLt_eq]; exact q)
  exact this
theorem keys_rp {S : Hp} : ∀ {rows : List (List Int)} {vs : List V}, RpL S vs (rows.map keyRow) → ∃ rs : List (Addr × List Int), vs = rs.map (fun r => V.ref r.1) ∧ rs.map (·.2) = rows ∧ ∀ r ∈ rs, Rp S (.ref r.1) (keyRow r.2)
  | [], vs, h => by
    have : vs = [] := List.eq_nil_of_length_eq_zero h.1
    exact ⟨[], by rw [this]; rfl, rfl, by simp⟩
  | r :: rows, vs, h => by
    cases vs with
    | nil => cases h.1
    | cons v vs =>
      have h1 := h.2 0 v (keyRow r) rfl rfl
      have ht : RpL S vs (rows.map keyRow) := ⟨by have := h.1; simpa using this, fun i w x a b => h.2 (i + 1) w x (by simpa using a) (by simpa using b)⟩
      obtain ⟨rs, e1, e2, e3⟩ := keys_rp ht
      obtain ⟨a, ws, rfl, _, _⟩ := id h1.tup_inv
      exact ⟨(a, r) :: rs, by rw [e1]; rfl, by rw [List.map_cons, e2], fun x hx => (List.mem_cons.mp hx).elim (fun z => by subst z; exact h1) (e3 x)⟩
theorem keys_back {S : Hp} : ∀ {rs : List (Addr × List Int)}, (∀ r ∈ rs, Rp S (.ref r.1) (keyRow r.2)) → RpL S (rs.map fun r => V.ref r.1) ((rs.map (·.2)).map keyRow)
  | [], _ => .nil
  | r :: rs, h => .cons (h r List.mem_cons_self) (keys_back fun x hx => h x (List.mem_cons_of_mem _ hx))
theorem cd_sortKeys {rows : List (List Int)} (hl : rows.length ≤ 10000000) : CD f (.builtin "sorted") [.lst (rows.map keyRow)] (.lst ((sortI rows).map keyRow)) := fun S F H vs hp hs r Q q X pins s σ us hX I rv => by
  obtain ⟨v, rfl, r1⟩ := one_arg1 r
  obtain ⟨a, ws, rfl, h1, h2⟩ := r1.lst_inv
  obtain ⟨rs, e1, e2, e3⟩ := keys_rp h2
  subst e1
  obtain ⟨its, rv1, p1, hz⟩ := I.list (hs.sql (K := X.K) h1)
  have eits : its = rs.map fun r => Value.ref r.1 := by
    have : ∀ {rs : List (Addr × List Int)} {its : List Value}, Vals (rs.map fun r => V.ref r.1) its → its = rs.map fun r => Value.ref r.1 := by
      intro rs
      induction rs with
      | nil => intro its h; cases h; rfl
      | cons r rows ih => intro its h; cases h with | cons h t => rw [ih t, (show _ = Value.ref r.1 from h)]; rfl
    exact this rv1
  subst eits
  rw [Vals.ref1 rv]
  have hrl : rs.length = rows.length := by have := congrArg List.length e2; rwa [List.length_map] at this
  have hu := hX.room.un
  refine sorted_data (R := fun (v : Value) (r : Addr × List Int) => v = .ref r.1) (bs := rs) (enc := fun r => keyL r.2) p1.isList (each_refs rs) ?_ (fun d hd d' hd' => ?_) (.inl fun d hd => ?_) (by rw [hrl]; exact Nat.le_trans hl (by decide)) (fun b hb => ?_) fun out ho eo => ?_
  · have : ∀ (l : List (Addr × List Int)), (∀ r ∈ l, Rp S (.ref r.1) (keyRow r.2)) → EachIs (fun v b => ∃ as, Reads s.heap v (keyL b.2) as) (l.map fun r => Value.ref r.1) l := by
      intro l
      induction l with
      | nil => intro _; exact .nil
      | cons r l ih =>
        intro h
        obtain ⟨_, _, _, as⟩ := rp_reads I hs (h r List.mem_cons_self) (v := .ref r.1) rfl
        exact .cons as (ih fun x hx => h x (List.mem_cons_of_mem _ hx))
    exact this rs e3
  · obtain ⟨r, _, rfl⟩ := List.mem_map.mp hd
    obtain ⟨r', _, rfl⟩ := List.mem_map.mp hd'
    exact alike_keyL _ _
  · obtain ⟨r, _, rfl⟩ := List.mem_map.mp hd
    exact ⟨_, _, rfl⟩
  · have := depth_keyL b.2
    show X.A.units + 2 + (keyL b.2).depth < cLine
    omega
  · have eo' := each_refs_eq eo
    subst eo'
    obtain ⟨ep, he'⟩ := PyProof.Rows.sortedAll_at s.heap (rs.map fun r => Value.ref r.1) ((rs.mergeSort (dataLe false fun r => keyL r.2)).map fun r => Value.ref r.1).toArray
    have hlen : ((rs.mergeSort (dataLe false fun r => keyL r.2)).map fun r => V.ref r.1).length ≤ sizeLine := by rw [List.length_map, List.length_mergeSort, hrl]; exact Nat.le_trans hl (by decide)
    have hfree := I.hok.fresh (Nat.le_succ s.heap.objs.size)
    refine ⟨.ref _, upd H (s.heap.objs.size + 1) (.lst ((rs.mergeSort (dataLe false fun r => keyL r.2)).map fun r => V.ref r.1)), I.laid (t' := s.toks) (fun _ _ => PyProof.Rows.sortedAll_old) (Nat.le_succ _) ⟨hlen, _, ep, vals_refs _, he'⟩, rfl, ?_⟩
    refine q.fresh hs hfree (.lstL upd_same ?_)
    have hm : (sortI rows).map keyRow = ((rs.mergeSort (dataLe false fun r => keyL r.2)).map (·.2)).map keyRow := by
      have h := sortRows_map rs
      unfold sortRows at h
      have hk : (dataLe false fun r : Addr × List Int => keyT r.2) = dataLe false fun r : Addr × List Int => keyL r.2 := by
        unfold dataLe
        exact congrArg _ (funext fun r => (toks_eq r.2).symm)
      rw [hk, e2] at h
      rw [h]
    rw [hm]
    exact (keys_back fun r hr => e3 r ((List.mergeSort_perm _ _).mem_iff.mp hr)).mono (Gr.new (hs.freeS hfree))
end
end Em
set_option maxHeartbeats 1000000
/-! The plain law (6): the order of keys. -/
namespace Em
open PySem PySem.Spec PyProof.Rows L2 RZ PySem.W
theorem toks_ints_inj : ∀ {a b : List Int}, keyToksAll (a.map PyData.int) = keyToksAll (b.map PyData.int) → a = b
  | [], [], _ => rfl
  | [], y :: b, h => by simp [keyToksAll] at h
  | x :: a, [], h => by simp [keyToksAll] at h
  | x :: a, y :: b, h => by
    simp only [List.map_cons, keyToksAll, keyToks, List.cons_append, List.nil_append, List.cons.injEq, true_and, Sum.inl.injEq] at h
    rw [h.1, toks_ints_inj h.2]
theorem keyT_inj {a b : List Int} (h : keyToks (keyT a) = keyToks (keyT b)) : a = b := by
  unfold keyT at h
  simp only [keyToks, keyToksAll, List.cons_append, List.nil_append, List.cons.injEq, true_and] at h
  exact toks_ints_inj (List.append_cancel_right h.2)
abbrev rowLe : List Int → List Int → Bool := dataLe false keyT
theorem rowLe_def (a b : List Int) : rowLe a b = !dataLt (keyT b) (keyT a) := rfl
theorem rowLe_laws : TotalLe rowLe := sortLe_total (listOrd itemOrd) false fun b => keyToks (keyT b)
theorem rowLe_antisymm {a b : List Int} (h : rowLe a b = true) (h' : rowLe b a = true) : a = b := by
  rw [rowLe_def, Bool.not_eq_true'] at h h'
  exact keyT_inj (lex_total _ _ h' h)
theorem sortI_sorted (l : List (List Int)) : (sortI l).Pairwise fun a b => rowLe a b = true := List.pairwise_mergeSort rowLe_laws.trans (fun a b => by rw [Bool.or_eq_true]; exact rowLe_laws.total a b) l
theorem sortI_perm (l : List (List Int)) : (sortI l).Perm l := List.mergeSort_perm l _
theorem sortI_congr {l m : List (List Int)} (p : l.Perm m) : sortI l = sortI m :=
  List.Perm.eq_of_pairwise (fun a b _ _ h1 h2 => rowLe_antisymm h1 h2) (sortI_sorted l) (sortI_sorted m) ((sortI_perm l).trans (p.trans (sortI_perm m).symm))
theorem closeds_lt {ps : Ps} {bs : Bs} (hn : (closeds ps bs).Nodup) {i : Nat} (h : i + 1 < (closeds ps bs).length) : dataLt (keyT (closeds ps bs)[i]) (keyT (closeds ps bs)[i + 1]) = true := by
  have hs : (closeds ps bs).Pairwise fun a b => rowLe a b = true := sortI_sorted _
  have h1 := List.pairwise_iff_getElem.mp hs i (i + 1) (by omega) h (by omega)
  cases hc : dataLt (keyT (closeds ps bs)[i]) (keyT (closeds ps bs)[i + 1]) with
  | true => rfl
  | false =>
    have h2 : rowLe (closeds ps bs)[i + 1] (closeds ps bs)[i] = true := by rw [rowLe_def, hc]; rfl
    have := rowLe_antisymm h1 h2
    have := (List.getElem_inj hn).mp this
    omega
theorem keyD_row {bs : Bs} {am : Am} (hn : (bs.map (·.1)).Nodup) (ok : AmB bs am) (h : sortS (am.map (·.1)) = bs.map (·.1)) : keyD am = keyRow (rowOf bs am) := by
  unfold keyD keyRow
  rw [total_row hn ok, h, List.map_map]; rfl
end Em
set_option maxHeartbeats 1000000
/-! The logic over plain data (18): defs that raise. -/
namespace Em
open PySem PySem.Spec PyProof.Rows L2 RZ
/-- a def that may let out what it raises -/
structure CalX (P : Program) (w : World) (K : PySem.W.Frag) (mg : Str → Option Value) (base : Heap) (k : Nat) (x : Str) (sp : Sp) : Prop where
  ex : ∃ (f : Addr) (fd : FuncData) (ps : List Str), FnOk P w K mg base (L2.CX P w) k f fd ps sp ∧ mg x = some (.ref f) ∧ PySem.W.keepIn K (.ref f) = true ∧ Binds K fd ps []
/-- it raises c -/
def spX (K : PySem.W.Frag) (R : List Da → Str → Prop) : Sp := fun vs H _ E => ∃ S F ds c, Sep S F H ∧ RpL S vs ds ∧ R ds c ∧ ∀ S' H' d, Gr S S' → Sep S' F H' → Kf H H' → E (.ref (He.ga K c)) d H'
def wXs (f : Fr) (ss : List Stmt) (σ : L2.St) (H : Hp) (E : XK) : Prop := ∀ X pins s W, Okx f X.nox → Takes X W → (∀ cls d σ' H', E cls d H' → W cls d σ' H') → Inv X pins σ H s → wpAny (model X.prog X.w) X.A (execs ss X.env) (fun _ _ => False) X.xe s
/-- ss raises c -/
def TrX (f : Fr) (env : En) (ss : List Stmt) (c : Str) : Prop := ∀ S F σ H E, SlE S σ env → Sep S F H → (∀ S' H' d, Gr S S' → Sep S' F H' → Kf H H' → E (.ref (He.ga f.K c)) d H') → wXs f ss σ H E
def neverE : Ends := ⟨fun _ _ => False, fun _ _ => False, fun _ _ => False, fun _ _ => False⟩
theorem sp_never {X : Cx} {pins : List (Addr × Obj)} {fl : Flow} {s : Shared} (h : SP X pins neverE fl s) : False := by
  cases fl with
  | next => obtain ⟨_, _, _, h⟩ := h; exact h
  | brk => obtain ⟨_, _, _, h⟩ := h; exact h
  | cont => obtain ⟨_, _, _, h⟩ := h; exact h
  | ret u => obtain ⟨_, _, _, _, _, h⟩ := h; exact h
theorem PS.nox {X : Cx} {st : Stmt} {t : TS} (h : PS X.nox st t) : PS X st t := ⟨fun pins s σ H D I hw =>
  wpAny_mono (h.run pins s σ H D (I.wish _) hw) (fun _ _ q => q.unwish) fun _ _ z => False.elim z⟩
section
variable {f : Fr} {env env' : En} {pos : Pos} {st : Stmt} {ss : List Stmt} {c0 : Str}
theorem wXs_pss {X : Cx} {W : WX} {E : XK} (hX : Okx f X.nox) (tk : Takes X W) (hW : ∀ cls d σ' H', E cls d H' → W cls d σ' H') : PSs X ss (fun _ σ H => wXs f ss σ H E) := ⟨fun pins s σ H D I h =>
  wpAny_mono (h X pins s W hX tk hW I) (fun _ _ z => z.elim) fun _ _ z => z⟩
theorem trx_cons (h : ∀ F0, T1 f (Pv env fun _ F => F = F0) st (Pv env' fun _ F => F = F0) (fun _ _ _ => False)) (t : TrX f env' ss c0) : TrX f env (st :: ss) c0 := fun S F σ H E hσ hs q X pins s W hX tk hW I => by
  have p := pss_cons (PS.nox (pw_s (st := st) hX)) (wXs_pss (ss := ss) hX tk hW)
  refine wpAny_mono (p.run pins s σ H neverE I ?_) (fun _ _ z => sp_never z) fun _ _ z => z
  exact h F S F σ H _ ⟨hσ, Up.of rfl⟩ hs True.intro ⟨fun S' F' σ' H' g s k hp => by
    obtain ⟨h1, S0, g0, rfl⟩ := hp
    exact t S' F' σ' H' E h1 s fun S2 H2 d g2 s2 k2 => q S2 H2 d (g.trans g2) s2 (k.trans k2), fun _ _ _ _ _ _ _ z => z.elim⟩
/-- the first statement raises -/
theorem trx_here {t : XK → TS} (h : ∀ X W E, Okx f X.nox → Takes X W → (∀ cls d σ' H', E cls d H' → W cls d σ' H') → PS X st (t E)) (q : ∀ S F σ H E, SlE S σ env → Sep S F H → (∀ S' H' d, Gr S S' → Sep S' F H' → Kf H H' → E (.ref (He.ga f.K c0)) d H') → ∀ D, t E D σ H) : TrX f env (st :: ss) c0 := fun S F σ H E hσ hs qE X pins s W hX tk hW I => by
  have p := pss_cons (h X W E hX tk hW) (PSs.nox (pw_ss (st := ss) hX))
  exact wpAny_mono (p.run pins s σ H neverE I (q S F σ H E hσ hs qE _)) (fun _ _ z => sp_never z) fun _ _ z => z
theorem trx_if {c : Expr} {a b : List Stmt} (h : ET f env c true) (t : TrX f env a c0) (hpv : f.pv = [] := by rfl) : TrX f env (.If c a b pos :: ss) c0 :=
  trx_here (t := fun E => tIfS (wT f c) (fun _ σ H => wXs f a σ H E) (wSs f b)) (fun X W E hX tk hW => ps_if (PT.nox (pw_t hX)) (wXs_pss hX tk hW) (PSs.nox (pw_ss hX))) fun S F σ H E hσ hs q D => h S F σ H (fun p hp => by rw [hpv] at hp; cases hp) hσ hs _ fun S' H' g s k => by
    rw [if_pos rfl]
    exact t S' F σ H' E (hσ.mono g) s fun S2 H2 d g2 s2 k2 => q S2 H2 d (g.trans g2) s2 (k.trans k2)
/-- raise X('..') -/
theorem trx_raise {x m : Str} {j : Nat} {p p2 p3 : Pos} (M : Md f.K f.mg) (hx : He.Fa.exc x ∈ fa) (hglo : hasGlo x = true := by decide +kernel) (hg : GlS f x := by rfl) (hdb : (x == ("__debug__" : Str)) = false := by decide) : TrX f env (.Raise (some (.Call (.Name x p) [.Constant (.str m) j p2] [] p3)) none pos :: ss) x := by
  obtain ⟨h1, h2, h3, h4⟩ := He.exc_ok (M.says.facts hx)
  exact trx_here (t := fun E _ _ H => E (.ref (He.ga f.K x)) none H) (fun X W E hX tk hW => by
    have e1 : X.K = f.K := hX.K
    have p := ps_raise (X := X) (pos := pos) (show X.calm = true from hX.calm) tk (pmk_own (X := X) (C := He.ga f.K x) (m := m) (j := j) (p := p) (p2 := p2) (pos := p3) PySem.F.excBase_ValueError (by rw [e1]; exact h1) (by rw [show X.mg = f.mg from hX.mg]; exact M.glo x hglo) (by rw [e1]; exact h2) (raises_own (by rw [e1]; exact h3) (by rw [e1]; exact h4)) (hg.gl (X := X.nox) hX) hdb)
    exact ⟨fun pins s σ H D I hw => p.run pins s σ H D I (hW _ _ _ _ hw)⟩) fun S F σ H E hσ hs q D => q S H none (Gr.refl _) hs (Kf.refl _)
/-- a call of a def that raises -/
theorem trx_call {x : Str} {p cp : Pos} {e : Expr} {es : List Expr} {R : List Da → Str → Prop} {k : Nat} {ds : List Da} (c : CalX f.P f.w f.K f.mg f.base k x (spX f.K R)) (ha : EA f env (e :: es) ds) (hR : R ds c0) (hpv : f.pv = [] := by rfl) (hk : k ≤ f.k := by exact Nat.le_of_ble_eq_true rfl) (hg : GlS f x := by rfl)
    (hdb : (x == ("__debug__" : Str)) = false := by decide) (he : ∀ env, starEach (e :: es) env = (false, eval e env) :: starEach es env := by intro _; rfl) (hpl : ∀ env, (backTo cp (starEach es env)).any (·.1) = false := by intro _; rfl)
    (hsw : ∀ l env, swapsWith (.Call (.Name x p) (e :: es) [] cp) none l env = pure false := by intro _ _; rfl) : TrX f env (.Expr (.Call (.Name x p) (e :: es) [] cp) pos :: ss) c0 :=
  trx_here (t := fun E => tDrop (tCall (spX f.K R) [] E (wA f (e :: es)))) (fun X W E hX tk hW => by
    obtain ⟨g, fd, ps, F, hm, kp, b⟩ := c.ex
    have e1 : X.prog = f.P := hX.prog
    have e2 : X.w = f.w := hX.w
    have e3 : X.K = f.K := hX.K
    have e4 : X.mg = f.mg := hX.mg
    have e5 : X.base = f.base := hX.base
    have hr : Room f.k X.A := hX.room
    refine ps_expr (pe_call (X := X) (CX := L2.CX f.P f.w) (by rw [e1, e2, e3, e4, e5]; exact F) (hr.mono hk) (hg.gl (X := X.nox) hX) (by rw [e4]; exact hm) (by rw [e3]; exact kp) (by rw [e3]; exact b) .nil (by rw [← e1, ← e2]; exact passes_call tk hW) ?_ hdb (he _) (hpl _)) (hsw _ _)
    exact ⟨fun pos pins s σ H Q I h => wpAny_mono ((pw_a hX).run pos pins s σ H Q (I.wish _) h) (fun _ _ ⟨v, H', I', r, q⟩ => ⟨v, H', I'.unwish, r, q⟩) fun _ _ z => False.elim z⟩) fun S F σ H E hσ hs q D => ha S F σ H (fun p hp => by rw [hpv] at hp; cases hp) hσ hs _ fun vs S' H' g s k r => ⟨S', F, ds, c0, s, by rw [List.append_nil]; exact r, hR, fun S2 H2 d g2 s2 k2 => q S2 H2 d (g.trans g2) s2 (k.trans k2)⟩
end
section
variable {P : Program} {w : World} {K : PySem.W.Frag} {mg : Str → Option Value} {base : Heap}
theorem calX (M : Md K mg) (d : He.DefD) (N ps : List Str) {x : Str} {k : Nat} {R : List Da → Str → Prop} (hd : d ∈ fn) (ha : d.at_ = (x, none)) (hg : hasGlo x = true) (h0 : d.dfl = []) (h00 : d.kwd = [])
    (hb : ∀ (kV doc pm : Value) (an : Option Addr) (cdv ct : Value) (us : List Value), us.length = ps.length → bindArgs (PySem.W.fnOf d.name d.qual d.params d.body d.scope .none kV doc pm an cdv ct) ⟨us, []⟩ = pure (ps.zip us))
    (hS : C8.scC N ps d.scope = true) (len : ∀ ds z, R ds z → ds.length = ps.length)
    (h : ∀ ds c, R ds c → TrX ⟨P, w, K, mg, base, N, d.scope, k, [], fun _ => true, none⟩ (startE N ds) d.body c) : CalX P w K mg base (k + 1) x (spX K R) := by
  obtain ⟨fd, F⟩ := M.says.defs hd
  have e1 : He.DefD.dvs K d = [] := by unfold He.DefD.dvs; rw [h0]; rfl
  have e2 : He.DefD.kws K d = [] := by unfold He.DefD.kws; rw [h00]; rfl
  have e3 : He.fAd K d.at_ = He.ga K x := by rw [ha]; rfl
  rw [e1, e2, e3] at F
  refine ⟨_, fd, ps, F.ok (CX := L2.CX P w) (C8.fnScope_by hS) (fun vs H Q E ⟨S, F, ds, z, _, r, hR, _⟩ => r.1.trans (len ds z hR)) fun cdv A outer s H vs Q E hr ⟨S, F0, ds, c, hs, r, hR, q⟩ => ?_, M.glo x hg, F.kp, F.bindsN hb⟩
  have okx := okx_def (P := P) (w := w) (K := K) (mg := mg) (base := base) (CX := L2.CX P w) (E := E) (pv := []) (cq := none) (qual := d.qual) (fa := He.ga K x) (cd := cdv) (outer := outer) (H := H) (s := s) (C8.fnScope_by hS) hr
  refine ⟨_, wXs_pss (W := fun cls d _ H' => E cls d H') okx (takes_of rfl rfl rfl rfl) (fun cls d σ' H' z => z), h ds c hR S F0 _ H E (sle_start r) hs q⟩
end
end Em
set_option maxHeartbeats 1000000
/-! The walk (25): the defs that raise. -/
namespace Em
open PySem PySem.Spec PyProof.Rows L2 RZ
section
variable {f : Fr} {env : En} {pos : Pos}
theorem cd_isiNone (Z : Mz f.K) : CD f (.builtin "isinstance") [dN, .v (.ref (He.ga f.K "Sheet"))] (dB false) := .of (rIsi f.K) (fun X hX => by rw [← hX.K]; exact call_isi) fun S F H vs hs r Q k => by
  obtain ⟨v, w, rfl, r1, r2⟩ := two_args r
  obtain rfl := r2.v_inv
  obtain rfl := r1.v_inv
  exact ⟨_, _, .type "NoneType", .ref _, false, rfl, .own _, .base .non, Z.no, k.here hs (.v _)⟩
theorem ex_isiNone {e : Expr} {p q : Pos} (M : Md f.K f.mg) (Z : Mz f.K) (h : EX f env e dN) (hg : GlS f "isinstance" := by rfl) (hgT : GlS f "Sheet" := by rfl)
    (he : ∀ env, starEach [e, .Name "Sheet" q] env = (false, eval e env) :: starEach [.Name "Sheet" q] env := by intro _; rfl) (hpl : ∀ env, (backTo pos (starEach [.Name "Sheet" q] env)).any (·.1) = false := by intro _; rfl) : EX f env (.Call (.Name "isinstance" p) [e, .Name "Sheet" q] [] pos) (dB false) :=
  ex_callB (cd_isiNone Z) (ea_cons h (ea_cons (ex_glob (v := .ref (He.ga f.K "Sheet")) (M.glo "Sheet") rfl hgT) ea_nil (fun _ => rfl)) he) (M.free "isinstance") (by decide +kernel) hg (by decide) (by decide) he hpl
end
/-- amounts that are none -/
inductive Wrong (bs : Bs) : Da → Prop
  | non : Wrong bs dN
  | lst : Wrong bs (.lst [])
  | name (x : Str) (i : Int) (h : lk bs x = none) : Wrong bs (dA [(x, i)])
  | neg (x : Str) (i : Int) (h : (lk bs x).isSome = true) (hi : i < 0) : Wrong bs (dA [(x, i)])
section
variable {P : Program} {w : World} {K : PySem.W.Frag} {mg : Str → Option Value} {base : Heap}
theorem x_check_sheet (M : Md K mg) (Z : Mz K) : CalX P w K mg base 1 "check_sheet" (spX K fun ds c => ds = [dN] ∧ c = "BadSheet") := by
  refine calX M d_check_sheet ["sheet"] ["sheet"] (by simp [fn]) rfl (by decide +kernel) rfl rfl (fun _ _ _ _ _ _ us hl => match us, hl with | [_], _ => rfl) (by decide +kernel) (fun ds d ⟨h, _⟩ => by subst h; rfl) ?_
  rintro ds c ⟨rfl, rfl⟩
  exact trx_if (ET.cast (et_not (et_val (ex_isiNone M Z (ex_var 0)))) rfl) (trx_raise M (by simp [fa]))
theorem x_least_closings (M : Md K mg) (Z : Mz K) : CalX P w K mg base 2 "least_closings" (spX K fun ds c => ds = [dN] ∧ c = "BadSheet") := by
  refine calX M d_least_closings ["sheet", "row", "name", "number"] ["sheet"] (by simp [fn]) rfl (by decide +kernel) rfl rfl (fun _ _ _ _ _ _ us hl => match us, hl with | [_], _ => rfl) (by decide +kernel) (fun ds d ⟨h, _⟩ => by subst h; rfl) ?_
  rintro ds c ⟨rfl, rfl⟩
  exact trx_call (x_check_sheet M Z) (ea_cons (ex_var 0) ea_nil) ⟨rfl, rfl⟩
theorem x_check_balanced (M : Md K mg) : CalX P w K mg base 6 "check_balanced" (spX K fun ds c => ∃ ps bs am, Good ps bs ∧ AmOk bs am ∧ balanced ps bs am = false ∧ ds = [Sh K ps bs, dA am] ∧ c = "NotBalanced") := by
  refine calX M d_check_balanced ["sheet", "amounts"] ["sheet", "amounts"] (by simp [fn]) rfl (by decide +kernel) rfl rfl (fun _ _ _ _ _ _ us hl => match us, hl with | [_, _], _ => rfl) (by decide +kernel) (fun ds d ⟨_, _, _, _, _, _, h, _⟩ => by subst h; rfl) ?_
  rintro ds c ⟨ps, bs, am, g, ok, hb, rfl, rfl⟩
  exact trx_if (ET.cast (et_not (et_val (ex_call (c_is_balanced M) (ea_cons (ex_var 0) (ea_cons (ex_var 1) ea_nil)) ⟨ps, bs, am, g, ok, rfl, rfl⟩))) (by rw [hb]; rfl)) (trx_raise M (by simp [fa]))
theorem x_check_amounts (M : Md K mg) (Z : Mz K) : CalX P w K mg base 2 "check_amounts" (spX K fun ds c => ∃ ps bs a, Wrong bs a ∧ ds = [Sh K ps bs, a] ∧ c = "BadAmounts") := by
  refine calX M d_check_amounts ["sheet", "amounts", "name", "number"] ["sheet", "amounts"] (by simp [fn]) rfl (by decide +kernel) rfl rfl (fun _ _ _ _ _ _ us hl => match us, hl with | [_, _], _ => rfl) (by decide +kernel) (fun ds d ⟨_, _, _, _, h, _⟩ => by subst h; rfl) ?_
  rintro ds c ⟨ps, bs, a, hw, rfl, rfl⟩
  refine trx_cons (fun F0 => t1_expr (ex_call (c_check_sheet M Z) (ea_cons (ex_var 0) ea_nil) ⟨ps, bs, rfl, rfl⟩)) ?_
  have hdict : ∀ {t : String} {b : Bool} {d : Da}, True := trivial
  cases hw with
  | non => exact trx_if (et_w (ew_or (x := true) (ET.cast (et_not (et_val (ex_isi (T := "dict") (b := false) (ex_var 1) rfl (by decide +kernel) (M.free "isinstance") (M.free "dict") (by decide +kernel)))) rfl) (y := true) fun h => nomatch h)) (trx_raise M (by simp [fa]))
  | lst => exact trx_if (et_w (ew_or (x := true) (ET.cast (et_not (et_val (ex_isi (T := "dict") (b := false) (ex_var 1) rfl (by decide +kernel) (M.free "isinstance") (M.free "dict") (by decide +kernel)))) rfl) (y := true) fun h => nomatch h)) (trx_raise M (by simp [fa]))
  | name x i h =>
    refine trx_if (ET.cast (et_w (ew_or (x := false) (ET.cast (et_not (et_val (ex_isi (T := "dict") (b := true) (ex_var 1) rfl (by decide +kernel) (M.free "isinstance") (M.free "dict") (by decide +kernel)))) rfl) fun _ => ew_or1 (et_not (et_val (ex_all (r := fun a => (lk bs a.1).isSome) (ex_lockV 1 (ex_mapP [(x, i)] [("name", 2)] (.cast (it_keys (src_var 1)) (keysD_dD dI [(x, i)])) (by show 1 ≤ 10000000; decide) (fun a _ => tg_name 2) (fun a ha => EX.cast (ex_and (x := true) (ex_isi (T := "str") (ex_var 2) rfl (by decide +kernel) (M.free "isinstance") (M.free "str") (by decide +kernel)) fun _ => ex_one (ex_cmp (od_inOwn (m_has M) ⟨ps, bs, _, rfl, rfl⟩) (ex_var 2) (ex_var 0))) (by rw [Bool.true_and])))) (M.free "all")))))) ?_) (trx_raise M (by simp [fa]))
    simp [h]
  | neg x i h hi =>
    refine trx_cons (fun F0 => t1_if (x := false) (ET.cast (et_w (ew_or (x := false) (ET.cast (et_not (et_val (ex_isi (T := "dict") (b := true) (ex_var 1) rfl (by decide +kernel) (M.free "isinstance") (M.free "dict") (by decide +kernel)))) rfl) fun _ => ew_or1 (et_not (et_val (ex_all (r := fun _ => true) (ex_lockV 1 (ex_mapP [(x, i)] [("name", 2)] (.cast (it_keys (src_var 1)) (keysD_dD dI [(x, i)])) (by show 1 ≤ 10000000; decide) (fun a _ => tg_name 2) (fun a ha => EX.cast (ex_and (x := true) (ex_isi (T := "str") (ex_var 2) rfl (by decide +kernel) (M.free "isinstance") (M.free "str") (by decide +kernel)) fun _ => ex_one (ex_cmp (od_inOwn (m_has M) ⟨ps, bs, _, rfl, rfl⟩) (ex_var 2) (ex_var 0))) (by rw [List.mem_singleton] at ha; subst ha; rw [h]; rfl)))) (M.free "all")))))) rfl) (fun h => nomatch h) fun _ => tr_nil fun _ _ _ h => h) ?_
    refine trx_if (ET.cast (et_not (et_val (ex_all (r := fun _ => false) (ex_lockV 1 (ex_mapP [(x, i)] [("number", 3)] (.cast (it_vals (src_var 1)) (vals_dD dI [(x, i)])) (by show 1 ≤ 10000000; decide) (fun a _ => tg_name 3) (fun a ha => EX.cast (ex_and (x := true) (ex_call (c_whole M) (ea_cons (ex_var 3) ea_nil) ⟨_, rfl, rfl⟩) fun _ => ex_one (ex_ge (ex_var 3) ex_int)) (by rw [List.mem_singleton] at ha; subst ha; rw [decide_eq_false (by show ¬ (0 : Int) ≤ i; omega)]; rfl)))) (M.free "all")))) rfl) (trx_raise M (by simp [fa]))
theorem x_always_one (M : Md K mg) (Z : Mz K) : CalX P w K mg base 7 "always_one" (spX K fun ds c => (∃ ps bs a, Wrong bs a ∧ ds = [Sh K ps bs, a] ∧ c = "BadAmounts") ∨ ∃ ps bs am, Good ps bs ∧ AmOk bs am ∧ (∀ a ∈ am, 0 ≤ a.2) ∧ balanced ps bs am = false ∧ ds = [Sh K ps bs, dA am] ∧ c = "NotBalanced") := by
  refine calX M d_always_one ["sheet", "amounts", "row"] ["sheet", "amounts"] (by simp [fn]) rfl (by decide +kernel) rfl rfl (fun _ _ _ _ _ _ us hl => match us, hl with | [_, _], _ => rfl) (by decide +kernel) (fun ds d h => by rcases h with ⟨_, _, _, _, h, _⟩ | ⟨_, _, _, _, _, _, _, h, _⟩ <;> subst h <;> rfl) ?_
  rintro ds c (⟨ps, bs, a, hw, rfl, rfl⟩ | ⟨ps, bs, am, g, ok, h0, hb, rfl, rfl⟩)
  · exact trx_call (x_check_amounts M Z) (ea_cons (ex_var 0) (ea_cons (ex_var 1) ea_nil)) ⟨ps, bs, a, hw, rfl, rfl⟩
  · refine trx_cons (fun F0 => t1_expr (ex_call (c_check_amounts M Z) (ea_cons (ex_var 0) (ea_cons (ex_var 1) ea_nil)) ⟨ps, bs, am, ok, h0, rfl, rfl⟩)) ?_
    exact trx_call (x_check_balanced M) (ea_cons (ex_var 0) (ea_cons (ex_var 1) ea_nil)) ⟨ps, bs, am, g, ok, hb, rfl, rfl⟩
end
end Em
set_option maxHeartbeats 1000000
/-! The logic over plain data (19): _law_error(lambda: a call that raises). -/
namespace Em
open PySem PySem.Spec PyProof.Rows L2 RZ LamX
def isErr (c : Str) : Prop := c = "BadSheet" ∨ c = "BadAmounts" ∨ c = "NotBalanced"
def TErr (K : PySem.W.Frag) : (XK → Hp → VK → Prop) → Hp → VK → Prop := fun tl H Q => ∃ c, isErr c ∧ ∀ Qn : VK, tl (fun cls _ H' => cls = .ref (He.ga K c) ∧ Q (.str c) H') H Qn
theorem Md.exm {K : PySem.W.Frag} {mg : Str → Option Value} (M : Md K mg) {x y : Str} {b : Bool} (h : He.Fa.exm x y b ∈ fa) : PySem.W.exmOne K (.ref (He.ga K x)) (.ref (He.ga K y)) = some b := He.exm_ok (M.says.facts h)
theorem error_gives {X : Cx} (M : Md X.K X.mg) {g : Addr} {cdg : Value} {q : Str} : GivesTo X ["_law_work"] "_law_error" d_law_error.scope g cdg d_law_error.body "_law_work" q (TErr X.K) := by
  intro f c' s H Q tl act hc h
  obtain ⟨c, hcE, h⟩ := h
  have gl : ∀ x : Str, d_law_error.scope.names.lookup x = some .globalImplicit → Gl (cxOf C8.CX0 X.prog X.w X.K X.mg X.base ["_law_work"] "_law_error" d_law_error.scope g cdg X.A X.stack s H C8.E0).nox x := fun x h => h
  refine ⟨_, pss_one (ps_try_manyE (X := (cxOf C8.CX0 X.prog X.w X.K X.mg X.base ["_law_work"] "_law_error" d_law_error.scope g cdg X.A X.stack s H C8.E0).nox)
    (l := [(.ref (He.ga X.K "BadSheet"), fun _ _ _ D σ H => D.rt (.str "BadSheet") H), (.ref (He.ga X.K "BadAmounts"), fun _ _ _ D σ H => D.rt (.str "BadAmounts") H), (.ref (He.ga X.K "NotBalanced"), fun _ _ _ D σ H => D.rt (.str "NotBalanced") H)])
    (tb := fun W D σ H => ∃ Ech : XK, (∀ cls d σ' H', Ech cls d H' → W cls d σ' H') ∧ σ[0]? = some (some (.ref f)) ∧ H c' = some (CodeO c' q) ∧ tl Ech H (fun _ H1 => D.nx σ H1))
    (pss_one (ps_ret pe_non)) rfl rfl L2.takes0 (fun W pn xe tk _ => ?_) ?_), ?_⟩
  · refine ⟨fun pins s' σ H' D I h' => ?_⟩
    obtain ⟨Ech, hW, h1, h2, h3⟩ := h'
    exact (pss_one (ps_expr (act W pn xe Ech _ _ tk hW))).run pins s' σ H' D I ⟨h1, h2, h3⟩
  · refine .cons ⟨gl _ (by decide +kernel), by decide, .inl (M.glo "BadSheet")⟩ (fun a oe cls d pn _ _ => pss_one (ps_ret pe_str)) (.cons ⟨gl _ (by decide +kernel), by decide, .inl (M.glo "BadAmounts")⟩ (fun a oe cls d pn _ _ => pss_one (ps_ret pe_str)) (.cons ⟨gl _ (by decide +kernel), by decide, .inl (M.glo "NotBalanced")⟩ (fun a oe cls d pn _ _ => pss_one (ps_ret pe_str)) .nil))
  · refine ⟨fun cls _ H' => cls = .ref (He.ga X.K c) ∧ Q (.str c) H', fun cls d σ' H' z => ?_, rfl, hc, h _⟩
    obtain ⟨rfl, z⟩ := z
    rcases hcE with rfl | rfl | rfl
    · exact ⟨true, M.exm (by simp [fa]), fun _ a _ => z, fun z => absurd z (by decide)⟩
    · refine ⟨false, M.exm (by simp [fa]), fun z => absurd z (by decide), fun _ => ?_⟩
      exact ⟨true, M.exm (by simp [fa]), fun _ a _ => z, fun z => absurd z (by decide)⟩
    · refine ⟨false, M.exm (by simp [fa]), fun z => absurd z (by decide), fun _ => ?_⟩
      refine ⟨false, M.exm (by simp [fa]), fun z => absurd z (by decide), fun _ => ?_⟩
      exact ⟨true, M.exm (by simp [fa]), fun _ a _ => z, fun z => absurd z (by decide)⟩
/-- the frame of a lambda's body -/
abbrev Fr.lam (f : Fr) (scope : Scope) (k : Nat) : Fr := { f with sc := scope, own := fun _ => false, cq := none, k := k, pv := [] }
theorem okx_lam {f : Fr} {X : Cx} (hX : Okx f X) {A : Around} {outer : List Env} {s : Shared} {H : Hp} {E : XK} {scope : Scope} {g c' : Addr} {k : Nat} (hr : Room k (A.deeper (lamEnv X scope s.heap.objs.size g c'))) : Okx (f.lam scope k) (lamCx X A outer s H E scope g c').nox where
  prog := hX.prog
  w := hX.w
  K := hX.K
  mg := hX.mg
  base := hX.base
  N := hX.N
  sc := rfl
  calm := rfl
  room := hr
  nox := rfl
  fn := fun x e => by cases e
  nd := hX.nd
  code := fun p e => by cases e
section
variable {f : Fr} {env : En} {pos : Pos}
theorem ex_error {T : List (Addr × Str)} {a0 c P : Addr} {q x : Str} {d0 : Da} {e : Expr} {es : List Expr} {params : Arguments} {scope : Scope} {p lpos p1 cp : Pos} {R : List Da → Str → Prop} {k0 : Nat} {ds : List Da} {c0 : Str} (M : Md f.K f.mg) (i k : Nat) (cx : CalX f.P f.w f.K f.mg f.base k0 x (spX f.K R)) (ha : EA (f.lam scope k) env (e :: es) ds) (hR : R ds c0) (hE : isErr c0)
    (hcq : f.cq = some (c, q)) (TB : LamX.TabB f.base f.mg c P) (hmT : (P, q ++ "<lambda>") ∈ T) (hu : ∀ p ∈ T, p.1 = P → p.2 = q ++ "<lambda>") (he : env[i]? = some (some (.tb a0 T d0)) := by rfl) (hk : k + 2 ≤ f.k := by exact Nat.le_of_ble_eq_true rfl) (hk0 : k0 ≤ k := by exact Nat.le_of_ble_eq_true rfl) (hg : GlS f "_law_error" := by rfl) (hgx : scope.names.lookup x = some .globalImplicit := by rfl)
    (L : lamSB f.sc scope = true := by decide +kernel) (hdef : ∀ env, defaultsOf params env = ([], []) := by exact fun _ => rfl) (hdx : (x == ("__debug__" : Str)) = false := by decide)
    (hbind : ∀ (q : Str) (cl : List (Str × Addr)) (pm cv ctv : Value), bindArgs (PySem.W.kla_fn "<lambda>" q params (.Call (.Name x p1) (e :: es) [] cp) scope cl pm cv ctv) ⟨[], []⟩ = pure [] := by exact fun _ _ _ _ _ => rfl)
    (hse : ∀ env, starEach (e :: es) env = (false, eval e env) :: starEach es env := by intro _; rfl) (hpl : ∀ env, (backTo cp (starEach es env)).any (·.1) = false := by intro _; rfl) :
    EX f env (.Call (.Name "_law_error" p) [.Lambda params (.Call (.Name x p1) (e :: es) [] cp) scope lpos] [] pos) (dS c0) := fun S F σ H hp hσ hs Q hq => by
  obtain ⟨v0, _, b0⟩ := hσ.2 i _ he
  have m0 := b0.tb_inv.1
  obtain ⟨fd, Fd⟩ := M.says.defs (d := d_law_error) (by simp [fn])
  have e1 : He.DefD.dvs f.K d_law_error = [] := rfl
  have e2 : He.DefD.kws f.K d_law_error = [] := rfl
  have e3 : He.fAd f.K d_law_error.at_ = He.ga f.K "_law_error" := rfl
  rw [e1, e2, e3] at Fd
  have hbn := Fd.bindsN (ps := ["_law_work"]) fun _ _ _ _ _ _ us hl => match us, hl with | [_], _ => rfl
  have kp := Fd.kp
  obtain ⟨oc, od, dV, kV, doc, pm, an, cdv, ct, osl, rfl, lk, hcg, _, _⟩ := Fd.ex
  refine wE_of (te := tLam T (TErr f.K) (fun E => tCall (spX f.K R) [] E (wA (f.lam scope k) (e :: es)))) (fun X hX => ?_) ?_
  · have hc := hX.code _ hcq
    have g1 : X.K = f.K := hX.K
    have g2 : X.mg = f.mg := hX.mg
    have g3 : X.base = f.base := hX.base
    have M' : Md X.K X.mg := by rw [g1, g2]; exact M
    have G := error_gives (X := X) M' (g := He.ga f.K "_law_error") (cdg := cdv) (q := X.env.qual ++ "<lambda>")
    rw [g1] at G
    obtain ⟨gx, fdx, psx, Fx, hmx, kpx, bx⟩ := cx.ex
    refine pe_lamcall (c := c) (P := P) (k := k) (Ng := ["_law_work"]) (a := "_law_work") (hg.gl hX) (by rw [g2]; exact M.glo "_law_error") (by rw [g1]; exact kp) (by rw [g1]; exact lk) (by rw [g1]; exact hcg) (by rw [g1]; exact hbn) (C8.fnScope_by (by decide +kernel)) rfl (.inl rfl) G (by rw [g3, g2]; exact TB) hc.1 (by rw [hc.2]; exact hmT) (fun p hp h => by rw [hc.2]; exact hu p hp h) (hX.room.mono hk) (lamS_by (by rw [hX.sc]; exact L)) (hdef _) hbind fun A outer s H E f' c' hr => ?_
    have ok := okx_lam hX (A := A) (outer := outer) (s := s) (H := H) (E := E) (scope := scope) (g := f') (c' := c') hr
    refine pe_call (X := lamCx X A outer s H E scope f' c') (CX := L2.CX f.P f.w) (by rw [show (lamCx X A outer s H E scope f' c').prog = f.P from hX.prog, show (lamCx X A outer s H E scope f' c').w = f.w from hX.w, show (lamCx X A outer s H E scope f' c').K = f.K from g1, show (lamCx X A outer s H E scope f' c').mg = f.mg from g2, show (lamCx X A outer s H E scope f' c').base = f.base from g3]; exact Fx) (hr.mono hk0) hgx (by rw [show (lamCx X A outer s H E scope f' c').mg = f.mg from g2]; exact hmx) (by rw [show (lamCx X A outer s H E scope f' c').K = f.K from g1]; exact kpx) (by rw [show (lamCx X A outer s H E scope f' c').K = f.K from g1]; exact bx) .nil ?_ ?_ hdx (hse _) (hpl _)
    · have := passes_call (X := lamCx X A outer s H E scope f' c') (takes_of rfl rfl rfl rfl) (fun cls d σ H z => z)
      rw [show (lamCx X A outer s H E scope f' c').prog = f.P from hX.prog, show (lamCx X A outer s H E scope f' c').w = f.w from hX.w] at this
      exact this
    · exact ⟨fun pos pins s σ H Q I h => wpAny_mono ((pw_a ok).run pos pins s σ H Q (I.wish _) h) (fun _ _ ⟨v, H', I', r, q⟩ => ⟨v, H', I'.unwish, r, q⟩) fun _ _ z => False.elim z⟩
  · refine ⟨hs.tabs m0, fun H1 eN T1 => ⟨c0, hE, fun Qn => ?_⟩⟩
    have s1 := hs.extN m0 eN T1
    refine ha S F σ H1 (fun p hp => by cases hp) hσ s1 _ fun vs S2 H2 g2 s2 k2 r => ⟨S2, F, ds, c0, s2, by rw [List.append_nil]; exact r, hR, fun S3 H3 d g3 s3 k3 => ⟨rfl, hq _ _ _ (g2.trans g3) s3 ((Kf.extN eN).trans (k2.trans k3)) (.v _)⟩⟩
end
end Em
set_option maxHeartbeats 1000000
/-! The logic over plain data (20): where public things change: triples that keep nothing but the state; a new draw object; slices of lists. -/
namespace Em
open PySem PySem.Spec PyProof.Rows L2 RZ
/-- no dict was locked where the def began -/
def NoLk (X : Cx) : Prop := ∀ a o u, X.H_0 a = some (.frz o u) → ¬ isDic u
def wSs0 (f : Fr) (ss : List Stmt) : TS := fun D σ H => ∀ X pins s, Okx f X → NoLk X → Inv X pins σ H s → wpAny (model X.prog X.w) X.A (execs ss X.env) (SP X pins D) X.xe s
structure DN0 (D : Ends) (Nx : Pr) (Rt : Rr) : Prop where
  nx : ∀ S' F' σ' H', Sep S' F' H' → Nx S' F' σ' → D.nx σ' H'
  rt : ∀ S' F' v H', Sep S' F' H' → Rt S' F' v → D.rt v H'
def Tr0 (f : Fr) (P : Pr) (ss : List Stmt) (Nx : Pr) (Rt : Rr) : Prop := ∀ S F σ H D, P S F σ → Sep S F H → DN0 D Nx Rt → wSs0 f ss D σ H
theorem DN0.dn {D : Ends} {Nx : Pr} {Rt : Rr} (d : DN0 D Nx Rt) {S H : Hp} : DN S H D Nx Rt := ⟨fun S' F' σ' H' _ b _ e => d.nx S' F' σ' H' b e, fun S' F' v H' _ b _ e => d.rt S' F' v H' b e⟩
section
variable {f : Fr} {P Q Mid Nx : Pr} {Rt : Rr} {st : Stmt} {ss : List Stmt} {pos : Pos}
theorem pw_s0 {X : Cx} (h : Okx f X) (n : NoLk X) : PSs X ss (wSs0 f ss) := ⟨fun pins s σ H D I q => q X pins s h n I⟩
theorem tr0_of (h : Tr f P ss Nx Rt) : Tr0 f P ss Nx Rt := fun S F σ H D hp hs d X pins s hX _ I => h S F σ H D hp hs d.dn X pins s hX I
theorem tr0_cons (h : T1 f P st Mid Rt) (t : Tr0 f Mid ss Nx Rt) : Tr0 f P (st :: ss) Nx Rt := fun S F σ H D hp hs d X pins s hX hn I =>
  (pss_cons (pw_s hX) (pw_s0 hX hn)).run pins s σ H D I (h S F σ H _ hp hs True.intro ⟨fun S' F' σ' H' _ b _ e => t S' F' σ' H' D e b d, fun S' F' v H' _ b _ e => d.rt S' F' v H' b e⟩)
theorem tr0_ex {α : Type} {Pa : α → Pr} (h : ∀ a, Tr0 f (Pa a) ss Nx Rt) : Tr0 f (fun S F σ => ∃ a, Pa a S F σ) ss Nx Rt := fun S F σ H D ⟨a, hp⟩ hs d => h a S F σ H D hp hs d
theorem tr0_and {φ : Prop} (h : φ → Tr0 f P ss Nx Rt) : Tr0 f (fun S F σ => φ ∧ P S F σ) ss Nx Rt := fun S F σ H D ⟨a, hp⟩ hs d => h a S F σ H D hp hs d
theorem tr0_pre (h : Tr0 f Q ss Nx Rt) (w : ∀ S F σ, P S F σ → Q S F σ) : Tr0 f P ss Nx Rt := fun S F σ H D hp hs d => h S F σ H D (w _ _ _ hp) hs d
theorem tr0_no : Tr0 f none_ ss Nx Rt := fun _ _ _ _ _ h => h.elim
/-- if c: a, then the rest -/
theorem tr0_if {env : En} {C : Cd} {c : Expr} {a : List Stmt} {b : Bool} (h : ET f env c b) (ha : b = true → Tr0 f (Pv env C) a Mid Rt) (hb : b = false → ∀ S F σ, Pv env C S F σ → Mid S F σ) (t : Tr0 f Mid ss Nx Rt) (hc : Sees f C := by exact Sees.nil rfl) : Tr0 f (Pv env C) (.If c a [] pos :: ss) Nx Rt := fun S F σ H D hp hs d X pins s hX hn I =>
  (pss_cons (ps_if (pw_t hX) (pw_s0 hX hn) pss_nil) (pw_s0 hX hn)).run pins s σ H D I (h S F σ H (hc.up hp.2) hp.1 hs _ fun S' H' g s' k => by
    cases b with
    | true => rw [if_pos rfl]; exact ha rfl S' F σ H' _ (hp.mono g) s' ⟨fun S2 F2 σ2 H2 b e => t S2 F2 σ2 H2 D e b d, d.rt⟩
    | false => rw [if_neg (by decide)]; exact t S' F σ H' D (hb rfl _ _ _ (hp.mono g)) s' d)
/-- what is locked may be unlocked -/
theorem wSs0_unl {D : Ends} {σ : L2.St} {H : Hp} {a : Addr} {o : HO} (h : At H a o) (hd : isDic o) (q : ∀ H', (∀ b, b ≠ a → H' b = H b) → H' a = some o → wSs0 f ss D σ H') : wSs0 f ss D σ H := by
  rcases h with h | ⟨_, ob, h⟩
  · exact q H (fun _ _ => rfl) h
  · intro X pins s hX hn I
    have hn0 : ∀ o' u', X.H_0 a ≠ some (.frz o' u') := fun o' u' e => by
      have e2 := I.base.frzs a o' u' e
      rw [h] at e2
      cases e2
      exact hn a _ _ e hd
    exact q (upd H a o) (fun b hb => upd_ne hb) upd_same X pins s hX hn (I.unlock h hn0)
theorem Sep.swap {S F H H' : Hp} {a : Addr} {o : HO} (s : Sep S F H) (hS : S a = some o) (hd : isDic o) (h1 : ∀ b, b ≠ a → H' b = H b) (h2 : H' a = some o) : Sep S F H' where
  pub0 := fun b u e nt => by
    by_cases hb : b = a
    · subst hb; rw [hS] at e; cases e; exact .inl h2
    · have := s.pub0 b u e nt
      unfold At at this ⊢
      rw [h1 b hb]; exact this
  tab := fun b ps e => by
    obtain ⟨T, h3, h4, h5⟩ := s.tab b ps e
    have hne : ∀ {c : Addr} {u : HO}, H c = some u → isTE u → c ≠ a := fun {c u} e1 e2 z => by
      subst z
      rcases s.pub0 c o hS hd.nt with z | ⟨_, ob, z⟩
      · rw [e1] at z; cases z; exact hd.nte e2
      · rw [e1] at z; cases z; exact e2
    refine ⟨T, h3, fun q hq => ?_, h5⟩
    obtain ⟨ps, q1, q2, q3⟩ := h4 q hq
    refine ⟨ps, by rw [h1 _ (hne q1 True.intro)]; exact q1, q2, fun pos cv hc => ?_⟩
    obtain ⟨c, e1, e2⟩ := q3 pos cv hc
    exact ⟨c, e1, by rw [h1 _ (hne e2 True.intro)]; exact e2⟩
  one := s.one
  prv := fun b u e => by
    have hb : b ≠ a := fun z => by subst z; rw [s.apart b o hS] at e; cases e
    rw [h1 b hb]; exact s.prv b u e
  apart := s.apart
  ntup := s.ntup
  nte := s.nte
end
/-! ### a new draw object -/
section
variable {f : Fr} {env : En} {pos : Pos}
theorem wE_shut {e : Expr} {σ : L2.St} {H : Hp} {Q : VK} (q : wE f e σ H fun v H' => ∃ a w n, H' a = some (DrawL w n) ∧ Q v (upd H' a (DrawO a w))) : wE f e σ H Q := fun X pins s hX I =>
  thn (q X pins s hX I) fun v s1 ⟨x, H1, I1, r, a, w, n, h, k⟩ => ⟨x, _, draw_shut I1 ⟨n, h⟩, r, k⟩
theorem ex_newDraw {e : Expr} {d : Da} {k1 k2 : Nat} {p1 p2 : Pos} (h : EX f env e d) (hse : ∀ env, starEach [e, .Constant (.int 0) k1 p1, .Constant (.int 0) k2 p2] env = (false, eval e env) :: starEach [.Constant (.int 0) k1 p1, .Constant (.int 0) k2 p2] env := by intro _; rfl) : EX f env (.List [e, .Constant (.int 0) k1 p1, .Constant (.int 0) k2 p2] pos) (.drw d) := fun S F σ H hp hσ hs Q q =>
  wE_shut (wE_of (fun X hX => pe_lst (pw_a hX)) (ea_cons h (ea_cons ex_int (ea_cons ex_int ea_nil)) hse S F σ H hp hσ hs _ fun vs S1 H1 g1 s1 k1 r1 => by
    obtain ⟨v, v1, v2, rfl⟩ : ∃ v v1 v2, vs = [v, v1, v2] := by
      match vs, r1.1 with
      | [a, b, c], _ => exact ⟨a, b, c, rfl⟩
    have r0 : Rp S1 v d := r1.2 0 _ _ rfl rfl
    obtain rfl := (r1.2 1 v1 (dI 0) rfl rfl).v_inv
    obtain rfl := (r1.2 2 v2 (dI 0) rfl rfl).v_inv
    refine ⟨by show 3 ≤ sizeLine; decide, fun p hpn => ⟨p, v, 0, upd_same, ?_⟩⟩
    rw [upd_upd]
    exact (q.step g1 k1).fresh s1 hpn (.drw upd_same (r0.mono (Gr.new (s1.freeS hpn)))) (fun _ _ z => nomatch z) (fun _ z => nomatch z)))
end
end Em
set_option maxHeartbeats 1000000
/-! The logic over plain data (21): rows[0].clear(); rows.pop(). -/
namespace Em
open PySem PySem.Spec PyProof.Rows L2 RZ
theorem Off.mono {B B' : Da → Prop} (h : ∀ d, B' d → B d) {d : Da} (o : Off B d) : Off B' d := by
  induction o with
  | v x => exact .v x
  | tup n _ ih => exact .tup (fun z => n (h _ z)) ih
  | lst n _ ih => exact .lst (fun z => n (h _ z)) ih
  | dct n _ ih => exact .dct (fun z => n (h _ z)) ih
  | dtt n _ ih => exact .dtt (fun z => n (h _ z)) ih
  | ins n _ ih => exact .ins (fun z => n (h _ z)) ih
  | drw n _ ih => exact .drw (fun z => n (h _ z)) ih
  | nm _ ih => exact .nm ih
  | tb _ ih => exact .tb ih
theorem rem_gr {S : Hp} {q : Addr} : Gr (rem S q) S := fun a o e => by
  unfold rem at e; split at e
  · cases e
  · exact e
/-- a public thing is given up and changed -/
theorem Sep.gone {S F H : Hp} {a : Addr} {o u : HO} (s : Sep S F H) (hS : S a = some o) (hH : ∀ o', H a = some o' → ¬ isTE o') : Sep (rem S a) F (upd H a u) where
  pub0 := fun b x e nt => by
    have hb : b ≠ a := fun z => by subst z; rw [rem_same] at e; cases e
    rw [rem_ne hb] at e
    exact rd_ne (s.pub0 b x e nt) hb
  tab := fun b ps e => by
    have hb : b ≠ a := fun z => by subst z; rw [rem_same] at e; cases e
    rw [rem_ne hb] at e
    exact s.tabU hH b ps e
  one := fun b c ps qs e e' => s.one b c ps qs (rem_gr _ _ e) (rem_gr _ _ e')
  prv := fun b x e => by
    have hb : b ≠ a := fun z => by subst z; rw [s.apart b o hS] at e; cases e
    rw [upd_ne hb]; exact s.prv b x e
  apart := fun b x e => s.apart b x (rem_gr _ _ e)
  ntup := s.ntup
  nte := s.nte
section
variable {f : Fr} {env env' : En} {C : Cd} {Nx : Pr} {Rt : Rr} {ss : List Stmt}
/-- rows[0].clear(); rows.pop() -/
theorem tr0_clearPop (i : Nat) {r0 : Am} {rows : List Am} {x : Str} {p1 p2 p3 p4 a1 a2 c1 c2 pos1 pos2 : Pos} {k : Nat} (he : env[i]? = some (some (.lst ((r0 :: rows).map dA)))) (hl : env'.length = env.length) (hw : ∀ (j : Nat) (d : Da), env'[j]? = some (some d) → env[j]? = some (some d))
    (hoff : ∀ (S : Hp) (p q : Addr) (ws : List V) (us : List (Key × V)), S p = some (.lst (.ref q :: ws)) → S q = some (.dK us) → RpK S us (amD r0) → ∀ d, some d ∈ env' → Off (Rp S (.ref q)) d ∧ Off (Rp S (.ref p)) d)
    (hC : ∀ S S' F, C S F → C S' F) (t : Tr0 f (Pv env' C) ss Nx Rt) (hN : f.N[i]? = some x) (hv : Vis f.sc x)
    (hd : (x == ("__debug__" : Str)) = false := by decide) (hcd : (x == ("__classdict__" : Str)) = false := by decide)
    (hb1 : ∀ env, attributeBase (.Subscript (.Name x p1) (.Constant (.int 0) k p2) p3) "clear" env (eval (.Subscript (.Name x p1) (.Constant (.int 0) k p2) p3) env) = eval (.Subscript (.Name x p1) (.Constant (.int 0) k p2) p3) env := by intro _; rfl) (hl1 : (a1.endLine == c1.line) = true := by rfl)
    (hb2 : ∀ env, attributeBase (.Name x p4) "pop" env (eval (.Name x p4) env) = eval (.Name x p4) env := by intro _; rfl) (hl2 : (a2.endLine == c2.line) = true := by rfl)
    (hs1 : ∀ l env, swapsWith (.Call (.Attribute (.Subscript (.Name x p1) (.Constant (.int 0) k p2) p3) "clear" a1) [] [] c1) none l env = pure false := by intro _ _; rfl) (hs2 : ∀ l env, swapsWith (.Call (.Attribute (.Name x p4) "pop" a2) [] [] c2) none l env = pure false := by intro _ _; rfl) :
    Tr0 f (Pv env C) (.Expr (.Call (.Attribute (.Subscript (.Name x p1) (.Constant (.int 0) k p2) p3) "clear" a1) [] [] c1) pos1 :: .Expr (.Call (.Attribute (.Name x p4) "pop" a2) [] [] c2) pos2 :: ss) Nx Rt := fun S F σ H D hp hs d => by
  obtain ⟨hσ, S0, g0, hc⟩ := hp
  obtain ⟨v, hv1, rv⟩ := hσ.2 i _ he
  obtain ⟨p, ws, rfl, hSp, hws⟩ := rv.lst_inv
  obtain ⟨w0, hw0, rw0⟩ := hws.get (i := 0) (x := dA r0) rfl
  obtain ⟨q, us, rfl, hSq, hus⟩ := rw0.dct_inv
  obtain ⟨ws', rfl⟩ : ∃ ws', ws = .ref q :: ws' := by
    cases ws with
    | nil => cases hw0
    | cons a t => cases hw0; exact ⟨t, rfl⟩
  have hpq : p ≠ q := fun z => by subst z; rw [hSp] at hSq; cases hSq
  refine wSs0_unl (hs.pub q _ hSq) True.intro fun H' hne hHq => ?_
  have s1 := hs.swap hSq True.intro hne hHq
  have hHp : H' p = some (.lst (.ref q :: ws')) := by
    rcases s1.pub p _ hSp with z | ⟨z, _⟩
    · exact z
    · exact z.elim
  have s2 : Sep (rem S q) F (upd H' q (.dK [])) := s1.gone hSq fun o' e => by rw [hHq] at e; cases e; exact fun z => z
  have hHp2 : upd H' q (.dK []) p = some (.lst (.ref q :: ws')) := by rw [upd_ne hpq]; exact hHp
  have s3 : Sep (rem (rem S q) p) F (upd (upd H' q (.dK [])) p (.lst (V.ref q :: ws').dropLast)) := s2.gone (by rw [rem_ne hpq]; exact hSp) fun o' e => by rw [hHp2] at e; cases e; exact fun z => z
  have hσ' : SlE (rem (rem S q) p) σ env' := by
    have h1 : SlE S σ env' := hσ.weak hl hw
    have h2 := h1.off (p := q) (fun d hd => (hoff S p q ws' us hSp hSq hus d hd).1) (fun ps z => by rw [hSq] at z; cases z)
    exact h2.off (p := p) (fun d hd => ((hoff S p q ws' us hSp hSq hus d hd).2).mono fun e z => z.mono rem_gr) (fun ps z => by rw [rem_ne hpq, hSp] at z; cases z)
  intro X pins s hX hn I
  have pv : ∀ {pp : Pos}, PE X (.Name x pp) (tVar i) := fun {pp} => pe_var (i := i) (by rw [hX.N]; exact hN) (by rw [hX.sc]; exact hv) hd hcd
  have ps1 : PS X (.Expr (.Call (.Attribute (.Subscript (.Name x p1) (.Constant (.int 0) k p2) p3) "clear" a1) [] [] c1) pos1) _ := ps_expr (pe_dclear (pe_ix ix_list pv pe_int (fun _ _ => rfl)) (hb1 _) hl1) (hs1 _ _)
  have ps2 : PS X (.Expr (.Call (.Attribute (.Name x p4) "pop" a2) [] [] c2) pos2) _ := ps_expr (pe_bm0 PySem.F.plainAttrs_list PySem.F.slot_list_pop PySem.F.type_list_pop mt_pop pv (hb2 _) hl2) (hs2 _ _)
  refine (pss_cons ps1 (pss_cons ps2 (pw_s0 hX hn))).run pins s σ H' D I ?_
  refine ⟨_, hv1, p, .ref q :: ws', 0, .ref q, rfl, rfl, .inl (.inl hHp), atI_nat (j := 0) rfl, .inr (.inr (.inl ⟨rfl, .inl ⟨us, hHq⟩⟩)), q, us, rfl, rfl, hHq, ?_⟩
  refine ⟨_, hv1, .inl ⟨rfl, _, .inl (.inl hHp2)⟩, p, .ref q :: ws', _, rfl, rfl, hHp2, List.getElem?_eq_getElem (by simp), ?_⟩
  exact t _ F σ _ D ⟨hσ', _, Gr.refl _, hC _ _ _ hc⟩ s3 d
end
end Em
set_option maxHeartbeats 1000000
/-! The logic over plain data (22): small rules for the law itself. -/
namespace Em
open PySem PySem.Spec PyProof.Rows L2 RZ
section
variable {f : Fr} {env : En} {pos : Pos}
/-- range(n), any n -/
theorem it_rngZ {pre : Pre} {tg e : Expr} {p : Pos} {n : Int} (h : EX f env e (dI n)) (hm : f.mg "range" = none) (hn : -(2 ^ 62) < n ∧ n < 2 ^ 62) (hg : GlS f "range" := by rfl) (hse : ∀ env, starEach [e] env = [(false, eval e env)] := by intro _; rfl) :
    IT pre f env tg (.Call (.Name "range" p) [e] [] pos) ((List.range n.toNat).map fun i => dI (i : Nat)) := fun S F σ H hp hσ hs _ R hR =>
  wI_of (fun X hX => pi_range1 (hg.gl hX) (by rw [hX.mg]; exact hm) (pw_a hX) (hse _)) (by
    refine ea_cons (d := dI n) h ea_nil hse S F σ H hp hσ hs _ fun v S1 H1 g1 s1 k1 r1 => ?_
    have := r1.1
    obtain ⟨v1, rfl⟩ : ∃ v1, v = [v1] := by match v, this with | [v1], _ => exact ⟨v1, rfl⟩
    obtain rfl := (r1.2 0 _ _ rfl rfl).v_inv
    refine ⟨n, rfl, by omega, by omega, hR _ S1 H1 g1 s1 k1 ?_⟩
    intro S2 F2 H2 g2 s2 k2
    refine ⟨by show n.toNat ≤ _; simp, fun i d hd => ?_⟩
    have hi : i < n.toNat := by have := (List.getElem?_eq_some_iff.mp hd).1; simpa using this
    rw [List.getElem?_map, List.getElem?_range hi] at hd
    cases hd
    refine ⟨by show i < n.toNat; omega, fun x H3 y => ?_⟩
    obtain ⟨rfl, rfl⟩ := y
    refine ⟨S2, Gr.refl _, s2, Kf.refl _, ?_⟩
    show Rp S2 (.int (0 + (i : Int))) (dI (i : Int))
    rw [Int.zero_add]; exact .v _)
/-- xs[:n] of a list -/
theorem ex_slL {a b : Expr} {xs : List Da} {n : Nat} {p2 : Pos} (ha : EX f env a (.lst xs)) (hb : EX f env b (dI n)) : EX f env (.Subscript a (.Slice none (some b) none p2) pos) (.lst (xs.take n)) := fun S F σ H hp hσ hs Q q =>
  wE_of (te := tSl (rSlL f.K) (wE f a) tNoPart (tPart (wE f b))) (fun X hX => by rw [← hX.K]; exact pe_slice sl_list (pw_e hX) po_none (po_some (pw_e hX))) (ha S F σ H hp hσ hs _ fun v1 S1 H1 g1 s1 k1 r1 => hb S1 F σ H1 hp (hσ.mono g1) s1 _ fun v2 S2 H2 g2 s2 k2 r2 => by
    obtain ⟨a, vs, rfl, h1, h2⟩ := (r1.mono g2).lst_inv
    obtain rfl := r2.v_inv
    have e1 : HT.sIx vs.length 0 none = 0 := rfl
    have e2 : HT.sIx vs.length vs.length (some (n : Int)) = min n vs.length := by
      unfold HT.sIx; simp only; split <;> omega
    have ec : cutV vs none (some (n : Int)) = vs.take n := by
      unfold cutV; rw [e1, e2]; simp
    refine ⟨(n : Int), rfl, a, vs, rfl, s2.sql h1, fun p hpn => ?_⟩
    rw [ec]
    refine (q.step (g1.trans g2) (k1.trans k2)).fresh s2 hpn (.lstL upd_same ⟨by rw [List.length_take, List.length_take, h2.1], fun i v x e1 e2 => ?_⟩)
    rw [List.getElem?_take] at e1 e2
    split at e1
    · rw [if_pos (by assumption)] at e2; exact (h2.2 i v x e1 e2).mono (Gr.new (s2.freeS hpn))
    · cases e1)
theorem od_neSame {n : Nat} {xs : List Da} (h : ∀ x ∈ xs, EqDa n x x true) (hn : n ≤ 60 := by decide) : OD f (compareOp .NotEq) (.lst xs) (.lst xs) (dB false) := by
  have := od_neL (f := f) (n := n) (xs := xs) (ys := xs) (e := fun _ => true) rfl (fun i x y h1 h2 => by
    rw [h1] at h2; cases h2
    exact h x (List.mem_of_getElem? h1)) hn
  have e : (!(List.range xs.length).all fun _ => true) = false := by simp
  rw [e] at this; exact this
theorem eq_str {n : Nat} (x : Str) : EqDa n (dS x) (dS x) true := by
  have := EqDa.str (n := n) x x
  simpa using this
theorem eq_ints {n : Nat} (r : List Int) : EqDa (n + 1) (dLis r) (dLis r) true := by
  have := EqDa.lst (n := n) (xs := r.map dI) (ys := r.map dI) (e := fun _ => true) rfl (fun i x y h1 h2 => by
    rw [h1] at h2; cases h2
    obtain ⟨a, _, rfl⟩ := List.mem_map.mp (List.mem_of_getElem? h1)
    have := EqDa.int (n := n) a a
    simpa using this)
  have e : ((List.range (r.map dI).length).all fun _ => true) = true := by simp
  rw [e] at this
  exact this
theorem eq_keyRow {n : Nat} (r : List Int) : EqDa (n + 2) (keyRow r) (keyRow r) true := by
  have := EqDa.tup (n := n + 1) (xs := [dI r.sum, dLis r]) (ys := [dI r.sum, dLis r]) (e := fun _ => true) rfl (fun i x y h1 h2 => by
    rw [h1] at h2; cases h2
    match i with
    | 0 => cases h1; have := EqDa.int (n := n + 1) r.sum r.sum; simpa using this
    | 1 => cases h1; exact eq_ints r
    | i + 2 => cases h1)
  exact this
/-- dicts of amounts, whatever their order -/
theorem eq_am {n : Nat} {bs : Bs} {a b : Am} (hn : (bs.map (·.1)).Nodup) (ka : a.map (·.1) = bs.map (·.1)) (kb : (b.map (·.1)).Perm (bs.map (·.1))) : EqDa (n + 1) (dA a) (dA b) (decide (rowOf bs a = rowOf bs b)) := by
  have na : (a.map (·.1)).Nodup := ka ▸ hn
  have nb : (b.map (·.1)).Nodup := kb.nodup_iff.mpr hn
  have := EqDa.dct (n := n) (xs := amD a) (ys := amD b) (e := keyE a b) (fun k x y hx hy => by
    obtain ⟨p, hp, e⟩ := List.mem_map.mp hx
    cases e
    unfold amD at hy
    rw [valD_lk] at hy
    cases e : lk b p.1 with
    | none => rw [e] at hy; cases hy
    | some v =>
      rw [e] at hy; cases hy
      have h1 : amt b p.1 = v := by unfold amt; rw [e]; rfl
      show EqDa n (dI p.2) (dI v) (decide (amt a p.1 = amt b p.1))
      rw [amt_mem na hp, h1]
      exact EqDa.int p.2 v)
  have hlen : (amD a).length = (amD b).length := by
    unfold amD
    have h1 := congrArg List.length ka
    have h2 := kb.length_eq
    rw [List.length_map] at h1 h2 ⊢
    rw [List.length_map] at h1 h2 ⊢
    omega
  have hb : ((amD a).length == (amD b).length && (amD a).all fun p => (valD (amD b) p.1).isSome && keyE a b p.1) = decide (rowOf bs a = rowOf bs b) := by
    rw [hlen, beq_self_eq_true, Bool.true_and]
    have hsome : ∀ p ∈ a, (valD (amD b) (.inr p.1)).isSome = true := fun p hp => by
      unfold amD
      rw [valD_lk, Option.isSome_map]
      refine lk_has.mpr (kb.mem_iff.mpr ?_)
      rw [← ka]; exact List.mem_map_of_mem hp
    by_cases he : rowOf bs a = rowOf bs b
    · rw [decide_eq_true he, List.all_eq_true]
      intro q hq
      obtain ⟨p, hp, e⟩ := List.mem_map.mp hq
      subst e
      rw [hsome p hp, Bool.true_and]
      have hm : p.1 ∈ bs.map (·.1) := ka ▸ List.mem_map_of_mem hp
      obtain ⟨c, hc, e⟩ := List.mem_map.mp hm
      obtain ⟨i, hi, e2⟩ := List.mem_iff_getElem.mp hc
      have h1 := rowOf_g (bs := bs) (am := a) hi
      have h2 := rowOf_g (bs := bs) (am := b) hi
      rw [he, h2, e2, e] at h1
      exact decide_eq_true h1.symm
    · rw [decide_eq_false he]
      cases hc : (amD a).all fun p => (valD (amD b) p.1).isSome && keyE a b p.1 with
      | false => rfl
      | true =>
        rw [List.all_eq_true] at hc
        refine absurd (List.ext_getElem (by rw [rowOf_len, rowOf_len]) fun i h1 h2 => ?_) he
        have hi : i < bs.length := by rwa [rowOf_len] at h1
        have q1 := rowOf_g (bs := bs) (am := a) hi
        have q2 := rowOf_g (bs := bs) (am := b) hi
        rw [CD.g_lt h1] at q1
        rw [CD.g_lt h2] at q2
        rw [q1, q2]
        have hm : bs[i].1 ∈ a.map (·.1) := by rw [ka]; exact List.mem_map_of_mem (List.getElem_mem hi)
        obtain ⟨p, hp, e⟩ := List.mem_map.mp hm
        have := hc _ (List.mem_map_of_mem (f := fun p : Str × Int => ((Sum.inr p.1 : Key), dI p.2)) hp)
        rw [Bool.and_eq_true] at this
        have := of_decide_eq_true this.2
        rw [← e]; exact this
  rw [hb] at this
  exact this
end
end Em
set_option maxHeartbeats 2000000
/-! The walk (26): the law: the sheet, its closings, their order. -/
namespace Em
open PySem PySem.Spec PyProof.Rows L2 RZ
abbrev lawN : List Str := ["_law_script", "_law_draw_here", "_law_told_here", "_law_names", "_law_rows", "_law_row", "_law_keys", "_law_box", "_law_name", "_law_due", "_law_here", "_law_turn", "_law_again", "_law_amounts_here", "_law_sheet_here", "_law_wrong", "_law_at"]
abbrev lawF (P : Program) (w : World) (K : PySem.W.Frag) (mg : Str → Option Value) (base : Heap) (c : Addr) (q : Str) : Fr := ⟨P, w, K, mg, base, lawN, d_law.scope, 40, [], fun _ => true, some (c, q)⟩
/-- what is drawn -/
structure Drw (ps : Ps) (bs : Bs) : Prop where
  g : Good ps bs
  j : (joints (sK ps)).length = 1 ∨ (joints (sK ps)).length = 2
def dNames (bs : Bs) : Da := .lst (((sK bs).map (·.1)).map dS)
def dRows (ps : Ps) (bs : Bs) : Da := .lst ((lawRows (sK ps) (sK bs)).map dA)
def dKeys (ps : Ps) (bs : Bs) : Da := .lst ((closeds (sK ps) (sK bs)).map keyRow)
section
variable {P : Program} {w : World} {K : PySem.W.Frag} {mg : Str → Option Value} {base : Heap} {c : Addr} {q : Str}
/-- the slots behind the first statements -/
abbrev lawE (K : PySem.W.Frag) (a : Addr) (T : List (Addr × Str)) (script : V) (ns : List Int) (ps : Ps) (bs : Bs) : En :=
  [some (.tb a T (.v script)), some (.drw (dLis ns)), some (dTold ps bs), some (dNames bs), some (dRows ps bs), none, some (dKeys ps bs), none, none, none, none, none, none, none, some (Sh K (sK ps) (sK bs)), none, none]
theorem names_eq (bs : Bs) : sortS (bs.map (·.1)) = (sK bs).map (·.1) := (sK_keys bs).symm
theorem lawKey_row {ps : Ps} {bs : Bs} (D : Drw ps bs) {r : Am} (h : r ∈ lawRows (sK ps) (sK bs)) : keyD r = keyRow (rowOf (sK bs) r) := by
  obtain ⟨h1, _, _, h4, _, _⟩ := lawRow_ok D.g.sorted D.j h
  refine keyD_row D.g.sorted.nodB h1 ?_
  rw [h4]; exact sortS_self (sK_asc bs)
theorem lawRow_few {ps : Ps} {bs : Bs} (D : Drw ps bs) : (closeds (sK ps) (sK bs)).length ≤ 1000000 := by
  have G := gcfg D.g.sorted D.j none (fun t z => nomatch z)
  have := G.foundLen ((CD.ballOf (joints (sK ps)).length).length + 1)
  rw [(closeds_perm D.g.sorted D.j).length_eq, List.length_map]
  exact this
theorem EAN.imp {f : Fr} {env : En} {es : List Expr} {L L' : List Da → Prop} (h : EAN f env es L) (w : ∀ ds, L ds → L' ds) : EAN f env es L' := fun S F σ H hp hσ hs Q q => h S F σ H hp hσ hs Q fun d hd => q d (w d hd)
theorem keys_eq {ps : Ps} {bs : Bs} (D : Drw ps bs) : (lawRows (sK ps) (sK bs)).map keyD = (closeds (sK ps) (sK bs)).map keyRow := by
  unfold lawRows
  rw [List.map_map]
  refine List.map_congr_left fun r hr => ?_
  show keyD (amRow (sK bs) r) = keyRow r
  rw [lawKey_row D (List.mem_map_of_mem hr), (closed_ok D.g.sorted D.j hr).2.2.2.1]
theorem lawRow_amB {ps : Ps} {bs : Bs} (D : Drw ps bs) {r : Am} (h : AmB (sK bs) r) : AmB bs r := ⟨h.nod, fun a ha => by rw [← lk_sK D.g.nodB]; exact h.has a ha, h.nn⟩
theorem law_start (M : Md K mg) (Z : Mz K) {a : Addr} {T : List (Addr × Str)} (X : Tx K mg base T cloP "closings_of") {script : V} {ns : List Int} {rest : List Stmt} {s1 s2 s3 s4 s5 s6 s7 : Stmt} {Rt : Rr} (F0 : Hp) (hbody : d_law.body = s1 :: s2 :: s3 :: s4 :: s5 :: s6 :: s7 :: rest)
    (tail : ∀ ps bs, Drw ps bs → Tr0 (lawF P w K mg base c q) (Pv (lawE K a T script ns ps bs) fun _ F => F = F0) rest none_ Rt) :
    Tr0 (lawF P w K mg base c q) (Pv (List.set (startE lawN [.tb a T (.v script)]) 1 (some (.drw (dLis ns)))) fun _ F => F = F0) (d_law.body.drop 1) none_ Rt := by
  have hrest : rest = d_law.body.drop 7 := by rw [hbody]; rfl
  show Tr0 _ _ (_ :: _) _ _
  refine tr0_cons (t1_setN 2 (D := fun d => ∃ ps bs, d = dTold ps bs ∧ Drw ps bs) (EN.imp (en_call (L := fun ds => ∃ j n : Nat, (j = 1 ∨ j = 2) ∧ 1 ≤ n ∧ n ≤ 3 ∧ ds = [.drw (dLis ns), dI (j : Nat), dI (n : Nat), dI 3]) (D := fun d => ∃ ps bs, d = dTold ps bs ∧ Good ps bs ∧ ((joints ps).length = 1 ∨ (joints ps).length = 2)) (c_law_sheet M) ?_ (fun ds ⟨j, n, h1, h2, h3, h4⟩ => ⟨_, j, n, h1, h2, h3, h4, rfl⟩)) (fun d ⟨ps, bs, e, g, j⟩ => ⟨ps, bs, e, g, by rw [joints_sK, (sortS_perm _).length_eq]; exact j⟩))) (tr0_ex fun d => tr0_and fun hd => ?_)
  · refine EAN.imp (ean_cons (ex_var 1).en (ean_cons (EN.imp (en_add1 (lo := 0) (hi := 1) ex_int (en_call (c_law_next M) (ea_cons (ex_var 1) (ea_cons ex_int ea_nil)).ean (fun ds hds => ⟨_, 2, by decide, hds, rfl⟩))) (fun d h => (h : isInt 1 2 d))) (ean_cons (EN.imp (en_add1 (lo := 0) (hi := 2) ex_int (en_call (c_law_next M) (ea_cons (ex_var 1) (ea_cons ex_int ea_nil)).ean (fun ds hds => ⟨_, 3, by decide, hds, rfl⟩))) (fun d h => (h : isInt 1 3 d))) (ean_cons ex_int.en ean_nil)))) (fun ds h => ?_)
    obtain ⟨_, _, rfl, rfl, _, _, rfl, ⟨j, rfl, j1, j2⟩, _, _, rfl, ⟨n, rfl, n1, n2⟩, _, _, rfl, rfl, rfl⟩ := h
    exact ⟨j.toNat, n.toNat, by omega, by omega, by omega, by rw [Int.toNat_of_nonneg (by omega), Int.toNat_of_nonneg (by omega)]⟩
  obtain ⟨ps, bs, rfl, D⟩ := hd
  have g := D.g
  have gS := g.sorted
  have hB := g.fewB
  have hfew := lawRow_few D
  have hrl : (lawRows (sK ps) (sK bs)).length ≤ 1000000 := by unfold lawRows; rw [List.length_map]; exact hfew
  refine tr0_cons (t1_unp 14 3 (d := Sh K (sK ps) (sK bs)) (e := dNames bs) (ex_tup (ea_cons (ex_sheet M g (ex_ixL (ex_var 2) ex_int rfl) (ex_ixL (ex_var 2) ex_int rfl)) (ea_cons (EX.cast (ex_sortedD (g := gT) (ex_ixL (ex_var 2) ex_int rfl) (by omega) (M.free "sorted")) (by unfold dNames; rw [names_eq])) ea_nil)) (hl := by show 2 ≤ 10000000; decide)) (hw := fun env he => by cases env; cases he; rfl)) ?_
  refine tr0_cons (t1_set 4 (d := dRows ps bs) (EX.cast (ex_call (c_law_told M Z X) (ea_cons (EX.toTb 0 (ex_var 14)) ea_nil) ⟨sK ps, sK bs, col_ok gS D.j (fun t z => nomatch z), by omega, rfl, rfl⟩) (by unfold dClos dRows lawRows; rw [List.map_map]; rfl))) ?_
  refine tr0_cons (t1_setC 6 (d := dKeys ps bs) (EX.cast (ex_map (lawRows (sK ps) (sK bs)) (enc := dA) (r := keyD) [("_law_row", 5)] (it_lst (ex_var 4)) (by omega) (fun _ _ => tg_name 5) (fun r hr => ex_call (c_law_key M) (ea_cons (ex_var 5) ea_nil) ⟨r, ?_, ?_, rfl, rfl⟩)) (by unfold dKeys; rw [keys_eq D]))) ?_
  · exact (lawRow_ok gS D.j hr).1.nod
  · have := congrArg List.length (lawRow_ok gS D.j hr).2.2.2.1
    rw [List.length_map, List.length_map, sK_len] at this; omega
  have hsh : ∀ r ∈ lawRows (sK ps) (sK bs), AmB bs r ∧ lbal ps bs r = true ∧ total r ≠ 0 ∧ r.map (·.1) = (sK bs).map (·.1) ∧ r.length ≤ 3 := fun r hr => by
    obtain ⟨h1, h2, h3, h4, _, _⟩ := lawRow_ok gS D.j hr
    refine ⟨lawRow_amB D h1, by rw [lbal_eq g (lawRow_amB D h1)]; exact h2, by omega, h4, ?_⟩
    have := congrArg List.length h4
    rw [List.length_map, List.length_map, sK_len] at this; omega
  refine tr0_cons (t1_if (x := false) (ET.cast (et_val (ex_any (xs := lawRows (sK ps) (sK bs)) (r := fun _ => false) (ex_map (lawRows (sK ps) (sK bs)) (enc := dA) (r := fun _ => dB false) [("_law_row", 5)] (it_lst (ex_var 4)) (by omega) (fun _ _ => tg_name 5) (fun r hr => EX.cast (ex_or (x := false) (ex_cmp (od_neSame (n := 0) (xs := ((sK bs).map (·.1)).map dS) fun x hx => ?_) (EX.cast (ex_callTy cd_listD (ea_cons (ex_var 5) ea_nil) (M.free "list") (by decide +kernel)) ?_) (ex_var 3)) fun _ => ex_or (x := false) (EX.cast (ex_not (ex_call (c_law_balanced M) (ea_cons (ex_var 2) (ea_cons (ex_var 5) ea_nil)) ⟨ps, bs, r, g, (hsh r hr).1, rfl, rfl⟩)) ?_) fun _ => ex_one (EX.cast (ex_eqI (ex_call (c_law_total M) (ea_cons (ex_var 5) ea_nil) ⟨r, (hsh r hr).1.nod, ?_, rfl, rfl⟩) ex_int) ?_)) rfl)) (M.free "any"))) ?_) (fun h => nomatch h) (fun _ => tr_nil fun _ _ _ h => h)) ?_
  · obtain ⟨y, _, rfl⟩ := List.mem_map.mp hx; exact eq_str y
  · rw [← (hsh r hr).2.2.2.1, List.map_map, List.map_map]; rfl
  · have := (hsh r hr).2.1
    unfold lbal at this
    rw [this]; rfl
  · have := (hsh r hr).2.2.2.2; omega
  · rw [decide_eq_false (hsh r hr).2.2.1]
  · simp
  have hkl : (dKeys ps bs) = .lst ((closeds (sK ps) (sK bs)).map keyRow) := rfl
  refine tr0_cons (t1_if (x := false) (ET.cast (et_not (et_val (ex_all (xs := List.range (((closeds (sK ps) (sK bs)).length : Int) - 1).toNat) (r := fun _ => true) (ex_map (List.range (((closeds (sK ps) (sK bs)).length : Int) - 1).toNat) (enc := fun i => dI (i : Nat)) (r := fun _ => dB true) [("_law_at", 16)] (it_rngZ (EX.cast (ex_sub (ex_lenL (ex_var 6) (M.free "len")) ex_int) (by rw [List.length_map])) (M.free "range") (by omega)) (by rw [List.length_range]; omega) (fun _ _ => tg_name 16) (fun i hi => ?_)) (M.free "all")))) ?_) (fun h => nomatch h) (fun _ => tr_nil fun _ _ _ h => h)) ?_
  · have hi := List.mem_range.mp hi
    have h1 : i + 1 < (closeds (sK ps) (sK bs)).length := by omega
    refine EX.cast (ex_cmp od_ltKey (ex_ixL (ex_var 6) (ex_var 16) (atI_nat (v := keyRow (closeds (sK ps) (sK bs))[i]) ?_)) (ex_ixL (i := ((i + 1 : Nat) : Int)) (ex_var 6) (EX.cast (ex_add (ex_var 16) ex_int) (by rw [Int.natCast_add]; rfl)) (atI_nat (v := keyRow (closeds (sK ps) (sK bs))[i + 1]) ?_))) ?_
    · rw [List.getElem?_map, List.getElem?_eq_getElem (by omega)]; rfl
    · rw [List.getElem?_map, List.getElem?_eq_getElem h1]; rfl
    · rw [closeds_lt (closeds_nodup gS D.j) h1]
  · simp
  have := tail ps bs D
  rw [hrest] at this
  exact this
end
end Em
set_option maxHeartbeats 2000000
/-! The walk (27): the law: the box. -/
namespace Em
open PySem PySem.Spec PyProof.Rows L2 RZ
theorem tr0_tellD {f : Fr} {env : En} {C : Cd} {Nx : Pr} {Rt : Rr} {ss : List Stmt} (i : Nat) {a : Addr} {xs : List (Key × Da)} (he : env[i]? = some (some (.v (.ref a)))) (h : Tr0 f (Pv (env.set i (some (.dct xs))) C) ss Nx Rt) : Tr0 f (Pv env (AccD a C xs)) ss Nx Rt := fun S F σ H D hp hs d => by
  obtain ⟨hσ, S0, g0, F0, vs, c, n, rfl, r⟩ := hp
  have hT := hs.tell (p := a) upd_same
  rw [rem_upd n] at hT
  have hSa : S a = none := hs.freeSF upd_same
  refine h _ F0 σ H D ⟨?_, c.mono (g0.trans (Gr.new hSa))⟩ hT d
  have h1 := (hσ.mono (Gr.new hSa)).set i (v := .ref a) (d := .dct xs) (.dctK upd_same ((r.mono g0).mono (Gr.new hSa)))
  rw [set_self (slot_ref hσ he)] at h1
  exact h1
def boxAm (bs : Bs) : Am := ((sK bs).map (·.1)).map fun n => (n, (3 : Int))
theorem box_keys (bs : Bs) : (boxAm bs).map (·.1) = (sK bs).map (·.1) := by
  unfold boxAm
  rw [List.map_map]
  exact List.map_id _
theorem box_LAm {ps : Ps} {bs : Bs} (D : Drw ps bs) : LAm (sK bs) (boxAm bs) where
  names := by unfold namesOf; rw [box_keys]; exact sortS_self (sK_asc bs)
  sm := ⟨by rw [box_keys]; exact D.g.sorted.nodB, by unfold boxAm; rw [List.length_map, List.length_map, sK_len]; exact D.g.fewB, fun a ha => by
    unfold boxAm at ha
    obtain ⟨n, _, rfl⟩ := List.mem_map.mp ha
    exact ⟨by show (0 : Int) ≤ 3; decide, by show (3 : Int) ≤ 20; decide⟩⟩
section
variable {P : Program} {w : World} {K : PySem.W.Frag} {mg : Str → Option Value} {base : Heap} {c : Addr} {q : Str}
theorem due_eq {ps : Ps} {bs : Bs} (D : Drw ps bs) {am : Am} (h : LAm (sK bs) am) : (leastIn ps bs am).map keyD = ((leastIn ps bs am).map (rowOf (sK bs))).map keyRow := by
  rw [List.map_map]
  refine List.map_congr_left fun r hr => ?_
  obtain ⟨h1, h2, _⟩ := (mem_leastIn D.g h).mp hr
  have hm : r ∈ lawRows (sK ps) (sK bs) := List.mem_map.mpr ⟨rowOf (sK bs) r, (mem_closeds D.g.sorted D.j).mpr h2, am_of_row D.g.sorted.nodB h1⟩
  exact lawKey_row D hm
theorem here_eq {ps : Ps} {bs : Bs} (D : Drw ps bs) (am : Am) : ((lawRows (sK ps) (sK bs)).filter fun r => isPart r am).map keyD = ((closeds (sK ps) (sK bs)).filter fun r => isPart (amRow (sK bs) r) am).map keyRow := by
  unfold lawRows
  rw [List.filter_map, List.map_map]
  refine List.map_congr_left fun r hr => ?_
  have hr2 := (List.mem_filter.mp hr).1
  show keyD (amRow (sK bs) r) = keyRow r
  rw [lawKey_row D (List.mem_map_of_mem hr2), (closed_ok D.g.sorted D.j hr2).2.2.2.1]
theorem law_box (M : Md K mg) {a : Addr} {T : List (Addr × Str)} {script : V} {ns : List Int} {ps : Ps} {bs : Bs} (D : Drw ps bs) {rest : List Stmt} {s1 s2 s3 s4 s5 : Stmt} {Rt : Rr} (F0 : Hp) (hbody : d_law.body.drop 7 = s1 :: s2 :: s3 :: s4 :: s5 :: rest)
    (tail : Tr0 (lawF P w K mg base c q) (Pv (lawE K a T script ns ps bs) fun _ F => F = F0) rest none_ Rt) :
    Tr0 (lawF P w K mg base c q) (Pv (lawE K a T script ns ps bs) fun _ F => F = F0) (d_law.body.drop 7) none_ Rt := by
  have hrest : rest = d_law.body.drop 12 := by
    have : d_law.body.drop 12 = (d_law.body.drop 7).drop 5 := by rw [List.drop_drop]
    rw [this, hbody]; rfl
  have g := D.g
  have hB := g.fewB
  have hfew := lawRow_few D
  have hrl : (lawRows (sK ps) (sK bs)).length ≤ 1000000 := by unfold lawRows; rw [List.length_map]; exact hfew
  have hnl : ((sK bs).map (·.1)).length ≤ 3 := by rw [List.length_map, sK_len]; exact hB
  show Tr0 _ _ (_ :: _) _ _
  refine tr0_cons (t1_newD 7) (tr0_ex fun l => ?_)
  refine tr0_cons (t1_for ((sK bs).map (·.1)) (envA := fun n => (List.set (List.set (lawE K a T script ns ps bs) 7 (some (.v (.ref l)))) 8 (some (dS n)))) (fun i => AccD l (fun _ F => F = F0) (amD ((((sK bs).map (·.1)).take i).map fun n => (n, (3 : Int))))) (it_lst (ex_var 3)) (fun n _ => tg_name 8) fun i n hn => ?_) ?_
  · refine tr_cons (t1_put 7 (d := dI 3) ex_int (ex_var 8) (hl := ?_)) (tr_nil fun S F σ h => ?_)
    · unfold amD; rw [List.length_map, List.length_map, List.length_take]; omega
    · rw [putD_new (amD_keys (by rw [List.map_map]; intro hm; obtain ⟨m, hm, e⟩ := List.mem_map.mp hm; exact not_take g.sorted.nodB hn (by have e : m = n := e; rw [← e]; exact hm)))] at h
      rw [take_snoc hn, List.map_append]
      unfold amD at h ⊢
      rw [List.map_append]
      exact h.forget [8]
  rw [List.take_length]
  refine tr0_tellD 7 rfl ?_
  have hL := box_LAm D
  have hlen := hL.sm.len (namesOf (boxAm bs)).length
  rw [List.take_length] at hlen
  have hll : (leastIn ps bs (boxAm bs)).length ≤ 9261 := Nat.le_trans (Nat.le_trans (List.length_filter_le _ _) (List.length_filter_le _ _)) hlen
  have hhas : ∀ a ∈ boxAm bs, (lk bs a.1).isSome = true := fun a ha => by
    have : a.1 ∈ (boxAm bs).map (·.1) := List.mem_map_of_mem ha
    rw [box_keys] at this
    rw [← lk_sK g.nodB]; exact lk_has.mpr this
  have hboxB : AmB bs (boxAm bs) := ⟨hL.sm.nod, hhas, fun a ha => ⟨(hL.sm.nn a ha).1, Int.le_trans (hL.sm.nn a ha).2 (by decide)⟩⟩
  refine tr0_pre (Q := Pv (List.set (lawE K a T script ns ps bs) 7 (some (dA (boxAm bs)))) fun _ F => F = F0) ?_ (fun S F σ h => h)
  refine tr0_cons (t1_setLc 9 (leastIn ps bs (boxAm bs)) (enc := dA) (b := fun _ => true) (r := dA) (vs := [5]) (envA := fun r => List.set (List.set (lawE K a T script ns ps bs) 7 (some (dA (boxAm bs)))) 5 (some (dA r))) [("_law_row", 5)] (it_lst (ex_call (c_law_least_within M) (ea_cons (ex_var 2) (ea_cons (ex_var 7) ea_nil)) ⟨ps, bs, boxAm bs, g, hL.sm, hhas, rfl, rfl⟩)) (by omega) (fun _ _ => tg_name 5) (fun _ _ => ef_nil) (fun _ _ _ => ex_var 5)) ?_
  have hfil : filtered (fun _ => true) dA (leastIn ps bs (boxAm bs)) = (leastIn ps bs (boxAm bs)).map dA := by unfold filtered; rw [List.filter_eq_self.mpr (fun _ _ => rfl)]
  rw [hfil]
  have hpart : ∀ r ∈ lawRows (sK ps) (sK bs), (r.map (·.1)).Nodup ∧ r.length ≤ 3 := fun r hr => by
    obtain ⟨h1, _, _, h4, _, _⟩ := lawRow_ok g.sorted D.j hr
    have := congrArg List.length h4
    rw [List.length_map, List.length_map, sK_len] at this
    exact ⟨h1.nod, by omega⟩
  generalize hK1 : (closeds (sK ps) (sK bs)).filter (fun r => isPart (amRow (sK bs) r) (boxAm bs)) = K1
  have hK1l : K1.length ≤ 1000000 := by
    rw [← hK1]
    exact Nat.le_trans (List.length_filter_le _ _) hfew
  have hperm : ((leastIn ps bs (boxAm bs)).map (rowOf (sK bs))).Perm K1 := hK1 ▸ leastIn_perm g D.j hL
  refine tr0_cons (t1_set 10 (d := .lst ((sortI K1).map keyRow)) (ex_callB (cd_sortKeys (rows := K1) (by omega)) (ea_cons (EX.cast (ex_fil (lawRows (sK ps) (sK bs)) (enc := dA) (b := fun r => isPart r (boxAm bs)) (r := keyD) [("_law_row", 5)] (it_lst (ex_var 4)) (by omega) (fun _ _ => tg_name 5) (fun r hr => et_val (ex_call (c_law_is_part M) (ea_cons (ex_var 5) (ea_cons (ex_var 7) ea_nil)) ⟨r, boxAm bs, (hpart r hr).1, ?_, rfl, rfl⟩)) (fun r hr _ => ex_call (c_law_key M) (ea_cons (ex_var 5) ea_nil) ⟨r, (hpart r hr).1, ?_, rfl, rfl⟩)) (by rw [here_eq D, hK1])) ea_nil) (M.free "sorted") (by decide +kernel))) ?_
  · have := (hpart r hr).2; omega
  · have := (hpart r hr).2; omega
  have hkd : ∀ r ∈ leastIn ps bs (boxAm bs), (r.map (·.1)).Nodup ∧ r.length ≤ 3 := fun r hr => by
    obtain ⟨h1, _, _⟩ := (mem_leastIn g hL).mp hr
    have := congrArg List.length h1
    rw [List.length_map, List.length_map, sK_len] at this
    exact ⟨by rw [h1]; exact g.sorted.nodB, by omega⟩
  refine tr0_cons (t1_if (x := false) (et_cmp (od_neSame (n := 2) (xs := (sortI K1).map keyRow) fun x hx => ?_) (ex_var 10) (EX.cast (ex_callB (cd_sortKeys (rows := (leastIn ps bs (boxAm bs)).map (rowOf (sK bs))) (by rw [List.length_map]; omega)) (ea_cons (EX.cast (ex_map (leastIn ps bs (boxAm bs)) (enc := dA) (r := keyD) [("_law_row", 5)] (it_lst (ex_var 9)) (by omega) (fun _ _ => tg_name 5) (fun r hr => ex_call (c_law_key M) (ea_cons (ex_var 5) ea_nil) ⟨r, (hkd r hr).1, ?_, rfl, rfl⟩)) (by rw [due_eq D hL])) ea_nil) (M.free "sorted") (by decide +kernel)) ?_)) (fun h => nomatch h) (fun _ => tr_nil fun _ _ _ h => h)) ?_
  · obtain ⟨r, _, rfl⟩ := List.mem_map.mp hx; exact eq_keyRow r
  · have := (hkd r hr).2; omega
  · rw [sortI_congr hperm]
  rw [hrest] at tail
  exact tr0_pre tail fun S F σ h => h.forget [7, 9, 10]
end
end Em
set_option maxHeartbeats 2000000
/-! The walk (28): the law: each closing, the amounts. -/
namespace Em
open PySem PySem.Spec PyProof.Rows L2 RZ
theorem prod3 : ∀ x < 22, ∀ y < 22, ∀ z < 22, x + y + z ≤ 21 → (x + 1) * (y + 1) * (z + 1) ≤ 3000 := by decide +kernel
theorem prod_small {am : Am} (hl : am.length ≤ 3) (h0 : ∀ a ∈ am, 0 ≤ a.2) (ht : total am ≤ 21) : prodOf am ≤ 3000 := by
  have key : ∀ x y z : Int, 0 ≤ x → 0 ≤ y → 0 ≤ z → x + y + z ≤ 21 → (x + 1) * (y + 1) * (z + 1) ≤ 3000 := fun x y z hx hy hz h => by
    have := prod3 x.toNat (by omega) y.toNat (by omega) z.toNat (by omega) (by omega)
    have h2 : (((x.toNat + 1) * (y.toNat + 1) * (z.toNat + 1) : Nat) : Int) ≤ 3000 := by exact_mod_cast this
    rw [Int.natCast_mul, Int.natCast_mul, Int.natCast_add, Int.natCast_add, Int.natCast_add, Int.toNat_of_nonneg hx, Int.toNat_of_nonneg hy, Int.toNat_of_nonneg hz] at h2
    exact h2
  match am, hl with
  | [], _ => decide
  | [a], _ =>
    have h1 := h0 a (by simp)
    have ht : a.2 + 0 ≤ 21 := ht
    show 1 * (a.2 + 1) ≤ 3000
    omega
  | [a, b], _ =>
    have h1 := h0 a (by simp)
    have h2 := h0 b (by simp)
    have ht : a.2 + (b.2 + 0) ≤ 21 := ht
    have := key a.2 b.2 0 h1 h2 (by omega) (by omega)
    show 1 * (a.2 + 1) * (b.2 + 1) ≤ 3000
    rw [Int.one_mul]
    simpa using this
  | [a, b, c], _ =>
    have h1 := h0 a (by simp)
    have h2 := h0 b (by simp)
    have h3 := h0 c (by simp)
    have ht : a.2 + (b.2 + (c.2 + 0)) ≤ 21 := ht
    have := key a.2 b.2 c.2 h1 h2 h3 (by omega)
    show 1 * (a.2 + 1) * (b.2 + 1) * (c.2 + 1) ≤ 3000
    rw [Int.one_mul]
    exact this
  | a :: b :: c :: d :: r, h => simp at h
theorem aoOk {ps : Ps} {bs : Bs} (D : Drw ps bs) {am : Am} (ok : AmB bs am) (hl : am.length ≤ 3) (ht : total am ≤ 21) : AoOk (sK ps) (sK bs) am where
  col := col_ok D.g.sorted D.j fun t z => by cases z; rw [rowOf_len]
  amok := ⟨fun a ha => by rw [lk_sK D.g.nodB]; exact ok.has a ha, by omega⟩
  nn := fun a ha => ⟨(ok.nn a ha).1, Int.le_trans (ok.nn a ha).2 (by decide)⟩
  few := prod_small hl (fun a ha => (ok.nn a ha).1) ht
section
variable {P : Program} {w : World} {K : PySem.W.Frag} {mg : Str → Option Value} {base : Heap} {c : Addr} {q : Str}
theorem law_each (M : Md K mg) (Z : Mz K) {a : Addr} {T : List (Addr × Str)} {script : V} {ns : List Int} {ps : Ps} {bs : Bs} (D : Drw ps bs) {rest : List Stmt} {s1 : Stmt} {Rt : Rr} (F0 : Hp) (hbody : d_law.body.drop 12 = s1 :: rest)
    (tail : Tr0 (lawF P w K mg base c q) (Pv (lawE K a T script ns ps bs) fun _ F => F = F0) rest none_ Rt) :
    Tr0 (lawF P w K mg base c q) (Pv (lawE K a T script ns ps bs) fun _ F => F = F0) (d_law.body.drop 12) none_ Rt := by
  have hrest : rest = d_law.body.drop 13 := by
    have : d_law.body.drop 13 = (d_law.body.drop 12).drop 1 := by rw [List.drop_drop]
    rw [this, hbody]; rfl
  have g := D.g
  have hB := g.fewB
  show Tr0 _ _ (_ :: _) _ _
  refine tr0_cons (t1_for (lawRows (sK ps) (sK bs)) (envA := fun r => List.set (lawE K a T script ns ps bs) 5 (some (dA r))) (fun _ _ F => F = F0) (it_lst (ex_var 4)) (fun _ _ => tg_name 5) fun i r hr => ?_) ?_
  · have hrm := List.mem_of_getElem? hr
    obtain ⟨h1, h2, h3, h4, h5, h6⟩ := lawRow_ok g.sorted D.j hrm
    have hB1 := lawRow_amB D h1
    have hlen : r.length ≤ 3 := by
      have := congrArg List.length h4
      rw [List.length_map, List.length_map, sK_len] at this; omega
    have hsum := sum_nn fun a ha => (h1.nn a ha).1
    refine tr_one (t1_if (x := false) (ET.cast (et_w (ew_and (x := decide (total r < 9)) (et_lt (ex_call (c_law_total M) (ea_cons (ex_var 5) ea_nil) ⟨r, h1.nod, by omega, rfl, rfl⟩) ex_int) (y := false) fun h => ?_)) (by rw [Bool.and_false])) (fun h => nomatch h) (fun _ => tr_nil fun S F σ h => h.forget [5]))
    have h9 := of_decide_eq_true h
    have hL : LAm (sK bs) r := ⟨by unfold namesOf; rw [h4]; exact sortS_self (sK_asc bs), h1.nod, hlen, fun a ha => ⟨(h1.nn a ha).1, by have := hsum.2 a ha; omega⟩⟩
    have hls := leastIn_self g D.j hrm hL
    refine ew_and1 (ET.cast (et_w (ew_or (x := false) (et_cmp (od_neSame (n := 1) (xs := [dA r]) fun x hx => ?_) (EX.cast (ex_call (c_law_least_within M) (ea_cons (ex_var 2) (ea_cons (ex_var 5) ea_nil)) ⟨ps, bs, r, g, hL.sm, hB1.has, rfl, rfl⟩) (by rw [hls]; rfl)) (ex_lst (ea_cons (ex_var 5) ea_nil) (hl := by show 1 ≤ 10000000; decide))) fun _ => ew_or1 (et_not (et_val (EX.cast (ex_call (c_always_one M Z) (ea_cons (ex_var 14) (ea_cons (ex_var 5) ea_nil)) ⟨sK ps, sK bs, r, aoOk D hB1 hlen (by omega), h2, rfl, rfl⟩) (by rw [(allIn_iff g.sorted D.j).mpr h5])))))) rfl)
    rw [List.mem_singleton] at hx
    subst hx
    have := eq_am (n := 0) (a := r) (b := r) g.sorted.nodB h4 (by rw [h4])
    simpa using this
  rw [hrest] at tail
  exact tail
end
end Em
set_option maxHeartbeats 2000000
/-! The walk (29): the law: drawn amounts. -/
namespace Em
open PySem PySem.Spec PyProof.Rows L2 RZ
abbrev lawP : He.Defn := ("law", none)
section
variable {P : Program} {w : World} {K : PySem.W.Frag} {mg : Str → Option Value} {base : Heap}
abbrev lawG (P : Program) (w : World) (K : PySem.W.Frag) (mg : Str → Option Value) (base : Heap) : Fr := lawF P w K mg base (He.cT K lawP).1 ("law" ++ ".<locals>.")
theorem in_rows {ps : Ps} {bs : Bs} (D : Drw ps bs) (am : Am) : (List.range ((lawRows (sK ps) (sK bs)).map dA).length).any (fun i => decide (rowOf (sK bs) ((lawRows (sK ps) (sK bs)).getD i []) = rowOf (sK bs) am)) = allIn (sK ps) (sK bs) am := by
  have hiff : ∀ a b : Bool, (a = true ↔ b = true) → a = b := fun a b h => by cases a <;> cases b <;> simp_all
  refine hiff _ _ ?_
  rw [allIn_iff D.g.sorted D.j, List.any_eq_true]
  constructor
  · rintro ⟨i, hi, he⟩
    rw [List.mem_range, List.length_map] at hi
    have he := of_decide_eq_true he
    rw [List.getD_eq_getElem?_getD, List.getElem?_eq_getElem hi] at he
    rw [← he]
    exact (lawRow_ok D.g.sorted D.j (List.getElem_mem hi)).2.2.2.2.1
  · intro h
    have hlen := least_len D.g.sorted D.j h
    have hm : amRow (sK bs) (rowOf (sK bs) am) ∈ lawRows (sK ps) (sK bs) := List.mem_map_of_mem ((mem_closeds D.g.sorted D.j).mpr h)
    obtain ⟨i, hi, e⟩ := List.mem_iff_getElem.mp hm
    refine ⟨i, by rw [List.mem_range, List.length_map]; exact hi, decide_eq_true ?_⟩
    rw [List.getD_eq_getElem?_getD, List.getElem?_eq_getElem hi, e]
    exact rowOf_amRow D.g.sorted hlen
theorem law_turns (M : Md K mg) (Z : Mz K) {a : Addr} {T : List (Addr × Str)} (X2 : Tx K mg base T lawP "law") {script : V} {ns : List Int} {ps : Ps} {bs : Bs} (D : Drw ps bs) {rest : List Stmt} {s1 : Stmt} {Rt : Rr} (F0 : Hp) (hbody : d_law.body.drop 13 = s1 :: rest)
    (tail : Tr0 (lawG P w K mg base) (Pv (lawE K a T script ns ps bs) fun _ F => F = F0) rest none_ Rt) :
    Tr0 (lawG P w K mg base) (Pv (lawE K a T script ns ps bs) fun _ F => F = F0) (d_law.body.drop 13) none_ Rt := by
  have hrest : rest = d_law.body.drop 14 := by
    have : d_law.body.drop 14 = (d_law.body.drop 13).drop 1 := by rw [List.drop_drop]
    rw [this, hbody]; rfl
  have g := D.g
  have hB := g.fewB
  show Tr0 _ _ (_ :: _) _ _
  refine tr0_cons (t1_for (List.range 3) (envA := fun (k : Nat) => List.set (lawE K a T script ns ps bs) 11 (some (dI (k : Nat)))) (fun _ _ F => F = F0) (it_rng (n := 3) ex_int (M.free "range") (by omega)) (fun _ _ => tg_name 11) fun i k hk => ?_) ?_
  · have hk3 : k < 3 := by have := List.mem_of_getElem? hk; exact List.mem_range.mp this
    refine tr_cons (t1_setN 13 (D := fun d => ∃ am, d = dA am ∧ AInv bs (3 + 2 * (k : Int)) am) (en_call (c_law_amounts M) (ea_cons (ex_var 1) (ea_cons (ex_var 2) (ea_cons (ex_add ex_int (ex_mul ex_int (ex_var 11) (.inl (by decide)))) ea_nil))).ean (fun ds hds => ⟨ns, ps, bs, _, g, by omega, by omega, hds, rfl⟩))) (tr_ex fun d => tr_and fun hd => ?_)
    obtain ⟨am, rfl, aI⟩ := hd
    have okB := aI.amB g (by omega)
    have okS := okB.sorted g.nodB
    have hlen : am.length ≤ 3 := by rw [aI.len]; exact hB
    have htot : total am ≤ 21 := by have := aI.tot; omega
    have hkp : (am.map (·.1)).Perm ((sK bs).map (·.1)) := by rw [aI.keys, ← names_eq]; exact List.reverse_perm _
    have hbal := lbal_eq g okB
    cases hb : lbal ps bs am with
    | true =>
      rw [hb] at hbal
      refine tr_one (t1_if (x := true) (ET.cast (et_val (ex_call (c_law_balanced M) (ea_cons (ex_var 2) (ea_cons (ex_var 13) ea_nil)) ⟨ps, bs, am, g, okB, rfl, rfl⟩)) hb) (fun _ => ?_) (fun h => nomatch h))
      refine tr_one (t1_if (x := false) (ET.cast (et_w (ew_or (x := false) (ET.cast (et_not (et_val (b := true) (ex_call (c_law_is_sum M 21) (ea_cons (ex_var 2) (ea_cons (ex_var 13) (ea_cons (ex_var 4) ea_nil))) ⟨dTold ps bs, am, lawRows (sK ps) (sK bs), ⟨okB.nod, by omega, fun r hr => ?_⟩, sumGood g.sorted D.j 21 am okS hbal.symm (by omega), rfl, rfl⟩))) rfl) fun _ => ew_or1 (et_cmp (od_ne rfl) (ex_call (c_always_one M Z) (ea_cons (ex_var 14) (ea_cons (ex_var 13) ea_nil)) ⟨sK ps, sK bs, am, aoOk D okB hlen htot, hbal.symm, rfl, rfl⟩) (ex_cmp (od_inL (n := 1) (e := fun i => decide (rowOf (sK bs) ((lawRows (sK ps) (sK bs)).getD i []) = rowOf (sK bs) am)) fun i x hx => ?_) (ex_var 13) (ex_var 4) rfl)))) ?_) (fun h => nomatch h) (fun _ => tr_nil fun S F σ h => h.forget [11, 13]))
      · obtain ⟨h1, _, _, h4, _, _⟩ := lawRow_ok g.sorted D.j hr
        refine ⟨h1.nod, ?_, fun p hp => ?_⟩
        · have := congrArg List.length h4
          rw [List.length_map, List.length_map, sK_len] at this; omega
        · refine lk_has.mpr ?_
          rw [h4]
          exact hkp.mem_iff.mp (List.mem_map_of_mem hp)
      · rw [List.getElem?_map] at hx
        cases hr : (lawRows (sK ps) (sK bs))[i]? with
        | none => rw [hr] at hx; cases hx
        | some r =>
          rw [hr] at hx; cases hx
          have hg : (lawRows (sK ps) (sK bs)).getD i [] = r := by rw [List.getD_eq_getElem?_getD, hr]; rfl
          show EqDa 1 (dA r) (dA am) (decide (rowOf (sK bs) ((lawRows (sK ps) (sK bs)).getD i []) = rowOf (sK bs) am))
          rw [hg]
          exact eq_am (n := 0) g.sorted.nodB (lawRow_ok g.sorted D.j (List.mem_of_getElem? hr)).2.2.2.1 hkp
      · rw [in_rows D am]; simp
    | false =>
      rw [hb] at hbal
      refine tr_one (t1_if (x := false) (ET.cast (et_val (ex_call (c_law_balanced M) (ea_cons (ex_var 2) (ea_cons (ex_var 13) ea_nil)) ⟨ps, bs, am, g, okB, rfl, rfl⟩)) hb) (fun h => nomatch h) (fun _ => ?_))
      refine tr_one (t1_if (x := false) (ET.cast (et_cmp (od_ne rfl) (ex_error (c0 := "NotBalanced") M 0 30 (x_always_one M Z) (ea_cons (ex_var 14) (ea_cons (ex_var 13) ea_nil)) (.inr ⟨sK ps, sK bs, am, g.sorted, ⟨fun a ha => okS.has a ha, by omega⟩, fun a ha => (okS.nn a ha).1, hbal.symm, rfl, rfl⟩) (.inr (.inr rfl)) rfl X2.tab X2.mem X2.uniq (L := by show LamX.lamSB d_law.scope _ = true; decide +kernel)) ex_str) ?_) (fun h => nomatch h) (fun _ => tr_nil fun S F σ h => h.forget [11, 13]))
      simp
  rw [hrest] at tail
  exact tail
end
end Em
set_option maxHeartbeats 2000000
/-! The walk (30): what does not stand where rows are changed. -/
namespace Em
open PySem PySem.Spec PyProof.Rows L2 RZ
section
variable {S : Hp} {p q : Addr} {ws : List V} {us : List (Key × V)}
theorem off_listQ {xs : List Da} (hq : S q = some (.dK us)) (h : ∀ x ∈ xs, Off (Rp S (.ref q)) x) : Off (Rp S (.ref q)) (.lst xs) := .lst (fun z => by obtain ⟨a, vs, e, h1, _⟩ := z.lst_inv; cases e; rw [hq] at h1; cases h1) h
theorem off_listP {xs : List Da} (hp : S p = some (.lst (.ref q :: ws))) (hn : ∀ x ∈ xs, ¬ Rp S (.ref q) x) (h : ∀ x ∈ xs, Off (Rp S (.ref p)) x) : Off (Rp S (.ref p)) (.lst xs) := .lst (fun z => by
  obtain ⟨a, vs, e, h1, h2⟩ := z.lst_inv
  cases e
  rw [hp] at h1; cases h1
  cases xs with
  | nil => cases h2.1
  | cons x r => exact hn x List.mem_cons_self (h2.2 0 _ x rfl rfl)) h
theorem off_tupQ {xs : List Da} (hq : S q = some (.dK us)) (h : ∀ x ∈ xs, Off (Rp S (.ref q)) x) : Off (Rp S (.ref q)) (.tup xs) := .tup (fun z => by obtain ⟨a, vs, e, h1, _⟩ := z.tup_inv; cases e; rw [hq] at h1; cases h1) h
theorem off_tupP {xs : List Da} (hp : S p = some (.lst (.ref q :: ws))) (h : ∀ x ∈ xs, Off (Rp S (.ref p)) x) : Off (Rp S (.ref p)) (.tup xs) := .tup (fun z => by obtain ⟨a, vs, e, h1, _⟩ := z.tup_inv; cases e; rw [hp] at h1; cases h1) h
theorem off_dctP {xs : List (Key × Da)} (hp : S p = some (.lst (.ref q :: ws))) (h : ∀ x ∈ xs, Off (Rp S (.ref p)) x.2) : Off (Rp S (.ref p)) (.dct xs) := .dct (fun z => by obtain ⟨a, vs, e, h1, _⟩ := z.dct_inv; cases e; rw [hp] at h1; cases h1) h
theorem off_dctQ {xs : List (Key × Da)} {r0 : Am} (hq : S q = some (.dK us)) (hr : RpK S us (amD r0)) (hne : xs ≠ []) (hd : ∀ x ∈ xs, ∀ (i : Int) (v : V), Rp S v x.2 → v ≠ .int i) (h : ∀ x ∈ xs, Off (Rp S (.ref q)) x.2) : Off (Rp S (.ref q)) (.dct xs) := .dct (fun z => by
  obtain ⟨a, vs, e, h1, h2⟩ := z.dct_inv
  cases e
  rw [hq] at h1; cases h1
  cases xs with
  | nil => exact hne rfl
  | cons x t =>
    have hl := h2.length
    have hl2 := hr.length
    cases us with
    | nil => cases hl
    | cons u us =>
      cases r0 with
      | nil => cases hl2
      | cons y r0 =>
        have e1 := h2.2 0 u x rfl rfl
        have e2 := hr.2 0 u ((Sum.inr y.1 : Key), dI y.2) rfl rfl
        exact hd x List.mem_cons_self y.2 u.2 e1 e2.v_inv) h
theorem off_insQ {C : Addr} {fs : List (Str × Da)} (hq : S q = some (.dK us)) (h : ∀ x ∈ fs, Off (Rp S (.ref q)) x.2) : Off (Rp S (.ref q)) (.ins C fs) := .ins (fun z => by obtain ⟨a, dx, vs, e, h1, _⟩ := z.ins_inv; cases e; rw [hq] at h1; cases h1) h
theorem off_insP {C : Addr} {fs : List (Str × Da)} (hp : S p = some (.lst (.ref q :: ws))) (h : ∀ x ∈ fs, Off (Rp S (.ref p)) x.2) : Off (Rp S (.ref p)) (.ins C fs) := .ins (fun z => by obtain ⟨a, dx, vs, e, h1, _⟩ := z.ins_inv; cases e; rw [hp] at h1; cases h1) h
theorem no_atom {x : V} (hx : ∀ a, x ≠ .ref a) : ¬ Rp S (.ref q) (.v x) := fun z => hx q z.v_inv.symm
theorem off_ints (hp : S p = some (.lst (.ref q :: ws))) (hq : S q = some (.dK us)) (l : List Int) : Off (Rp S (.ref q)) (dLis l) ∧ Off (Rp S (.ref p)) (dLis l) := ⟨off_listQ hq fun x hx => by obtain ⟨i, _, rfl⟩ := List.mem_map.mp hx; exact .v _, off_listP hp (fun x hx => by obtain ⟨i, _, rfl⟩ := List.mem_map.mp hx; exact no_atom fun a z => nomatch z) fun x hx => by obtain ⟨i, _, rfl⟩ := List.mem_map.mp hx; exact .v _⟩
theorem off_strs (hp : S p = some (.lst (.ref q :: ws))) (hq : S q = some (.dK us)) (l : List Str) : Off (Rp S (.ref q)) (.lst (l.map dS)) ∧ Off (Rp S (.ref p)) (.lst (l.map dS)) := ⟨off_listQ hq fun x hx => by obtain ⟨i, _, rfl⟩ := List.mem_map.mp hx; exact .v _, off_listP hp (fun x hx => by obtain ⟨i, _, rfl⟩ := List.mem_map.mp hx; exact no_atom fun a z => nomatch z) fun x hx => by obtain ⟨i, _, rfl⟩ := List.mem_map.mp hx; exact .v _⟩
theorem off_keyRow (hp : S p = some (.lst (.ref q :: ws))) (hq : S q = some (.dK us)) (l : List Int) : Off (Rp S (.ref q)) (keyRow l) ∧ Off (Rp S (.ref p)) (keyRow l) := ⟨off_tupQ hq fun x hx => by
    simp only [List.mem_cons, List.not_mem_nil, or_false] at hx
    rcases hx with rfl | rfl
    · exact .v _
    · exact (off_ints hp hq l).1, off_tupP hp fun x hx => by
    simp only [List.mem_cons, List.not_mem_nil, or_false] at hx
    rcases hx with rfl | rfl
    · exact .v _
    · exact (off_ints hp hq l).2⟩
theorem off_keys (hp : S p = some (.lst (.ref q :: ws))) (hq : S q = some (.dK us)) (l : List (List Int)) : Off (Rp S (.ref q)) (.lst (l.map keyRow)) ∧ Off (Rp S (.ref p)) (.lst (l.map keyRow)) := ⟨off_listQ hq fun x hx => by obtain ⟨i, _, rfl⟩ := List.mem_map.mp hx; exact (off_keyRow hp hq i).1, off_listP hp (fun x hx => by
    obtain ⟨i, _, rfl⟩ := List.mem_map.mp hx
    intro z
    obtain ⟨a, vs, e, h1, _⟩ := Rp.tup_inv z
    cases e; rw [hq] at h1; cases h1) fun x hx => by obtain ⟨i, _, rfl⟩ := List.mem_map.mp hx; exact (off_keyRow hp hq i).2⟩
theorem off_gT (hp : S p = some (.lst (.ref q :: ws))) (hq : S q = some (.dK us)) (l : List Str) : Off (Rp S (.ref q)) (gT l) ∧ Off (Rp S (.ref p)) (gT l) := ⟨off_tupQ hq fun x hx => by obtain ⟨i, _, rfl⟩ := List.mem_map.mp hx; exact .v _, off_tupP hp fun x hx => by obtain ⟨i, _, rfl⟩ := List.mem_map.mp hx; exact .v _⟩
theorem off_sheet {K : PySem.W.Frag} {ps : Ps} {bs : Bs} (g : Good ps bs) {r0 : Am} (hp : S p = some (.lst (.ref q :: ws))) (hq : S q = some (.dK us)) (hr : RpK S us (amD r0)) : Off (Rp S (.ref q)) (Sh K ps bs) ∧ Off (Rp S (.ref p)) (Sh K ps bs) := by
  constructor
  · refine off_insQ hq fun x hx => ?_
    simp only [List.mem_cons, List.not_mem_nil, or_false] at hx
    rcases hx with rfl | rfl
    · refine off_dctQ hq hr (fun z => g.neP (List.map_eq_nil_iff.mp z)) (fun x hx i v r => ?_) fun x hx => ?_
      · obtain ⟨y, _, rfl⟩ := List.mem_map.mp hx
        rw [r.v_inv]; exact fun z => nomatch z
      · obtain ⟨y, _, rfl⟩ := List.mem_map.mp hx; exact .v _
    · refine off_dctQ hq hr (fun z => g.neB (List.map_eq_nil_iff.mp z)) (fun x hx i v r => ?_) fun x hx => ?_
      · obtain ⟨y, _, rfl⟩ := List.mem_map.mp hx
        obtain ⟨a, vs, rfl, _⟩ := Rp.tup_inv r
        exact fun z => nomatch z
      · obtain ⟨y, _, rfl⟩ := List.mem_map.mp hx; exact (off_gT hp hq _).1
  · refine off_insP hp fun x hx => ?_
    simp only [List.mem_cons, List.not_mem_nil, or_false] at hx
    rcases hx with rfl | rfl
    · refine off_dctP hp fun x hx => ?_
      obtain ⟨y, _, rfl⟩ := List.mem_map.mp hx; exact .v _
    · refine off_dctP hp fun x hx => ?_
      obtain ⟨y, _, rfl⟩ := List.mem_map.mp hx; exact (off_gT hp hq _).2
theorem off_draw (hp : S p = some (.lst (.ref q :: ws))) (hq : S q = some (.dK us)) (l : List Int) : Off (Rp S (.ref q)) (.drw (dLis l)) ∧ Off (Rp S (.ref p)) (.drw (dLis l)) := ⟨.drw (fun z => by obtain ⟨a, w, e, h1, _⟩ := z.drw_inv; cases e; rw [hq] at h1; cases h1) (off_ints hp hq l).1, .drw (fun z => by obtain ⟨a, w, e, h1, _⟩ := z.drw_inv; cases e; rw [hp] at h1; cases h1) (off_ints hp hq l).2⟩
end
end Em
set_option maxHeartbeats 2000000
/-! The walk (31): the law: its rows are changed. -/
namespace Em
open PySem PySem.Spec PyProof.Rows L2 RZ
section
variable {P : Program} {w : World} {K : PySem.W.Frag} {mg : Str → Option Value} {base : Heap}
/-- what lives to the end -/
abbrev lawM (K : PySem.W.Frag) (a : Addr) (T : List (Addr × Str)) (script : V) (ns : List Int) (ps : Ps) (bs : Bs) : En :=
  [some (.tb a T (.v script)), some (.drw (dLis ns)), none, some (dNames bs), none, none, some (dKeys ps bs), none, none, none, none, none, none, none, some (Sh K (sK ps) (sK bs)), none, none]
theorem law_again (M : Md K mg) (Z : Mz K) {a : Addr} {T : List (Addr × Str)} (X : Tx K mg base T cloP "closings_of") {script : V} {ns : List Int} {ps : Ps} {bs : Bs} (D : Drw ps bs) {rest : List Stmt} {s1 : Stmt} {Rt : Rr} (F0 : Hp) (hbody : d_law.body.drop 14 = s1 :: rest)
    (tail : Tr0 (lawG P w K mg base) (Pv (lawM K a T script ns ps bs) fun _ F => F = F0) rest none_ Rt) :
    Tr0 (lawG P w K mg base) (Pv (lawE K a T script ns ps bs) fun _ F => F = F0) (d_law.body.drop 14) none_ Rt := by
  have hrest : rest = d_law.body.drop 15 := by
    have : d_law.body.drop 15 = (d_law.body.drop 14).drop 1 := by rw [List.drop_drop]
    rw [this, hbody]; rfl
  have g := D.g
  have gS := g.sorted
  have hB := g.fewB
  have hfew := lawRow_few D
  have hrl : (lawRows (sK ps) (sK bs)).length ≤ 1000000 := by unfold lawRows; rw [List.length_map]; exact hfew
  rw [hrest] at tail
  show Tr0 _ _ (_ :: _) _ _
  refine tr0_if (Mid := Pv (lawM K a T script ns ps bs) fun _ F => F = F0) (b := !decide ((lawRows (sK ps) (sK bs)).map dA = [])) (et_cmp od_neNil (ex_var 4) (ex_lst ea_nil)) (fun hb => ?_) (fun _ S F σ h => h.forget [2, 4]) tail
  cases hr : lawRows (sK ps) (sK bs) with
  | nil => rw [hr] at hb; simp at hb
  | cons r0 rows =>
    refine tr0_clearPop 4 (env' := lawM K a T script ns ps bs) (r0 := r0) (rows := rows) (by show some (some (dRows ps bs)) = _; unfold dRows; rw [hr]) rfl (fun j d h => ?_) (fun S p q ws us hp hq hu d hd => ?_) (fun S S' F h => h) ?_ rfl (.inl rfl)
    · match j, h with
      | 0, h => exact h
      | 1, h => exact h
      | 3, h => exact h
      | 6, h => exact h
      | 14, h => exact h
      | 2, h => cases h
      | 4, h => cases h
      | 5, h => cases h
      | 7, h => cases h
      | 8, h => cases h
      | 9, h => cases h
      | 10, h => cases h
      | 11, h => cases h
      | 12, h => cases h
      | 13, h => cases h
      | 15, h => cases h
      | 16, h => cases h
      | n + 17, h => cases h
    · simp only [List.mem_cons, List.not_mem_nil, or_false, Option.some.injEq, reduceCtorEq, false_or, or_self] at hd
      rcases hd with rfl | rfl | rfl | rfl | rfl
      · exact ⟨.tb (.v _), .tb (.v _)⟩
      · exact off_draw hp hq ns
      · exact off_strs hp hq _
      · exact off_keys hp hq _
      · exact off_sheet gS hp hq hu
    · refine tr0_of ?_
      refine tr_cons (t1_set 12 (d := dRows ps bs) (EX.cast (ex_call (c_least_closings M Z X) (ea_cons (EX.toTb 0 (ex_var 14)) ea_nil) ⟨sK ps, sK bs, col_ok gS D.j (fun t z => nomatch z), by omega, rfl, rfl⟩) (by unfold dClos dRows lawRows; rw [List.map_map]; rfl))) ?_
      refine tr_one (t1_if (x := false) (et_cmp (od_neSame (n := 2) (xs := (closeds (sK ps) (sK bs)).map keyRow) fun x hx => ?_) (EX.cast (ex_map (lawRows (sK ps) (sK bs)) (enc := dA) (r := keyD) [("_law_row", 5)] (it_lst (ex_var 12)) (by omega) (fun _ _ => tg_name 5) (fun r hr => ex_call (c_law_key M) (ea_cons (ex_var 5) ea_nil) ⟨r, ?_, ?_, rfl, rfl⟩)) (by rw [keys_eq D])) (ex_var 6)) (fun h => nomatch h) (fun _ => tr_nil fun S F σ h => h.forget [12]))
      · obtain ⟨r, _, rfl⟩ := List.mem_map.mp hx; exact eq_keyRow r
      · exact (lawRow_ok gS D.j hr).1.nod
      · have := congrArg List.length (lawRow_ok gS D.j hr).2.2.2.1
        rw [List.length_map, List.length_map, sK_len] at this; omega
end
end Em
set_option maxHeartbeats 1000000
/-! The logic over plain data (23): a dict display with one entry. -/
namespace Em
open PySem PySem.Spec PyProof.Rows L2 RZ
section
variable {f : Fr} {env : En} {pos : Pos}
theorem ex_dict1 {k v : Expr} {x : Str} {i : Int} (hk : EX f env k (dS x)) (hv : EX f env v (dI i)) (hpv : f.pv = [] := by rfl) : EX f env (.Dict [some k] [v] pos) (dA [(x, i)]) := fun S F σ H hp hσ hs Q q =>
  wE_of (te := tDisp [(wE f k, wE f v)]) (fun X hX => pe_disp (pps_cons (pw_e hX) (pw_e hX) pps_nil) rfl rfl (by simp) (by show 1 ≤ 15; decide)) (fun p hpn => by
    have hF := hs.freeF hpn
    have hpf : ∀ G : Hp, f.pf G := fun G z hz => by rw [hpv] at hz; cases hz
    refine hk S (upd F p (.dK [])) σ _ (hpf _) hσ (hs.newF hpn) _ fun v1 S1 H1 g1 s1 k1 r1 => ?_
    refine hv S1 (upd F p (.dK [])) σ H1 (hpf _) (hσ.mono g1) s1 _ fun v2 S2 H2 g2 s2 k2 r2 => ?_
    obtain rfl := r1.v_inv
    obtain rfl := r2.v_inv
    have hH2 : H2 p = some (.dK []) := s2.prv p _ upd_same
    refine ⟨hH2, [(.inr x, .int i)], rfl, by show 1 ≤ 15; decide, ?_⟩
    have s3 := s2.put (u := .dK [(.inr x, .int i)]) upd_same
    rw [upd_upd] at s3
    have s4 := s3.tell (p := p) upd_same
    rw [rem_upd hF] at s4
    have hS : S2 p = none := s3.freeSF upd_same
    exact q _ _ _ (g1.trans (g2.trans (Gr.new hS))) s4 ((Kf.new hpn).trans (k1.trans (k2.trans (Kf.put hH2 fun _ _ z => nomatch z)))) (.dctK upd_same (.cons (.v _) .nil)))
end
end Em
set_option maxHeartbeats 2000000
/-! The walk (32): the law's last statements. -/
namespace Em
open PySem PySem.Spec PyProof.Rows L2 RZ
theorem no_ab {ps : Ps} {bs : Bs} (g : Good ps bs) : lk bs "a b" = none := by
  cases h : lk bs "a b" with
  | none => rfl
  | some es =>
    have := g.wordB _ (lk_some h)
    have h2 : isWord "a b" = false := by decide +kernel
    rw [h2] at this; cases this
theorem bal_nil (ps : Ps) (bs : Bs) : balanced ps bs [] = true := by
  unfold balanced
  rw [List.all_eq_true]
  intro j _
  refine decide_eq_true ?_
  unfold excessAt endsAt
  simp
/-- e stands for itself among arguments -/
abbrev Sole (e : Expr) : Prop := ∀ (es : List Expr) (env : Env), starEach (e :: es) env = (false, eval e env) :: starEach es env
section
variable {f : Fr} {env : En}
theorem ea_four {e1 e2 e3 e4 : Expr} {d1 d2 d3 d4 : Da} (h1 : EX f env e1 d1) (h2 : EX f env e2 d2) (h3 : EX f env e3 d3) (h4 : EX f env e4 d4) (s1 : Sole e1) (s2 : Sole e2) (s3 : Sole e3) (s4 : Sole e4) : EA f env [e1, e2, e3, e4] [d1, d2, d3, d4] :=
  ea_cons h1 (ea_cons h2 (ea_cons h3 (ea_cons h4 ea_nil (s4 _)) (s3 _)) (s2 _)) (s1 _)
theorem ex_four {e e1 e2 e3 e4 : Expr} {d1 d2 d3 d4 : Da} {pos : Pos} (he : e = .List [e1, e2, e3, e4] pos) (h1 : EX f env e1 d1) (h2 : EX f env e2 d2) (h3 : EX f env e3 d3) (h4 : EX f env e4 d4) (s1 : Sole e1) (s2 : Sole e2) (s3 : Sole e3) (s4 : Sole e4) : EX f env e (.lst [d1, d2, d3, d4]) := by
  subst he
  exact ex_lst (ea_four h1 h2 h3 h4 s1 s2 s3 s4) (hl := by show 4 ≤ 10000000; decide)
theorem ex_dictOf {e k v : Expr} {x : Str} {i : Int} {pos : Pos} (he : e = .Dict [some k] [v] pos) (hk : EX f env k (dS x)) (hv : EX f env v (dI i)) (hpv : f.pv = []) : EX f env e (dA [(x, i)]) := by
  subst he
  exact ex_dict1 hk hv hpv
theorem ex_wrong {e e1 e2 e3 e4 k3 v3 : Expr} {b0 : Str} {xs : List Da} {y x : Str} {i1 i2 : Int} {j1 j2 j3 j4 j5 : Nat} {p1 p2 p3 p4 p5 p6 p7 p8 p9 p10 p11 p12 : Pos} (hpv : f.pv = []) (h : EX f env (.Name y p5) (.lst xs)) (h0 : atI xs 0 = some (dS b0))
    (he : e = .List [e1, e2, e3, e4] p12) (he1 : e1 = .Constant .none j1 p1) (he2 : e2 = .Dict [some (.Constant (.str x) j2 p2)] [.Constant (.int i1) j3 p3] p4) (he3 : e3 = .Dict [some k3] [v3] p10) (hk3 : k3 = .Subscript (.Name y p5) (.Constant (.int 0) j4 p6) p7) (hv3 : v3 = .UnaryOp .USub (.Constant (.int i2) j5 p8) p9) (he4 : e4 = .List [] p11)
    (s1 : Sole e1) (s2 : Sole e2) (s3 : Sole e3) (s4 : Sole e4) : EX f env e (.lst [dN, dA [(x, i1)], dA [(b0, -i2)], .lst []]) := by
  have h1 : EX f env e1 dN := by rw [he1]; exact ex_non
  have hk : EX f env k3 (dS b0) := by rw [hk3]; exact ex_ixL h ex_int h0
  have hv : EX f env v3 (dI (-i2)) := by rw [hv3]; exact ex_neg ex_int
  have h4 : EX f env e4 (.lst []) := by rw [he4]; exact ex_lst ea_nil
  exact ex_four he h1 (ex_dictOf he2 ex_str ex_int hpv) (ex_dictOf he3 hk hv hpv) h4 s1 s2 s3 s4
end
section
variable {P : Program} {w : World} {K : PySem.W.Frag} {mg : Str → Option Value} {base : Heap}
theorem pick_wrong {f : Fr} {env : En} (M : Md f.K f.mg) {ns : List Int} {ps : Ps} {bs : Bs} (gS : Good ps bs) {b0 : Str} {e c : Expr} {pd pc pp : Pos} (hc : c = .Call (.Name "_law_pick" pp) [.Name "_law_draw_here" pd, e] [] pc) (hd : EX f env (.Name "_law_draw_here" pd) (.drw (dLis ns))) (he : EX f env e (.lst [dN, dA [("a b", 1)], dA [(b0, -1)], .lst []])) (h0 : (lk bs b0).isSome = true) (hs : Sole e) (hk : 4 ≤ f.k) (hg : GlS f "_law_pick") :
    EN f env c (Wrong bs) := by
  subst hc
  refine en_call (c_law_pick M) (ea_cons hd (ea_cons he ea_nil (hs _)) (fun _ => rfl)).ean (fun ds hds => ⟨ns, _, by simp, by show 4 ≤ 1000000; decide, fun x hx => ?_, hds⟩) hk hg (by decide) (fun _ => rfl) (fun en => by rw [hs [] en]; rfl)
  simp only [List.mem_cons, List.not_mem_nil, or_false] at hx
  rcases hx with rfl | rfl | rfl | rfl
  · exact .non
  · exact .name _ _ (no_ab gS)
  · exact .neg _ _ h0 (by decide)
  · exact .lst
end
end Em
set_option maxHeartbeats 2000000
/-! The walk (34): the law's end. -/
namespace Em
open PySem PySem.Spec PyProof.Rows L2 RZ
section
variable {P : Program} {w : World} {K : PySem.W.Frag} {mg : Str → Option Value} {base : Heap}
theorem law_end (M : Md K mg) (Z : Mz K) {a : Addr} {T : List (Addr × Str)} (X2 : Tx K mg base T lawP "law") {script : V} {ns : List Int} {ps : Ps} {bs : Bs} (D : Drw ps bs) (F0 : Hp) {c : Expr} {pw pa : Pos} {rest : List Stmt} (hbody : d_law.body.drop 15 = .Assign [.Name "_law_wrong" pw] c pa :: rest)
    (hc : EN (lawG P w K mg base) (lawM K a T script ns ps bs) c (Wrong (sK bs))) (hsw : ∀ l env, swapsWith c (some (.Name "_law_wrong" pw)) l env = pure false) :
    Tr0 (lawG P w K mg base) (Pv (lawM K a T script ns ps bs) fun _ F => F = F0) (d_law.body.drop 15) none_ (Rv (dB true) fun _ F => F = F0) := by
  have g := D.g
  have gS := g.sorted
  have hrest : rest = d_law.body.drop 16 := by
    have : d_law.body.drop 16 = (d_law.body.drop 15).drop 1 := by rw [List.drop_drop]
    rw [this, hbody]; rfl
  rw [hbody, hrest]
  refine tr0_cons (t1_setN 15 (D := Wrong (sK bs)) hc (hsw := hsw)) (tr0_ex fun d => tr0_and fun hd => ?_)
  have hz : allIn (sK ps) (sK bs) [] = false := by
    cases h : allIn (sK ps) (sK bs) [] with
    | false => rfl
    | true =>
      have hl := (allIn_iff gS D.j).mp h
      have := (clo_iff gS (am := []) ⟨by simp, by simp, by simp⟩).mp hl.clo
      exact absurd this.2 (by decide)
  show Tr0 _ _ (_ :: _) _ _
  refine tr0_of (tr_cons (t1_if (x := false) (ET.cast (et_w (ew_or (x := false) (ET.cast (et_cmp (od_ne rfl) (ex_error (c0 := "BadAmounts") M 0 30 (x_always_one M Z) (ea_cons (ex_var 14) (ea_cons (ex_var 15) ea_nil)) (.inl ⟨sK ps, sK bs, d, hd, rfl, rfl⟩) (.inr (.inl rfl)) rfl X2.tab X2.mem X2.uniq (L := by show LamX.lamSB d_law.scope _ = true; decide +kernel)) ex_str) (by simp)) fun _ => ew_or1 (et_val (ex_call (c_always_one M Z) (ea_cons (ex_var 14) (ea_cons ex_dnew ea_nil)) ⟨sK ps, sK bs, [], aoOk D ⟨by simp, by simp, by simp⟩ (by decide) (by decide), bal_nil _ _, rfl, rfl⟩)))) (by rw [hz]; rfl)) (fun h => nomatch h) (fun _ => tr_nil fun S F σ h => h)) ?_)
  refine tr_one (t1_ret (EX.cast (ex_cmp (od_eq rfl) (ex_error (c0 := "BadSheet") M 0 30 (x_least_closings M Z) (ea_cons ex_non ea_nil) ⟨rfl, rfl⟩ (.inl rfl) rfl X2.tab X2.mem X2.uniq (L := by show LamX.lamSB d_law.scope _ = true; decide +kernel)) ex_str) (by simp)))
end
end Em
set_option maxHeartbeats 2000000
/-! The walk (33): the law: its first statement, what the caller holds is read. -/
namespace Em
open PySem PySem.Spec PyProof.Rows L2 RZ
/-- private things that a statement sees -/
abbrev Fr.see (f : Fr) (pv : List (Addr × HO)) : Fr := { f with pv := pv }
section
variable {f : Fr} {env : En} {pos : Pos}
theorem Okx.see {X : Cx} {pv : List (Addr × HO)} (h : Okx f X) : Okx (f.see pv) X := ⟨h.prog, h.w, h.K, h.mg, h.base, h.N, h.sc, h.calm, h.room, h.nox, h.fn, h.nd, h.code⟩
theorem t1_see {P Nx : Pr} {st : Stmt} {Rt : Rr} (pv : List (Addr × HO)) (h : T1 (f.see pv) P st Nx Rt) : T1 f P st Nx Rt := fun S F σ H D hp hs y dn X pins s hX I => h S F σ H D hp hs y dn X pins s hX.see I
/-- xs[:n] of a list that is told by the heap -/
theorem ex_slH {a b : Expr} {sa : Addr} {xs : List Int} {n : Nat} {p2 : Pos} (ha : EX f env a (.v (.ref sa))) (hb : EX f env b (dI n)) (hq : ∀ S F H, f.pf F → Sep S F H → SqL f.K H sa (xs.map V.int)) : EX f env (.Subscript a (.Slice none (some b) none p2) pos) (dLis (xs.take n)) := fun S F σ H hp hσ hs Q q =>
  wE_of (te := tSl (rSlL f.K) (wE f a) tNoPart (tPart (wE f b))) (fun X hX => by rw [← hX.K]; exact pe_slice sl_list (pw_e hX) po_none (po_some (pw_e hX))) (ha S F σ H hp hσ hs _ fun v1 S1 H1 g1 s1 k1 r1 => hb S1 F σ H1 hp (hσ.mono g1) s1 _ fun v2 S2 H2 g2 s2 k2 r2 => by
    obtain rfl := r1.v_inv
    obtain rfl := r2.v_inv
    have e1 : HT.sIx (xs.map V.int).length 0 none = 0 := rfl
    have e2 : HT.sIx (xs.map V.int).length (xs.map V.int).length (some (n : Int)) = min n (xs.map V.int).length := by
      unfold HT.sIx; simp only; split <;> omega
    have ec : cutV (xs.map V.int) none (some (n : Int)) = (xs.take n).map V.int := by
      unfold cutV; rw [e1, e2, List.map_take]; simp
    refine ⟨(n : Int), rfl, sa, xs.map V.int, rfl, hq S2 F H2 hp s2, fun p hpn => ?_⟩
    rw [ec]
    exact (q.step (g1.trans g2) (k1.trans k2)).fresh s2 hpn (.lstL upd_same (RpL.of_atoms V.int _)))
end
section
variable {P : Program} {w : World} {K : PySem.W.Frag} {mg : Str → Option Value} {base : Heap} {c : Addr} {q : Str}
theorem law_first {a : Addr} {T : List (Addr × Str)} {sa : Addr} {script : List Int} {F0 : Hp} (pv : List (Addr × HO)) (hF : ∀ p ∈ pv, F0 p.1 = some p.2) (hq : ∀ H, (∀ p ∈ pv, H p.1 = some p.2) → SqL K H sa (script.map V.int)) {s1 : Stmt} {rest : List Stmt} {Rt : Rr} (hbody : d_law.body = s1 :: rest)
    (tail : Tr0 (lawF P w K mg base c q) (Pv (List.set (startE lawN [.tb a T (.v (.ref sa))]) 1 (some (.drw (dLis (script.take 63))))) fun _ F => F = F0) (d_law.body.drop 1) none_ Rt) :
    Tr0 (lawF P w K mg base c q) (Pv (startE lawN [.tb a T (.v (.ref sa))]) fun _ F => F = F0) d_law.body none_ Rt := by
  show Tr0 _ _ (_ :: _) _ _
  refine tr0_cons (t1_see pv (t1_set 1 (d := .drw (dLis (script.take 63))) (ex_newDraw (ex_slH (n := 63) (EX.unTb (ex_var 0)) ex_int (fun S F H hp hs => hq H fun p h => hs.prv _ _ (hp p h)))) (hc := fun S F (e : F = F0) => by rw [e]; exact hF))) ?_
  exact tail
end
end Em
set_option maxHeartbeats 2000000
/-! The walk (35): the whole law. -/
namespace Em
open PySem PySem.Spec PyProof.Rows L2 RZ
section
variable {P : Program} {w : World} {K : PySem.W.Frag} {mg : Str → Option Value} {base : Heap}
theorem law_last (M : Md K mg) (Z : Mz K) {a : Addr} {T : List (Addr × Str)} (X2 : Tx K mg base T lawP "law") {script : V} {ns : List Int} {ps : Ps} {bs : Bs} (D : Drw ps bs) (F0 : Hp) :
    Tr0 (lawG P w K mg base) (Pv (lawM K a T script ns ps bs) fun _ F => F = F0) (d_law.body.drop 15) none_ (Rv (dB true) fun _ F => F = F0) := by
  have gS := D.g.sorted
  obtain ⟨b0, br, hb0⟩ : ∃ b r, sK bs = b :: r := by cases h : sK bs with | nil => exact absurd h gS.neB | cons b r => exact ⟨b, r, rfl⟩
  have hn0 : (lk (sK bs) b0.1).isSome = true := lk_has.mpr (by rw [hb0]; exact List.mem_cons_self)
  refine law_end M Z X2 D F0 rfl (pick_wrong M gS (b0 := b0.1) rfl (ex_var 1) (ex_wrong rfl (ex_var 3) (by rw [hb0]; exact atI_nat (j := 0) rfl) rfl rfl rfl rfl rfl rfl rfl (fun _ _ => rfl) (fun _ _ => rfl) (fun _ _ => rfl) (fun _ _ => rfl)) hn0 (fun _ _ => rfl) (Nat.le_of_ble_eq_true rfl) rfl) (fun _ _ => rfl)
end
end Em
set_option maxHeartbeats 2000000
/-! The walk (36): the law's promise. -/
namespace Em
open PySem PySem.Spec PyProof.Rows L2 RZ
section
variable {P : Program} {w : World} {K : PySem.W.Frag} {mg : Str → Option Value} {base : Heap}
theorem law_all (M : Md K mg) (Z : Mz K) {a : Addr} {T : List (Addr × Str)} (X : Tx K mg base T cloP "closings_of") (X2 : Tx K mg base T lawP "law") {sa : Addr} {script : List Int} {F0 : Hp} (pv : List (Addr × HO)) (hF : ∀ p ∈ pv, F0 p.1 = some p.2) (hq : ∀ H, (∀ p ∈ pv, H p.1 = some p.2) → SqL K H sa (script.map V.int)) :
    Tr0 (lawG P w K mg base) (Pv (startE lawN [.tb a T (.v (.ref sa))]) fun _ F => F = F0) d_law.body none_ (Rv (dB true) fun _ F => F = F0) :=
  law_first pv hF hq rfl (law_start M Z X (rest := d_law.body.drop 7) F0 rfl fun _ _ D => law_box M D (rest := d_law.body.drop 12) F0 rfl (law_each M Z D (rest := d_law.body.drop 13) F0 rfl (law_turns M Z X2 D (rest := d_law.body.drop 14) F0 rfl (law_again M Z X D (rest := d_law.body.drop 15) F0 rfl (law_last M Z X2 D F0)))))
/-- what is asked of the heap where the law is called -/
def spLaw (K : PySem.W.Frag) (cs : List (Addr × Addr)) : Sp := fun vs H Q _ => ∃ (sa : Addr) (ns : List Int), vs = [.ref sa] ∧ SqL K H sa (ns.map V.int) ∧ (∀ p ∈ cs, H p.2 = some (.tbl #[])) ∧ (∀ b o u, H b = some (.frz o u) → ¬ isDic u) ∧ ∀ H', Q (.bl true) H'
/-- the two defs that make lambdas -/
abbrev csLaw (K : PySem.W.Frag) : List (Addr × Addr) := [He.cT K cloP, He.cT K lawP]
abbrev tabLaw (K : PySem.W.Frag) : List (Addr × Str) := [((He.cT K cloP).2, "closings_of" ++ ".<locals>." ++ "<lambda>"), ((He.cT K lawP).2, "law" ++ ".<locals>." ++ "<lambda>")]
theorem tx_clo (ne : (He.cT K cloP).2 ≠ (He.cT K lawP).2) (TB : ∀ p ∈ csLaw K, LamX.TabB base mg p.1 p.2) : Tx K mg base (tabLaw K) cloP "closings_of" where
  tab := TB _ List.mem_cons_self
  mem := List.mem_cons_self
  uniq := fun r hr e => by
    simp only [List.mem_cons, List.not_mem_nil, or_false] at hr
    rcases hr with rfl | rfl
    · rfl
    · exact absurd e.symm ne
theorem tx_law (ne : (He.cT K cloP).2 ≠ (He.cT K lawP).2) (TB : ∀ p ∈ csLaw K, LamX.TabB base mg p.1 p.2) : Tx K mg base (tabLaw K) lawP "law" where
  tab := TB _ (List.mem_cons_of_mem _ List.mem_cons_self)
  mem := List.mem_cons_of_mem _ List.mem_cons_self
  uniq := fun r hr e => by
    simp only [List.mem_cons, List.not_mem_nil, or_false] at hr
    rcases hr with rfl | rfl
    · exact absurd e ne
    · rfl
/-- how the heap parts where the law begins -/
theorem sep_law {H : Hp} {sa : Addr} {ns : List Int} (hS : SqL K H sa (ns.map V.int)) (hT : ∀ p ∈ csLaw K, H p.2 = some (.tbl #[])) :
    ∃ (F0 : Hp) (pv : List (Addr × HO)), Sep (fun b => if b = (He.cT K lawP).2 then some (.tbl (encT (tabLaw K))) else none) F0 H ∧ (∀ p ∈ pv, F0 p.1 = some p.2) ∧ ∀ H', (∀ p ∈ pv, H' p.1 = some p.2) → SqL K H' sa (ns.map V.int) := by
  have hcl := hT (He.cT K cloP) List.mem_cons_self
  have hla := hT (He.cT K lawP) (List.mem_cons_of_mem _ List.mem_cons_self)
  have tb : LamX.Tabs (tabLaw K) H := fun p hp => by
    simp only [List.mem_cons, List.not_mem_nil, or_false] at hp
    rcases hp with rfl | rfl
    · exact .nil hcl
    · exact .nil hla
  have key : ∀ F0 : Hp, (∀ a o, F0 a = some o → H a = some o ∧ ¬ isTE o ∧ ∀ vs, o ≠ .tup vs) → Sep (fun b => if b = (He.cT K lawP).2 then some (.tbl (encT (tabLaw K))) else none) F0 H := fun F0 h0 => by
    refine ⟨fun a o e nt => ?_, fun a ps e => ?_, fun a b ps qs e e' => ?_, fun a o e => (h0 a o e).1, fun a o e => ?_, fun a vs e => (h0 a _ e).2.2 vs rfl, fun a o e => (h0 a o e).2.1⟩
    · split at e
      · cases e; exact absurd rfl (nt _)
      · cases e
    · split at e
      · rename_i z
        cases e
        exact ⟨tabLaw K, rfl, tb, _, by rw [z]; exact List.mem_cons_of_mem _ List.mem_cons_self⟩
      · cases e
    · split at e
      · split at e'
        · cases e; cases e'; rfl
        · cases e'
      · cases e
    · split at e
      · rename_i z
        subst z
        cases q : F0 (He.cT K lawP).2 with
        | none => rfl
        | some u =>
          have := h0 _ u q
          rw [hla] at this
          obtain ⟨h1, h2, _⟩ := this
          cases h1
          exact absurd True.intro h2
      · cases e
  rcases hS with r | hK
  · obtain ⟨o, ho, n1, n2, hr⟩ : ∃ o, H sa = some o ∧ ¬ isTE o ∧ (∀ vs, o ≠ .tup vs) ∧ ∀ H', H' sa = some o → Rd H' sa (.lst (ns.map V.int)) := by
      rcases r with r | ⟨ob, r⟩
      · exact ⟨_, r, fun z => z, fun vs z => (nomatch z), fun H' e => .inl e⟩
      · exact ⟨_, r, fun z => z, fun vs z => (nomatch z), fun H' e => .inr ⟨ob, e⟩⟩
    refine ⟨fun b => if b = sa then some o else none, [(sa, o)], key _ fun a u e => ?_, fun p hp => ?_, fun H' h => .inl (hr H' (h _ List.mem_cons_self))⟩
    · split at e
      · rename_i z
        cases e; subst z; exact ⟨ho, n1, n2⟩
      · cases e
    · rw [List.mem_singleton] at hp
      subst hp
      exact if_pos rfl
  · exact ⟨fun _ => none, [], key _ fun a u e => (nomatch e), fun p hp => (nomatch hp), fun H' _ => .inr hK⟩
theorem law_ok (M : Md K mg) (Z : Mz K) (ne : (He.cT K cloP).2 ≠ (He.cT K lawP).2) (TB : ∀ p ∈ csLaw K, LamX.TabB base mg p.1 p.2) {fd : FuncData} (F : FunD K d_law.name d_law.qual d_law.params d_law.body d_law.scope [] [] (He.ga K "law") fd) :
    FnOk P w K mg base CX0 41 (He.ga K "law") fd ["_law_script"] (spLaw K (csLaw K)) := by
  obtain ⟨oc, od, dV, kV, doc, pm, an, cdv, ct, osl, rfl, lk, hcd, _, _⟩ := F.ex
  obtain ⟨c, rfl⟩ := He.codeIn_ref hcd
  have ec : He.codeOf K lawP = c := He.codeOf_eq lk rfl
  refine fn_of lk hcd (C8.fnScope_by (N := lawN) (by decide +kernel)) (fun vs H Q E ⟨sa, ns, e, _⟩ => by rw [e]; rfl) fun A outer s H vs Q E hr ⟨sa, ns, e, hS, hT, hD, hQ⟩ => ?_
  subst e
  obtain ⟨F0, pv, hs, hF, hq⟩ := sep_law hS hT
  have okx := okx_def (ps := ["_law_script"]) (P := P) (w := w) (K := K) (mg := mg) (base := base) (CX := CX0) (E := E) (pv := []) (N := lawN) (cq := some ((He.cT K lawP).1, "law" ++ ".<locals>.")) (qual := d_law.qual) (fa := He.ga K "law") (cd := .ref c) (outer := outer) (H := H) (s := s) (C8.fnScope_by (by decide +kernel)) hr fun p e => by
    cases e; exact ⟨by rw [← ec]; rfl, rfl⟩
  refine ⟨_, PSs.nox (pw_s0 (ss := d_law.body) okx (fun b o u e => hD b o u e)), ?_⟩
  have rp : RpL (fun b => if b = (He.cT K lawP).2 then some (HO.tbl (encT (tabLaw K))) else none) [V.ref sa] [.tb (He.cT K lawP).2 (tabLaw K) (.v (.ref sa))] := .cons (.tb (if_pos rfl) (.v _)) .nil
  exact law_all M Z (tx_clo ne TB) (tx_law ne TB) pv hF hq _ F0 _ H _ ⟨sle_start rp, Up.of rfl⟩ hs ⟨fun S' F' σ' H' _ e => e.elim, fun S' F' v H' _ e => by
    obtain ⟨e1, _⟩ := e
    obtain rfl := e1.v_inv
    exact hQ H'⟩
end
end Em
set_option maxHeartbeats 2000000
/-! The walk (37): the law is called where the module has been run. -/
namespace Em
open PySem PySem.Spec PyProof.Rows L2 RZ
/-- the heap where the law is called: the tables, and the script where the module does not hold it -/
def hpLaw (ts : List Addr) (K : PySem.W.Frag) (sa : Addr) (O : Obj) (u : HO) : Hp := fun b => if b ∈ ts then some (.tbl #[]) else if b = sa ∧ K.lookup sa = none then some (.frz O u) else none
theorem hpLaw_cases {ts : List Addr} {K : PySem.W.Frag} {sa b : Addr} {O : Obj} {u o : HO} (h : hpLaw ts K sa O u b = some o) : (b ∈ ts ∧ o = .tbl #[]) ∨ (b ∉ ts ∧ b = sa ∧ K.lookup sa = none ∧ o = .frz O u) := by
  unfold hpLaw at h
  split at h
  · rename_i n; cases h; exact .inl ⟨n, rfl⟩
  · split at h
    · rename_i n z; cases h; exact .inr ⟨n, z.1, z.2, rfl⟩
    · cases h
theorem none_by {H : Hp} {b : Addr} (h : ∀ o, H b = some o → False) : H b = none := by
  cases e : H b with
  | none => rfl
  | some o => exact (h o e).elim
section
variable {P : Program} {w : World} {K : PySem.W.Frag} {mg mb : Str → Option Value} {k : Nat} {fa sa : Addr} {cs : List (Addr × Addr)} {fd : FuncData} {x : Str} {t : Shared} {vs : List Value} {ns : List Int}
theorem law_runs (KX : K.In t.heap) (g : t.heap.Ns mainGlobals mg) (b : t.heap.Ns builtinsNs mb) (bb : ∀ y : Str, y ≠ "__name__" → mb y = bootBuiltins y) (lim : t.heap.NoLimit) (gens : t.gens = #[])
    (emp : ∀ p ∈ cs, t.heap.get? p.2 = some { cls := .none, data := .fields #[] }) (out : ∀ p ∈ cs, K.lookup p.2 = none) (hd : ∀ p ∈ cs, PySem.W.CodeHd t.heap p.1 p.2)
    (bm : ∃ (m : Addr) (o : Obj), mg "__builtins__" = some (.ref m) ∧ m ≠ builtinsNs ∧ t.heap.get? m = some o ∧ o.cls = .type "module" ∧ o.dict = some builtinsNs ∧ o.data = .plain)
    (obj : t.heap.get? sa = some { cls := .type "list", data := .seq vs.toArray }) (hi : IntsAre vs ns) (few : ns.length ≤ sizeLine) (room : Room k callerA)
    (F : ∀ base : Heap, K.In base → base.Ns mainGlobals mg → (∀ p ∈ cs, LamX.TabB base mg p.1 p.2) → FnOk P w K mg base CX0 k fa fd [x] (spLaw K cs)) (bind : ∀ (s : Shared) (u : Value), BindsTo s fd ⟨[u], []⟩ [(x, u)]) :
    codeAny (model P w) callerA (.call (.ref fa) ⟨[.ref sa], []⟩) (fun r t' => r = .ok (.ret (.bool true)) ∧ OldK t.heap t'.heap ∧ t'.os = t.os ∧ AllBare t'.gens) t := by
  have rv := vals_ints hi
  obtain ⟨H, eH⟩ : ∃ H, H = hpLaw (cs.map (·.2)) K sa { cls := .type "list", data := .seq vs.toArray } (.lst (ns.map V.int)) := ⟨_, rfl⟩
  have cas : ∀ {c : Addr} {o : HO}, H c = some o → (c ∈ cs.map (·.2) ∧ o = .tbl #[]) ∨ (c ∉ cs.map (·.2) ∧ c = sa ∧ K.lookup sa = none ∧ o = .frz { cls := .type "list", data := .seq vs.toArray } (.lst (ns.map V.int))) := fun h => hpLaw_cases (by rw [← eH]; exact h)
  have tb : ∀ c ∈ cs.map (·.2), t.heap.get? c = some { cls := .none, data := .fields #[] } := fun c hc => by
    obtain ⟨p, hp, e⟩ := List.mem_map.mp hc
    subst e; exact emp p hp
  have tH : ∀ c ∈ cs.map (·.2), H c = some (.tbl #[]) := fun c hc => by rw [eH]; exact if_pos hc
  have hm : ∀ p ∈ cs, p.2 ∈ cs.map (·.2) := fun p hp => List.mem_map_of_mem hp
  have sn : sa ∉ cs.map (·.2) := fun z => by
    have := tb sa z
    rw [obj] at this
    cases this
  have hok : HOk P w H t.heap := fun c o h => by
    rcases cas h with ⟨h1, rfl⟩ | ⟨_, rfl, _, rfl⟩
    · exact tb c h1
    · exact ⟨obj, by rw [List.length_map]; exact few, vs, _, rv, obj⟩
  have fr : ∀ {c : Addr} {o : Obj}, t.heap.get? c = some o → (∀ xs n, o.data ≠ .seq xs n) → o.data ≠ .fields #[] → H c = none := fun {c o} e n1 n2 => none_by fun u h => by
    rcases cas h with ⟨h1, _⟩ | ⟨_, rfl, _, _⟩
    · rw [tb c h1] at e; cases e; exact n2 rfl
    · rw [obj] at e; cases e; exact n1 _ _ rfl
  have nsH : ∀ {c : Addr} {m : Str → Option Value}, t.heap.Ns c m → (hidT t.heap H).Ns c m := fun {c m} ⟨o, es, ep, e, d, r⟩ => ⟨o, es, ep, hidT_get e (fr e (fun _ _ z => by rw [d] at z; cases z) fun z => by rw [d] at z; cases z), d, r⟩
  have KH : K.In (hidT t.heap H) := fun c o e => hidT_get (KX c o e) (none_by fun u h => by
    rcases cas h with ⟨h1, _⟩ | ⟨_, rfl, h2, _⟩
    · obtain ⟨p, hp, z⟩ := List.mem_map.mp h1
      have := out p hp
      rw [z, e] at this; cases this
    · rw [h2] at e; cases e)
  have TB : ∀ p ∈ cs, LamX.TabB (hidT t.heap H) mg p.1 p.2 := fun p hp => by
    refine ⟨?_, ?_, fun z => ?_⟩
    · obtain ⟨o, us, file, tf, flags, tg, inF, text, tt, e1, r1, r2, r3, r⟩ := hd p hp
      exact ⟨o, us, file, tf, flags, tg, inF, text, tt, hidT_get e1 (fr e1 (fun _ _ z => by rw [r2] at z; cases z) fun z => by rw [r2] at z; cases z; simp at r3), r1, r2, r3, r⟩
    · obtain ⟨m, o, q1, q2, q3, q4, q5, q6⟩ := bm
      refine ⟨m, o, q1, q2, fun z => ?_, fun z => ?_, hidT_get q3 (fr q3 (fun _ _ z => by rw [q6] at z; cases z) fun z => by rw [q6] at z; cases z), q4, q5, q6⟩
      · obtain ⟨o2, es, ep, e, d, _⟩ := g
        rw [z, e] at q3; cases q3
        rw [d] at q6; cases q6
      · rw [z, emp p hp] at q3; cases q3; cases q6
    · obtain ⟨o, es, ep, e, d, _⟩ := g
      rw [z, emp p hp] at e; cases e; cases d
  have sq : SqL K H sa (ns.map V.int) := by
    cases q : K.lookup sa with
    | none => exact .inl (.inr ⟨_, by rw [eH]; exact (if_neg sn).trans (if_pos ⟨rfl, q⟩)⟩)
    | some o =>
      have e := KX sa o q
      rw [obj] at e; cases e
      exact .inr ⟨_, vs.toArray, _, q, rfl, rfl, rfl, by rw [List.size_toArray, hi.length]; exact few, by simpa using rv⟩
  have env : Env0 P w K mg (hidT t.heap H) callerA [] t H := ⟨rfl, ⟨KH, nsH g, ⟨mb, nsH b, bb⟩, let ⟨mc, h1, h2⟩ := lim; ⟨mc, nsH h1, h2⟩⟩, fun _ _ e => of_hidT e, Nat.le_of_eq (hidT_size _ _), trivial, fun _ z => absurd z List.not_mem_nil, hok, .of_eq gens⟩
  have sp : spLaw K cs [.ref sa] H (fun v _ => v = .bl true) fun _ _ _ => False := ⟨sa, ns, rfl, sq, fun p hp => tH _ (hm p hp), fun c o u h => by
    rcases cas h with ⟨_, z⟩ | ⟨_, _, _, z⟩
    · cases z
    · cases z; exact fun z => z, fun _ => rfl⟩
  refine codeAny_mono ((F _ KH (nsH g) TB).run callerA [] t H ⟨[.ref sa], []⟩ [.ref sa] [.ref sa] _ _ room env (bind t (.ref sa)) (.cons rfl .nil) sp) fun r t' h => ?_
  match r, h with
  | .error e, h => exact h.elim
  | .ok .next, h => exact h.elim
  | .ok .brk, h => exact h.elim
  | .ok .cont, h => exact h.elim
  | .ok (.ret u), ⟨v, H', os, bare, un, hok', r', q⟩ =>
    subst q
    obtain rfl : u = Value.bool true := r'
    have key : ∀ c o, c ∉ cs.map (·.2) → t.heap.get? c = some o → t'.heap.get? c = some o := fun c o nc e => by
      cases z : H c with
      | none => exact un.keep c o e z List.not_mem_nil List.not_mem_nil
      | some u =>
        rcases cas z with ⟨z1, _⟩ | ⟨_, rfl, _, rfl⟩
        · exact absurd z1 nc
        · have z3 := (hok' _ _ (un.frzs _ _ _ z)).1
          rw [obj] at e; cases e; exact z3
    have grown : ∀ p ∈ cs, ∃ more : Array Value, t'.heap.get? p.2 = some { cls := .none, data := .fields more } := fun p hp => by
      obtain ⟨more, z⟩ := un.tbls p.2 #[] (tH _ (hm p hp))
      exact ⟨_, hok' p.2 _ z⟩
    refine ⟨rfl, ⟨fun c o e => ?_, fun c o e => ?_⟩, os, bare⟩
    · by_cases hc : c ∈ cs.map (·.2)
      · obtain ⟨p, hp, rfl⟩ := List.mem_map.mp hc
        obtain ⟨more, z⟩ := grown p hp
        rw [emp p hp] at e; cases e
        exact .inr (.inl ⟨((hd p hp).tab (emp p hp)).isCodeTable, rfl, #[], more, rfl, by rw [Array.empty_append]; exact z⟩)
      · exact .inl (key c o hc e)
    · by_cases hc : c ∈ cs.map (·.2)
      · obtain ⟨p, hp, rfl⟩ := List.mem_map.mp hc
        obtain ⟨more, z⟩ := grown p hp
        exact ⟨_, z⟩
      · exact ⟨o, key c o hc e⟩
end
end Em
set_option maxHeartbeats 0
/-! The head: what was looked at. -/
namespace Em
open PySem PySem.Spec PyProof.Rows L2 RZ
theorem seen_mz {K : PySem.W.Frag} (h : seen K = true) : Mz K ∧ (He.cT K cloP).2 ≠ (He.cT K lawP).2 := by
  obtain ⟨h1, h⟩ := He.ba h
  obtain ⟨h2, h⟩ := He.ba h
  obtain ⟨h3, h⟩ := He.ba h
  obtain ⟨h4, h⟩ := He.ba h
  obtain ⟨h5, h6⟩ := He.ba h
  exact ⟨⟨He.eqO_ok h1, He.eqO_ok h2, of_decide_eq_true h3, of_decide_eq_true h4, of_decide_eq_true h5⟩, fun z => by rw [decide_eq_true z] at h6; cases h6⟩
end Em
set_option maxHeartbeats 0
/-! The head: the law over the module that has been run. -/
namespace Em
open PySem PySem.Spec PyProof.Rows L2 RZ
theorem law_walk {q : Program} {XP : (Str → Option Value) → Heap → Prop} {d : DefRec} (hnm : d.name = "law") (hdf : d.params.defaults = []) :
    PySem.W.WalkO q loose XP hk.says (PySem.Challenge.rw_endsmeet_k09_whole_closings).row.toRowW d [] (fun f vs => PySem.call f vs) := by
  refine Att.attach_callB (n := 63) rfl hdf fun w s₀ s₁ mg mb f o pm cd doc a vs ns G Y ho hd hcd hmg hobj hints hlen hbits hg => ?_
  obtain ⟨K, KX, c⟩ := Y
  have says : He.SaysD fa fn K := c.t.d
  have M : Md K mg := ⟨says, _, KX, G.T.g⟩
  obtain ⟨Z, ne⟩ := seen_mz c.more
  rw [hnm] at hmg
  have e : f = He.ga K "law" := by
    have := hmg.symm.trans (M.glo "law")
    cases this; rfl
  subst e
  obtain ⟨fd, F⟩ := says.defs (d := d_law) (by simp [fn])
  have hb := F.bindsA (ps := ["_law_script"]) fun _ _ _ _ _ _ us hl => match us, hl with | [_], _ => rfl
  have sub : ∀ p ∈ csLaw K, ∃ t ∈ tf, p = He.cT K t := fun p hp => by
    simp only [List.mem_cons, List.not_mem_nil, or_false] at hp
    rcases hp with rfl | rfl
    · exact ⟨cloP, by simp, rfl⟩
    · exact ⟨lawP, by simp, rfl⟩
  refine law_runs (cs := csLaw K) (k := 41) (x := "_law_script") (fd := fd) KX G.T.g G.T.b G.T.builtins G.T.nolimit hg (fun p hp => ?_) (fun p hp => ?_) (fun p hp => ?_) G.T.bmain hobj hints (Nat.le_trans hlen (by decide)) ⟨rfl, by decide, by decide⟩ (fun base KB GB TB => ?_) (fun s u => ?_)
  · obtain ⟨t, ht, rfl⟩ := sub p hp; exact c.empty t ht
  · obtain ⟨t, ht, rfl⟩ := sub p hp; exact c.out t ht
  · obtain ⟨t, ht, rfl⟩ := sub p hp; exact PySem.W.codeHd_of_K KX (c.hd t ht)
  · exact law_ok M Z ne TB F
  · exact hb s [u] rfl
end Em
set_option maxHeartbeats 0
open PySem PySem.W PySem.Calls PyProof.Rows
theorem PySem.Challenge.cw_endsmeet_k09_whole_closings_holds : PySem.Challenge.rw_endsmeet_k09_whole_closings.Holds := by
  w_on; o_law
  refine HandSHeadRun.head_any (r := OpenLaw.row PySem.Challenge.rw_endsmeet_k09_whole_closings) (q := view (OpenLaw.row PySem.Challenge.rw_endsmeet_k09_whole_closings).prog [65]) (H := Em.hk) (ob := Em.ob) (M := 6000) (loose := Em.loose) (d := HandSHeadRun.topDef (OpenLaw.row PySem.Challenge.rw_endsmeet_k09_whole_closings).prog 65) (kwd := []) Em.ob_eq
    (by kernel_rfl) (fun s => by kernel_rfl) Em.run (by kernel_rfl) (by kernel_rfl) (by kernel_rfl) (by rfl) (by first | assumption | decide +kernel) (by decide +kernel) ⟨rfl, rfl, rfl, rfl, rfl, by decide +kernel⟩ ?hw ?hc
  case hw => w_witness2
  case hc => exact Em.law_walk (by kernel_rfl) (by kernel_rfl)
