import PyProof.Rows.All
import Wide.All
import OpenK.AllK
import Wide.FinOn
import Lean
import HandS.ForMost
import HandS.Wide
import HandS.WideMore
import HandS.IsInst
import HandS.Zip
import HandS.Flow
import HandS.Lambda
import HandS.Nested
import HandS.ExcInit
import HandS.ExcField
import KE.KExcSuper
import HandS.Walk
import HandS.Zip0
import HandS.More
import HandS.CallLocal
import HandS.TupAny
import HandS.Style
import KE.GoesEnum
import HandS.Conv
import KE.KDictZip
import KE.KItemsList
import HandS.Keys
import HandS.TupLe
import HandS.Text
import HandS.SortInts
import HandS.NoneIn
import HandS.Defaults
import HandS.Deep
import HandS.SetFor
import HandS.ExcOwn
import HandS.TryMany
import HandS.EndTab
import KE.KStateDown
import HandS.Words
import HandS.Head0
import HandS.Head1
import HandS.Head2
import HandS.HeadEnd
import HandS.HeadHook1
import HandS.HeadHook2
import HandS.HeadHook3
import HandS.HeadHook4
import KE.SortKeyHeap
import KE.SortUse
import KE.KDictPairs
import HandS.Star
import PyProof.NeKinds
import KE.KFmtOwn
import PyProof.InstEq
import PyProof.FactsAll.object_2
import HandS.TupSets
import PyProof.P3Eq
import HandS.HeadWalk
import PySem.Challenge.RW_pagefall_k54_whole_all_rooms
set_option Elab.async false
set_option linter.all false
set_option maxRecDepth 100000
set_option maxHeartbeats 0
namespace Gh
open PySem PySem.Spec PyProof.Rows L2
end Gh
namespace Law
open PySem PySem.Spec PyProof.Rows L2 Gh
def top (i : Nat) : Stmt := PySem.Challenge.pw_pagefall_k54_whole_all_rooms.main.body.getD i (.Pass ⟨0, 0, 0, 0⟩)
def sub (i j : Nat) : Stmt := match top i with | .ClassDef _ _ _ body _ _ _ _ _ _ _ => body.getD j (.Pass ⟨0, 0, 0, 0⟩) | s => s
end Law
namespace LawH
open PySem PySem.Spec PyProof.Rows L2 Gh Law
def d0 : He.DefD := ⟨("_wall", none), "_wall", "_wall", defArgs (top 0), defBody (top 0), defScope (top 0), [], []⟩
def d4 : He.DefD := ⟨("is_list", none), "is_list", "is_list", defArgs (top 4), defBody (top 4), defScope (top 4), [], []⟩
def d5 : He.DefD := ⟨("is_whole", none), "is_whole", "is_whole", defArgs (top 5), defBody (top 5), defScope (top 5), [], []⟩
def d6 : He.DefD := ⟨("is_natural", none), "is_natural", "is_natural", defArgs (top 6), defBody (top 6), defScope (top 6), [], []⟩
def d7 : He.DefD := ⟨("lowest", none), "lowest", "lowest", defArgs (top 7), defBody (top 7), defScope (top 7), [], []⟩
def d8 : He.DefD := ⟨("is_frac", none), "is_frac", "is_frac", defArgs (top 8), defBody (top 8), defScope (top 8), [], []⟩
def d9 : He.DefD := ⟨("frac_of", none), "frac_of", "frac_of", defArgs (top 9), defBody (top 9), defScope (top 9), [], []⟩
def d10 : He.DefD := ⟨("is_width", none), "is_width", "is_width", defArgs (top 10), defBody (top 10), defScope (top 10), [], []⟩
def d11 : He.DefD := ⟨("plus", none), "plus", "plus", defArgs (top 11), defBody (top 11), defScope (top 11), [], []⟩
def d12 : He.DefD := ⟨("minus", none), "minus", "minus", defArgs (top 12), defBody (top 12), defScope (top 12), [], []⟩
def d13 : He.DefD := ⟨("times", none), "times", "times", defArgs (top 13), defBody (top 13), defScope (top 13), [], []⟩
def d14 : He.DefD := ⟨("over", none), "over", "over", defArgs (top 14), defBody (top 14), defScope (top 14), [], []⟩
def d15 : He.DefD := ⟨("is_less", none), "is_less", "is_less", defArgs (top 15), defBody (top 15), defScope (top 15), [], []⟩
def d16 : He.DefD := ⟨("is_upto", none), "is_upto", "is_upto", defArgs (top 16), defBody (top 16), defScope (top 16), [], []⟩
def d25 : He.DefD := ⟨("flat_form", none), "flat_form", "flat_form", defArgs (top 25), defBody (top 25), defScope (top 25), [], []⟩
def d26 : He.DefD := ⟨("plus_form", none), "plus_form", "plus_form", defArgs (top 26), defBody (top 26), defScope (top 26), [], []⟩
def d27 : He.DefD := ⟨("minus_form", none), "minus_form", "minus_form", defArgs (top 27), defBody (top 27), defScope (top 27), [], []⟩
def d28 : He.DefD := ⟨("scaled_form", none), "scaled_form", "scaled_form", defArgs (top 28), defBody (top 28), defScope (top 28), [], []⟩
def d29 : He.DefD := ⟨("plain_ask", none), "plain_ask", "plain_ask", defArgs (top 29), defBody (top 29), defScope (top 29), [], []⟩
def d30 : He.DefD := ⟨("worth_at", none), "worth_at", "worth_at", defArgs (top 30), defBody (top 30), defScope (top 30), [], []⟩
def d33 : He.DefD := ⟨("sum_of_forms", none), "sum_of_forms", "sum_of_forms", defArgs (top 33), defBody (top 33), defScope (top 33), [], []⟩
def d34 : He.DefD := ⟨("held_form", none), "held_form", "held_form", defArgs (top 34), defBody (top 34), defScope (top 34), [], []⟩
def d35 : He.DefD := ⟨("raw_size", none), "raw_size", "raw_size", defArgs (top 35), defBody (top 35), defScope (top 35), [], []⟩
def d36 : He.DefD := ⟨("held_size", none), "held_size", "held_size", defArgs (top 36), defBody (top 36), defScope (top 36), [], []⟩
def d37 : He.DefD := ⟨("turning_levels", none), "turning_levels", "turning_levels", defArgs (top 37), defBody (top 37), defScope (top 37), [], []⟩
def d38 : He.DefD := ⟨("total_at", none), "total_at", "total_at", defArgs (top 38), defBody (top 38), defScope (top 38), [], []⟩
def d39 : He.DefD := ⟨("free_step", none), "free_step", "free_step", defArgs (top 39), defBody (top 39), defScope (top 39), [], []⟩
def d40 : He.DefD := ⟨("levelled", none), "levelled", "levelled", defArgs (top 40), defBody (top 40), defScope (top 40), [], []⟩
def d41 : He.DefD := ⟨("row_sizes", none), "row_sizes", "row_sizes", defArgs (top 41), defBody (top 41), defScope (top 41), [], []⟩
def d42 : He.DefD := ⟨("merged_pieces", none), "merged_pieces", "merged_pieces", defArgs (top 42), defBody (top 42), defScope (top 42), [], []⟩
def d43 : He.DefD := ⟨("pieces_between", none), "pieces_between", "pieces_between", defArgs (top 43), defBody (top 43), defScope (top 43), [], []⟩
def d44 : He.DefD := ⟨("sorted_rooms", none), "sorted_rooms", "sorted_rooms", defArgs (top 44), defBody (top 44), defScope (top 44), [], []⟩
def d45 : He.DefD := ⟨("is_item", none), "is_item", "is_item", defArgs (top 45), defBody (top 45), defScope (top 45), [], []⟩
def d46 : He.DefD := ⟨("item_forms", none), "item_forms", "item_forms", defArgs (top 46), defBody (top 46), defScope (top 46), [], []⟩
def d49 : He.DefD := ⟨("_law_start", none), "_law_start", "_law_start", defArgs (top 49), defBody (top 49), defScope (top 49), [], []⟩
def d50 : He.DefD := ⟨("_law_draw", none), "_law_draw", "_law_draw", defArgs (top 50), defBody (top 50), defScope (top 50), [], []⟩
def d51 : He.DefD := ⟨("_law_pick", none), "_law_pick", "_law_pick", defArgs (top 51), defBody (top 51), defScope (top 51), [], []⟩
def d52 : He.DefD := ⟨("_law_mixed", none), "_law_mixed", "_law_mixed", defArgs (top 52), defBody (top 52), defScope (top 52), [], []⟩
def d53 : He.DefD := ⟨("_law_same", none), "_law_same", "_law_same", defArgs (top 53), defBody (top 53), defScope (top 53), [], []⟩
def d54 : He.DefD := ⟨("_law_low", none), "_law_low", "_law_low", defArgs (top 54), defBody (top 54), defScope (top 54), [], []⟩
def d55 : He.DefD := ⟨("_law_plus", none), "_law_plus", "_law_plus", defArgs (top 55), defBody (top 55), defScope (top 55), [], []⟩
def d56 : He.DefD := ⟨("_law_minus", none), "_law_minus", "_law_minus", defArgs (top 56), defBody (top 56), defScope (top 56), [], []⟩
def d57 : He.DefD := ⟨("_law_times", none), "_law_times", "_law_times", defArgs (top 57), defBody (top 57), defScope (top 57), [], []⟩
def d58 : He.DefD := ⟨("_law_over", none), "_law_over", "_law_over", defArgs (top 58), defBody (top 58), defScope (top 58), [], []⟩
def d59 : He.DefD := ⟨("_law_is_less", none), "_law_is_less", "_law_is_less", defArgs (top 59), defBody (top 59), defScope (top 59), [], []⟩
def d60 : He.DefD := ⟨("_law_sum", none), "_law_sum", "_law_sum", defArgs (top 60), defBody (top 60), defScope (top 60), [], []⟩
def d61 : He.DefD := ⟨("_law_in_order", none), "_law_in_order", "_law_in_order", defArgs (top 61), defBody (top 61), defScope (top 61), [], []⟩
def d62 : He.DefD := ⟨("_law_item", none), "_law_item", "_law_item", defArgs (top 62), defBody (top 62), defScope (top 62), [], []⟩
def d63 : He.DefD := ⟨("_law_items", none), "_law_items", "_law_items", defArgs (top 63), defBody (top 63), defScope (top 63), [], []⟩
def d64 : He.DefD := ⟨("_law_handed", none), "_law_handed", "_law_handed", defArgs (top 64), defBody (top 64), defScope (top 64), [], []⟩
def d65 : He.DefD := ⟨("_law_clamped", none), "_law_clamped", "_law_clamped", defArgs (top 65), defBody (top 65), defScope (top 65), [], []⟩
def d66 : He.DefD := ⟨("_law_size", none), "_law_size", "_law_size", defArgs (top 66), defBody (top 66), defScope (top 66), [], []⟩
def d67 : He.DefD := ⟨("_law_least", none), "_law_least", "_law_least", defArgs (top 67), defBody (top 67), defScope (top 67), [], []⟩
def d68 : He.DefD := ⟨("_law_greatest", none), "_law_greatest", "_law_greatest", defArgs (top 68), defBody (top 68), defScope (top 68), [], []⟩
def d69 : He.DefD := ⟨("_law_turns", none), "_law_turns", "_law_turns", defArgs (top 69), defBody (top 69), defScope (top 69), [], []⟩
def d70 : He.DefD := ⟨("_law_total", none), "_law_total", "_law_total", defArgs (top 70), defBody (top 70), defScope (top 70), [], []⟩
def d71 : He.DefD := ⟨("_law_gaps", none), "_law_gaps", "_law_gaps", defArgs (top 71), defBody (top 71), defScope (top 71), [], []⟩
def d72 : He.DefD := ⟨("_law_level", none), "_law_level", "_law_level", defArgs (top 72), defBody (top 72), defScope (top 72), [], []⟩
def d73 : He.DefD := ⟨("_law_sizes", none), "_law_sizes", "_law_sizes", defArgs (top 73), defBody (top 73), defScope (top 73), [], []⟩
def d74 : He.DefD := ⟨("_law_tuples", none), "_law_tuples", "_law_tuples", defArgs (top 74), defBody (top 74), defScope (top 74), [], []⟩
def d75 : He.DefD := ⟨("_law_pieces", none), "_law_pieces", "_law_pieces", defArgs (top 75), defBody (top 75), defScope (top 75), [], []⟩
def d76 : He.DefD := ⟨("_law_at", none), "_law_at", "_law_at", defArgs (top 76), defBody (top 76), defScope (top 76), [], []⟩
def d77 : He.DefD := ⟨("_law_room_for", none), "_law_room_for", "_law_room_for", defArgs (top 77), defBody (top 77), defScope (top 77), [], []⟩
def d78 : He.DefD := ⟨("law", none), "law", "law", defArgs (top 78), defBody (top 78), defScope (top 78), [], []⟩
def d47_0 : He.DefD := ⟨("Row", some "__init__"), "__init__", "Row.__init__", defArgs (sub 47 0), defBody (sub 47 0), defScope (sub 47 0), [.int 0], []⟩
def d47_3 : He.DefD := ⟨("Row", some "all_gaps"), "all_gaps", "Row.all_gaps", defArgs (sub 47 3), defBody (sub 47 3), defScope (sub 47 3), [], []⟩
def d47_10 : He.DefD := ⟨("Row", some "all_corners"), "all_corners", "Row.all_corners", defArgs (sub 47 10), defBody (sub 47 10), defScope (sub 47 10), [], []⟩
def d47_11 : He.DefD := ⟨("Row", some "forms_about"), "forms_about", "Row.forms_about", defArgs (sub 47 11), defBody (sub 47 11), defScope (sub 47 11), [], []⟩
def d47_12 : He.DefD := ⟨("Row", some "all_pieces"), "all_pieces", "Row.all_pieces", defArgs (sub 47 12), defBody (sub 47 12), defScope (sub 47 12), [], []⟩
def d47_13 : He.DefD := ⟨("Row", some "room_for"), "room_for", "Row.room_for", defArgs (sub 47 13), defBody (sub 47 13), defScope (sub 47 13), [], []⟩
def d47_14 : He.DefD := ⟨("Row", some "both_ends"), "both_ends", "Row.both_ends", defArgs (sub 47 14), defBody (sub 47 14), defScope (sub 47 14), [], []⟩
def fn : List He.DefD := [d0, d4, d5, d6, d7, d8, d9, d10, d11, d12, d13, d14, d15, d16, d25, d26, d27, d28, d29, d30, d33, d34, d35, d36, d37, d38, d39, d40, d41, d42, d43, d44, d45, d46, d49, d50, d51, d52, d53, d54, d55, d56, d57, d58, d59, d60, d61, d62, d63, d64, d65, d66, d67, d68, d69, d70, d71, d72, d73, d74, d75, d76, d77, d78, d47_0, d47_3, d47_10, d47_11, d47_12, d47_13, d47_14]
def fa0 : List He.Fa := [.glo "_wall", .glo "is_list", .glo "is_whole", .glo "is_natural", .glo "lowest", .glo "is_frac", .glo "frac_of", .glo "is_width", .glo "plus", .glo "minus", .glo "times", .glo "over", .glo "is_less", .glo "is_upto", .glo "flat_form", .glo "plus_form", .glo "minus_form", .glo "scaled_form", .glo "plain_ask", .glo "worth_at", .glo "sum_of_forms", .glo "held_form", .glo "raw_size", .glo "held_size", .glo "turning_levels", .glo "total_at", .glo "free_step", .glo "levelled", .glo "row_sizes", .glo "merged_pieces"]
def fa1 : List He.Fa := [.glo "pieces_between", .glo "sorted_rooms", .glo "is_item", .glo "item_forms", .glo "_law_start", .glo "_law_draw", .glo "_law_pick", .glo "_law_mixed", .glo "_law_same", .glo "_law_low", .glo "_law_plus", .glo "_law_minus", .glo "_law_times", .glo "_law_over", .glo "_law_is_less", .glo "_law_sum", .glo "_law_in_order", .glo "_law_item", .glo "_law_items", .glo "_law_handed", .glo "_law_clamped", .glo "_law_size", .glo "_law_least", .glo "_law_greatest", .glo "_law_turns", .glo "_law_total", .glo "_law_gaps", .glo "_law_level", .glo "_law_sizes", .glo "_law_tuples"]
def fa2 : List He.Fa := [.glo "_law_pieces", .glo "_law_at", .glo "_law_room_for", .glo "law", .free "len", .free "isinstance", .free "abs", .free "min", .free "max", .free "sum", .free "all", .free "any", .free "range", .free "zip", .free "enumerate", .free "sorted", .free "int", .free "bool", .free "str", .free "list", .free "tuple", .free "dict", .free "set", .free "super", .free "repr"]
def fa : List He.Fa := fa0 ++ fa1 ++ fa2 ++ [.glo "ZERO", .glo "ONE", .glo "NOTHING", .glo "Row", .cls "Row", .noat "Row" "own_items", .noat "Row" "gap_width", .mkr "Row", .meth "Row" "all_gaps", .meth "Row" "all_corners", .meth "Row" "forms_about", .meth "Row" "all_pieces", .meth "Row" "room_for", .meth "Row" "both_ends"]
def ln0 : List Str := ["_wall", "ZERO", "ONE", "is_list", "is_whole", "is_natural", "lowest", "is_frac", "frac_of", "is_width", "plus", "minus", "times", "over", "is_less", "is_upto", "PageError", "BadItems", "BadGap", "NoItem", "BadSize", "flat_form", "plus_form", "minus_form", "scaled_form", "plain_ask", "worth_at", "NOTHING", "sum_of_forms", "held_form"]
def ln1 : List Str := ["raw_size", "held_size", "turning_levels", "total_at", "free_step", "levelled", "row_sizes", "merged_pieces", "pieces_between", "sorted_rooms", "is_item", "item_forms", "Row", "_law_start", "_law_draw", "_law_pick", "_law_mixed", "_law_same", "_law_low", "_law_plus", "_law_minus", "_law_times", "_law_over", "_law_is_less", "_law_sum", "_law_in_order", "_law_item", "_law_items", "_law_handed", "_law_clamped"]
def ln2 : List Str := ["_law_size", "_law_least", "_law_greatest", "_law_turns", "_law_total", "_law_gaps", "_law_level", "_law_sizes", "_law_tuples", "_law_pieces", "_law_at", "_law_room_for"]
def loose : List Str := ln0 ++ ln1 ++ ln2
abbrev R : PySem.W.OpenRow := PySem.W.OpenLaw.row PySem.Challenge.rw_pagefall_k54_whole_all_rooms
abbrev qv : Program := PySem.W.view R.prog [78]
def ts : List He.Tab := []
def tf : List He.Defn := [("Row", some "forms_about"), ("Row", some "all_pieces")]
def ex : PySem.W.Frag → Bool := fun K => decide ((He.cT K ("Row", some "forms_about")).2 ≠ (He.cT K ("Row", some "all_pieces")).2) && (decide ((He.cT K ("Row", some "all_pieces")).2 ≠ (He.cT K ("Row", some "forms_about")).2) && (He.tupB K "ZERO" [.int 0, .int 1] && (He.tupB K "ONE" [.int 1, .int 1] && (He.tupB K "NOTHING" [.glo "ZERO", .glo "ZERO"]))))
abbrev hk : PySem.W.Hook := He.hookX 5 fa fn ts tf ex
def ob (s : PySem.W.SharedT) : He.AlX := He.obsX 5 fa fn ts tf ex (HandSHeadRun.getT s)
theorem ob_eq (s : PySem.W.SharedT) : ob s = hk.obs s.abs := He.obsX_eq (HandSHeadRun.getT_eq s)
section
open PySem.W PySem.Calls
theorem run_split {r : PySem.W.OpenRow} {q : Program} {H : PySem.W.Hook} {ob : PySem.W.SharedT → H.α} {M : Nat} {loose : List PySem.Str} {w : World}
    (h1 : ∀ os : OsState, (HandSHeadRun.endF (HandSHeadRun.stepQ (HandSHeadRun.denQ HandSHeadRun.tabQ) r.prog w) M r.prog w os).map (fun s => (HandSHeadRun.looksF r.prog (boot_heap w.params) s.abs, HandSHeadRun.seenQ q loose (importedModules r.prog.main.body) (fun s => xlAt q [] s && recOk r.toRowW.records s) s.abs)) = some (true, openGood q loose))
    (h2 : ∀ os : OsState, (HandSHeadRun.endF (HandSHeadRun.stepQ (HandSHeadRun.denQ HandSHeadRun.tabQ) r.prog w) M r.prog w os).map (fun s => ob s) = some (H.val w)) : HandSHeadRun.RunEq r q H ob M loose w := fun os => by
  have a := h1 os
  have b := h2 os
  cases e : HandSHeadRun.endF (HandSHeadRun.stepQ (HandSHeadRun.denQ HandSHeadRun.tabQ) r.prog w) M r.prog w os with
  | none => rw [e] at a; cases a
  | some s =>
    rw [e] at a b
    injection a with a
    injection b with b
    have a1 := (Prod.mk.inj a).1
    have a2 := (Prod.mk.inj a).2
    have b : ob s = H.val w := b
    have a1 : _ = true := a1
    exact congrArg some (Prod.ext a1 (Prod.ext a2 b))
theorem runA_false (w : World) : ∀ os : OsState, (HandSHeadRun.endF (HandSHeadRun.stepQ (HandSHeadRun.denQ HandSHeadRun.tabQ) R.prog (w.withFollow "special-get-raises" false)) 6000 R.prog (w.withFollow "special-get-raises" false) os).map (fun s => (HandSHeadRun.looksF R.prog (boot_heap (w.withFollow "special-get-raises" false).params) s.abs, HandSHeadRun.seenQ qv loose (importedModules R.prog.main.body) (fun s => xlAt qv [] s && recOk R.toRowW.records s) s.abs)) = some (true, openGood qv loose) := by
  intro os
  kernel_rfl
theorem runB_false (w : World) : ∀ os : OsState, (HandSHeadRun.endF (HandSHeadRun.stepQ (HandSHeadRun.denQ HandSHeadRun.tabQ) R.prog (w.withFollow "special-get-raises" false)) 6000 R.prog (w.withFollow "special-get-raises" false) os).map (fun s => ob s) = some (hk.val (w.withFollow "special-get-raises" false)) := by
  intro os
  kernel_rfl
theorem run_false (w : World) : HandSHeadRun.RunEq R qv hk ob 6000 loose (w.withFollow "special-get-raises" false) := run_split (runA_false w) (runB_false w)
theorem runA_true (w : World) : ∀ os : OsState, (HandSHeadRun.endF (HandSHeadRun.stepQ (HandSHeadRun.denQ HandSHeadRun.tabQ) R.prog (w.withFollow "special-get-raises" true)) 6000 R.prog (w.withFollow "special-get-raises" true) os).map (fun s => (HandSHeadRun.looksF R.prog (boot_heap (w.withFollow "special-get-raises" true).params) s.abs, HandSHeadRun.seenQ qv loose (importedModules R.prog.main.body) (fun s => xlAt qv [] s && recOk R.toRowW.records s) s.abs)) = some (true, openGood qv loose) := by
  intro os
  kernel_rfl
theorem runB_true (w : World) : ∀ os : OsState, (HandSHeadRun.endF (HandSHeadRun.stepQ (HandSHeadRun.denQ HandSHeadRun.tabQ) R.prog (w.withFollow "special-get-raises" true)) 6000 R.prog (w.withFollow "special-get-raises" true) os).map (fun s => ob s) = some (hk.val (w.withFollow "special-get-raises" true)) := by
  intro os
  kernel_rfl
theorem run_true (w : World) : HandSHeadRun.RunEq R qv hk ob 6000 loose (w.withFollow "special-get-raises" true) := run_split (runA_true w) (runB_true w)
end
theorem run (w : World) : HandSHeadRun.RunEq R qv hk ob 6000 loose w := PySem.W.byRow2 "special-get-raises" (P := fun w => HandSHeadRun.RunEq R qv hk ob 6000 loose w) run_false run_true w
end LawH
set_option Elab.async false
set_option linter.all false
set_option maxRecDepth 100000
/-! The ghost layer: what a def's names hold told as plain data; lists that a body owns; one stream of draws. -/
namespace Gh
open PySem PySem.Spec PyProof.Rows L2
/-- a lambda's words: its code's name, parameters, body, names; what it captures -/
structure Lm where
  q : Str
  params : Arguments
  body : Expr
  scope : Scope
  ps : List Str
  fr : List Str
/-- plain data -/
abbrev Pa := Addr × Addr
inductive D where
  | non | bl (b : Bool) | int (i : Int) | str (s : Str) | lst (xs : List D) | tup (xs : List D)
  | emp            -- an empty dict
  | scr (ns : List Int) -- the script: a list of ints that is only read
  | mut            -- the stream of draws
  | ty (n : String) -- a built-in class
  | ref (a : Addr) -- some object of which nothing is told
  | ins (C : Addr) (ks : List Str) (ds : List D) -- an instance of the class at C that is only read: its attributes
  | met (f : Addr) (d : D) -- a bound method: the def at f, of d
  | dK (ks : List Key) (ds : List D) -- a dict that is only read, keys ints and texts
  | dT (ks : List (List Key)) (ds : List D) -- .. keys tuples of these
  | lent (ds : List D) -- a list that is owned elsewhere, locked while it is read
  | dq (ks : List D) -- a dict that is only read, of which only the keys are told
  | cel (ns : List Int) -- the list within the stream
  | clo (L : Lm) (ds : List D) -- a lambda, what its captured names hold; the cells are locked while it is so
def D.isCel : D → Bool
  | .cel _ => true
  | _ => false
/-- no code object's table -/
def NT (o : HO) : Prop := ∀ ps, o ≠ .tbl ps
theorem nt_lst {xs : List V} : NT (.lst xs) := fun ps z => by cases z
theorem nt_tup {xs : List V} : NT (.tup xs) := fun ps z => by cases z
theorem nt_frz {o : Obj} {u : HO} : NT (.frz o u) := fun ps z => by cases z
theorem nt_ins {C x : Addr} {fs : List (Str × V)} : NT (.ins C x fs) := fun ps z => by cases z
theorem nt_met {f x : Addr} : NT (.met f x) := fun ps z => by cases z
theorem nt_dK {kv : List (Key × V)} : NT (.dK kv) := fun ps z => by cases z
theorem nt_dT {kv : List (List Key × V)} : NT (.dT kv) := fun ps z => by cases z
def SL (K : PySem.W.Frag) (S : List Addr) (H : Hp) (a : Addr) (xs : List V) : Prop := (a ∉ S ∧ Rd H a (.lst xs)) ∨ SqL K (fun _ => none) a xs
def SU (K : PySem.W.Frag) (S : List Addr) (H : Hp) (a : Addr) (xs : List V) : Prop := (a ∉ S ∧ Rd H a (.tup xs)) ∨ SqT K (fun _ => none) a xs
theorem rd_none {a : Addr} {o : HO} : ¬ Rd (fun _ => none) a o := by
  rintro (h | ⟨_, h⟩) <;> cases h
theorem SL.sq {K : PySem.W.Frag} {S : List Addr} {H : Hp} {a : Addr} {xs : List V} (h : SL K S H a xs) : SqL K H a xs := by
  rcases h with ⟨_, h⟩ | h
  · exact .inl h
  · rcases h with h | h
    · exact (rd_none h).elim
    · exact .inr h
theorem SU.sq {K : PySem.W.Frag} {S : List Addr} {H : Hp} {a : Addr} {xs : List V} (h : SU K S H a xs) : SqT K H a xs := by
  rcases h with ⟨_, h⟩ | h
  · exact .inl h
  · rcases h with h | h
    · exact (rd_none h).elim
    · exact .inr h
/-- the object at f is the lambda L with these cells -/
def LamO (f : Addr) (L : Lm) (cl : List (Str × Addr)) (c' : Addr) : HO := .ext fun h => ∃ pm ctv : Value, h.get? f = some (PySem.W.kla_obj "<lambda>" L.q L.params L.body L.scope cl pm c' ctv)
theorem nt_lam {f c' : Addr} {L : Lm} {cl : List (Str × Addr)} : NT (LamO f L cl c') := fun ps z => by
  unfold LamO at z
  cases z
theorem nt_code {c : Addr} {q : Str} : NT (LamX.CodeO c q) := LamX.codeO_ne
/-- the raw dict o has these keys -/
def RawKeys (o : Obj) (us : List V) : Prop := o.ExactDict ∧ ∃ (es : Array DictEntry) (ep : Nat), o.data = .dict es ep ∧ es.size ≤ sizeLine ∧ Vals us (es.toList.map (·.key))
/-- the captured cells, locked -/
structure CellsF (H : Hp) (S : List Addr) (cl : List (Str × Addr)) (fr : List Str) (vs : List V) : Prop where
  len : vs.length = fr.length
  all : ∀ y c, cl.lookup y = some c → c ∉ S ∧ ∃ o u, H c = some (.frz o (.own 0)) ∧ o.data = .cell (some u)
  inj : ∀ x y c, cl.lookup x = some c → cl.lookup y = some c → x = y
  has : ∀ (i : Nat) (y : Str), fr[i]? = some y → ∃ c o u v, cl.lookup y = some c ∧ H c = some (.frz o (.own 0)) ∧ o.data = .cell (some u) ∧ vs[i]? = some v ∧ RelV v u
theorem CellsF.imp {H H' : Hp} {S S' : List Addr} {cl : List (Str × Addr)} {fr : List Str} {vs : List V} (h : CellsF H S cl fr vs) (hE : ∀ a o, a ∉ S → H a = some o → NT o → a ∉ S' ∧ H' a = some o) : CellsF H' S' cl fr vs := by
  refine ⟨h.len, fun y c e => ?_, h.inj, fun i y e => ?_⟩
  · obtain ⟨n, o, u, e1, e2⟩ := h.all y c e
    exact ⟨(hE _ _ n e1 nt_frz).1, o, u, (hE _ _ n e1 nt_frz).2, e2⟩
  · obtain ⟨c, o, u, v, e1, e2, e3, e4, e5⟩ := h.has i y e
    exact ⟨c, o, u, v, e1, (hE _ _ (h.all y c e1).1 e2 nt_frz).2, e3, e4, e5⟩
mutual
inductive Rp (K : PySem.W.Frag) (p : Pa) (S : List Addr) (H : Hp) : V → D → Prop
  | non : Rp K p S H .non .non
  | bl (b : Bool) : Rp K p S H (.bl b) (.bl b)
  | int (i : Int) : Rp K p S H (.int i) (.int i)
  | str (x : Str) : Rp K p S H (.str x) (.str x)
  | lst {a : Addr} {xs : List V} {ds : List D} : a ∉ S → H a = some (.lst xs) → Rps K p S H xs ds → Rp K p S H (.ref a) (.lst ds)
  | scr {a : Addr} {ns : List Int} : SL K S H a (ns.map V.int) → Rp K p S H (.ref a) (.scr ns)
  | tup {a : Addr} {xs : List V} {ds : List D} : SU K S H a xs → Rps K p S H xs ds → Rp K p S H (.ref a) (.tup ds)
  | emp {a : Addr} : a ∉ S → H a = some (.dK []) → Rp K p S H (.ref a) .emp
  | mut : Rp K p S H (.ref p.1) .mut
  | cel (ns : List Int) : Rp K p S H (.ref p.2) (.cel ns)
  | ty (n : String) : Rp K p S H (.ty n) (.ty n)
  | ref (a : Addr) : Rp K p S H (.ref a) (.ref a)
  | ins {a dx C : Addr} {ks : List Str} {vs : List V} {ds : List D} : a ∉ S → H a = some (.ins C dx (ks.zip vs)) → Rps K p S H vs ds → ks.length = ds.length → Rp K p S H (.ref a) (.ins C ks ds)
  | met {a x f : Addr} {d : D} : a ∉ S → H a = some (.met f x) → Rp K p S H (.ref x) d → Rp K p S H (.ref a) (.met f d)
  | dK {a : Addr} {ks : List Key} {vs : List V} {ds : List D} : a ∉ S → H a = some (.dK (ks.zip vs)) → Rps K p S H vs ds → ks.length = ds.length → Rp K p S H (.ref a) (.dK ks ds)
  | dT {a : Addr} {ks : List (List Key)} {vs : List V} {ds : List D} {ob : Obj} : a ∉ S → H a = some (.frz ob (.dT (ks.zip vs))) → Rps K p S H vs ds → ks.length = ds.length → Rp K p S H (.ref a) (.dT ks ds)
  | lent {a : Addr} {xs : List V} {ds : List D} {ob : Obj} : a ∉ S → H a = some (.frz ob (.lst xs)) → Rps K p S H xs ds → Rp K p S H (.ref a) (.lent ds)
  | dq {a : Addr} {xs : List V} {ds : List D} {ob : Obj} : a ∉ S → H a = some (.frz ob (.own 1)) → RawKeys ob xs → (a == sysModules) = false → Rps K p S H xs ds → Rp K p S H (.ref a) (.dq ds)
  | clo {a c' : Addr} {L : Lm} {cl : List (Str × Addr)} {xs : List V} {ds : List D} : a ∉ S → H a = some (LamO a L cl c') → c' ∉ S → H c' = some (LamX.CodeO c' L.q) → CellsF H S cl L.fr xs → Rps K p S H xs ds → Rp K p S H (.ref a) (.clo L ds)
inductive Rps (K : PySem.W.Frag) (p : Pa) (S : List Addr) (H : Hp) : List V → List D → Prop
  | nil : Rps K p S H [] []
  | cons {v : V} {vs : List V} {d : D} {ds : List D} : Rp K p S H v d → Rps K p S H vs ds → Rps K p S H (v :: vs) (d :: ds)
end
/-- all that stands is kept, but for S; what stands goes on to stand -/
def XT (S : List Addr) (H H' : Hp) : Prop := (∀ a o, a ∉ S → H a = some o → NT o → H' a = some o) ∧ ∀ a, H' a = none → H a = none
theorem XT.refl {S : List Addr} {H : Hp} : XT S H H := ⟨fun _ _ _ h _ => h, fun _ h => h⟩
theorem XT.trans {S : List Addr} {H H1 H2 : Hp} (a : XT S H H1) (b : XT S H1 H2) : XT S H H2 := ⟨fun x o n h t => b.1 x o n (a.1 x o n h t) t, fun x h => a.2 x (b.2 x h)⟩
theorem XT.mono {S S' : List Addr} {H H' : Hp} (x : XT S H H') (h : ∀ a ∈ S, a ∈ S') : XT S' H H' := ⟨fun a o n e => x.1 a o (fun m => n (h a m)) e, x.2⟩
theorem upd_none {H : Hp} {p a : Addr} {o : HO} (h : upd H p o a = none) : H a = none := by
  unfold upd at h
  split at h
  · cases h
  · exact h
theorem XT.new {S : List Addr} {H : Hp} {p : Addr} {o : HO} (h : H p = none) : XT S H (upd H p o) := ⟨fun a u _ e _ => by
  rw [upd_ne (ne_of_none e h)]; exact e, fun a h => upd_none h⟩
theorem rd_ext {S : List Addr} {H H' : Hp} {a : Addr} {u : HO} (x : XT S H H') (n : a ∉ S) (h : Rd H a u) (t : NT u) : Rd H' a u := by
  rcases h with h | ⟨o, h⟩
  · exact .inl (x.1 a _ n h t)
  · exact .inr ⟨o, x.1 a _ n h nt_frz⟩
section
variable {K : PySem.W.Frag} {p : Pa} {S S' : List Addr} {H H' : Hp}
mutual
theorem Rp.imp (hL : ∀ a xs, SL K S H a xs → SL K S' H' a xs) (hU : ∀ a xs, SU K S H a xs → SU K S' H' a xs) (hE : ∀ a o, a ∉ S → H a = some o → NT o → a ∉ S' ∧ H' a = some o) :
    ∀ (d : D) (v : V), Rp K p S H v d → Rp K p S' H' v d
  | .non, _, h => by cases h; exact .non
  | .bl _, _, h => by cases h; exact .bl _
  | .int _, _, h => by cases h; exact .int _
  | .str _, _, h => by cases h; exact .str _
  | .lst ds, _, h => by
    cases h with
    | lst h1 h2 h3 => exact .lst (hE _ _ h1 h2 nt_lst).1 (hE _ _ h1 h2 nt_lst).2 (Rps.imp hL hU hE ds _ h3)
  | .scr ns, _, h => by
    cases h with
    | scr h1 => exact .scr (hL _ _ h1)
  | .tup ds, _, h => by
    cases h with
    | tup h1 h2 => exact .tup (hU _ _ h1) (Rps.imp hL hU hE ds _ h2)
  | .emp, _, h => by
    cases h with
    | emp h1 h2 => exact .emp (hE _ _ h1 h2 nt_dK).1 (hE _ _ h1 h2 nt_dK).2
  | .mut, _, h => by cases h; exact .mut
  | .cel _, _, h => by cases h; exact .cel _
  | .ty _, _, h => by cases h; exact .ty _
  | .ref _, _, h => by cases h; exact .ref _
  | .ins C ks ds, _, h => by
    cases h with
    | ins h1 h2 h3 h4 => exact .ins (hE _ _ h1 h2 nt_ins).1 (hE _ _ h1 h2 nt_ins).2 (Rps.imp hL hU hE ds _ h3) h4
  | .met f d, _, h => by
    cases h with
    | met h1 h2 h3 => exact .met (hE _ _ h1 h2 nt_met).1 (hE _ _ h1 h2 nt_met).2 (Rp.imp hL hU hE d _ h3)
  | .dK ks ds, _, h => by
    cases h with
    | dK h1 h2 h3 h4 => exact .dK (hE _ _ h1 h2 nt_dK).1 (hE _ _ h1 h2 nt_dK).2 (Rps.imp hL hU hE ds _ h3) h4
  | .dT ks ds, _, h => by
    cases h with
    | dT h1 h2 h3 h4 => exact .dT (hE _ _ h1 h2 nt_frz).1 (hE _ _ h1 h2 nt_frz).2 (Rps.imp hL hU hE ds _ h3) h4
  | .lent ds, _, h => by
    cases h with
    | lent h1 h2 h3 => exact .lent (hE _ _ h1 h2 nt_frz).1 (hE _ _ h1 h2 nt_frz).2 (Rps.imp hL hU hE ds _ h3)
  | .dq ds, _, h => by
    cases h with
    | dq h1 h2 h3 h4 h5 => exact .dq (hE _ _ h1 h2 nt_frz).1 (hE _ _ h1 h2 nt_frz).2 h3 h4 (Rps.imp hL hU hE ds _ h5)
  | .clo L ds, _, h => by
    cases h with
    | clo h1 h2 h3 h4 h5 h6 => exact .clo (hE _ _ h1 h2 nt_lam).1 (hE _ _ h1 h2 nt_lam).2 (hE _ _ h3 h4 nt_code).1 (hE _ _ h3 h4 nt_code).2 (h5.imp hE) (Rps.imp hL hU hE ds _ h6)
theorem Rps.imp (hL : ∀ a xs, SL K S H a xs → SL K S' H' a xs) (hU : ∀ a xs, SU K S H a xs → SU K S' H' a xs) (hE : ∀ a o, a ∉ S → H a = some o → NT o → a ∉ S' ∧ H' a = some o) :
    ∀ (ds : List D) (vs : List V), Rps K p S H vs ds → Rps K p S' H' vs ds
  | [], _, h => by cases h; exact .nil
  | d :: ds, _, h => by
    cases h with
    | cons h1 h2 => exact .cons (Rp.imp hL hU hE d _ h1) (Rps.imp hL hU hE ds _ h2)
end
theorem Rp.ext {v : V} {d : D} (h : Rp K p S H v d) (x : XT S H H') : Rp K p S H' v d :=
  Rp.imp (fun a xs q => q.elim (fun ⟨n, r⟩ => .inl ⟨n, rd_ext x n r nt_lst⟩) .inr) (fun a xs q => q.elim (fun ⟨n, r⟩ => .inl ⟨n, rd_ext x n r nt_tup⟩) .inr) (fun a o n e t => ⟨n, x.1 a _ n e t⟩) d v h
theorem Rps.ext {vs : List V} {ds : List D} (h : Rps K p S H vs ds) (x : XT S H H') : Rps K p S H' vs ds :=
  Rps.imp (fun a xs q => q.elim (fun ⟨n, r⟩ => .inl ⟨n, rd_ext x n r nt_lst⟩) .inr) (fun a xs q => q.elim (fun ⟨n, r⟩ => .inl ⟨n, rd_ext x n r nt_tup⟩) .inr) (fun a o n e t => ⟨n, x.1 a _ n e t⟩) ds vs h
theorem Rp.weak {v : V} {d : D} (h : Rp K p S H v d) (s : ∀ a ∈ S', a ∈ S) : Rp K p S' H v d :=
  Rp.imp (fun a xs q => q.elim (fun ⟨n, r⟩ => .inl ⟨fun m => n (s a m), r⟩) .inr) (fun a xs q => q.elim (fun ⟨n, r⟩ => .inl ⟨fun m => n (s a m), r⟩) .inr) (fun a o n e _ => ⟨fun m => n (s a m), e⟩) d v h
theorem Rps.weak {vs : List V} {ds : List D} (h : Rps K p S H vs ds) (s : ∀ a ∈ S', a ∈ S) : Rps K p S' H vs ds :=
  Rps.imp (fun a xs q => q.elim (fun ⟨n, r⟩ => .inl ⟨fun m => n (s a m), r⟩) .inr) (fun a xs q => q.elim (fun ⟨n, r⟩ => .inl ⟨fun m => n (s a m), r⟩) .inr) (fun a o n e _ => ⟨fun m => n (s a m), e⟩) ds vs h
theorem rd_ne {a b : Addr} {u : HO} (h : Rd H a u) (e : H b = none) : a ≠ b := by
  rcases h with h | ⟨o, h⟩
  · exact ne_of_none h e
  · exact ne_of_none h e
/-- a new address is in no data -/
theorem Rp.fresh {v : V} {d : D} {b : Addr} (h : Rp K p S H v d) (e : H b = none) : Rp K p (b :: S) H v d :=
  Rp.imp (fun a xs q => q.elim (fun ⟨n, r⟩ => .inl ⟨fun m => (List.mem_cons.mp m).elim (rd_ne r e) n, r⟩) .inr) (fun a xs q => q.elim (fun ⟨n, r⟩ => .inl ⟨fun m => (List.mem_cons.mp m).elim (rd_ne r e) n, r⟩) .inr)
    (fun a o n q _ => ⟨fun m => (List.mem_cons.mp m).elim (ne_of_none q e) n, q⟩) d v h
theorem Rps.fresh {vs : List V} {ds : List D} {b : Addr} (h : Rps K p S H vs ds) (e : H b = none) : Rps K p (b :: S) H vs ds :=
  Rps.imp (fun a xs q => q.elim (fun ⟨n, r⟩ => .inl ⟨fun m => (List.mem_cons.mp m).elim (rd_ne r e) n, r⟩) .inr) (fun a xs q => q.elim (fun ⟨n, r⟩ => .inl ⟨fun m => (List.mem_cons.mp m).elim (rd_ne r e) n, r⟩) .inr)
    (fun a o n q _ => ⟨fun m => (List.mem_cons.mp m).elim (ne_of_none q e) n, q⟩) ds vs h
/-- other forbidden addresses: each is forbidden already, or new -/
theorem Rp.to {v : V} {d : D} (h : Rp K p S H v d) (e : ∀ b ∈ S', b ∈ S ∨ H b = none) : Rp K p S' H v d :=
  Rp.imp (fun a xs q => q.elim (fun ⟨n, r⟩ => .inl ⟨fun m => (e a m).elim n fun z => rd_ne r z rfl, r⟩) .inr) (fun a xs q => q.elim (fun ⟨n, r⟩ => .inl ⟨fun m => (e a m).elim n fun z => rd_ne r z rfl, r⟩) .inr)
    (fun a o n q _ => ⟨fun m => (e a m).elim n fun z => ne_of_none q z rfl, q⟩) d v h
theorem Rps.to {vs : List V} {ds : List D} (h : Rps K p S H vs ds) (e : ∀ b ∈ S', b ∈ S ∨ H b = none) : Rps K p S' H vs ds :=
  Rps.imp (fun a xs q => q.elim (fun ⟨n, r⟩ => .inl ⟨fun m => (e a m).elim n fun z => rd_ne r z rfl, r⟩) .inr) (fun a xs q => q.elim (fun ⟨n, r⟩ => .inl ⟨fun m => (e a m).elim n fun z => rd_ne r z rfl, r⟩) .inr)
    (fun a o n q _ => ⟨fun m => (e a m).elim n fun z => ne_of_none q z rfl, q⟩) ds vs h
theorem Rps.length : ∀ {vs : List V} {ds : List D}, Rps K p S H vs ds → vs.length = ds.length
  | _, [], h => by cases h; rfl
  | _, d :: ds, h => by
    cases h with
    | cons h1 h2 => simp [Rps.length h2]
theorem Rps.append : ∀ {vs ws : List V} {ds es : List D}, Rps K p S H vs ds → Rps K p S H ws es → Rps K p S H (vs ++ ws) (ds ++ es)
  | _, _, [], _, h, k => by cases h; exact k
  | _, _, d :: ds, _, h, k => by
    cases h with
    | cons h1 h2 => exact .cons h1 (Rps.append h2 k)
theorem Rps.one {v : V} {d : D} (h : Rp K p S H v d) : Rps K p S H [v] [d] := .cons h .nil
theorem Rps.get : ∀ {vs : List V} {ds : List D} {i : Nat} {d : D}, Rps K p S H vs ds → ds[i]? = some d → ∃ v, vs[i]? = some v ∧ Rp K p S H v d
  | _, [], _, _, h, e => by simp at e
  | _, c :: ds, 0, d, h, e => by
    cases h with
    | cons h1 h2 => simp at e; subst e; exact ⟨_, rfl, h1⟩
  | _, c :: ds, i + 1, d, h, e => by
    cases h with
    | cons h1 h2 => simpa using Rps.get (i := i) h2 (by simpa using e)
theorem Rps.getV : ∀ {vs : List V} {ds : List D} {i : Nat} {v : V}, Rps K p S H vs ds → vs[i]? = some v → ∃ d, ds[i]? = some d ∧ Rp K p S H v d
  | _, [], _, _, h, e => by cases h; simp at e
  | _, c :: ds, 0, v, h, e => by
    cases h with
    | cons h1 h2 => simp at e; subst e; exact ⟨_, rfl, h1⟩
  | _, c :: ds, i + 1, v, h, e => by
    cases h with
    | cons h1 h2 => simpa using Rps.getV (i := i) h2 (by simpa using e)
theorem Rps.take : ∀ {vs : List V} {ds : List D} (n : Nat), Rps K p S H vs ds → Rps K p S H (vs.take n) (ds.take n)
  | _, _, 0, _ => by simp; exact .nil
  | _, [], n + 1, h => by cases h; exact .nil
  | _, d :: ds, n + 1, h => by
    cases h with
    | cons h1 h2 => exact .cons h1 (Rps.take n h2)
theorem Rps.drop : ∀ {vs : List V} {ds : List D} (n : Nat), Rps K p S H vs ds → Rps K p S H (vs.drop n) (ds.drop n)
  | _, _, 0, h => by simpa using h
  | _, [], n + 1, h => by cases h; exact .nil
  | _, d :: ds, n + 1, h => by
    cases h with
    | cons h1 h2 => simpa using Rps.drop n h2
theorem Rps.set : ∀ {vs : List V} {ds : List D} {v : V} {d : D} (i : Nat), Rps K p S H vs ds → Rp K p S H v d → Rps K p S H (vs.set i v) (ds.set i d)
  | _, [], _, _, _, h, _ => by cases h; exact .nil
  | _, c :: ds, _, _, 0, h, k => by
    cases h with
    | cons h1 h2 => exact .cons k h2
  | _, c :: ds, _, _, i + 1, h, k => by
    cases h with
    | cons h1 h2 => exact .cons h1 (Rps.set i h2 k)
theorem Rps.eraseIdx : ∀ {vs : List V} {ds : List D} (i : Nat), Rps K p S H vs ds → Rps K p S H (vs.eraseIdx i) (ds.eraseIdx i)
  | _, [], _, h => by cases h; exact .nil
  | _, c :: ds, 0, h => by
    cases h with
    | cons h1 h2 => exact h2
  | _, c :: ds, i + 1, h => by
    cases h with
    | cons h1 h2 => exact .cons h1 (Rps.eraseIdx i h2)
theorem Rps.dropLast {vs : List V} {ds : List D} (h : Rps K p S H vs ds) : Rps K p S H vs.dropLast ds.dropLast := by
  rw [List.dropLast_eq_take, List.dropLast_eq_take, h.length]; exact h.take _
theorem Rps.ints : ∀ {vs : List V} {ns : List Int}, Rps K p S H vs (ns.map D.int) → vs = ns.map V.int
  | _, [], h => by cases h; rfl
  | _, n :: ns, h => by
    cases h with
    | cons h1 h2 => cases h1; simp [Rps.ints h2]
theorem Rps.bls : ∀ {vs : List V} {bs : List Bool}, Rps K p S H vs (bs.map D.bl) → vs = bs.map V.bl
  | _, [], h => by cases h; rfl
  | _, n :: ns, h => by
    cases h with
    | cons h1 h2 => cases h1; simp [Rps.bls h2]
end
/-! ### slots and frames -/
/-- what a body made itself and may still change -/
inductive Ow where
  | lst
  | ins (x C dx : Addr) (ks : List Str) -- the instance at x
  | dK (ks : List Key)
  | dT (ks : List (List Key))
  | fT (ob : Obj) (ks : List (List Key)) -- locked
  | lsA (b : Addr) -- the list at b
def Ow.ho : Ow → List V → HO
  | .lst, vs => .lst vs
  | .ins _ C dx ks, vs => .ins C dx (ks.zip vs)
  | .dK ks, vs => .dK (ks.zip vs)
  | .dT ks, vs => .dT (ks.zip vs)
  | .fT ob ks, vs => .frz ob (.dT (ks.zip vs))
  | .lsA _, vs => .lst vs
def Ow.fit : Ow → Addr → List D → Prop
  | .lst, _, _ => True
  | .ins x _ _ ks, a, ds => x = a ∧ ks.length = ds.length
  | .dK ks, _, ds => ks.length = ds.length
  | .dT ks, _, ds => ks.length = ds.length
  | .fT _ ks, _, ds => ks.length = ds.length
  | .lsA b, a, _ => b = a
/-- frozen -/
def Ow.d : Ow → List D → D
  | .lst, ds => .lst ds
  | .ins _ C _ ks, ds => .ins C ks ds
  | .dK ks, ds => .dK ks ds
  | .dT ks, ds => .dT ks ds
  | .fT _ ks, ds => .dT ks ds
  | .lsA _, ds => .lst ds
theorem Ow.nt (w : Ow) (vs : List V) : NT (w.ho vs) := by
  cases w with
  | lst => exact nt_lst
  | ins x C dx ks => exact nt_ins
  | dK ks => exact nt_dK
  | dT ks => exact nt_dT
  | fT ob ks => exact nt_frz
  | lsA b => exact nt_lst
inductive G where
  | no
  | val (d : D)
  | ow (w : Ow) (ds : List D)
abbrev G.own (ds : List D) : G := .ow .lst ds
/-! the state: the stream, a list of data that changes -/
abbrev Sx := Option (List D)
/-- the tables of code objects: each with the name of the lambdas that it may tell -/
abbrev Ts := List (Addr × Str)
def At (p : Pa) (H : Hp) (vs : List V) (ds : List D) : Prop := H p.1 = some (.lst vs) ∧ (∃ us, H p.2 = some (.lst us)) ∧ ∀ ns, D.cel ns ∈ ds → p.1 ≠ p.2 ∧ H p.2 = some (.lst (ns.map V.int))
theorem At.to {p : Pa} {H H' : Hp} {vs : List V} {ds : List D} (h : At p H vs ds) (k : ∀ a xs, H a = some (.lst xs) → (a = p.1 ∨ a = p.2) → H' a = some (.lst xs)) : At p H' vs ds :=
  ⟨k _ _ h.1 (.inl rfl), h.2.1.imp fun us e => k _ _ e (.inr rfl), fun ns m => ⟨(h.2.2 ns m).1, k _ _ (h.2.2 ns m).2 (.inr rfl)⟩⟩
theorem At.new {p : Pa} {H : Hp} {vs : List V} {ds : List D} {b : Addr} {o : HO} (h : At p H vs ds) (n : H b = none) : At p (upd H b o) vs ds := h.to fun a xs e _ => by
  rw [upd_ne (ne_of_none e n)]; exact e
theorem At.chg {p : Pa} {H : Hp} {vs : List V} {ds : List D} {b : Addr} {o : HO} (h : At p H vs ds) (n1 : p.1 ≠ b) (n2 : p.2 ≠ b) : At p (upd H b o) vs ds := h.to fun a xs e z => by
  rw [upd_ne (z.elim (fun z => by rw [z]; exact n1) fun z => by rw [z]; exact n2)]; exact e
def In (p : Pa) (S : List Addr) : Prop := p.1 ∈ S ∧ p.2 ∈ S
theorem In.to {p : Pa} {S S' : List Addr} (h : In p S) (k : ∀ a ∈ S, a ∈ S') : In p S' := ⟨k _ h.1, k _ h.2⟩
theorem In.app {p : Pa} {S S' : List Addr} (h : In p S) : In p (S' ++ S) := h.to fun _ m => List.mem_append_right _ m
theorem In.has {p : Pa} {S : List Addr} {c : Addr} (h : In p S) (z : c = p.1 ∨ c = p.2) : c ∈ S := z.elim (fun e => e ▸ h.1) fun e => e ▸ h.2
theorem In.ne {p : Pa} {S : List Addr} {a : Addr} (h : In p S) (n : a ∉ S) : ¬ (a = p.1 ∨ a = p.2) := fun z => z.elim (fun z => n (z ▸ h.1)) fun z => n (z ▸ h.2)
theorem At.out {p : Pa} {S : List Addr} {H : Hp} {vs : List V} {ds : List D} {b : Addr} {o : HO} (h : At p H vs ds) (i : In p S) (n : b ∉ S) : At p (upd H b o) vs ds := h.chg (fun z => n (z ▸ i.1)) fun z => n (z ▸ i.2)
def StA (K : PySem.W.Frag) (T : Ts) (p : Pa) (S : List Addr) (H : Hp) : Sx → Prop
  | none => LamX.Tabs T H
  | some ds => LamX.Tabs T H ∧ In p S ∧ ∃ vs, At p H vs ds ∧ Rps K p S H vs ds
theorem StA.tab {K : PySem.W.Frag} {T : Ts} {p : Pa} {S : List Addr} {H : Hp} {s : Sx} (h : StA K T p S H s) : LamX.Tabs T H := by
  cases s with
  | none => exact h
  | some ds => exact h.1
def XP (p : Pa) (s : Sx) (H H' : Hp) : Prop := (∀ a o, H a = some o → (s = none ∨ ¬ (a = p.1 ∨ a = p.2)) → NT o → H' a = some o) ∧ ∀ a, H' a = none → H a = none
theorem XP.refl {p : Pa} {s : Sx} {H : Hp} : XP p s H H := ⟨fun _ _ h _ _ => h, fun _ h => h⟩
theorem XP.trans {p : Pa} {s : Sx} {H H1 H2 : Hp} (a : XP p s H H1) (b : XP p s H1 H2) : XP p s H H2 := ⟨fun x o h n t => b.1 x o (a.1 x o h n t) n t, fun x h => a.2 x (b.2 x h)⟩
theorem XP.kind {p : Pa} {s s' : Sx} {H H' : Hp} (x : XP p s H H') (k : s.isSome = s'.isSome) : XP p s' H H' := ⟨fun a o h n => x.1 a o h (n.elim (fun e => .inl (by
  subst e
  cases s with
  | none => rfl
  | some _ => cases k)) .inr), x.2⟩
theorem XP.xt {K : PySem.W.Frag} {T : Ts} {p : Pa} {s : Sx} {S : List Addr} {H H' : Hp} (x : XP p s H H') (h : StA K T p S H s) : XT S H H' := ⟨fun a o n e => x.1 a o e (by
  cases s with
  | none => exact .inl rfl
  | some xs => exact .inr (h.2.1.ne n)), x.2⟩
theorem XP.new {p : Pa} {b : Addr} {s : Sx} {H : Hp} {o : HO} (h : H b = none) : XP p s H (upd H b o) := ⟨fun a u e _ _ => by
  rw [upd_ne (ne_of_none e h)]; exact e, fun a h => upd_none h⟩
/-- the tables stay if all that is known stays -/
theorem tabs_new {T : Ts} {H : Hp} {b : Addr} {o : HO} (t : LamX.Tabs T H) (h : H b = none) : LamX.Tabs T (upd H b o) := t.ext fun c u e => by
  rw [upd_ne (ne_of_none e h)]; exact e
theorem tabs_upd {T : Ts} {H : Hp} {a : Addr} {u o : HO} (t : LamX.Tabs T H) (h : H a = some u) (nt : NT u) (nc : ∀ c q, u ≠ LamX.CodeO c q) : LamX.Tabs T (upd H a o) := by
  intro pq hp
  obtain ⟨ps, h1, h2, h3⟩ := t pq hp
  have ne : pq.1 ≠ a := fun z => by
    rw [z, h] at h1
    exact nt ps (Option.some.inj h1)
  refine ⟨ps, by rw [upd_ne ne]; exact h1, h2, fun pos cv hc => ?_⟩
  obtain ⟨c, e1, e2⟩ := h3 pos cv hc
  refine ⟨c, e1, ?_⟩
  rw [upd_ne fun z => ?_]
  · exact e2
  · rw [z, h] at e2
    exact nc _ _ (Option.some.inj e2)
theorem nc_lst {xs : List V} (c : Addr) (q : Str) : HO.lst xs ≠ LamX.CodeO c q := fun z => by
  unfold LamX.CodeO at z
  cases z
/-- a body: its context, the heap at its entry, the addresses that no data of it may hold, the stream's address, the tables -/
structure Fx where
  X : Cx
  H0 : Hp
  S0 : List Addr
  p : Pa
  act : Bool
  T : Ts
abbrev Fx.K (F : Fx) : PySem.W.Frag := F.X.K
/-- the state, seen by the body -/
abbrev Fx.Sa (F : Fx) (O : List Addr) (H : Hp) (s : Sx) : Prop := StA F.X.K F.T F.p (O ++ F.S0) H s
/-- an expression's step: all is kept but the stream -/
def XE (F : Fx) (H H' : Hp) : Prop := (∀ a o, ¬ (F.act = true ∧ (a = F.p.1 ∨ a = F.p.2) ∧ a ∈ F.S0) → H a = some o → NT o → H' a = some o) ∧ ∀ a, H' a = none → H a = none
theorem XE.refl {F : Fx} {H : Hp} : XE F H H := ⟨fun _ _ _ h _ => h, fun _ h => h⟩
theorem XE.trans {F : Fx} {H H1 H2 : Hp} (a : XE F H H1) (b : XE F H1 H2) : XE F H H2 := ⟨fun x o n h t => b.1 x o n (a.1 x o n h t) t, fun x h => a.2 x (b.2 x h)⟩
theorem XE.new {F : Fx} {H : Hp} {p : Addr} {o : HO} (h : H p = none) : XE F H (upd H p o) := ⟨fun a u _ e _ => by
  rw [upd_ne (ne_of_none e h)]; exact e, fun a h => upd_none h⟩
theorem XE.xt {F : Fx} {O : List Addr} {H H' : Hp} (x : XE F H H') : XT (O ++ F.S0) H H' := ⟨fun a o n h => x.1 a o (fun z => n (List.mem_append_right _ z.2.2)) h, x.2⟩
theorem XP.xe {F : Fx} {s : Sx} {H H' : Hp} (x : XP F.p s H H') (pm : s.isSome = true → In F.p F.S0) (kd : s.isSome = F.act) : XE F H H' := ⟨fun a o n e => x.1 a o e (by
  cases s with
  | none => exact .inl rfl
  | some xs => exact .inr fun z => n ⟨kd.symm, z, z.elim (fun e => e ▸ (pm rfl).1) fun e => e ▸ (pm rfl).2⟩), x.2⟩
def Slot (K : PySem.W.Frag) (p : Pa) (S : List Addr) (H : Hp) (o : Option V) : G → Prop
  | .no => True
  | .val d => ∃ v, o = some v ∧ Rp K p S H v d
  | .ow w ds => ∃ a vs, o = some (.ref a) ∧ a ∈ S ∧ H a = some (w.ho vs) ∧ Rps K p S H vs ds ∧ w.fit a ds
structure Fm (F : Fx) (O : List Addr) (σ : L2.St) (H : Hp) (ρ : List G) (s : Sx) : Prop where
  ext : XP F.p s F.H0 H
  slot : ∀ (i : Nat) (g : G), ρ[i]? = some g → ∃ o, σ[i]? = some o ∧ Slot F.X.K F.p (O ++ F.S0) H o g
  own : ∀ (i : Nat) (w : Ow) (ds : List D) (a : Addr), ρ[i]? = some (.ow w ds) → σ[i]? = some (some (.ref a)) → a ∈ O
  dis : ∀ (i j : Nat) (w u : Ow) (ds es : List D) (a : Addr), i ≠ j → ρ[i]? = some (.ow w ds) → ρ[j]? = some (.ow u es) → σ[i]? = some (some (.ref a)) → σ[j]? ≠ some (some (.ref a))
  fre : ∀ a ∈ O, F.H0 a = none ∧ a ∉ F.S0
  trk : ∀ a ∈ O ++ F.S0, ∃ o, H a = some o
  st : F.Sa O H s
  pm : s.isSome = true → In F.p F.S0
  kd : s.isSome = F.act
section
variable {F : Fx} {O : List Addr} {σ : L2.St} {H H' : Hp} {ρ : List G} {s s' : Sx}
/-- the heap grows, the stream turns -/
theorem Fm.grow (f : Fm F O σ H ρ s) (x : XP F.p s H H') (k : s.isSome = s'.isSome) (h : F.Sa O H' s') : Fm F O σ H' ρ s' := by
  have xt : XT (O ++ F.S0) H H' := x.xt f.st
  have np : ∀ a ∈ O, s = none ∨ ¬ (a = F.p.1 ∨ a = F.p.2) := fun a ha => by
    have q := f.pm
    cases s with
    | none => exact .inl rfl
    | some xs => exact .inr ((q rfl).ne (f.fre a ha).2)
  refine ⟨(f.ext.trans x).kind k, fun i g hg => ?_, f.own, f.dis, f.fre, fun a ha => ?_, h, fun z => f.pm (k.trans z), k.symm.trans f.kd⟩
  · obtain ⟨o, ho, q⟩ := f.slot i g hg
    refine ⟨o, ho, ?_⟩
    cases g with
    | no => trivial
    | val d =>
      obtain ⟨v, e, r⟩ := q
      exact ⟨v, e, r.ext xt⟩
    | ow w ds =>
      obtain ⟨a, vs, e, m, ha, r, ft⟩ := q
      subst e
      exact ⟨a, vs, rfl, m, x.1 a _ ha (np a (f.own i w ds a hg ho)) (w.nt vs), r.ext xt, ft⟩
  · obtain ⟨o, e⟩ := f.trk a ha
    cases e' : H' a with
    | none => rw [x.2 a e'] at e; cases e
    | some o' => exact ⟨o', rfl⟩
theorem Fm.fresh (f : Fm F O σ H ρ s) {b : Addr} (h : H b = none) : b ∉ O ++ F.S0 := fun m => by
  obtain ⟨o, e⟩ := f.trk b m
  rw [h] at e; cases e
theorem Fm.new (f : Fm F O σ H ρ s) {b : Addr} {o : HO} (h : H b = none) : Fm F O σ (upd H b o) ρ s := by
  refine f.grow (XP.new h) rfl ?_
  have q := f.st
  cases s with
  | none => exact tabs_new q h
  | some ds =>
    obtain ⟨q1, q2, vs, q3, q4⟩ := q
    exact ⟨tabs_new q1 h, q2, vs, q3.new h, q4.ext (.new h)⟩
/-- a new list that is owned -/
theorem Fm.newO (f : Fm F O σ H ρ s) {b : Addr} {u : HO} (h : H b = none) : Fm F (b :: O) σ (upd H b u) ρ s := by
  have g := f.new (o := u) h
  have nb := f.fresh h
  refine ⟨g.ext, fun i q hq => ?_, fun i w ds a h1 h2 => List.mem_cons_of_mem _ (f.own i w ds a h1 h2), f.dis, fun a m => ?_, fun a m => ?_, ?_, g.pm, g.kd⟩
  · obtain ⟨o, ho, k⟩ := f.slot i q hq
    refine ⟨o, ho, ?_⟩
    cases q with
    | no => trivial
    | val d =>
      obtain ⟨v, e, r⟩ := k
      exact ⟨v, e, (r.fresh h).ext (.new h)⟩
    | ow w ds =>
      obtain ⟨a, ws, e, m, ha, r, ft⟩ := k
      exact ⟨a, ws, e, List.mem_cons_of_mem _ m, by rw [upd_ne (ne_of_none ha h)]; exact ha, (r.fresh h).ext (.new h), ft⟩
  · rcases List.mem_cons.mp m with rfl | m
    · exact ⟨f.ext.2 _ h, fun z => nb (List.mem_append_right _ z)⟩
    · exact f.fre a m
  · rcases List.mem_cons.mp m with rfl | m
    · exact ⟨_, upd_same⟩
    · exact g.trk a m
  · have q := f.st
    cases s with
    | none => exact tabs_new q h
    | some ds =>
      obtain ⟨q1, q2, vs, q3, q4⟩ := q
      exact ⟨tabs_new q1 h, q2.to fun _ m => List.mem_cons_of_mem _ m, vs, q3.new h, (q4.fresh h).ext (.new h)⟩
theorem Fm.drop {a : Addr} (f : Fm F O σ H ρ s) (g : Fm F (a :: O) σ H' ρ s') : Fm F O σ H' ρ s' := by
  have e9 : F.Sa O H' s' := by
    have q := g.st
    have pm := g.pm
    cases s' with
    | none => exact q
    | some ds =>
      obtain ⟨q1, q2, vs, q3, q4⟩ := q
      exact ⟨q1, (pm rfl).app, vs, q3, q4.weak fun b m => List.mem_cons_of_mem _ m⟩
  refine ⟨g.ext, fun i q hq => ?_, f.own, f.dis, f.fre, fun b m => g.trk b (List.mem_cons_of_mem _ m), e9, g.pm, g.kd⟩
  obtain ⟨o, ho, k⟩ := g.slot i q hq
  refine ⟨o, ho, ?_⟩
  cases q with
  | no => trivial
  | val d =>
    obtain ⟨v, e, r⟩ := k
    exact ⟨v, e, r.weak fun b m => List.mem_cons_of_mem _ m⟩
  | ow w ds =>
    obtain ⟨b, ws, e, m, hb, r, ft⟩ := k
    subst e
    exact ⟨b, ws, rfl, List.mem_append_left _ (f.own i w ds b hq ho), hb, r.weak fun b m => List.mem_cons_of_mem _ m, ft⟩
end
/-! ### the weakest wishes -/
def WE (X : Cx) (e : Expr) : TE := fun σ H Q => ∀ pins s, Inv X pins σ H s → wpAny (model X.prog X.w) X.A (eval e X.env) (EP X pins σ Q) X.xe s
def WT (X : Cx) (e : Expr) : TT := fun σ H Q => ∀ pins s, Inv X pins σ H s → wpAny (model X.prog X.w) X.A (isTrue e X.env (eval e X.env)) (TP X pins σ Q) X.xe s
def WW (X : Cx) (e : Expr) : TT := fun σ H Q => ∀ whole pins s, Inv X pins σ H s → wpAny (model X.prog X.w) X.A (isTrue e X.env whole) (TP X pins σ Q) X.xe s
def WA (X : Cx) (es : List Expr) : TA := fun σ H Q => ∀ pos pins s, Inv X pins σ H s → wpAny (model X.prog X.w) X.A (spliced (backTo pos (starEach es X.env))) (AP X pins σ Q) X.xe s
def WS (X : Cx) (st : Stmt) : TS := fun D σ H => ∀ pins s, Inv X pins σ H s → wpAny (model X.prog X.w) X.A (exec st X.env) (SP X pins D) X.xe s
def WB (X : Cx) (st : List Stmt) : TS := fun D σ H => ∀ pins s, Inv X pins σ H s → wpAny (model X.prog X.w) X.A (execs st X.env) (SP X pins D) X.xe s
theorem pe_we {X : Cx} {e : Expr} : PE X e (WE X e) := ⟨fun pins s _ _ _ I h => h pins s I⟩
theorem pt_wt {X : Cx} {e : Expr} : PT X e (WT X e) := ⟨fun pins s _ _ _ I h => h pins s I⟩
theorem pw_ww {X : Cx} {e : Expr} : PW X e (WW X e) := ⟨fun whole pins s _ _ _ I h => h whole pins s I⟩
theorem pa_wa {X : Cx} {es : List Expr} : PA X es (WA X es) := ⟨fun pos pins s _ _ _ I h => h pos pins s I⟩
theorem ps_ws {X : Cx} {st : Stmt} : PS X st (WS X st) := ⟨fun pins s _ _ _ I h => h pins s I⟩
theorem pss_wb {X : Cx} {st : List Stmt} : PSs X st (WB X st) := ⟨fun pins s _ _ _ I h => h pins s I⟩
section
variable {X : Cx} {σ : L2.St} {H : Hp}
theorem we {e : Expr} {t : TE} {Q : VK} (p : PE X e t) (h : t σ H Q) : WE X e σ H Q := fun pins s I => p.run pins s σ H Q I h
theorem wt {e : Expr} {t : TT} {Q : Bool → Hp → Prop} (p : PT X e t) (h : t σ H Q) : WT X e σ H Q := fun pins s I => p.run pins s σ H Q I h
theorem ww {e : Expr} {t : TT} {Q : Bool → Hp → Prop} (p : PW X e t) (h : t σ H Q) : WW X e σ H Q := fun whole pins s I => p.run whole pins s σ H Q I h
theorem wa {es : List Expr} {t : TA} {Q : List V → Hp → Prop} (p : PA X es t) (h : t σ H Q) : WA X es σ H Q := fun pos pins s I => p.run pos pins s σ H Q I h
theorem ws {st : Stmt} {t : TS} {D : Ends} (p : PS X st t) (h : t D σ H) : WS X st D σ H := fun pins s I => p.run pins s σ H D I h
theorem wb {st : List Stmt} {t : TS} {D : Ends} (p : PSs X st t) (h : t D σ H) : WB X st D σ H := fun pins s I => p.run pins s σ H D I h
theorem WE.mono {e : Expr} {Q Q' : VK} (h : WE X e σ H Q) (k : ∀ v H', Q v H' → Q' v H') : WE X e σ H Q' := fun pins s I => thn (h pins s I) fun _ _ ⟨v, H', J, r, q⟩ => ⟨v, H', J, r, k v H' q⟩
end
end Gh
set_option Elab.async false
set_option linter.all false
set_option maxRecDepth 100000
namespace Gh
open PySem PySem.Spec PyProof.Rows L2
/-! ### the judgements: what an expression is worth -/
def Ed (F : Fx) (ρ : List G) (s : Sx) (e : Expr) (d : D) (s' : Sx) : Prop :=
  s.isSome = s'.isSome ∧ ∀ O σ H, Fm F O σ H ρ s → ∀ Q : VK, (∀ v H', Fm F O σ H' ρ s' → XE F H H' → Rp F.X.K F.p (O ++ F.S0) H' v d → Q v H') → WE F.X e σ H Q
def Ea (F : Fx) (ρ : List G) (s : Sx) (es : List Expr) (ds : List D) (s' : Sx) : Prop :=
  s.isSome = s'.isSome ∧ ∀ O σ H, Fm F O σ H ρ s → ∀ Q : List V → Hp → Prop, (∀ vs H', Fm F O σ H' ρ s' → XE F H H' → Rps F.X.K F.p (O ++ F.S0) H' vs ds → Q vs H') → WA F.X es σ H Q
/-- a new list -/
def El (F : Fx) (ρ : List G) (s : Sx) (e : Expr) (ds : List D) (s' : Sx) : Prop :=
  s.isSome = s'.isSome ∧ ∀ O σ H, Fm F O σ H ρ s → ∀ Q : VK, (∀ a vs H', Fm F (a :: O) σ H' ρ s' → XE F H H' → H a = none → H' a = some (.lst vs) → Rps F.X.K F.p (a :: (O ++ F.S0)) H' vs ds → Q (.ref a) H') → WE F.X e σ H Q
def Et (F : Fx) (ρ : List G) (s : Sx) (e : Expr) (b : Bool) (s' : Sx) : Prop :=
  s.isSome = s'.isSome ∧ ∀ O σ H, Fm F O σ H ρ s → ∀ Q : Bool → Hp → Prop, (∀ H', Fm F O σ H' ρ s' → XE F H H' → Q b H') → WT F.X e σ H Q
def Ew (F : Fx) (ρ : List G) (s : Sx) (e : Expr) (b : Bool) (s' : Sx) : Prop :=
  s.isSome = s'.isSome ∧ ∀ O σ H, Fm F O σ H ρ s → ∀ Q : Bool → Hp → Prop, (∀ H', Fm F O σ H' ρ s' → XE F H H' → Q b H') → WW F.X e σ H Q
/-- a two-place operation; a call, by data -/
def R2d (F : Fx) (ρ : List G) (s : Sx) (r : R2) (x y z : D) : Prop :=
  ∀ O σ H, Fm F O σ H ρ s → ∀ v w, Rp F.X.K F.p (O ++ F.S0) H v x → Rp F.X.K F.p (O ++ F.S0) H w y → ∀ Q : VK, (∀ u H', Fm F O σ H' ρ s → XE F H H' → Rp F.X.K F.p (O ++ F.S0) H' u z → Q u H') → r v w H Q
def R2l (F : Fx) (ρ : List G) (s : Sx) (r : R2) (x y : D) (zs : List D) : Prop :=
  ∀ O σ H, Fm F O σ H ρ s → ∀ v w, Rp F.X.K F.p (O ++ F.S0) H v x → Rp F.X.K F.p (O ++ F.S0) H w y → ∀ Q : VK, (∀ a vs H', Fm F (a :: O) σ H' ρ s → XE F H H' → H a = none → H' a = some (.lst vs) → Rps F.X.K F.p (a :: (O ++ F.S0)) H' vs zs → Q (.ref a) H') → r v w H Q
def CRd (F : Fx) (ρ : List G) (s : Sx) (r : List V → Hp → VK → Prop) (xs : List D) (z : D) : Prop :=
  ∀ O σ H, Fm F O σ H ρ s → ∀ vs, Rps F.X.K F.p (O ++ F.S0) H vs xs → ∀ Q : VK, (∀ u H', Fm F O σ H' ρ s → XE F H H' → Rp F.X.K F.p (O ++ F.S0) H' u z → Q u H') → r vs H Q
def CRl (F : Fx) (ρ : List G) (s : Sx) (r : List V → Hp → VK → Prop) (xs zs : List D) : Prop :=
  ∀ O σ H, Fm F O σ H ρ s → ∀ vs, Rps F.X.K F.p (O ++ F.S0) H vs xs → ∀ Q : VK, (∀ a ws H', Fm F (a :: O) σ H' ρ s → XE F H H' → H a = none → H' a = some (.lst ws) → Rps F.X.K F.p (a :: (O ++ F.S0)) H' ws zs → Q (.ref a) H') → r vs H Q
section
variable {F : Fx} {ρ : List G} {s s1 s2 s3 : Sx} {a b c e : Expr} {es : List Expr} {x y z d : D} {xs zs ds : List D} {pos p : Pos}
theorem El.ed (h : El F ρ s e ds s1) : Ed F ρ s e (.lst ds) s1 := ⟨h.1, fun O σ H f Q q => h.2 O σ H f Q fun a vs H' f' x' n h' r =>
  q _ _ (f.drop f') x' (.lst (f.fresh n) h' (r.weak fun a m => List.mem_cons_of_mem _ m))⟩
/-! names, constants -/
theorem ed_var (i : Nat) {x : Str} (hN : F.X.N[i]? = some x) (hv : Vis F.X.env.scope x) (hρ : ρ[i]? = some (.val d)) (hd : (x == ("__debug__" : Str)) = false := by decide) (hcd : (x == ("__classdict__" : Str)) = false := by decide) : Ed F ρ s (.Name x pos) d s :=
  ⟨rfl, fun O σ H f Q q => by
    obtain ⟨o, ho, v, e, r⟩ := f.slot i _ hρ
    subst e
    exact we (pe_var hN hv hd hcd) ⟨v, ho, q v H f .refl r⟩⟩
theorem ed_int {i : Int} {j} : Ed F ρ s (.Constant (.int i) j pos) (.int i) s := ⟨rfl, fun O σ H f Q q => we pe_int (q _ _ f .refl (.int i))⟩
theorem ed_bl {i : Bool} {j} : Ed F ρ s (.Constant (.bool i) j pos) (.bl i) s := ⟨rfl, fun O σ H f Q q => we pe_bl (q _ _ f .refl (.bl i))⟩
theorem ed_str {i : Str} {j} : Ed F ρ s (.Constant (.str i) j pos) (.str i) s := ⟨rfl, fun O σ H f Q q => we pe_str (q _ _ f .refl (.str i))⟩
theorem ed_non {j} : Ed F ρ s (.Constant .none j pos) .non s := ⟨rfl, fun O σ H f Q q => we pe_non (q _ _ f .refl .non)⟩
theorem ed_ty {x : Str} {n : String} (hg : Gl F.X x) (hm : F.X.mg x = none) (hv : bootBuiltins x = some (.type n)) (hn : x ≠ "__name__" := by decide) (hd : (x == ("__debug__" : Str)) = false := by decide) : Ed F ρ s (.Name x pos) (.ty n) s :=
  ⟨rfl, fun O σ H f Q q => we (pe_bltn (v := .ty n) hg hm hv rfl hn hd) (q _ _ f .refl (.ty n))⟩
theorem ed_glob {x : Str} {v : V} {u : Value} (hg : Gl F.X x) (hm : F.X.mg x = some u) (r : RelV v u) (hr : ∀ p S H, Rp F.X.K p S H v d) (hd : (x == ("__debug__" : Str)) = false := by decide) : Ed F ρ s (.Name x pos) d s :=
  ⟨rfl, fun O σ H f Q q => we (pe_glob hg hm r hd) (q _ _ f .refl (hr _ _ _))⟩
/-! lists of expressions, displays -/
theorem ea_nil : Ea F ρ s [] [] s := ⟨rfl, fun O σ H f Q q => wa pa_nil (q _ _ f .refl .nil)⟩
theorem ea_cons (ha : Ed F ρ s e d s1) (hr : Ea F ρ s1 es ds s2) (hs : starEach (e :: es) F.X.env = (false, eval e F.X.env) :: starEach es F.X.env := by rfl) : Ea F ρ s (e :: es) (d :: ds) s2 :=
  ⟨ha.1.trans hr.1, fun O σ H f Q q => wa (pa_cons pe_we pa_wa hs) (ha.2 O σ H f _ fun v H1 f1 x1 r1 => hr.2 O σ H1 f1 _ fun vs H2 f2 x2 r2 => q _ _ f2 (x1.trans x2) (.cons (r1.ext x2.xt) r2))⟩
theorem ed_tup {k} (h : Ea F ρ s es ds s1) (hl : ds.length ≤ sizeLine := by exact Nat.le_of_ble_eq_true rfl) : Ed F ρ s (.Tuple es k pos) (.tup ds) s1 :=
  ⟨h.1, fun O σ H f Q q => we (pe_tup pa_wa) (h.2 O σ H f _ fun vs H1 f1 x1 r1 => ⟨by rw [r1.length]; exact hl, fun a n => q _ _ (f1.new n) (x1.trans (.new n)) (.tup (.inl ⟨f1.fresh n, .inl upd_same⟩) (r1.ext (.new n)))⟩)⟩
theorem el_lst (h : Ea F ρ s es ds s1) (hl : ds.length ≤ sizeLine := by exact Nat.le_of_ble_eq_true rfl) : El F ρ s (.List es pos) ds s1 :=
  ⟨h.1, fun O σ H f Q q => we (pe_lst pa_wa) (h.2 O σ H f _ fun vs H1 f1 x1 r1 => ⟨by rw [r1.length]; exact hl, fun a n => q a vs _ (f1.newO n) (x1.trans (.new n)) (x1.2 a n) upd_same ((r1.fresh n).ext (.new n))⟩)⟩
/-! operators -/
theorem ed_op {op : Operator} {r : R2} (ho : OpR F.X (binaryOp op) r) (ha : Ed F ρ s a x s1) (hb : Ed F ρ s1 b y s2) (hr : R2d F ρ s2 r x y z) : Ed F ρ s (.BinOp a op b pos) z s2 :=
  ⟨ha.1.trans hb.1, fun O σ H f Q q => we (pe_op ho pe_we pe_we) (ha.2 O σ H f _ fun v H1 f1 x1 r1 => hb.2 O σ H1 f1 _ fun w H2 f2 x2 r2 => hr O σ H2 f2 v w (r1.ext x2.xt) r2 Q fun u H3 f3 x3 r3 => q u H3 f3 ((x1.trans x2).trans x3) r3)⟩
theorem el_op {op : Operator} {r : R2} (ho : OpR F.X (binaryOp op) r) (ha : Ed F ρ s a x s1) (hb : Ed F ρ s1 b y s2) (hr : R2l F ρ s2 r x y zs) : El F ρ s (.BinOp a op b pos) zs s2 :=
  ⟨ha.1.trans hb.1, fun O σ H f Q q => we (pe_op ho pe_we pe_we) (ha.2 O σ H f _ fun v H1 f1 x1 r1 => hb.2 O σ H1 f1 _ fun w H2 f2 x2 r2 => hr O σ H2 f2 v w (r1.ext x2.xt) r2 Q fun u vs H3 f3 x3 n3 h3 r3 => q u vs H3 f3 ((x1.trans x2).trans x3) (x1.2 u (x2.2 u n3)) h3 r3)⟩
/-- a comparison: as a value, as a test -/
def Cp (F : Fx) (ρ : List G) (s : Sx) (op : CmpOp) (a b : Expr) (k : Bool) (s' : Sx) : Prop := s.isSome = s'.isSome ∧ behindInMarks op b = false ∧ ∃ r, OpR F.X (compareOp op) r ∧
  ∀ O σ H, Fm F O σ H ρ s → ∀ Q : VK, (∀ H', Fm F O σ H' ρ s' → XE F H H' → Q (.bl k) H') → tOp r (WE F.X a) (WE F.X b) σ H Q
theorem Cp.ed {op : CmpOp} {k : Bool} (h : Cp F ρ s op a b k s1) : Ed F ρ s (.Compare a [op] [b] pos) (.bl k) s1 := by
  obtain ⟨kd, hm, r, ho, h⟩ := h
  exact ⟨kd, fun O σ H f Q q => we (pe_cmpR ho pe_we pe_we hm) (h O σ H f Q fun H' f' x' => q _ H' f' x' (.bl k))⟩
theorem Cp.et {op : CmpOp} {k : Bool} (h : Cp F ρ s op a b k s1) : Et F ρ s (.Compare a [op] [b] pos) k s1 := by
  obtain ⟨kd, hm, r, ho, h⟩ := h
  exact ⟨kd, fun O σ H f Q q => wt (pt_cmpR ho pe_we pe_we hm) (h O σ H f _ fun H' f' x' => ⟨k, rfl, q H' f' x'⟩)⟩
theorem cp_of {op : CmpOp} {r : R2} {k : Bool} (ho : OpR F.X (compareOp op) r) (ha : Ed F ρ s a x s1) (hb : Ed F ρ s1 b y s2) (hr : R2d F ρ s2 r x y (.bl k)) (hm : behindInMarks op b = false) : Cp F ρ s op a b k s2 :=
  ⟨ha.1.trans hb.1, hm, r, ho, fun O σ H f Q q => ha.2 O σ H f _ fun v H1 f1 x1 r1 => hb.2 O σ H1 f1 _ fun w H2 f2 x2 r2 => hr O σ H2 f2 v w (r1.ext x2.xt) r2 Q fun u H3 f3 x3 r3 => by cases r3; exact q H3 f3 ((x1.trans x2).trans x3)⟩
theorem r2_I0 {g : Int → Int → V} {i j : Int} (h : ∀ p S H, Rp F.X.K p S H (g i j) z) : R2d F ρ s (rI0 g) (.int i) (.int j) z := fun O σ H f v w r1 r2 Q q => by
  cases r1; cases r2; exact ⟨i, j, rfl, rfl, q _ _ f .refl (h _ _ _)⟩
theorem r2_I {C : Int → Int → Prop} {g : Int → Int → V} {i j : Int} (hc : C i j) (h : ∀ p S H, Rp F.X.K p S H (g i j) z) : R2d F ρ s (rI C g) (.int i) (.int j) z := fun O σ H f v w r1 r2 Q q => by
  cases r1; cases r2; exact ⟨i, j, rfl, rfl, hc, q _ _ f .refl (h _ _ _)⟩
section
variable {i j : Int}
theorem ed_add (ha : Ed F ρ s a (.int i) s1) (hb : Ed F ρ s1 b (.int j) s2) : Ed F ρ s (.BinOp a .Add b pos) (.int (i + j)) s2 := ed_op op_add ha hb (r2_I0 fun _ _ _ => .int _)
theorem ed_sub (ha : Ed F ρ s a (.int i) s1) (hb : Ed F ρ s1 b (.int j) s2) : Ed F ρ s (.BinOp a .Sub b pos) (.int (i - j)) s2 := ed_op op_sub ha hb (r2_I0 fun _ _ _ => .int _)
theorem ed_mulW (hc : CMulW i j) (ha : Ed F ρ s a (.int i) s1) (hb : Ed F ρ s1 b (.int j) s2) : Ed F ρ s (.BinOp a .Mult b pos) (.int (i * j)) s2 := ed_op op_mulW ha hb (r2_I hc fun _ _ _ => .int _)
theorem ed_fdiv (hc : CDivW i j) (ha : Ed F ρ s a (.int i) s1) (hb : Ed F ρ s1 b (.int j) s2) : Ed F ρ s (.BinOp a .FloorDiv b pos) (.int (i / j)) s2 := ed_op op_fdivW ha hb (r2_I hc fun _ _ _ => .int _)
theorem ed_mod (hc : 0 < j) (ha : Ed F ρ s a (.int i) s1) (hb : Ed F ρ s1 b (.int j) s2) : Ed F ρ s (.BinOp a .Mod b pos) (.int (i % j)) s2 := ed_op op_mod ha hb (r2_I hc fun _ _ _ => .int _)
theorem ed_pow (hc : CPow i j) (ha : Ed F ρ s a (.int i) s1) (hb : Ed F ρ s1 b (.int j) s2) : Ed F ρ s (.BinOp a .Pow b pos) (.int (i ^ j.toNat)) s2 := ed_op op_pow ha hb (r2_I hc fun _ _ _ => .int _)
theorem cp_lt (ha : Ed F ρ s a (.int i) s1) (hb : Ed F ρ s1 b (.int j) s2) : Cp F ρ s .Lt a b (decide (i < j)) s2 := cp_of op_lt ha hb (r2_I0 fun _ _ _ => .bl _) (nomark _)
theorem cp_le (ha : Ed F ρ s a (.int i) s1) (hb : Ed F ρ s1 b (.int j) s2) : Cp F ρ s .LtE a b (decide (i ≤ j)) s2 := cp_of op_le ha hb (r2_I0 fun _ _ _ => .bl _) (nomark _)
theorem cp_gt (ha : Ed F ρ s a (.int i) s1) (hb : Ed F ρ s1 b (.int j) s2) : Cp F ρ s .Gt a b (decide (j < i)) s2 := cp_of op_gt ha hb (r2_I0 fun _ _ _ => .bl _) (nomark _)
theorem cp_ge (ha : Ed F ρ s a (.int i) s1) (hb : Ed F ρ s1 b (.int j) s2) : Cp F ρ s .GtE a b (decide (j ≤ i)) s2 := cp_of op_ge ha hb (r2_I0 fun _ _ _ => .bl _) (nomark _)
end
/-! tests, and, or, not, if -/
theorem et_val {k : Bool} (h : Ed F ρ s e (.bl k) s1) (hs : ∀ (whole : Sem Value), PySem.isTrue e F.X.env whole = (do let v ← whole; standAt e.pos; holding [v] (truthy v)) := by intro _; rfl) : Et F ρ s e k s1 :=
  ⟨h.1, fun O σ H f Q q => wt (pt_val pe_we hs) (h.2 O σ H f _ fun v H1 f1 x1 r1 => by cases r1; exact ⟨k, rfl, q H1 f1 x1⟩)⟩
theorem Ew.et {k : Bool} (h : Ew F ρ s e k s1) : Et F ρ s e k s1 := ⟨h.1, fun O σ H f Q q => wt (PW.pt pw_ww) (h.2 O σ H f Q q)⟩
end
end Gh
set_option Elab.async false
set_option linter.all false
set_option maxRecDepth 100000
namespace Gh
open PySem PySem.Spec PyProof.Rows L2
section
variable {F : Fx} {ρ : List G} {s s1 s2 s3 : Sx} {a b c e : Expr} {es rest : List Expr} {x y z d : D} {xs zs ds : List D} {pos p : Pos} {k l : Bool}
/-! and, or, not as values -/
theorem ed_one {op} (h : Ed F ρ s e d s1) : Ed F ρ s (.BoolOp op [e] pos) d s1 := ⟨h.1, fun O σ H f Q q => we (pe_one pe_we) (h.2 O σ H f Q q)⟩
theorem ed_andT (ha : Ed F ρ s a (.bl true) s1) (hb : Ed F ρ s1 (.BoolOp .And (b :: rest) pos) d s2) : Ed F ρ s (.BoolOp .And (a :: b :: rest) pos) d s2 :=
  ⟨ha.1.trans hb.1, fun O σ H f Q q => we (pe_and pe_we pe_we) (ha.2 O σ H f _ fun v H1 f1 x1 r1 => by cases r1; exact ⟨true, rfl, iteT (hb.2 O σ H1 f1 Q fun v H2 f2 x2 r2 => q v H2 f2 (x1.trans x2) r2)⟩)⟩
theorem ed_andF (ha : Ed F ρ s a (.bl false) s1) : Ed F ρ s (.BoolOp .And (a :: b :: rest) pos) (.bl false) s1 :=
  ⟨ha.1, fun O σ H f Q q => we (pe_and pe_we pe_we) (ha.2 O σ H f _ fun v H1 f1 x1 r1 => by cases r1; exact ⟨false, rfl, iteF (q _ H1 f1 x1 (.bl false))⟩)⟩
theorem ed_orT (ha : Ed F ρ s a (.bl true) s1) : Ed F ρ s (.BoolOp .Or (a :: b :: rest) pos) (.bl true) s1 :=
  ⟨ha.1, fun O σ H f Q q => we (pe_or pe_we pe_we) (ha.2 O σ H f _ fun v H1 f1 x1 r1 => by cases r1; exact ⟨true, rfl, iteT (q _ H1 f1 x1 (.bl true))⟩)⟩
theorem ed_orF (ha : Ed F ρ s a (.bl false) s1) (hb : Ed F ρ s1 (.BoolOp .Or (b :: rest) pos) d s2) : Ed F ρ s (.BoolOp .Or (a :: b :: rest) pos) d s2 :=
  ⟨ha.1.trans hb.1, fun O σ H f Q q => we (pe_or pe_we pe_we) (ha.2 O σ H f _ fun v H1 f1 x1 r1 => by cases r1; exact ⟨false, rfl, iteF (hb.2 O σ H1 f1 Q fun v H2 f2 x2 r2 => q v H2 f2 (x1.trans x2) r2)⟩)⟩
/-- what is asked is not known, and nothing is drawn -/
theorem ed_and (ha : Ed F ρ s a (.bl k) s) (hb : k = true → Ed F ρ s (.BoolOp .And (b :: rest) pos) (.bl l) s) : Ed F ρ s (.BoolOp .And (a :: b :: rest) pos) (.bl (k && l)) s := by
  cases k with
  | true => exact ed_andT ha (hb rfl)
  | false => exact ed_andF ha
theorem ed_not (ha : Ed F ρ s a (.bl k) s1) : Ed F ρ s (.UnaryOp .Not a pos) (.bl (!k)) s1 :=
  ⟨ha.1, fun O σ H f Q q => we (pe_not pe_we) (ha.2 O σ H f _ fun v H1 f1 x1 r1 => by cases r1; exact ⟨k, rfl, q _ H1 f1 x1 (.bl _)⟩)⟩
theorem ed_neg {i : Int} (ha : Ed F ρ s a (.int i) s1) : Ed F ρ s (.UnaryOp .USub a pos) (.int (-i)) s1 :=
  ⟨ha.1, fun O σ H f Q q => we (pe_un un_neg pe_we) (ha.2 O σ H f _ fun v H1 f1 x1 r1 => by cases r1; exact ⟨i, rfl, q _ H1 f1 x1 (.int _)⟩)⟩
/-! as tests -/
theorem et_not (ha : Et F ρ s a k s1) : Et F ρ s (.UnaryOp .Not a pos) (!k) s1 := ⟨ha.1, fun O σ H f Q q => wt (pt_not pt_wt) (ha.2 O σ H f _ fun H1 f1 x1 => q H1 f1 x1)⟩
theorem ew_and1 (ha : Et F ρ s a k s1) : Ew F ρ s (.BoolOp .And [a] pos) k s1 := ⟨ha.1, fun O σ H f Q q => ww (pw_and1 pt_wt) (ha.2 O σ H f Q q)⟩
theorem ew_or1 (ha : Et F ρ s a k s1) : Ew F ρ s (.BoolOp .Or [a] pos) k s1 := ⟨ha.1, fun O σ H f Q q => ww (pw_or1 pt_wt) (ha.2 O σ H f Q q)⟩
theorem ew_andT (ha : Et F ρ s a true s1) (hb : Ew F ρ s1 (.BoolOp .And (b :: rest) pos) k s2) : Ew F ρ s (.BoolOp .And (a :: b :: rest) pos) k s2 :=
  ⟨ha.1.trans hb.1, fun O σ H f Q q => ww (pw_and pt_wt pw_ww) (ha.2 O σ H f _ fun H1 f1 x1 => iteT (hb.2 O σ H1 f1 Q fun H2 f2 x2 => q H2 f2 (x1.trans x2)))⟩
theorem ew_andF (ha : Et F ρ s a false s1) : Ew F ρ s (.BoolOp .And (a :: b :: rest) pos) false s1 :=
  ⟨ha.1, fun O σ H f Q q => ww (pw_and pt_wt pw_ww) (ha.2 O σ H f _ fun H1 f1 x1 => iteF (q H1 f1 x1))⟩
theorem ew_orT (ha : Et F ρ s a true s1) : Ew F ρ s (.BoolOp .Or (a :: b :: rest) pos) true s1 :=
  ⟨ha.1, fun O σ H f Q q => ww (pw_or pt_wt pw_ww) (ha.2 O σ H f _ fun H1 f1 x1 => iteT (q H1 f1 x1))⟩
theorem ew_orF (ha : Et F ρ s a false s1) (hb : Ew F ρ s1 (.BoolOp .Or (b :: rest) pos) k s2) : Ew F ρ s (.BoolOp .Or (a :: b :: rest) pos) k s2 :=
  ⟨ha.1.trans hb.1, fun O σ H f Q q => ww (pw_or pt_wt pw_ww) (ha.2 O σ H f _ fun H1 f1 x1 => iteF (hb.2 O σ H1 f1 Q fun H2 f2 x2 => q H2 f2 (x1.trans x2)))⟩
theorem ew_and (ha : Et F ρ s a k s) (hb : k = true → Ew F ρ s (.BoolOp .And (b :: rest) pos) l s) : Ew F ρ s (.BoolOp .And (a :: b :: rest) pos) (k && l) s := by
  cases k with
  | true => exact ew_andT ha (hb rfl)
  | false => exact ew_andF ha
/-- a if c else b -/
theorem ed_ifT (hc : Et F ρ s c true s1) (ha : Ed F ρ s1 a d s2) : Ed F ρ s (.IfExp c a b pos) d s2 :=
  ⟨hc.1.trans ha.1, fun O σ H f Q q => we (pe_ifExp pt_wt pe_we pe_we) (hc.2 O σ H f _ fun H1 f1 x1 => iteT (ha.2 O σ H1 f1 Q fun v H2 f2 x2 r2 => q v H2 f2 (x1.trans x2) r2))⟩
theorem ed_ifF (hc : Et F ρ s c false s1) (hb : Ed F ρ s1 b d s2) : Ed F ρ s (.IfExp c a b pos) d s2 :=
  ⟨hc.1.trans hb.1, fun O σ H f Q q => we (pe_ifExp pt_wt pe_we pe_we) (hc.2 O σ H f _ fun H1 f1 x1 => iteF (hb.2 O σ H1 f1 Q fun v H2 f2 x2 r2 => q v H2 f2 (x1.trans x2) r2))⟩
theorem ed_if (hc : Et F ρ s c k s1) (ha : k = true → Ed F ρ s1 a x s1) (hb : k = false → Ed F ρ s1 b y s1) : Ed F ρ s (.IfExp c a b pos) (if k then x else y) s1 := by
  cases k with
  | true => exact ed_ifT hc (ha rfl)
  | false => exact ed_ifF hc (hb rfl)
/-! items -/
theorem atI_rps {K : PySem.W.Frag} {q : Pa} {S : List Addr} {H : Hp} {vs : List V} {i : Int} (r : Rps K q S H vs xs) (h : atI xs i = some d) : ∃ v, atI vs i = some v ∧ Rp K q S H v d := by
  unfold atI at h ⊢
  rw [r.length]
  cases e : ixN xs.length i with
  | none => rw [e] at h; cases h
  | some j =>
    rw [e] at h
    exact r.get h
theorem ed_ixL {i : Int} (ha : Ed F ρ s a (.lst xs) s1) (hb : Ed F ρ s1 b (.int i) s2) (h : atI xs i = some d) (hs : PlainIx b := by exact fun _ _ => rfl) : Ed F ρ s (.Subscript a b pos) d s2 :=
  ⟨ha.1.trans hb.1, fun O σ H f Q q => we (pe_ix ix_list pe_we pe_we hs) (ha.2 O σ H f _ fun v H1 f1 x1 r1 => hb.2 O σ H1 f1 _ fun w H2 f2 x2 r2 => by
    cases r2
    cases r1.ext x2.xt with
    | lst n h1 h2 =>
      obtain ⟨v, e, r⟩ := atI_rps h2 h
      exact ⟨_, _, i, v, rfl, rfl, .inl (.inl h1), e, q v H2 f2 (x1.trans x2) r⟩)⟩
theorem ed_ixT {i : Int} (ha : Ed F ρ s a (.tup xs) s1) (hb : Ed F ρ s1 b (.int i) s2) (h : atI xs i = some d) (hs : PlainIx b := by exact fun _ _ => rfl) : Ed F ρ s (.Subscript a b pos) d s2 :=
  ⟨ha.1.trans hb.1, fun O σ H f Q q => we (pe_ix ix_tup pe_we pe_we hs) (ha.2 O σ H f _ fun v H1 f1 x1 r1 => hb.2 O σ H1 f1 _ fun w H2 f2 x2 r2 => by
    cases r2
    cases r1.ext x2.xt with
    | tup h1 h2 =>
      obtain ⟨v, e, r⟩ := atI_rps h2 h
      exact ⟨_, _, i, v, rfl, rfl, h1.sq, e, q v H2 f2 (x1.trans x2) r⟩)⟩
theorem ed_ixS {i n : Int} {ns : List Int} (ha : Ed F ρ s a (.scr ns) s1) (hb : Ed F ρ s1 b (.int i) s2) (h : atI ns i = some n) (hs : PlainIx b := by exact fun _ _ => rfl) : Ed F ρ s (.Subscript a b pos) (.int n) s2 :=
  ⟨ha.1.trans hb.1, fun O σ H f Q q => we (pe_ix ix_list pe_we pe_we hs) (ha.2 O σ H f _ fun v H1 f1 x1 r1 => hb.2 O σ H1 f1 _ fun w H2 f2 x2 r2 => by
    cases r2
    cases r1.ext x2.xt with
    | scr h1 =>
      have e : atI (ns.map V.int) i = some (.int n) := by
        unfold atI at h ⊢
        rw [List.length_map]
        cases e : ixN ns.length i with
        | none => rw [e] at h; cases h
        | some j => rw [e] at h; simp only [Option.bind_some] at h ⊢; rw [List.getElem?_map, h]; rfl
      exact ⟨_, _, i, _, rfl, rfl, h1.sq, e, q _ H2 f2 (x1.trans x2) (.int n)⟩)⟩
/-! calls of built-ins -/
theorem ed_callB {x : Str} {id : String} {r : List V → Hp → VK → Prop} (hc : CallR F.X (.builtin id) r) (hm : F.X.mg x = none) (hv : bootBuiltins x = some (.builtin id)) (ha : Ea F ρ s (e :: es) xs s1) (hr : CRd F ρ s1 r xs z) (hg : Gl F.X x := by rfl) (hn : x ≠ "__name__" := by decide) (hdb : (x == ("__debug__" : Str)) = false := by decide)
    (he : starEach (e :: es) F.X.env = (false, eval e F.X.env) :: starEach es F.X.env := by rfl) (hpl : (backTo pos (starEach es F.X.env)).any (·.1) = false := by rfl) : Ed F ρ s (.Call (.Name x p) (e :: es) [] pos) z s1 :=
  ⟨ha.1, fun O σ H f Q q => we (pe_callB hc hg hm hv pa_wa hn hdb he hpl) (ha.2 O σ H f _ fun vs H1 f1 x1 r1 => hr O σ H1 f1 vs r1 Q fun u H2 f2 x2 r2 => q u H2 f2 (x1.trans x2) r2)⟩
theorem ed_callTy {x : Str} {T : String} {r : List V → Hp → VK → Prop} (hc : CallR F.X (.type T) r) (hm : F.X.mg x = none) (hv : bootBuiltins x = some (.type T)) (ha : Ea F ρ s (e :: es) xs s1) (hr : CRd F ρ s1 r xs z) (hg : Gl F.X x := by rfl) (hn : x ≠ "__name__" := by decide) (hdb : (x == ("__debug__" : Str)) = false := by decide)
    (he : starEach (e :: es) F.X.env = (false, eval e F.X.env) :: starEach es F.X.env := by rfl) (hpl : (backTo pos (starEach es F.X.env)).any (·.1) = false := by rfl) : Ed F ρ s (.Call (.Name x p) (e :: es) [] pos) z s1 :=
  ⟨ha.1, fun O σ H f Q q => we (pe_callTy hc hg hm hv pa_wa hn hdb he hpl) (ha.2 O σ H f _ fun vs H1 f1 x1 r1 => hr O σ H1 f1 vs r1 Q fun u H2 f2 x2 r2 => q u H2 f2 (x1.trans x2) r2)⟩
theorem el_callTy {x : Str} {T : String} {r : List V → Hp → VK → Prop} (hc : CallR F.X (.type T) r) (hm : F.X.mg x = none) (hv : bootBuiltins x = some (.type T)) (ha : Ea F ρ s (e :: es) xs s1) (hr : CRl F ρ s1 r xs zs) (hg : Gl F.X x := by rfl) (hn : x ≠ "__name__" := by decide) (hdb : (x == ("__debug__" : Str)) = false := by decide)
    (he : starEach (e :: es) F.X.env = (false, eval e F.X.env) :: starEach es F.X.env := by rfl) (hpl : (backTo pos (starEach es F.X.env)).any (·.1) = false := by rfl) : El F ρ s (.Call (.Name x p) (e :: es) [] pos) zs s1 :=
  ⟨ha.1, fun O σ H f Q q => we (pe_callTy hc hg hm hv pa_wa hn hdb he hpl) (ha.2 O σ H f _ fun vs H1 f1 x1 r1 => hr O σ H1 f1 vs r1 Q fun u ws H2 f2 x2 n2 h2 r2 => q u ws H2 f2 (x1.trans x2) (x1.2 u n2) h2 r2)⟩
/-- the built-in names that the module leaves as they are -/
structure Bf (mg : Str → Option Value) : Prop where
  len : mg "len" = none
  isi : mg "isinstance" = none
  abs : mg "abs" = none
  min : mg "min" = none
  max : mg "max" = none
  sum : mg "sum" = none
  all : mg "all" = none
  any : mg "any" = none
  range : mg "range" = none
  zip : mg "zip" = none
  enum : mg "enumerate" = none
  sorted : mg "sorted" = none
  int : mg "int" = none
  bool : mg "bool" = none
  str : mg "str" = none
  list : mg "list" = none
  tuple : mg "tuple" = none
  dict : mg "dict" = none
  set : mg "set" = none
theorem boot_isi : bootBuiltins "isinstance" = some (.builtin "isinstance") := by decide +kernel
theorem boot_abs' : bootBuiltins "abs" = some (.builtin "abs") := by decide +kernel
theorem boot_max' : bootBuiltins "max" = some (.builtin "max") := by decide +kernel
theorem boot_sum' : bootBuiltins "sum" = some (.builtin "sum") := by decide +kernel
theorem boot_all' : bootBuiltins "all" = some (.builtin "all") := by decide +kernel
theorem boot_int' : bootBuiltins "int" = some (.type "int") := by decide +kernel
theorem boot_bool' : bootBuiltins "bool" = some (.type "bool") := by decide +kernel
theorem boot_list' : bootBuiltins "list" = some (.type "list") := by decide +kernel
theorem boot_tuple' : bootBuiltins "tuple" = some (.type "tuple") := by decide +kernel
theorem boot_dict' : bootBuiltins "dict" = some (.type "dict") := by decide +kernel
/-! len -/
def D.size : D → Option Nat
  | .lst xs => some xs.length
  | .tup xs => some xs.length
  | .scr ns => some ns.length
  | .lent xs => some xs.length
  | _ => none
theorem ed_len {n : Nat} (B : Bf F.X.mg) (ha : Ed F ρ s a x s1) (h : x.size = some n) (hg : Gl F.X "len" := by rfl) (he : starEach [a] F.X.env = (false, eval a F.X.env) :: starEach [] F.X.env := by rfl) : Ed F ρ s (.Call (.Name "len" p) [a] [] pos) (.int n) s1 :=
  ed_callB call_len_seq B.len boot_len (ea_cons ha ea_nil he) (fun O σ H f vs r Q q => by
    cases r with
    | cons r1 r2 =>
      cases r2
      cases x with
      | lst xs =>
        cases r1 with
        | lst m h1 h2 =>
          obtain rfl : xs.length = n := Option.some.inj h
          refine ⟨_, _, rfl, .inl (.inl (.inl h1)), ?_⟩
          rw [h2.length]
          exact q _ _ f .refl (.int _)
      | tup xs =>
        cases r1 with
        | tup h1 h2 =>
          obtain rfl : xs.length = n := Option.some.inj h
          refine ⟨_, _, rfl, .inr h1.sq, ?_⟩
          rw [h2.length]
          exact q _ _ f .refl (.int _)
      | lent xs =>
        cases r1 with
        | lent m h1 h2 =>
          obtain rfl : xs.length = n := Option.some.inj h
          refine ⟨_, _, rfl, .inl (.inl (.inr ⟨_, h1⟩)), ?_⟩
          rw [h2.length]
          exact q _ _ f .refl (.int _)
      | scr ns =>
        cases r1 with
        | scr h1 =>
          obtain rfl : ns.length = n := Option.some.inj h
          refine ⟨_, _, rfl, .inl h1.sq, ?_⟩
          rw [List.length_map]
          exact q _ _ f .refl (.int _)
      | _ => cases h) hg (by decide) (by decide) he rfl
theorem ed_abs {i : Int} (B : Bf F.X.mg) (ha : Ed F ρ s a (.int i) s1) (hg : Gl F.X "abs" := by rfl) (he : starEach [a] F.X.env = (false, eval a F.X.env) :: starEach [] F.X.env := by rfl) : Ed F ρ s (.Call (.Name "abs" p) [a] [] pos) (.int i.natAbs) s1 :=
  ed_callB call_abs B.abs boot_abs' (ea_cons ha ea_nil he) (fun O σ H f vs r Q q => by
    cases r with
    | cons r1 r2 =>
      cases r2; cases r1
      refine ⟨i, rfl, ?_⟩
      have e : (if i < 0 then -i else i) = (i.natAbs : Int) := by split <;> omega
      rw [e]
      exact q _ _ f .refl (.int _)) hg (by decide) (by decide) he rfl
theorem ed_intI {i : Int} (B : Bf F.X.mg) (ha : Ed F ρ s a (.int i) s1) (hg : Gl F.X "int" := by rfl) (he : starEach [a] F.X.env = (false, eval a F.X.env) :: starEach [] F.X.env := by rfl) : Ed F ρ s (.Call (.Name "int" p) [a] [] pos) (.int i) s1 :=
  ed_callTy call_int1 B.int boot_int' (ea_cons ha ea_nil he) (fun O σ H f vs r Q q => by
    cases r with
    | cons r1 r2 => cases r2; cases r1; exact .inl ⟨i, rfl, q _ _ f .refl (.int _)⟩) hg (by decide) (by decide) he rfl
theorem ed_max2 {i j : Int} (B : Bf F.X.mg) (hc : F.X.calm = true) (ha : Ed F ρ s a (.int i) s1) (hb : Ed F ρ s1 b (.int j) s2) (hg : Gl F.X "max" := by rfl) (he : starEach [a, b] F.X.env = (false, eval a F.X.env) :: starEach [b] F.X.env := by rfl) (hf : starEach [b] F.X.env = (false, eval b F.X.env) :: starEach [] F.X.env := by rfl) (hpl : (backTo pos (starEach [b] F.X.env)).any (·.1) = false := by rfl) :
    Ed F ρ s (.Call (.Name "max" p) [a, b] [] pos) (.int (max i j)) s2 :=
  ed_callB (call_max2 hc) B.max boot_max' (ea_cons ha (ea_cons hb ea_nil hf) he) (fun O σ H f vs r Q q => by
    cases r with
    | cons r1 r2 =>
      cases r2 with
      | cons r2 r3 =>
        cases r3; cases r1; cases r2
        refine ⟨i, j, rfl, ?_⟩
        have e : (if j > i then j else i) = max i j := by split <;> omega
        rw [e]
        exact q _ _ f .refl (.int _)) hg (by decide) (by decide) he hpl
theorem ed_sum {ns : List Int} (B : Bf F.X.mg) (hc : F.X.calm = true) (ha : Ed F ρ s a (.lst (ns.map D.int)) s1) (hg : Gl F.X "sum" := by rfl) (he : starEach [a] F.X.env = (false, eval a F.X.env) :: starEach [] F.X.env := by rfl) : Ed F ρ s (.Call (.Name "sum" p) [a] [] pos) (.int ns.sum) s1 :=
  ed_callB (cr_sum hc) B.sum boot_sum' (ea_cons ha ea_nil he) (fun O σ H f vs r Q q => by
    cases r with
    | cons r1 r2 =>
      cases r2
      cases r1 with
      | lst m h1 h2 =>
        have e := h2.ints
        subst e
        exact ⟨_, ns, rfl, .inl (.inl h1), q _ _ f .refl (.int _)⟩) hg (by decide) (by decide) he rfl
theorem ed_all {bs : List Bool} (B : Bf F.X.mg) (hc : F.X.calm = true) (ha : Ed F ρ s a (.lst (bs.map D.bl)) s1) (hg : Gl F.X "all" := by rfl) (he : starEach [a] F.X.env = (false, eval a F.X.env) :: starEach [] F.X.env := by rfl) : Ed F ρ s (.Call (.Name "all" p) [a] [] pos) (.bl (bs.all id)) s1 :=
  ed_callB (cr_all hc) B.all boot_all' (ea_cons ha ea_nil he) (fun O σ H f vs r Q q => by
    cases r with
    | cons r1 r2 =>
      cases r2
      cases r1 with
      | lst m h1 h2 =>
        have e := h2.bls
        subst e
        exact ⟨_, bs, rfl, .inl (.inl h1), q _ _ f .refl (.bl _)⟩) hg (by decide) (by decide) he rfl
/-! list(x), tuple(x) -/
theorem el_listOf (B : Bf F.X.mg) (ha : Ed F ρ s a x s1) (h : x = .lst xs ∨ x = .tup xs) (hg : Gl F.X "list" := by rfl) (he : starEach [a] F.X.env = (false, eval a F.X.env) :: starEach [] F.X.env := by rfl) : El F ρ s (.Call (.Name "list" p) [a] [] pos) xs s1 :=
  el_callTy call_list_of B.list boot_list' (ea_cons ha ea_nil he) (fun O σ H f vs r Q q => by
    cases r with
    | cons r1 r2 =>
      cases r2
      rcases h with rfl | rfl
      · cases r1 with
        | lst m h1 h2 => exact ⟨_, _, rfl, .inl (.inl (.inl h1)), fun l n => q l _ _ (f.newO n) (.new n) n upd_same ((h2.fresh n).ext (.new n))⟩
      · cases r1 with
        | tup h1 h2 => exact ⟨_, _, rfl, .inr h1.sq, fun l n => q l _ _ (f.newO n) (.new n) n upd_same ((h2.fresh n).ext (.new n))⟩) hg (by decide) (by decide) he rfl
theorem ed_tupleOf (B : Bf F.X.mg) (ha : Ed F ρ s a x s1) (h : x = .lst xs ∨ x = .tup xs) (hg : Gl F.X "tuple" := by rfl) (he : starEach [a] F.X.env = (false, eval a F.X.env) :: starEach [] F.X.env := by rfl) : Ed F ρ s (.Call (.Name "tuple" p) [a] [] pos) (.tup xs) s1 :=
  ed_callTy call_tuple_of B.tuple boot_tuple' (ea_cons ha ea_nil he) (fun O σ H f vs r Q q => by
    cases r with
    | cons r1 r2 =>
      cases r2
      rcases h with rfl | rfl
      · cases r1 with
        | lst m h1 h2 => exact ⟨_, _, rfl, .inl ⟨.inl (.inl h1), fun l n => q _ _ (f.new n) (.new n) (.tup (.inl ⟨f.fresh n, .inl upd_same⟩) (h2.ext (.new n)))⟩⟩
      · cases r1 with
        | tup h1 h2 => exact ⟨_, _, rfl, .inr ⟨h1.sq, q _ _ f .refl (.tup h1 h2)⟩⟩) hg (by decide) (by decide) he rfl
end
end Gh
set_option Elab.async false
set_option linter.all false
set_option maxRecDepth 100000
namespace Gh
open PySem PySem.Spec PyProof.Rows L2
/-! isinstance -/
inductive Kn where
  | none | bool | int | str | list | tuple | dict
  deriving DecidableEq
def Kn.name : Kn → String
  | .none => "NoneType" | .bool => "bool" | .int => "int" | .str => "str" | .list => "list" | .tuple => "tuple" | .dict => "dict"
def D.kind : D → Option Kn
  | .non => some .none | .bl _ => some .bool | .int _ => some .int | .str _ => some .str | .lst _ => some .list | .scr _ => some .list | .tup _ => some .tuple | .emp => some .dict
  | .mut => Option.none | .cel _ => Option.none | .ref _ => Option.none | .ty _ => Option.none | .ins .. => Option.none | .met .. => Option.none | .dK .. => some .dict | .dT .. => Option.none | .lent _ => some .list | .clo .. => Option.none | .dq _ => Option.none
/-- is what is of the first kind of the second class -/
def isK : Kn → Kn → Bool
  | .none, .none => true | .bool, .bool => true | .bool, .int => true | .int, .int => true | .str, .str => true | .list, .list => true | .tuple, .tuple => true | .dict, .dict => true
  | _, _ => false
theorem kit_isK {K : PySem.W.Frag} (k c : Kn) (hc : c ≠ .none) : PySem.W.kitOne K (.type k.name) (.type c.name) = some (isK k c) := by
  refine kit_ty ?_
  cases k <;> cases c <;> first | exact absurd rfl hc | decide +kernel
theorem kitAny_isK {K : PySem.W.Frag} (k : Kn) : ∀ (cs : List Kn), (∀ c ∈ cs, c ≠ .none) → PySem.W.kitAny K (.type k.name) (cs.map fun c => Value.type c.name) = some (cs.any (isK k))
  | [], _ => rfl
  | c :: cs, h => by
    have h1 := kit_isK (K := K) k c (h c List.mem_cons_self)
    have h2 := kitAny_isK (K := K) k cs fun d m => h d (List.mem_cons_of_mem _ m)
    refine kitAny_cons h1 (fun e => ?_) fun e => ?_
    · rw [h2, List.any_cons, e, Bool.false_or]
    · rw [List.any_cons, e, Bool.true_or]
theorem sqK_list {K : PySem.W.Frag} {a : Addr} {xs : List V} (h : SqL K (fun _ => none) a xs) : ∃ o, K.lookup a = some o ∧ o.cls = .type "list" := by
  rcases h with h | ⟨o, _, _, h1, h2, _⟩
  · exact (rd_none h).elim
  · exact ⟨o, h1, h2⟩
theorem sqK_tup {K : PySem.W.Frag} {a : Addr} {xs : List V} (h : SqT K (fun _ => none) a xs) : ∃ o, K.lookup a = some o ∧ o.cls = .type "tuple" := by
  rcases h with h | ⟨o, _, _, h1, h2, _⟩
  · exact (rd_none h).elim
  · exact ⟨o, h1, h2⟩
theorem tyx_of {K : PySem.W.Frag} {p : Pa} {S : List Addr} {H : Hp} {v : V} {d : D} {k : Kn} (r : Rp K p S H v d) (h : d.kind = some k) : TyX K H v (.type k.name) := by
  cases r with
  | non => cases h; exact .base .non
  | bl b => cases h; exact .base (.bl b)
  | int i => cases h; exact .base (.int i)
  | str x => cases h; exact .base (.str x)
  | lst m h1 h2 => cases h; exact .base (.lst h1)
  | scr h1 =>
    cases h
    rcases h1 with ⟨_, h1 | ⟨o, h1⟩⟩ | h1
    · exact .base (.lst h1)
    · exact .base (.frz h1)
    · obtain ⟨o, e, c⟩ := sqK_list h1
      exact .kList e c
  | tup h1 h2 =>
    cases h
    rcases h1 with ⟨_, h1 | ⟨o, h1⟩⟩ | h1
    · exact .base (.tup h1)
    · exact .fTuple h1
    · obtain ⟨o, e, c⟩ := sqK_tup h1
      exact .kTuple e c
  | emp m h1 => cases h; exact .base (.dK h1)
  | dK m h1 => cases h; exact .base (.dK h1)
  | lent m h1 => cases h; exact .base (.frz h1)
  | _ => cases h
section
variable {F : Fx} {ρ : List G} {s s1 s2 s3 : Sx} {a b c e : Expr} {es rest : List Expr} {x y z d : D} {xs zs ds : List D} {pos p : Pos} {k l : Bool}
/-- a class's name -/
def Cn (F : Fx) (e : Expr) (c : Kn) : Prop := ∀ ρ s, Ed F ρ s e (.ty c.name) s
theorem cn_list (B : Bf F.X.mg) (hg : Gl F.X "list" := by rfl) : Cn F (.Name "list" p) .list := fun ρ s => ed_ty hg B.list boot_list'
theorem cn_tuple (B : Bf F.X.mg) (hg : Gl F.X "tuple" := by rfl) : Cn F (.Name "tuple" p) .tuple := fun ρ s => ed_ty hg B.tuple boot_tuple'
theorem cn_int (B : Bf F.X.mg) (hg : Gl F.X "int" := by rfl) : Cn F (.Name "int" p) .int := fun ρ s => ed_ty hg B.int boot_int'
theorem cn_bool (B : Bf F.X.mg) (hg : Gl F.X "bool" := by rfl) : Cn F (.Name "bool" p) .bool := fun ρ s => ed_ty hg B.bool boot_bool'
theorem cn_dict (B : Bf F.X.mg) (hg : Gl F.X "dict" := by rfl) : Cn F (.Name "dict" p) .dict := fun ρ s => ed_ty hg B.dict boot_dict'
/-- isinstance(a, T) -/
theorem ed_isi {t : Expr} {c k : Kn} (B : Bf F.X.mg) (ha : Ed F ρ s a x s1) (hk : x.kind = some k) (ht : Cn F t c) (hc : c ≠ .none := by decide) (hg : Gl F.X "isinstance" := by rfl) (he : starEach [a, t] F.X.env = (false, eval a F.X.env) :: starEach [t] F.X.env := by rfl)
    (hf : starEach [t] F.X.env = (false, eval t F.X.env) :: starEach [] F.X.env := by rfl) (hpl : (backTo pos (starEach [t] F.X.env)).any (·.1) = false := by rfl) : Ed F ρ s (.Call (.Name "isinstance" p) [a, t] [] pos) (.bl (isK k c)) s1 :=
  ed_callB call_isi B.isi boot_isi (ea_cons ha (ea_cons (ht ρ s1) ea_nil hf) he) (fun O σ H f vs r Q q => by
    cases r with
    | cons r1 r2 =>
      cases r2 with
      | cons r2 r3 =>
        cases r3; cases r2
        exact ⟨_, _, _, _, isK k c, rfl, .ty _, tyx_of r1 hk, kit_isK k c hc, q _ _ f .refl (.bl _)⟩) hg (by decide) (by decide) he hpl
/-- (T1, T2, ..): the names of classes -/
inductive Cns (F : Fx) : List Expr → List Kn → Prop
  | nil : Cns F [] []
  | cons {t : Expr} {ts : List Expr} {c : Kn} {cs : List Kn} : Cn F t c → starEach (t :: ts) F.X.env = (false, eval t F.X.env) :: starEach ts F.X.env → Cns F ts cs → Cns F (t :: ts) (c :: cs)
theorem Cns.ea {ts : List Expr} {cs : List Kn} (h : Cns F ts cs) : ∀ ρ s, Ea F ρ s ts (cs.map fun c => D.ty c.name) s := by
  induction h with
  | nil => intro ρ s; exact ea_nil
  | cons h1 h2 h3 ih => intro ρ s; exact ea_cons (h1 ρ s) (ih ρ s) h2
theorem rps_tys {K : PySem.W.Frag} {q : Pa} {S : List Addr} {H : Hp} : ∀ {cs : List Kn} {vs : List V}, Rps K q S H vs (cs.map fun c => D.ty c.name) → Paired ClsV vs (cs.map fun c => Value.type c.name)
  | [], _, h => by cases h; exact .nil
  | c :: cs, _, h => by
    cases h with
    | cons h1 h2 => cases h1; exact .cons (.ty _) (rps_tys h2)
theorem rps_len {K : PySem.W.Frag} {q : Pa} {S : List Addr} {H : Hp} {cs : List Kn} {vs : List V} (h : Rps K q S H vs (cs.map fun c => D.ty c.name)) : vs.length = cs.length := by rw [h.length, List.length_map]
theorem ed_isiT {ts : List Expr} {cs : List Kn} {k : Kn} {kk} {tpos : Pos} (B : Bf F.X.mg) (ha : Ed F ρ s a x s1) (hk : x.kind = some k) (ht : Cns F ts cs) (hc : ∀ c ∈ cs, c ≠ .none := by decide) (hl : cs.length ≤ sizeLine := by decide) (hg : Gl F.X "isinstance" := by rfl)
    (he : starEach [a, .Tuple ts kk tpos] F.X.env = (false, eval a F.X.env) :: starEach [.Tuple ts kk tpos] F.X.env := by rfl)
    (hf : starEach [.Tuple ts kk tpos] F.X.env = (false, eval (.Tuple ts kk tpos) F.X.env) :: starEach [] F.X.env := by rfl) (hpl : (backTo pos (starEach [.Tuple ts kk tpos] F.X.env)).any (·.1) = false := by rfl) :
    Ed F ρ s (.Call (.Name "isinstance" p) [a, .Tuple ts kk tpos] [] pos) (.bl (cs.any (isK k))) s1 :=
  ⟨ha.1, fun O σ H f Q q => we (pe_callB call_isiT hg B.isi boot_isi (pa_cons pe_we (pa_cons (pe_tup pa_wa) pa_nil hf) he) (by decide) (by decide) he hpl) (ha.2 O σ H f _ fun v H1 f1 x1 r1 =>
    (ht.ea ρ s1).2 O σ H1 f1 _ fun vs H2 f2 x2 r2 => ⟨by rw [rps_len r2]; exact hl, fun t n => ⟨v, t, vs, _, _, cs.any (isK k), rfl, upd_same, rps_tys r2, tyx_of ((r1.ext x2.xt).ext (.new n)) hk, kitAny_isK k cs hc, q _ _ (f2.new n) ((x1.trans x2).trans (.new n)) (.bl _)⟩⟩)⟩
theorem cns_nil : Cns F [] [] := .nil
theorem cns_cons {t : Expr} {ts : List Expr} {c : Kn} {cs : List Kn} (h1 : Cn F t c) (h2 : Cns F ts cs) (h : starEach (t :: ts) F.X.env = (false, eval t F.X.env) :: starEach ts F.X.env := by rfl) : Cns F (t :: ts) (c :: cs) := .cons h1 h h2
end
/-! ### calls of defs -/
/-- a def's promise: for these data, this state of the stream: that, and that state behind -/
def spOf (K : PySem.W.Frag) (T : Ts) (ds : List D) (s : Sx) (d : D) (s' : Sx) : Sp := fun vs H Q _ => ∃ (p : Pa) (S : List Addr), Rps K p S H vs ds ∧ (∀ a ∈ S, ∃ o, H a = some o) ∧ StA K T p S H s ∧
  ∀ v H', Rp K p S H' v d → XP p s H H' → StA K T p S H' s' → Q v H'
structure En where
  P : Program
  w : World
  K : PySem.W.Frag
  mg : Str → Option Value
  base : Heap
  T : Ts := []
/-- the def f, called with these data, hands back that -/
structure Rn (E : En) (k : Nat) (f : Str) (ds : List D) (s : Sx) (d : D) (s' : Sx) : Prop where
  kd : s.isSome = s'.isSome
  ok : ∃ fa fd ps, E.mg f = some (.ref fa) ∧ PySem.W.keepIn E.K (.ref fa) = true ∧ Binds E.K fd ps [] ∧ FnOk E.P E.w E.K E.mg E.base CX0 k fa fd ps (spOf E.K E.T ds s d s')
abbrev Fx.en (F : Fx) : En := ⟨F.X.prog, F.X.w, F.X.K, F.X.mg, F.X.base, F.T⟩
theorem Rn.is {E : En} {k : Nat} {f : Str} {ds : List D} {s s' : Sx} {d d' : D} (r : Rn E k f ds s d s') (h : d = d') : Rn E k f ds s d' s' := h ▸ r
theorem Rn.mono {E : En} {j k : Nat} {f : Str} {ds : List D} {s s' : Sx} {d : D} (r : Rn E j f ds s d s') (h : j ≤ k) : Rn E k f ds s d s' := by
  obtain ⟨kd, fa, fd, ps, h1, h2, h3, h4⟩ := r
  exact ⟨kd, fa, fd, ps, h1, h2, h3, h4.mono h⟩
section
variable {F : Fx} {ρ : List G} {s s1 s2 s3 : Sx} {e : Expr} {es : List Expr} {d : D} {ds : List D} {pos p : Pos}
theorem ed_call {f : Str} {k : Nat} (R : Rn F.en k f ds s1 d s2) (hr : Room k F.X.A) (ha : Ea F ρ s (e :: es) ds s1) (hg : Gl F.X f := by rfl) (hdb : (f == ("__debug__" : Str)) = false := by decide)
    (he : starEach (e :: es) F.X.env = (false, eval e F.X.env) :: starEach es F.X.env := by rfl) (hpl : (backTo pos (starEach es F.X.env)).any (·.1) = false := by rfl) : Ed F ρ s (.Call (.Name f p) (e :: es) [] pos) d s2 := by
  obtain ⟨kd, fa, fd, ps, h1, h2, h3, h4⟩ := R
  refine ⟨ha.1.trans kd, fun O σ H fm Q q => we (pe_call h4 hr hg h1 h2 h3 .nil pass0 pa_wa hdb he hpl) (ha.2 O σ H fm _ fun vs H1 f1 x1 r1 => ?_)⟩
  rw [List.append_nil]
  exact ⟨F.p, O ++ F.S0, r1, f1.trk, f1.st, fun v H2 r2 x2 t2 => q v H2 (f1.grow x2 kd t2) (x1.trans (x2.xe f1.pm f1.kd)) r2⟩
end
/-! ### statements -/
/-- an exception: its class's name, its field ("": it has none), what that holds -/
structure Xv where
  c : Str
  f : Str
  d : D
structure GE where
  nx : List G → Sx → Prop
  rt : D → Sx → Prop
  bk : List G → Sx → Prop := fun _ _ => False
  ct : List G → Sx → Prop := fun _ _ => False
  xc : Xv → List G → Sx → Prop := fun _ _ _ => False
/-- what the body's context takes in the air -/
def Fx.wx (F : Fx) : WX := fun cls d σ H => ∀ u s', L2.XE F.X (fun c' d' σ' H' => c' = cls ∧ d' = d ∧ σ' = σ ∧ H' = H) u s' → F.X.xe u s'
/-- the exception as it lies in the heap -/
def Xat (K : PySem.W.Frag) (mg : Str → Option Value) (p : Pa) (S : List Addr) (H : Hp) (cls : Value) (d : Option Addr) (x : Xv) : Prop :=
  ∃ C, cls = .ref C ∧ mg x.c = some (.ref C) ∧ ((x.f = "" ∧ d = none) ∨ ∃ dd fs v, d = some dd ∧ H dd = some (.xd fs) ∧ fs.lookup x.f = some v ∧ Rp K p S H v x.d)
theorem Xat.weak {K : PySem.W.Frag} {mg : Str → Option Value} {p : Pa} {S S' : List Addr} {H : Hp} {cls : Value} {dd : Option Addr} {x : Xv} (h : Xat K mg p S H cls dd x) (s : ∀ a ∈ S', a ∈ S) : Xat K mg p S' H cls dd x := by
  obtain ⟨C, h1, h2, h3 | ⟨a, fs, v, h3, h4, h5, h6⟩⟩ := h
  · exact ⟨C, h1, h2, .inl h3⟩
  · exact ⟨C, h1, h2, .inr ⟨a, fs, v, h3, h4, h5, h6.weak s⟩⟩
/-- from a block's start to its end: data are kept, owned ones that came are new -/
structure Step (F : Fx) (O : List Addr) (H : Hp) (O' : List Addr) (H' : Hp) : Prop where
  xt : XT (O ++ F.S0) H H'
  gr : ∀ a ∈ O', a ∈ O ∨ H a = none
theorem Step.refl {F : Fx} {O : List Addr} {H : Hp} : Step F O H O H := ⟨.refl, fun _ m => .inl m⟩
theorem Step.of {F : Fx} {O : List Addr} {H H' : Hp} (x : XT (O ++ F.S0) H H') : Step F O H O H' := ⟨x, fun _ m => .inl m⟩
theorem Step.trans {F : Fx} {O O1 O2 : List Addr} {H H1 H2 : Hp} (a : Step F O H O1 H1) (b : Step F O1 H1 O2 H2) : Step F O H O2 H2 := by
  refine ⟨⟨fun x o n h t => b.xt.1 x o (fun m => ?_) (a.xt.1 x o n h t) t, fun x h => a.xt.2 x (b.xt.2 x h)⟩, fun x m => ?_⟩
  · rcases List.mem_append.mp m with m | m
    · rcases a.gr x m with m | z
      · exact n (List.mem_append_left _ m)
      · rw [z] at h; cases h
    · exact n (List.mem_append_right _ m)
  · rcases b.gr x m with m | z
    · exact a.gr x m
    · exact .inr (a.xt.2 x z)
structure GE.ok (k : GE) (F : Fx) (O : List Addr) (H : Hp) (E : Ends) : Prop where
  nx : ∀ O' σ' H' ρ' s', Fm F O' σ' H' ρ' s' → Step F O H O' H' → k.nx ρ' s' → E.nx σ' H'
  rt : ∀ v H d s, Rp F.X.K F.p F.S0 H v d → XP F.p s F.H0 H → F.Sa [] H s → k.rt d s → E.rt v H
  bk : ∀ O' σ' H' ρ' s', Fm F O' σ' H' ρ' s' → Step F O H O' H' → k.bk ρ' s' → E.bk σ' H'
  ct : ∀ O' σ' H' ρ' s', Fm F O' σ' H' ρ' s' → Step F O H O' H' → k.ct ρ' s' → E.ct σ' H'
  xc : ∀ O' σ' H' ρ' s' cls dd x, Fm F O' σ' H' ρ' s' → Step F O H O' H' → Xat F.X.K F.X.mg F.p (O' ++ F.S0) H' cls dd x → k.xc x ρ' s' → F.wx cls dd σ' H'
theorem GE.ok.to {k : GE} {F : Fx} {O O1 : List Addr} {H H1 : Hp} {E : Ends} (h : k.ok F O H E) (t : Step F O H O1 H1) : k.ok F O1 H1 E :=
  ⟨fun O' σ' H' ρ' s' f st q => h.nx O' σ' H' ρ' s' f (t.trans st) q, h.rt, fun O' σ' H' ρ' s' f st q => h.bk O' σ' H' ρ' s' f (t.trans st) q, fun O' σ' H' ρ' s' f st q => h.ct O' σ' H' ρ' s' f (t.trans st) q, fun O' σ' H' ρ' s' cls dd x f st a q => h.xc O' σ' H' ρ' s' cls dd x f (t.trans st) a q⟩
theorem Fm.sa0 {F : Fx} {O : List Addr} {σ : L2.St} {H : Hp} {ρ : List G} {s : Sx} (f : Fm F O σ H ρ s) : F.Sa [] H s := by
  have q := f.st
  have pm := f.pm
  cases s with
  | none => exact q
  | some ds =>
    obtain ⟨q1, q2, vs, q3, q4⟩ := q
    exact ⟨q1, pm rfl, vs, q3, q4.weak fun b m => List.mem_append_right _ m⟩
/-- the block, from these names' data, ends as k says -/
def Bk (F : Fx) (sts : List Stmt) (ρ : List G) (s : Sx) (k : GE) : Prop := ∀ O σ H, Fm F O σ H ρ s → ∀ E : Ends, k.ok F O H E → WB F.X sts E σ H
def Bs (F : Fx) (st : Stmt) (ρ : List G) (s : Sx) (k : GE) : Prop := ∀ O σ H, Fm F O σ H ρ s → ∀ E : Ends, k.ok F O H E → WS F.X st E σ H
section
variable {F : Fx} {ρ : List G} {s s1 s2 s3 : Sx} {c e : Expr} {es : List Expr} {d : D} {ds : List D} {pos p : Pos} {k : GE} {st : Stmt} {sts : List Stmt}
theorem bk_nil (h : k.nx ρ s) : Bk F [] ρ s k := fun O σ H f E q => wb pss_nil (q.nx O σ H ρ s f .refl h)
theorem bk_cons (h1 : Bs F st ρ s { k with nx := fun ρ' s' => Bk F sts ρ' s' k }) : Bk F (st :: sts) ρ s k := fun O σ H f E q => wb (pss_cons ps_ws pss_wb) (h1 O σ H f _
  ⟨fun O' σ' H' ρ' s' f' st h' => h' O' σ' H' f' E (q.to st), q.rt, q.bk, q.ct, q.xc⟩)
theorem bs_break (h : k.bk ρ s) : Bs F (.Break pos) ρ s k := fun O σ H f E q => ws ps_break (q.bk O σ H ρ s f .refl h)
theorem bs_ret (h : Ed F ρ s e d s1) (hk : k.rt d s1) : Bs F (.Return (some e) pos) ρ s k := fun O σ H f E q => ws (ps_ret pe_we) (h.2 O σ H f _ fun v H1 f1 x1 r1 =>
  q.rt v H1 d s1 (r1.weak fun a m => List.mem_append_right _ m) f1.ext f1.sa0 hk)
theorem bs_ifT {a b : List Stmt} (hc : Et F ρ s c true s1) (h : Bk F a ρ s1 k) : Bs F (.If c a b pos) ρ s k := fun O σ H f E q => ws (ps_if pt_wt pss_wb pss_wb) (hc.2 O σ H f _ fun H1 f1 x1 => iteT (h O σ H1 f1 E (q.to (.of x1.xt))))
theorem bs_ifF {a b : List Stmt} (hc : Et F ρ s c false s1) (h : Bk F b ρ s1 k) : Bs F (.If c a b pos) ρ s k := fun O σ H f E q => ws (ps_if pt_wt pss_wb pss_wb) (hc.2 O σ H f _ fun H1 f1 x1 => iteF (h O σ H1 f1 E (q.to (.of x1.xt))))
theorem bs_if {a b : List Stmt} {t : Bool} (hc : Et F ρ s c t s1) (h1 : t = true → Bk F a ρ s1 k) (h2 : t = false → Bk F b ρ s1 k) : Bs F (.If c a b pos) ρ s k := by
  cases t with
  | true => exact bs_ifT hc (h1 rfl)
  | false => exact bs_ifF hc (h2 rfl)
/-- a name gets data -/
theorem Fm.set {O : List Addr} {σ : L2.St} {H : Hp} {v : V} {i : Nat} (f : Fm F O σ H ρ s) (r : Rp F.X.K F.p (O ++ F.S0) H v d) : Fm F O (σ.set i (some v)) H (ρ.set i (.val d)) s := by
  have key : ∀ (j : Nat) (g : G), (ρ.set i (.val d))[j]? = some g → (j = i ∧ g = .val d ∧ j < ρ.length) ∨ (j ≠ i ∧ ρ[j]? = some g) := fun j g h => by
    by_cases e : i = j
    · subst e
      by_cases hl : i < ρ.length
      · rw [List.getElem?_set_self hl] at h; exact .inl ⟨rfl, (Option.some.inj h).symm, hl⟩
      · rw [List.getElem?_eq_none (by simpa using hl)] at h; cases h
    · rw [List.getElem?_set_ne e] at h; exact .inr ⟨fun z => e z.symm, h⟩
  have own : ∀ (j : Nat) (w : Ow) (es : List D), (ρ.set i (.val d))[j]? = some (.ow w es) → j ≠ i ∧ ρ[j]? = some (.ow w es) := fun j w es h => by
    rcases key j _ h with ⟨_, z, _⟩ | q
    · cases z
    · exact q
  refine ⟨f.ext, fun j g hg => ?_, fun j w es a hg ha => ?_, fun j l w u es fs a hne h1 h2 h3 => ?_, f.fre, f.trk, f.st, f.pm, f.kd⟩
  · rcases key j g hg with ⟨rfl, rfl, hl⟩ | ⟨hne, hg⟩
    · have : j < σ.length := by
        have hx : ρ[j]? = some ρ[j] := List.getElem?_eq_getElem hl
        obtain ⟨o, ho, _⟩ := f.slot j _ hx
        exact (List.getElem?_eq_some_iff.mp ho).1
      exact ⟨some v, List.getElem?_set_self this, v, rfl, r⟩
    · obtain ⟨o, ho, q⟩ := f.slot j g hg
      exact ⟨o, by rw [List.getElem?_set_ne (Ne.symm hne)]; exact ho, q⟩
  · obtain ⟨hne, hg⟩ := own j w es hg
    rw [List.getElem?_set_ne (Ne.symm hne)] at ha
    exact f.own j w es a hg ha
  · obtain ⟨n1, h1⟩ := own j w es h1
    obtain ⟨n2, h2⟩ := own l u fs h2
    rw [List.getElem?_set_ne (Ne.symm n1)] at h3
    rw [List.getElem?_set_ne (Ne.symm n2)]
    exact f.dis j l w u es fs a hne h1 h2 h3
theorem bs_set (i : Nat) {x : Str} {pos' : Pos} (hN : F.X.N.Nodup) (hi : F.X.N[i]? = some x) (hx : Loc F.X.env.scope x) (h : Ed F ρ s e d s1) (hk : k.nx (ρ.set i (.val d)) s1) (hs : swapsWith e (some (.Name x pos')) pos.line F.X.env = pure false := by rfl)
    (hf : F.X.fn x = true ∨ F.X.env.scope.names.lookup x = some .local := by first | exact .inl rfl | exact .inr rfl | assumption) : Bs F (.Assign [.Name x pos'] e pos) ρ s k :=
  fun O σ H f E q => ws (ps_set hN hi hx pe_we hs hf) (h.2 O σ H f _ fun v H1 f1 x1 r1 => q.nx O _ H1 _ s1 (f1.set r1) (.of x1.xt) hk)
end
/-! ### a def's body -/
/-- the data at the entry -/
def gStart (N : List Str) (ds : List D) : List G := ds.map G.val ++ List.replicate (N.length - ds.length) .no
theorem fm_start {F : Fx} {N : List Str} {vs : List V} {ds : List D} {s : Sx} (r : Rps F.X.K F.p F.S0 F.H0 vs ds) (tr : ∀ a ∈ F.S0, ∃ o, F.H0 a = some o) (t : F.Sa [] F.H0 s) (kd : s.isSome = F.act) : Fm F [] (L2.start N vs) F.H0 (gStart N ds) s := by
  have hl := r.length
  have no : ∀ (i : Nat) (w : Ow) (es : List D), (gStart N ds)[i]? ≠ some (.ow w es) := fun i w es h => by
    unfold gStart at h
    by_cases hi : i < ds.length
    · rw [List.getElem?_append_left (by simpa using hi), List.getElem?_map] at h
      cases e : ds[i]? with
      | none => rw [e] at h; cases h
      | some z => rw [e] at h; cases h
    · rw [List.getElem?_append_right (by simpa using hi), List.getElem?_replicate] at h
      split at h <;> cases h
  refine ⟨.refl, fun i g hg => ?_, fun i w es a h => absurd h (no i w es), fun i j w u es fs a _ h => absurd h (no i w es), fun a m => absurd m (by simp), fun a m => tr a (by simpa using m), t, fun z => ?_, kd⟩
  case refine_2 =>
    cases s with
    | none => cases z
    | some ds => exact t.2.1
  unfold gStart at hg
  unfold L2.start
  by_cases hi : i < ds.length
  · rw [List.getElem?_append_left (by simpa using hi), List.getElem?_map] at hg
    rw [List.getElem?_append_left (by simpa [hl] using hi), List.getElem?_map]
    cases e : ds[i]? with
    | none => rw [e] at hg; cases hg
    | some z =>
      rw [e] at hg
      cases hg
      obtain ⟨v, e1, e2⟩ := r.get e
      exact ⟨some v, by rw [e1]; rfl, v, rfl, by simpa using e2⟩
  · rw [List.getElem?_append_right (by simpa using hi), List.getElem?_replicate] at hg
    rw [List.getElem?_append_right (by simpa [hl] using hi), List.getElem?_replicate]
    simp only [List.length_map] at hg ⊢
    rw [hl]
    split at hg
    · cases hg
      exact ⟨none, by simp_all, trivial⟩
    · cases hg
section
variable {E : En}
/-- THE RULE for a def: the body's context is cxOf ..; the entry's data and state; what is handed back -/
theorem rn_of {x : Str} {st : Stmt} {fa : Addr} {fd : FuncData} {N ps : List Str} {k : Nat} {ds : List D} {s s' : Sx} {d : D} (T : Fun E.K x x st fa fd) (S : FnScope N ps (defScope st)) (hm : E.mg x = some (.ref fa)) (hb : Binds E.K fd ps []) (kd : s.isSome = s'.isSome) (hl : ds.length = ps.length)
    (body : ∀ (cdv : Value) (A : Around) (outer : List Env) (sh : Shared) (H0 : Hp) (EX : XK) (S0 : List Addr) (p : Pa), Room k (A.deeper (envOfC x (defScope st) sh.heap.objs.size fa cdv)) →
      Bk ⟨(cxOf CX0 E.P E.w E.K E.mg E.base N x (defScope st) fa cdv A outer sh H0 EX).nox, H0, S0, p, s.isSome, E.T⟩ (defBody st) (gStart N ds) s { nx := fun _ t => d = .non ∧ t = s', rt := fun r t => r = d ∧ t = s' }) : Rn E (k + 1) x ds s d s' := by
  refine ⟨kd, fa, fd, ps, hm, T.kp, hb, T.ok S (fun vs H Q EX h => ?_) fun cdv A outer sh H vs Q EX hr h => ?_⟩
  · obtain ⟨p, S, r, _⟩ := h
    rw [r.length, hl]
  · obtain ⟨p, S0, r, tr, t, q⟩ := h
    refine ⟨_, pss_wb, body cdv A outer sh H EX S0 p hr [] (L2.start N vs) H (fm_start (F := ⟨(cxOf CX0 E.P E.w E.K E.mg E.base N x (defScope st) fa cdv A outer sh H EX).nox, H, S0, p, s.isSome, E.T⟩) r tr t rfl) _ ⟨fun O σ H' ρ t' f st h => ?_, fun v H' r' t' rv xp ta h => ?_, fun O σ H' ρ t' f st h => h.elim, fun O σ H' ρ t' f st h => h.elim, fun O σ H' ρ t' cls dd x f st a h => h.elim⟩⟩
    · obtain ⟨rfl, rfl⟩ := h
      exact q .non H' .non (f.ext.kind kd.symm) f.sa0
    · obtain ⟨rfl, rfl⟩ := h
      exact q v H' rv (xp.kind kd.symm) ta
end
end Gh
set_option Elab.async false
set_option linter.all false
set_option maxRecDepth 100000
set_option maxHeartbeats 4000000
/-! exceptions: an own class below a subclass of ValueError, its __init__: super().__init__(p); self.f = p -/
namespace Gh
open PySem PySem.Spec PyProof.Rows
end Gh
namespace Gh
open PySem PySem.Spec PyProof.Rows L2
end Gh
set_option Elab.async false
set_option linter.all false
set_option maxRecDepth 100000
set_option maxHeartbeats 4000000
/-! the check of an own exception class, as the head does it -/
namespace Gh
open PySem PySem.Spec PyProof.Rows L2
end Gh
set_option Elab.async false
set_option linter.all false
set_option maxRecDepth 100000
namespace Gh
open PySem PySem.Spec PyProof.Rows L2
/-! ### operators by data -/
/-- what a op b is worth -/
def D.bin : Operator → D → D → Option D
  | .Add, .int i, .int j => some (.int (i + j))
  | .Sub, .int i, .int j => some (.int (i - j))
  | .Mult, .int i, .int j => some (.int (i * j))
  | .FloorDiv, .int i, .int j => some (.int (i / j))
  | .Mod, .int i, .int j => some (.int (i % j))
  | .Pow, .int i, .int j => some (.int (i ^ j.toNat))
  | .Add, .tup xs, .tup ys => some (.tup (xs ++ ys))
  | .Add, .str x, .str y => some (.str (x ++ y))
  | _, _, _ => none
/-- what it asks -/
def D.binC : Operator → D → D → Prop
  | .Mult, .int i, .int j => CMulW i j
  | .FloorDiv, .int i, .int j => CDivW i j
  | .Mod, .int _, .int j => 0 < j
  | .Pow, .int i, .int j => CPow i j
  | .Add, .tup xs, .tup ys => xs ≠ [] ∧ xs.length + ys.length ≤ sizeLine
  | .Add, .str x, .str y => x.length + y.length ≤ sizeLine
  | _, _, _ => True
section
variable {F : Fx} {ρ : List G} {s s1 s2 s3 : Sx} {a b c e : Expr} {es rest : List Expr} {x y z d : D} {xs ys zs ds : List D} {pos p : Pos} {k l : Bool}
theorem ed_addT (hx : xs ≠ []) (hl : xs.length + ys.length ≤ sizeLine) (ha : Ed F ρ s a (.tup xs) s1) (hb : Ed F ρ s1 b (.tup ys) s2) : Ed F ρ s (.BinOp a .Add b pos) (.tup (xs ++ ys)) s2 :=
  ed_op op_catT ha hb fun O σ H f v w r1 r2 Q q => by
    cases r1 with
    | tup h1 h2 =>
      cases r2 with
      | tup h3 h4 =>
        refine ⟨_, _, _, _, rfl, rfl, h1.sq, h3.sq, fun z => hx ?_, by rw [h2.length, h4.length]; exact hl, fun z => ?_, fun z t n => ?_⟩
        · subst z; cases h2; rfl
        · subst z; cases h4; rw [List.append_nil] at q; exact q _ _ f .refl (.tup h1 h2)
        · exact q _ _ (f.new n) (.new n) (.tup (.inl ⟨f.fresh n, .inl upd_same⟩) ((h2.append h4).ext (.new n)))
theorem ed_addS {i j : Str} (hl : i.length + j.length ≤ sizeLine) (ha : Ed F ρ s a (.str i) s1) (hb : Ed F ρ s1 b (.str j) s2) : Ed F ρ s (.BinOp a .Add b pos) (.str (i ++ j)) s2 :=
  ed_op op_add_str ha hb fun O σ H f v w r1 r2 Q q => by cases r1; cases r2; exact ⟨i, j, rfl, rfl, hl, q _ _ f .refl (.str _)⟩
theorem ed_bin {op : Operator} (ha : Ed F ρ s a x s1) (hb : Ed F ρ s1 b y s2) (h : D.bin op x y = some z) (hc : D.binC op x y) : Ed F ρ s (.BinOp a op b pos) z s2 := by
  unfold D.bin at h
  split at h
  all_goals first | cases h | skip
  · exact ed_add ha hb
  · exact ed_sub ha hb
  · exact ed_mulW hc ha hb
  · exact ed_fdiv hc ha hb
  · exact ed_mod hc ha hb
  · exact ed_pow hc ha hb
  · exact ed_addT hc.1 hc.2 ha hb
  · exact ed_addS hc ha hb
/-- a new list by + and * -/
theorem el_cat (hl : xs.length + ys.length ≤ sizeLine) (ha : Ed F ρ s a (.lst xs) s1) (hb : Ed F ρ s1 b (.lst ys) s2) : El F ρ s (.BinOp a .Add b pos) (xs ++ ys) s2 :=
  el_op op_cat ha hb fun O σ H f v w r1 r2 Q q => by
    cases r1 with
    | lst m1 h1 h2 =>
      cases r2 with
      | lst m3 h3 h4 => exact ⟨_, _, _, _, rfl, rfl, h1, h3, by rw [h2.length, h4.length]; exact hl, fun t n => q t _ _ (f.newO n) (.new n) n upd_same (((h2.append h4).fresh n).ext (.new n))⟩
theorem rps_rep {K : PySem.W.Frag} {q : Pa} {S : List Addr} {H : Hp} {vs : List V} (r : Rps K q S H vs xs) : ∀ n : Nat, Rps K q S H (List.replicate n vs).flatten (List.replicate n xs).flatten
  | 0 => .nil
  | n + 1 => by rw [List.replicate_succ, List.replicate_succ, List.flatten_cons, List.flatten_cons]; exact r.append (rps_rep r n)
/-! ### comparisons by data -/
mutual
def D.py : D → PyData
  | .non => .none
  | .bl b => .bool b
  | .int i => .int i
  | .str x => .str x
  | .lst xs => .list (D.pys xs)
  | .tup xs => .tuple (D.pys xs)
  | .scr ns => .list (ns.map PyData.int)
  | _ => .dict []
def D.pys : List D → List PyData
  | [] => []
  | x :: xs => x.py :: D.pys xs
end
mutual
/-- None, truths, ints, texts, and lists and tuples of these -/
def D.pure : D → Bool
  | .non => true
  | .bl _ => true
  | .int _ => true
  | .str _ => true
  | .lst xs => D.pures xs
  | .tup xs => D.pures xs
  | .scr _ => true
  | _ => false
def D.pures : List D → Bool
  | [] => true
  | x :: xs => x.pure && D.pures xs
end
section
variable {K : PySem.W.Frag} {q : Pa} {S : List Addr} {H : Hp}
theorem dpAll_ints : ∀ ns : List Int, DpAll K H (ns.map V.int) (ns.map PyData.int)
  | [] => .nil
  | n :: ns => .cons (.int n) (dpAll_ints ns)
mutual
theorem Rp.dp : ∀ (d : D) (v : V), Rp K q S H v d → d.pure = true → Dp K H v d.py
  | .non, _, h, _ => by cases h; unfold D.py; exact .non
  | .bl _, _, h, _ => by cases h; unfold D.py; exact .bl _
  | .int _, _, h, _ => by cases h; unfold D.py; exact .int _
  | .str _, _, h, _ => by cases h; unfold D.py; exact .str _
  | .lst xs, _, h, p => by
    cases h with
    | lst m h1 h2 => unfold D.py; exact .lst (.inl (.inl h1)) (Rps.dp xs _ h2 (by unfold D.pure at p; exact p))
  | .tup xs, _, h, p => by
    cases h with
    | tup h1 h2 => unfold D.py; exact .tup h1.sq (Rps.dp xs _ h2 (by unfold D.pure at p; exact p))
  | .scr ns, _, h, p => by
    cases h with
    | scr h1 => unfold D.py; exact .lst h1.sq (dpAll_ints ns)
  | .emp, _, _, p => by unfold D.pure at p; cases p
  | .mut, _, _, p => by unfold D.pure at p; cases p
  | .ref _, _, _, p => by unfold D.pure at p; cases p
  | .ty _, _, _, p => by unfold D.pure at p; cases p
theorem Rps.dp : ∀ (ds : List D) (vs : List V), Rps K q S H vs ds → D.pures ds = true → DpAll K H vs (D.pys ds)
  | [], _, h, _ => by cases h; unfold D.pys; exact .nil
  | d :: ds, _, h, p => by
    cases h with
    | cons h1 h2 =>
      unfold D.pures at p
      obtain ⟨p1, p2⟩ := Bool.and_eq_true_iff.mp p
      unfold D.pys
      exact .cons (Rp.dp d _ h1 p1) (Rps.dp ds _ h2 p2)
end
end
/-- what == asks of both sides -/
def D.eqC (x : D) : Prop := x.pure = true ∧ SeqAt.shaped x.py = true
def D.eqb (x y : D) : Bool := PyData.eqv x.py y.py
theorem cp_eq {n : Nat} (hr : Room n F.X.A) (ha : Ed F ρ s a x s1) (hb : Ed F ρ s1 b y s2) (hx : x.eqC) (hy : y.eqC) : Cp F ρ s .Eq a b (x.eqb y) s2 :=
  cp_of (op_eqD hr.units) ha hb (fun O σ H f v w r1 r2 Q q => ⟨_, _, Rp.dp x v r1 hx.1, Rp.dp y w r2 hy.1, hx.2, hy.2, q _ _ f .refl (.bl _)⟩) (nomark _)
theorem cp_ne {n : Nat} (hr : Room n F.X.A) (ha : Ed F ρ s a x s1) (hb : Ed F ρ s1 b y s2) (hx : x.eqC) (hy : y.eqC) : Cp F ρ s .NotEq a b (!x.eqb y) s2 :=
  cp_of (op_neD hr.units) ha hb (fun O σ H f v w r1 r2 Q q => ⟨_, _, Rp.dp x v r1 hx.1, Rp.dp y w r2 hy.1, hx.2, hy.2, q _ _ f .refl (.bl _)⟩) (nomark _)
def D.isNon : D → Bool
  | .non => true
  | _ => false
theorem rp_non {K : PySem.W.Frag} {q : Pa} {S : List Addr} {H : Hp} {v : V} (r : Rp K q S H v x) : decide (v = .non) = x.isNon := by cases r <;> rfl
theorem cp_isN {j} {p2 : Pos} (ha : Ed F ρ s a x s1) : Cp F ρ s .Is a (.Constant .none j p2) x.isNon s1 :=
  cp_of op_isN ha ed_non (fun O σ H f v w r1 r2 Q q => by cases r2; exact ⟨rfl, by rw [rp_non r1]; exact q _ _ f .refl (.bl _)⟩) (nomark _)
theorem cp_notN {j} {p2 : Pos} (ha : Ed F ρ s a x s1) : Cp F ρ s .IsNot a (.Constant .none j p2) (!x.isNon) s1 :=
  cp_of op_notN ha ed_non (fun O σ H f v w r1 r2 Q q => by cases r2; exact ⟨rfl, by rw [rp_non r1]; exact q _ _ f .refl (.bl _)⟩) (nomark _)
/-! in: flat things in a list or tuple of flat things -/
/-! items by data -/
def D.at (x : D) (i : Int) : Option D := match x with
  | .lst xs => atI xs i
  | .tup xs => atI xs i
  | .scr ns => (atI ns i).map D.int
  | _ => none
theorem ed_ix {i : Int} (ha : Ed F ρ s a x s1) (hb : Ed F ρ s1 b (.int i) s2) (h : x.at i = some d) (hs : PlainIx b := by exact fun _ _ => rfl) : Ed F ρ s (.Subscript a b pos) d s2 := by
  cases x with
  | lst xs => exact ed_ixL ha hb h hs
  | tup xs => exact ed_ixT ha hb h hs
  | scr ns =>
    have h : (atI ns i).map D.int = some d := h
    cases e : atI ns i with
    | none => rw [e] at h; cases h
    | some n => rw [e] at h; cases h; exact ed_ixS ha hb e hs
  | _ => cases h
/-! slices -/
def cutD {α : Type} (xs : List α) (lo hi : Option Int) : List α := (xs.drop (HT.sIx xs.length 0 lo)).take (HT.sIx xs.length xs.length hi - HT.sIx xs.length 0 lo)
theorem rps_cut {K : PySem.W.Frag} {q : Pa} {S : List Addr} {H : Hp} {vs : List V} (r : Rps K q S H vs xs) (lo hi : Option Int) : Rps K q S H (cutV vs lo hi) (cutD xs lo hi) := by
  unfold cutV cutD
  rw [r.length]
  exact (r.drop _).take _
/-- a slice's end -/
inductive Eo (F : Fx) (ρ : List G) (s : Sx) : Option Expr → Option Int → Sx → Prop
  | none : Eo F ρ s none none s
  | some {e : Expr} {i : Int} {s1 : Sx} : Ed F ρ s e (.int i) s1 → Eo F ρ s (some e) (some i) s1
theorem el_slice {lo hi : Option Expr} {i j : Option Int} {p2 : Pos} (ha : Ed F ρ s a (.lst xs) s1) (hl : Eo F ρ s1 lo i s2) (hh : Eo F ρ s2 hi j s3) : El F ρ s (.Subscript a (.Slice lo hi none p2) pos) (cutD xs i j) s3 := by
  have fin : ∀ O σ H H3, Fm F O σ H ρ s → Fm F O σ H3 ρ s3 → XE F H H3 → ∀ v, Rp F.X.K F.p (O ++ F.S0) H3 v (.lst xs) → ∀ Q : VK, (∀ a vs H', Fm F (a :: O) σ H' ρ s3 → XE F H H' → H a = none → H' a = some (.lst vs) → Rps F.X.K F.p (a :: (O ++ F.S0)) H' vs (cutD xs i j) → Q (.ref a) H') → rSlL F.X.K v i j H3 Q := by
    intro O σ H H3 f f3 x3 v r Q q
    cases r with
    | lst m h1 h2 => exact ⟨_, _, rfl, .inl (.inl h1), fun t n => q t _ _ (f3.newO n) (x3.trans (.new n)) (x3.2 t n) upd_same (((rps_cut h2 i j).fresh n).ext (.new n))⟩
  cases hl with
  | none =>
    cases hh with
    | none => exact ⟨ha.1, fun O σ H f Q q => we (pe_slice sl_list pe_we po_none po_none) (ha.2 O σ H f _ fun v H1 f1 x1 r1 => fin O σ H H1 f f1 x1 v r1 Q q)⟩
    | some hb => exact ⟨ha.1.trans hb.1, fun O σ H f Q q => we (pe_slice sl_list pe_we po_none (po_some pe_we)) (ha.2 O σ H f _ fun v H1 f1 x1 r1 => hb.2 O σ H1 f1 _ fun w H2 f2 x2 r2 => by
        cases r2; exact ⟨_, rfl, fin O σ H H2 f f2 (x1.trans x2) v (r1.ext x2.xt) Q q⟩)⟩
  | some hc =>
    cases hh with
    | none => exact ⟨ha.1.trans hc.1, fun O σ H f Q q => we (pe_slice sl_list pe_we (po_some pe_we) po_none) (ha.2 O σ H f _ fun v H1 f1 x1 r1 => hc.2 O σ H1 f1 _ fun w H2 f2 x2 r2 => by
        cases r2; exact ⟨_, rfl, fin O σ H H2 f f2 (x1.trans x2) v (r1.ext x2.xt) Q q⟩)⟩
    | some hb => exact ⟨(ha.1.trans hc.1).trans hb.1, fun O σ H f Q q => we (pe_slice sl_list pe_we (po_some pe_we) (po_some pe_we)) (ha.2 O σ H f _ fun v H1 f1 x1 r1 => hc.2 O σ H1 f1 _ fun w H2 f2 x2 r2 => by
        cases r2
        exact ⟨_, rfl, hb.2 O σ H2 f2 _ fun w H3 f3 x3 r3 => by cases r3; exact ⟨_, rfl, fin O σ H H3 f f3 ((x1.trans x2).trans x3) v ((r1.ext x2.xt).ext x3.xt) Q q⟩⟩)⟩
end
end Gh
set_option Elab.async false
set_option linter.all false
set_option maxRecDepth 100000
namespace Gh
open PySem PySem.Spec PyProof.Rows L2
/-! ### what is walked -/
def WI (X : Cx) (tg iter : Expr) : TI := fun σ H R => ∀ pins s, Inv X pins σ H s →
  wpAny (model X.prog X.w) X.A (eval iter X.env) (fun v s1 => wpAny (model X.prog X.w) X.A (pyIter v) (PIE X pins σ tg R) X.xe s1) X.xe s
theorem pi_wi {X : Cx} {tg iter : Expr} : PI X tg iter (WI X tg iter) := ⟨fun pins s _ _ _ I h => h pins s I⟩
theorem wi {X : Cx} {tg iter : Expr} {w : TI} {σ : L2.St} {H : Hp} {R : It → Hp → Prop} (p : PI X tg iter w) (h : w σ H R) : WI X tg iter σ H R := fun pins s I => p.run pins s σ H R I h
/-- at each turn the next of these data, whatever else has come to the heap; it holds none of what is owned then -/
def Yd (F : Fx) (O : List Addr) (H1 : Hp) (items : List D) : Nat → Hp → V → Hp → Prop := fun i H x H' => (∀ a o, H a = some o → H' a = some o) ∧
  ∃ d, items[i]? = some d ∧ ∀ O' : List Addr, (∀ a ∈ O', (a ∈ O ∨ H1 a = none) ∧ ∃ o, H a = some o) → Rp F.X.K F.p (O' ++ F.S0) H' x d
def Ei (F : Fx) (ρ : List G) (s : Sx) (tg iter : Expr) (items : List D) (s' : Sx) : Prop :=
  s.isSome = s'.isSome ∧ ∀ O σ H, Fm F O σ H ρ s → ∀ R : It → Hp → Prop, (∀ J H', Fm F O σ H' ρ s' → XE F H H' → Walk J items.length (fun H2 => XT (O ++ F.S0) H' H2) (Yd F O H' items) → R J H') → WI F.X tg iter σ H R
theorem rp_later {F : Fx} {O O' : List Addr} {H1 H2 : Hp} {v : V} {d : D} (r : Rp F.X.K F.p (O ++ F.S0) H1 v d) (x : XT (O ++ F.S0) H1 H2) (h : ∀ a ∈ O', a ∈ O ∨ H1 a = none) : Rp F.X.K F.p (O' ++ F.S0) H2 v d := by
  have r1 : Rp F.X.K F.p (O ++ (O' ++ F.S0)) H1 v d := r.to fun b m => by
    rcases List.mem_append.mp m with m | m
    · exact .inl (List.mem_append_left _ m)
    · rcases List.mem_append.mp m with m | m
      · exact (h b m).imp (fun m => List.mem_append_left _ m) id
      · exact .inl (List.mem_append_right _ m)
  refine (r1.ext (x.mono fun a m => ?_)).weak fun a m => List.mem_append_right _ m
  rcases List.mem_append.mp m with m | m
  · exact List.mem_append_left _ m
  · exact List.mem_append_right _ (List.mem_append_right _ m)
section
variable {F : Fx} {ρ : List G} {s s1 s2 s3 : Sx} {tg a b e : Expr} {es : List Expr} {x y d : D} {xs ys ds items : List D} {pos p : Pos}
theorem ei_seq (ha : Ed F ρ s a x s1) (hx : x = .lst xs ∨ x = .tup xs) : Ei F ρ s tg a xs s1 := by
  rcases hx with rfl | rfl
  · refine ⟨ha.1, fun O σ H f R q => wi (pi_list pe_we) (ha.2 O σ H f _ fun v H1 f1 x1 r1 => ?_)⟩
    cases r1 with
    | lst m h1 h2 =>
      refine ⟨_, rfl, ⟨_, .inl (.inl h1)⟩, q _ _ f1 x1 ?_⟩
      rw [← h2.length]
      refine walk_list.mono (fun H2 x2 => .inl (.inl (x2.1 _ _ m h1 nt_lst))) fun i H2 z H3 hi x2 y => ?_
      obtain ⟨e, y⟩ := y
      subst e
      obtain ⟨d, e1, e2⟩ := h2.getV y
      exact ⟨fun _ _ h => h, d, e1, fun O' g => rp_later e2 x2 fun a m => (g a m).1⟩
  · refine ⟨ha.1, fun O σ H f R q => wi (pi_tup pe_we) (ha.2 O σ H f _ fun v H1 f1 x1 r1 => ?_)⟩
    cases r1 with
    | tup h1 h2 =>
      refine ⟨_, rfl, ⟨_, h1.sq⟩, q _ _ f1 x1 ?_⟩
      rw [← h2.length]
      refine walk_tup.mono (fun H2 x2 => ?_) fun i H2 z H3 hi x2 y => ?_
      · rcases h1 with ⟨m, h1⟩ | h1
        · exact .inl (rd_ext x2 m h1 (by first | exact nt_tup | exact nt_lst))
        · exact (SU.sq (S := []) (.inr h1))
      · obtain ⟨e, y⟩ := y
        subst e
        obtain ⟨d, e1, e2⟩ := h2.getV y
        exact ⟨fun _ _ h => h, d, e1, fun O' g => rp_later e2 x2 fun a m => (g a m).1⟩
theorem ei_scr {ns : List Int} (ha : Ed F ρ s a (.scr ns) s1) : Ei F ρ s tg a (ns.map D.int) s1 := by
  refine ⟨ha.1, fun O σ H f R q => wi (pi_list pe_we) (ha.2 O σ H f _ fun v H1 f1 x1 r1 => ?_)⟩
  cases r1 with
  | scr h1 =>
    refine ⟨_, rfl, ⟨_, h1.sq⟩, q _ _ f1 x1 ?_⟩
    have hl : (ns.map D.int).length = (ns.map V.int).length := by simp
    rw [hl]
    refine walk_list.mono (fun H2 x2 => ?_) fun i H2 z H3 hi x2 y => ?_
    · rcases h1 with ⟨m, h1⟩ | h1
      · exact .inl (rd_ext x2 m h1 (by first | exact nt_tup | exact nt_lst))
      · exact (SL.sq (S := []) (.inr h1))
    · obtain ⟨e, y⟩ := y
      subst e
      rw [List.getElem?_map] at y
      cases e : ns[i]? with
      | none => rw [e] at y; cases y
      | some n =>
        rw [e] at y
        cases y
        exact ⟨fun _ _ h => h, .int n, by rw [List.getElem?_map, e]; rfl, fun _ _ => .int n⟩
/-- lo, lo + 1, .. -/
def rangeD (lo : Int) (n : Nat) : List D := (List.range n).map fun (i : Nat) => D.int (lo + i)
theorem rangeD_get {lo : Int} {n i : Nat} (h : i < n) : (rangeD lo n)[i]? = some (.int (lo + i)) := by
  unfold rangeD
  rw [List.getElem?_map, List.getElem?_range h]
  rfl
theorem rangeD_length {lo : Int} {n : Nat} : (rangeD lo n).length = n := by simp [rangeD]
theorem ei_range1 {j : Int} (B : Bf F.X.mg) (ha : Ed F ρ s a (.int j) s1) (h1 : -(2 ^ 62) ≤ j) (h2 : j < 2 ^ 62) (hg : Gl F.X "range" := by rfl) (he : starEach [a] F.X.env = [(false, eval a F.X.env)] := by rfl) : Ei F ρ s tg (.Call (.Name "range" p) [a] [] pos) (rangeD 0 j.toNat) s1 := by
  refine ⟨ha.1, fun O σ H f R q => wi (pi_range1 hg B.range (pa_cons pe_we pa_nil (by rw [he]; rfl)) he) (ha.2 O σ H f _ fun v H1 f1 x1 r1 => ?_)⟩
  cases r1
  refine ⟨j, rfl, h1, h2, q _ _ f1 x1 ?_⟩
  rw [rangeD_length]
  refine walk_range.mono (fun _ _ => trivial) fun i H2 z H3 hi x2 y => ?_
  obtain ⟨e, rfl⟩ := y
  subst e
  exact ⟨fun _ _ h => h, _, rangeD_get hi, fun _ _ => .int _⟩
/-- zip of two lists -/
def zipD (xs ys : List D) : List D := List.zipWith (fun x y => D.tup [x, y]) xs ys
theorem ei_zip {kk : Nat} {tpos : Pos} {elts : List Expr} (B : Bf F.X.mg) (ha : Ed F ρ s a (.lst xs) s1) (hb : Ed F ρ s1 b (.lst ys) s2) (hg : Gl F.X "zip" := by rfl) (he : starEach [a, b] F.X.env = (false, eval a F.X.env) :: starEach [b] F.X.env := by rfl)
    (he2 : starEach [b] F.X.env = (false, eval b F.X.env) :: starEach [] F.X.env := by rfl) (hpl : (backTo pos (starEach [b] F.X.env)).any (·.1) = false := by rfl) : Ei F ρ s (.Tuple elts kk tpos) (.Call (.Name "zip" p) [a, b] [] pos) (zipD xs ys) s2 := by
  refine ⟨ha.1.trans hb.1, fun O σ H f R q => wi (pi_zip hg B.zip (pa_cons pe_we (pa_cons pe_we pa_nil he2) he) he hpl) (ha.2 O σ H f _ fun v H1 f1 x1 r1 => hb.2 O σ H1 f1 _ fun w H2 f2 x2 r2 => ?_)⟩
  cases r1.ext x2.xt with
  | lst m1 h1 h2 =>
    cases r2 with
    | lst m3 h3 h4 =>
      refine ⟨_, _, _, _, rfl, .inl (.inl h1), .inl (.inl h3), q _ _ f2 (x1.trans x2) ?_⟩
      refine (walk_zip (n := (zipD xs ys).length) (by simp [zipD, h2.length, h4.length])).mono (fun H3 x3 => ⟨.inl (.inl (x3.1 _ _ m1 h1 nt_lst)), .inl (.inl (x3.1 _ _ m3 h3 nt_lst))⟩) fun i H3 z H4 hi x3 y => ?_
      obtain ⟨T, u, t, rfl, n, rfl, e1, e2⟩ := y
      obtain ⟨d1, g1, k1⟩ := h2.getV e1
      obtain ⟨d2, g2, k2⟩ := h4.getV e2
      refine ⟨fun c o h => by rw [upd_ne (ne_of_none h n)]; exact h, .tup [d1, d2], by simp [zipD, List.getElem?_zipWith, g1, g2], fun O' g => ?_⟩
      have nT : T ∉ O' ++ F.S0 := fun m => by
        rcases List.mem_append.mp m with m | m
        · obtain ⟨_, o, ho⟩ := g T m
          rw [n] at ho; cases ho
        · exact f2.fresh (x3.2 T n) (List.mem_append_right _ m)
      exact .tup (.inl ⟨nT, .inl upd_same⟩) (.cons ((rp_later k1 x3 fun a m => (g a m).1).ext (.new n)) (.cons ((rp_later k2 x3 fun a m => (g a m).1).ext (.new n)) .nil))
/-- enumerate of a list -/
def enumD (xs : List D) : List D := List.zipWith (fun (i : Nat) x => D.tup [.int i, x]) (List.range xs.length) xs
theorem enumD_length (xs : List D) : (enumD xs).length = xs.length := by simp [enumD]
theorem enumD_get {xs : List D} {i : Nat} {d : D} (h : xs[i]? = some d) : (enumD xs)[i]? = some (.tup [.int i, d]) := by
  have hi : i < xs.length := (List.getElem?_eq_some_iff.mp h).1
  simp [enumD, List.getElem?_zipWith, List.getElem?_range hi, h]
theorem ei_enum {kk : Nat} {tpos : Pos} {elts : List Expr} (B : Bf F.X.mg) (ha : Ed F ρ s a (.lst xs) s1) (hg : Gl F.X "enumerate" := by rfl) (he : starEach [a] F.X.env = [(false, eval a F.X.env)] := by rfl) :
    Ei F ρ s (.Tuple elts kk tpos) (.Call (.Name "enumerate" p) [a] [] pos) (enumD xs) s1 := by
  refine ⟨ha.1, fun O σ H f R q => wi (pi_enum hg B.enum (pa_cons pe_we pa_nil (by rw [he]; rfl)) he) (ha.2 O σ H f _ fun v H1 f1 x1 r1 => ?_)⟩
  cases r1 with
  | lst m1 h1 h2 =>
    refine ⟨_, _, rfl, .inl (.inl h1), q _ _ f1 x1 ?_⟩
    rw [enumD_length, ← h2.length]
    refine walk_enum.mono (fun H3 x3 => .inl (.inl (x3.1 _ _ m1 h1 nt_lst))) fun i H3 z H4 hi x3 y => ?_
    obtain ⟨T, u, t, rfl, n, rfl, e1, e2⟩ := y
    cases e1
    obtain ⟨d2, g2, k2⟩ := h2.getV e2
    refine ⟨fun c o h => by rw [upd_ne (ne_of_none h n)]; exact h, _, enumD_get g2, fun O' g => ?_⟩
    have nT : T ∉ O' ++ F.S0 := fun m => by
      rcases List.mem_append.mp m with m | m
      · obtain ⟨_, o, ho⟩ := g T m
        rw [n] at ho; cases ho
      · exact f1.fresh (x3.2 T n) (List.mem_append_right _ m)
    exact .tup (.inl ⟨nT, .inl upd_same⟩) (.cons (.int _) (.cons ((rp_later k2 x3 fun a m => (g a m).1).ext (.new n)) .nil))
end
end Gh
set_option Elab.async false
set_option linter.all false
set_option maxRecDepth 100000
namespace Gh
open PySem PySem.Spec PyProof.Rows L2
/-! ### a list that is only looked at: of data, or owned -/
def Ev (F : Fx) (ρ : List G) (s : Sx) (e : Expr) (ds : List D) (s' : Sx) : Prop :=
  s.isSome = s'.isSome ∧ ∀ O σ H, Fm F O σ H ρ s → ∀ Q : VK, (∀ a vs H', Fm F O σ H' ρ s' → XE F H H' → H' a = some (.lst vs) → ¬ (F.act = true ∧ (a = F.p.1 ∨ a = F.p.2) ∧ a ∈ F.S0) → Rps F.X.K F.p (O ++ F.S0) H' vs ds → Q (.ref a) H') → WE F.X e σ H Q
section
variable {F : Fx} {ρ : List G} {s s1 s2 s3 : Sx} {tg a b c e : Expr} {es : List Expr} {x y d : D} {xs ys ds items : List D} {pos p : Pos} {k : GE}
theorem Ed.ev (h : Ed F ρ s e (.lst ds) s1) : Ev F ρ s e ds s1 := ⟨h.1, fun O σ H f Q q => h.2 O σ H f Q fun v H1 f1 x1 r1 => by
  cases r1 with
  | lst m h1 h2 => exact q _ _ _ f1 x1 h1 (fun z => m (List.mem_append_right _ z.2.2)) h2⟩
theorem El.ev (h : El F ρ s e ds s1) : Ev F ρ s e ds s1 := h.ed.ev
theorem ev_own (i : Nat) {x : Str} (hN : F.X.N[i]? = some x) (hv : Vis F.X.env.scope x) (hρ : ρ[i]? = some (.own ds)) (hd : (x == ("__debug__" : Str)) = false := by decide) (hcd : (x == ("__classdict__" : Str)) = false := by decide) : Ev F ρ s (.Name x pos) ds s :=
  ⟨rfl, fun O σ H f Q q => by
    obtain ⟨o, ho, a, vs, e, m, h, r, _⟩ := f.slot i _ hρ
    subst e
    exact we (pe_var hN hv hd hcd) ⟨_, ho, q a vs H f .refl h (fun z => (f.fre a (f.own i _ ds a hρ ho)).2 z.2.2) r⟩⟩
theorem ed_lenV (B : Bf F.X.mg) (ha : Ev F ρ s a xs s1) (hg : Gl F.X "len" := by rfl) (he : starEach [a] F.X.env = (false, eval a F.X.env) :: starEach [] F.X.env := by rfl) : Ed F ρ s (.Call (.Name "len" p) [a] [] pos) (.int xs.length) s1 :=
  ⟨ha.1, fun O σ H f Q q => we (pe_callB call_len_seq hg B.len boot_len (pa_cons pe_we pa_nil he) (by decide) (by decide) he rfl) (ha.2 O σ H f _ fun a vs H1 f1 x1 h1 n r => ⟨_, _, rfl, .inl (.inl (.inl h1)), by rw [r.length]; exact q _ _ f1 x1 (.int _)⟩)⟩
theorem ed_ixV {i : Int} (ha : Ev F ρ s a xs s1) (hb : Ed F ρ s1 b (.int i) s2) (h : atI xs i = some d) (hs : PlainIx b := by exact fun _ _ => rfl) : Ed F ρ s (.Subscript a b pos) d s2 :=
  ⟨ha.1.trans hb.1, fun O σ H f Q q => we (pe_ix ix_list pe_we pe_we hs) (ha.2 O σ H f _ fun a vs H1 f1 x1 h1 n r1 => hb.2 O σ H1 f1 _ fun w H2 f2 x2 r2 => by
    cases r2
    obtain ⟨v, e, r⟩ := atI_rps (r1.ext x2.xt) h
    exact ⟨_, _, i, v, rfl, rfl, .inl (.inl (x2.1 _ _ n h1 nt_lst)), e, q v H2 f2 (x1.trans x2) r⟩)⟩
/-! ### targets -/
def WG (X : Cx) (tg : Expr) : TG := fun v σ H Q => ∀ pins s u, Inv X pins σ H s → RelV v u → wpAny (model X.prog X.w) X.A (assign tg X.env u) (fun _ s' => ∃ σ' H', Inv X pins σ' H' s' ∧ Q σ' H') X.xe s
theorem pg_wg {X : Cx} {tg : Expr} : PG X tg (WG X tg) := ⟨fun pins s _ _ _ u _ I r h => h pins s u I r⟩
theorem wg {X : Cx} {tg : Expr} {g : TG} {v : V} {σ : L2.St} {H : Hp} {Q : L2.St → Hp → Prop} (p : PG X tg g) (h : g v σ H Q) : WG X tg v σ H Q := fun pins s u I r => p.run pins s σ H v u Q I r h
def WGs (X : Cx) (ts : List Expr) : TGs := fun vs σ H Q => ∀ pins s us, Inv X pins σ H s → Vals vs us → wpAny (model X.prog X.w) X.A (assignInOrder ((assignEach ts X.env).map (·.2)) us) (fun _ s' => ∃ σ' H', Inv X pins σ' H' s' ∧ Q σ' H') X.xe s
theorem pgs_wgs {X : Cx} {ts : List Expr} : PGs X ts (WGs X ts) := ⟨fun pins s _ _ _ us _ I r h => h pins s us I r⟩
theorem wgs {X : Cx} {ts : List Expr} {g : TGs} {vs : List V} {σ : L2.St} {H : Hp} {Q : L2.St → Hp → Prop} (p : PGs X ts g) (h : g vs σ H Q) : WGs X ts vs σ H Q := fun pins s us I r => p.run pins s σ H vs us Q I r h
/-- tg = a thing worth d: the names' data behind it; js: the slots that are stored -/
def Eg (F : Fx) (tg : Expr) (d : D) (ρ ρ' : List G) (js : List Nat) : Prop := ∀ O σ H v s, Fm F O σ H ρ s → Rp F.X.K F.p (O ++ F.S0) H v d → ∀ Q : L2.St → Hp → Prop,
  (∀ σ', Fm F O σ' H ρ' s → σ'.length = σ.length → (∀ j, j ∉ js → σ'[j]? = σ[j]?) → Q σ' H) → WG F.X tg v σ H Q
def Egs (F : Fx) (ts : List Expr) (ds : List D) (ρ ρ' : List G) (js : List Nat) : Prop := ∀ O σ H vs s, Fm F O σ H ρ s → Rps F.X.K F.p (O ++ F.S0) H vs ds → ∀ Q : L2.St → Hp → Prop,
  (∀ σ', Fm F O σ' H ρ' s → σ'.length = σ.length → (∀ j, j ∉ js → σ'[j]? = σ[j]?) → Q σ' H) → WGs F.X ts vs σ H Q
theorem eg_name (i : Nat) {x : Str} {ρ : List G} (hN : F.X.N.Nodup) (hi : F.X.N[i]? = some x) (hx : Loc F.X.env.scope x) (hf : F.X.fn x = true ∨ F.X.env.scope.names.lookup x = some .local := by first | exact .inl rfl | exact .inr rfl | assumption) : Eg F (.Name x pos) d ρ (ρ.set i (.val d)) [i] :=
  fun O σ H v s f r Q q => wg (pg_name hN hi hx hf) (q _ (f.set r) (by simp) fun j m => by rw [List.getElem?_set_ne (fun z => m (by simp [z]))])
theorem egs_nil {ρ : List G} : Egs F [] [] ρ ρ [] := fun O σ H vs s f r Q q => by
  cases r
  exact wgs pgs_nil ⟨rfl, q σ f rfl fun _ _ => rfl⟩
theorem egs_cons {t : Expr} {ts : List Expr} {ρ ρ1 ρ2 : List G} {js ks : List Nat} (h1 : Eg F t d ρ ρ1 js) (h2 : Egs F ts ds ρ1 ρ2 ks) (hs : (assignEach (t :: ts) F.X.env).map (·.2) = assign t F.X.env :: (assignEach ts F.X.env).map (·.2) := by rfl) : Egs F (t :: ts) (d :: ds) ρ ρ2 (js ++ ks) := fun O σ H vs s f r Q q => by
  cases r with
  | cons r1 r2 =>
    refine wgs (pgs_cons pg_wg pgs_wgs hs) ⟨_, _, rfl, h1 O σ H _ s f r1 _ fun σ1 f1 l1 e1 => h2 O σ1 H _ s f1 r2 _ fun σ2 f2 l2 e2 => q σ2 f2 (l2.trans l1) fun j m => ?_⟩
    rw [e2 j fun z => m (List.mem_append_right _ z), e1 j fun z => m (List.mem_append_left _ z)]
theorem eg_tup {ts : List Expr} {kk : Nat} {ρ ρ' : List G} {js : List Nat} (hc : F.X.calm = true) (h : Egs F ts ds ρ ρ' js) (hn : (assignEach ts F.X.env).length = ds.length := by rfl) (hst : (assignEach ts F.X.env).findIdx? (·.1) = none := by rfl) : Eg F (.Tuple ts kk pos) (.tup ds) ρ ρ' js := fun O σ H v s f r Q q => by
  cases r with
  | tup h1 h2 => exact wg (pg_tup hc pgs_wgs hn hst) ⟨_, _, rfl, h1.sq, h2.length, h O σ H _ s f h2 Q q⟩
/-- a, b = e1, e2 -/
theorem bs_par (i j : Nat) {x y : Str} {px py pt : Pos} {kt k2} {pt2 : Pos} {d1 d2 : D} (hc : F.X.calm = true) (hN : F.X.N.Nodup) (hi : F.X.N[i]? = some x) (hj : F.X.N[j]? = some y) (hij : i ≠ j) (hx : F.X.env.scope.names.lookup x = some .local) (hy : F.X.env.scope.names.lookup y = some .local)
    (ha : Ea F ρ s [a, b] [d1, d2] s1) (hk : k.nx ((ρ.set i (.val d1)).set j (.val d2)) s1) (hw : swappedStores [.Tuple [.Name x px, .Name y py] kt pt] (.Tuple [a, b] k2 pt2) F.X.env = pure (some [x, y]) := by rfl) (hs : swapsWithSole [.Tuple [.Name x px, .Name y py] kt pt] (.Tuple [a, b] k2 pt2) pos.line F.X.env = pure false := by rfl) :
    Bs F (.Assign [.Tuple [.Name x px, .Name y py] kt pt] (.Tuple [a, b] k2 pt2) pos) ρ s k :=
  fun O σ H f E q => ws (ps_par hc hN hi hj hij hx hy pa_wa hw hs) (ha.2 O σ H f _ fun vs H1 f1 x1 r1 => by
    cases r1 with
    | cons r1 r2 =>
      cases r2 with
      | cons r2 r3 =>
        cases r3
        exact ⟨_, _, rfl, q.nx O _ H1 _ s1 ((f1.set r1).set r2) (.of x1.xt) hk⟩)
theorem Fm.all {O : List Addr} {σ : L2.St} {H H' : Hp} (f : Fm F O σ H ρ s) (h : ∀ a o, H a = some o → H' a = some o) : Fm F O σ H' ρ s := by
  have xn : ∀ a, H' a = none → H a = none := fun a e => by
    cases e' : H a with
    | none => rfl
    | some o => rw [h a o e'] at e; cases e
  refine f.grow ⟨fun a o e _ _ => h a o e, xn⟩ rfl ?_
  have q := f.st
  cases s with
  | none => exact LamX.Tabs.ext q h
  | some ds =>
    obtain ⟨q1, q2, vs, q3, q4⟩ := q
    exact ⟨LamX.Tabs.ext q1 h, q2, vs, q3.to fun _ _ e _ => h _ _ e, q4.ext ⟨fun a o _ e _ => h a o e, xn⟩⟩
theorem xt_all {S : List Addr} {H H' : Hp} (h : ∀ a o, H a = some o → H' a = some o) : XT S H H' := ⟨fun a o _ e _ => h a o e, fun a e => by
  cases e' : H a with
  | none => rfl
  | some o => rw [h a o e'] at e; cases e⟩
theorem bs_for {body : List Stmt} (hp : PassesOwn (model F.X.prog F.X.w) F.X.A F.X.env F.X.xe) (hc : F.X.calm = true) (hi : Ei F ρ s tg e items s1) (I : Nat → List G → Sx → Prop) (h0 : I 0 ρ s1)
    (turn : ∀ i d ρ' s', items[i]? = some d → I i ρ' s' → ∃ ρ2 js, Eg F tg d ρ' ρ2 js ∧ Bk F body ρ2 s' { nx := I (i + 1), ct := I (i + 1), bk := k.nx, rt := k.rt, xc := k.xc })
    (hd : ∀ ρ' s', I items.length ρ' s' → k.nx ρ' s') (hs : ∀ x, foldedSetIterable e F.X.env x = pure x := by intro _; rfl) : Bs F (.For tg e body [] pos) ρ s k :=
  fun O σ H f E q => ws (ps_for hp hc pi_wi pg_wg pss_wb hs) (hi.2 O σ H f _ fun J H1 f1 x1 w => by
    refine for_it w (fun i σ' H' => ∃ O' ρ' s', Fm F O' σ' H' ρ' s' ∧ Step F O H1 O' H' ∧ I i ρ' s') ⟨O, ρ, s1, f1, .refl, h0⟩ (fun i σ' H' _ ⟨O', ρ', s', f', t, _⟩ => t.xt) ?_ ?_
    · rintro i v σ' H' H2 hi ⟨O', ρ', s', f', t, iv⟩ ⟨ha, d, hd', hr⟩
      obtain ⟨ρ2, js, hg, hb⟩ := turn i d ρ' s' hd' iv
      have f2 := f'.all ha
      have t2 : Step F O H1 O' H2 := t.trans (.of (xt_all ha))
      refine hg O' σ' H2 v s' f2 (hr O' fun a m => ⟨t.gr a m, f'.trk a (List.mem_append_left _ m)⟩) _ fun σ3 f3 _ _ => hb O' σ3 H2 f3 _ ⟨fun O4 σ4 H4 ρ4 s4 f4 t4 h4 => ⟨O4, ρ4, s4, f4, t2.trans t4, h4⟩, q.rt, fun O4 σ4 H4 ρ4 s4 f4 t4 h4 => ?_, fun O4 σ4 H4 ρ4 s4 f4 t4 h4 => ⟨O4, ρ4, s4, f4, t2.trans t4, h4⟩, fun O4 σ4 H4 ρ4 s4 cls dd x f4 t4 a4 h4 => q.xc O4 σ4 H4 ρ4 s4 cls dd x f4 ((Step.of x1.xt).trans (t2.trans t4)) a4 h4⟩
      exact q.nx O4 σ4 H4 ρ4 s4 f4 ((Step.of x1.xt).trans (t2.trans t4)) h4
    · rintro σ' H' ⟨O', ρ', s', f', t, iv⟩
      exact q.nx O' σ' H' ρ' s' f' ((Step.of x1.xt).trans t) (hd ρ' s' iv))
theorem bs_while {body : List Stmt} (hp : PassesOwn (model F.X.prog F.X.w) F.X.A F.X.env F.X.xe) (I : List G → Sx → Prop) (μ : List G → Sx → Nat) (h0 : I ρ s)
    (turn : ∀ ρ' s', I ρ' s' → ∃ t s2, Et F ρ' s' c t s2 ∧ (t = true → Bk F body ρ' s2 { nx := fun ρ2 s3 => I ρ2 s3 ∧ μ ρ2 s3 < μ ρ' s', ct := fun ρ2 s3 => I ρ2 s3 ∧ μ ρ2 s3 < μ ρ' s', bk := k.nx, rt := k.rt, xc := k.xc }) ∧ (t = false → k.nx ρ' s2)) : Bs F (.While c body [] pos) ρ s k :=
  fun O σ H f E q => ws (ps_while hp pt_wt pss_wb) ⟨fun m σ' H' => ∃ O' ρ' s', Fm F O' σ' H' ρ' s' ∧ Step F O H O' H' ∧ I ρ' s' ∧ μ ρ' s' = m, ⟨_, O, ρ, s, f, .refl, h0, rfl⟩, by
    rintro m σ' H' ⟨O', ρ', s', f', t, iv, em⟩
    obtain ⟨b, s2, ht, h1, h2⟩ := turn ρ' s' iv
    refine ht.2 O' σ' H' f' _ fun H2 f2 x2 => ?_
    have t2 : Step F O H O' H2 := t.trans (.of x2.xt)
    cases b with
    | true =>
      refine iteT ⟨fun σ3 H3 => ∃ O3 ρ3 s3, Fm F O3 σ3 H3 ρ3 s3 ∧ Step F O H O3 H3 ∧ I ρ3 s3 ∧ μ ρ3 s3 < m, fun σ3 H3 ⟨O3, ρ3, s3, f3, t3, i3, l3⟩ => ⟨_, l3, O3, ρ3, s3, f3, t3, i3, rfl⟩, h1 rfl O' σ' H2 f2 _ ⟨?_, q.rt, ?_, ?_, fun O4 σ4 H4 ρ4 s4 cls dd x f4 t4 a4 h4 => q.xc O4 σ4 H4 ρ4 s4 cls dd x f4 (t2.trans t4) a4 h4⟩⟩
      · rintro O4 σ4 H4 ρ4 s4 f4 t4 ⟨h4, l4⟩
        exact ⟨O4, ρ4, s4, f4, t2.trans t4, h4, by omega⟩
      · intro O4 σ4 H4 ρ4 s4 f4 t4 h4
        exact q.nx O4 σ4 H4 ρ4 s4 f4 (t2.trans t4) h4
      · rintro O4 σ4 H4 ρ4 s4 f4 t4 ⟨h4, l4⟩
        exact ⟨O4, ρ4, s4, f4, t2.trans t4, h4, by omega⟩
    | false => exact iteF (q.nx O' σ' H2 ρ' s2 f2 t2 (h2 rfl))⟩
/-! ### owned lists -/
theorem Fm.setOw {O : List Addr} {σ : L2.St} {H : Hp} {v : Addr} {vs : List V} {i : Nat} {w : Ow} (f : Fm F O σ H ρ s) (mv : v ∈ O) (nv : ∀ (j : Nat) (u : Ow) (es : List D), ρ[j]? = some (.ow u es) → σ[j]? ≠ some (some (.ref v))) (h : H v = some (w.ho vs)) (r : Rps F.X.K F.p (O ++ F.S0) H vs ds) (ft : w.fit v ds) : Fm F O (σ.set i (some (.ref v))) H (ρ.set i (.ow w ds)) s := by
  have key : ∀ (j : Nat) (g : G), (ρ.set i (.ow w ds))[j]? = some g → (j = i ∧ g = .ow w ds ∧ j < ρ.length) ∨ (j ≠ i ∧ ρ[j]? = some g) := fun j g h => by
    by_cases e : i = j
    · subst e
      by_cases hl : i < ρ.length
      · rw [List.getElem?_set_self hl] at h; exact .inl ⟨rfl, (Option.some.inj h).symm, hl⟩
      · rw [List.getElem?_eq_none (by simpa using hl)] at h; cases h
    · rw [List.getElem?_set_ne e] at h; exact .inr ⟨fun z => e z.symm, h⟩
  have slen : ∀ j, j < ρ.length → j < σ.length := fun j hl => by
    have hx : ρ[j]? = some ρ[j] := List.getElem?_eq_getElem hl
    obtain ⟨o, ho, _⟩ := f.slot j _ hx
    exact (List.getElem?_eq_some_iff.mp ho).1
  have at_ : ∀ j, j < ρ.length → j = i → (σ.set i (some (.ref v)))[j]? = some (some (.ref v)) := fun j hl e => by subst e; exact List.getElem?_set_self (slen j hl)
  refine ⟨f.ext, fun j g hg => ?_, fun j u es a hg ha => ?_, fun j l u u' es fs a hne h1 h2 h3 => ?_, f.fre, f.trk, f.st, f.pm, f.kd⟩
  · rcases key j g hg with ⟨e, rfl, hl⟩ | ⟨hne, hg⟩
    · exact ⟨_, at_ j hl e, v, vs, rfl, List.mem_append_left _ mv, h, r, ft⟩
    · obtain ⟨o, ho, q⟩ := f.slot j g hg
      exact ⟨o, by rw [List.getElem?_set_ne (Ne.symm hne)]; exact ho, q⟩
  · rcases key j _ hg with ⟨e, z, hl⟩ | ⟨hne, hg⟩
    · rw [at_ j hl e] at ha; cases ha; exact mv
    · rw [List.getElem?_set_ne (Ne.symm hne)] at ha; exact f.own j u es a hg ha
  · rcases key j _ h1 with ⟨e1, z1, l1⟩ | ⟨n1, h1⟩
    · rcases key l _ h2 with ⟨e2, z2, l2⟩ | ⟨n2, h2⟩
      · exact absurd (e1.trans e2.symm) hne
      · rw [at_ j l1 e1] at h3
        cases h3
        rw [List.getElem?_set_ne (Ne.symm n2)]
        exact nv l u' fs h2
    · rw [List.getElem?_set_ne (Ne.symm n1)] at h3
      rcases key l _ h2 with ⟨e2, z2, l2⟩ | ⟨n2, h2⟩
      · rw [at_ l l2 e2]
        intro z
        cases z
        exact nv j u es h1 h3
      · rw [List.getElem?_set_ne (Ne.symm n2)]
        exact f.dis j l u u' es fs a hne h1 h2 h3
theorem Fm.setOwn {O : List Addr} {σ : L2.St} {H : Hp} {v : Addr} {vs : List V} {i : Nat} (f : Fm F O σ H ρ s) (mv : v ∈ O) (nv : ∀ (j : Nat) (u : Ow) (es : List D), ρ[j]? = some (.ow u es) → σ[j]? ≠ some (some (.ref v))) (h : H v = some (.lst vs)) (r : Rps F.X.K F.p (O ++ F.S0) H vs ds) : Fm F O (σ.set i (some (.ref v))) H (ρ.set i (.own ds)) s :=
  f.setOw (w := .lst) mv nv h r trivial
theorem Fm.notOwn {O : List Addr} {σ : L2.St} {H : Hp} {v : Addr} (f : Fm F O σ H ρ s) (n : H v = none) : ∀ (j : Nat) (u : Ow) (es : List D), ρ[j]? = some (.ow u es) → σ[j]? ≠ some (some (.ref v)) := fun j u es h z =>
  f.fresh n (List.mem_append_left _ (f.own j u es v h z))
/-- x = a new list, owned from now on -/
theorem bs_setOwn (i : Nat) {x : Str} {pos' : Pos} (hN : F.X.N.Nodup) (hi : F.X.N[i]? = some x) (hx : Loc F.X.env.scope x) (h : El F ρ s e ds s1) (hk : k.nx (ρ.set i (.own ds)) s1) (hs : swapsWith e (some (.Name x pos')) pos.line F.X.env = pure false := by rfl)
    (hf : F.X.fn x = true ∨ F.X.env.scope.names.lookup x = some .local := by first | exact .inl rfl | exact .inr rfl | assumption) : Bs F (.Assign [.Name x pos'] e pos) ρ s k :=
  fun O σ H f E q => ws (ps_set hN hi hx pe_we hs hf) (h.2 O σ H f _ fun v vs H1 f1 x1 n1 h1 r1 => q.nx (v :: O) _ H1 _ s1 (f1.setOwn List.mem_cons_self (f.notOwn n1) h1 r1)
    ⟨x1.xt, fun a m => (List.mem_cons.mp m).elim (fun z => .inr (z ▸ n1)) .inl⟩ hk)
/-- a, b = e1, e2: the first, the second, both new lists -/
theorem bs_parOV (i j : Nat) {x y : Str} {px py pt : Pos} {kt k2} {pt2 : Pos} {d2 : D} (hc : F.X.calm = true) (hN : F.X.N.Nodup) (hi : F.X.N[i]? = some x) (hj : F.X.N[j]? = some y) (hij : i ≠ j) (hx : F.X.env.scope.names.lookup x = some .local) (hy : F.X.env.scope.names.lookup y = some .local)
    (ha : El F ρ s a ds s1) (hb : Ed F ρ s1 b d2 s2) (hk : k.nx ((ρ.set i (.own ds)).set j (.val d2)) s2) (hw : swappedStores [.Tuple [.Name x px, .Name y py] kt pt] (.Tuple [a, b] k2 pt2) F.X.env = pure (some [x, y]) := by rfl) (hs : swapsWithSole [.Tuple [.Name x px, .Name y py] kt pt] (.Tuple [a, b] k2 pt2) pos.line F.X.env = pure false := by rfl)
    (he : starEach [a, b] F.X.env = (false, eval a F.X.env) :: starEach [b] F.X.env := by rfl) (hf : starEach [b] F.X.env = (false, eval b F.X.env) :: starEach [] F.X.env := by rfl) :
    Bs F (.Assign [.Tuple [.Name x px, .Name y py] kt pt] (.Tuple [a, b] k2 pt2) pos) ρ s k :=
  fun O σ H f E q => ws (ps_par hc hN hi hj hij hx hy (pa_cons pe_we (pa_cons pe_we pa_nil hf) he) hw hs) (ha.2 O σ H f _ fun v vs H1 f1 x1 n1 h1 r1 => hb.2 (v :: O) σ H1 f1 _ fun w H2 f2 x2 r2 => by
    have nv : ¬ (F.act = true ∧ (v = F.p.1 ∨ v = F.p.2) ∧ v ∈ F.S0) := fun z => (f1.fre v List.mem_cons_self).2 z.2.2
    exact ⟨_, _, rfl, q.nx (v :: O) _ H2 _ s2 ((f2.setOwn List.mem_cons_self (f.notOwn n1) (x2.1 _ _ nv h1 nt_lst) (r1.ext (x2.xt (O := v :: O)))).set r2) ⟨(x1.trans x2).xt, fun a m => (List.mem_cons.mp m).elim (fun z => .inr (z ▸ n1)) .inl⟩ hk⟩)
theorem bs_parVO (i j : Nat) {x y : Str} {px py pt : Pos} {kt k2} {pt2 : Pos} {d2 : D} (hc : F.X.calm = true) (hN : F.X.N.Nodup) (hi : F.X.N[i]? = some x) (hj : F.X.N[j]? = some y) (hij : i ≠ j) (hx : F.X.env.scope.names.lookup x = some .local) (hy : F.X.env.scope.names.lookup y = some .local)
    (ha : Ed F ρ s a d2 s1) (hb : El F ρ s1 b ds s2) (hk : k.nx ((ρ.set i (.val d2)).set j (.own ds)) s2) (hw : swappedStores [.Tuple [.Name x px, .Name y py] kt pt] (.Tuple [a, b] k2 pt2) F.X.env = pure (some [x, y]) := by rfl) (hs : swapsWithSole [.Tuple [.Name x px, .Name y py] kt pt] (.Tuple [a, b] k2 pt2) pos.line F.X.env = pure false := by rfl)
    (he : starEach [a, b] F.X.env = (false, eval a F.X.env) :: starEach [b] F.X.env := by rfl) (hf : starEach [b] F.X.env = (false, eval b F.X.env) :: starEach [] F.X.env := by rfl) :
    Bs F (.Assign [.Tuple [.Name x px, .Name y py] kt pt] (.Tuple [a, b] k2 pt2) pos) ρ s k :=
  fun O σ H f E q => ws (ps_par hc hN hi hj hij hx hy (pa_cons pe_we (pa_cons pe_we pa_nil hf) he) hw hs) (ha.2 O σ H f _ fun w H1 f1 x1 r1 => hb.2 O σ H1 f1 _ fun v vs H2 f2 x2 n2 h2 r2 => by
    have r3 : Rp F.X.K F.p (v :: O ++ F.S0) H2 w d2 := (r1.fresh n2).ext (x2.xt (O := v :: O))
    have f3 := f2.set (i := i) r3
    refine ⟨_, _, rfl, q.nx (v :: O) _ H2 _ s2 (f3.setOwn List.mem_cons_self ?_ h2 r2) ⟨(x1.trans x2).xt, fun a m => (List.mem_cons.mp m).elim (fun z => .inr (z ▸ x1.2 v n2)) .inl⟩ hk⟩
    intro l u es h z
    by_cases e : i = l
    · subst e
      by_cases hl : i < ρ.length
      · rw [List.getElem?_set_self hl] at h; cases h
      · rw [List.getElem?_eq_none (by simpa using hl)] at h; cases h
    · rw [List.getElem?_set_ne e] at h z
      exact f1.notOwn n2 l u es h z)
theorem bs_parOO (i j : Nat) {x y : Str} {px py pt : Pos} {kt k2} {pt2 : Pos} (hc : F.X.calm = true) (hN : F.X.N.Nodup) (hi : F.X.N[i]? = some x) (hj : F.X.N[j]? = some y) (hij : i ≠ j) (hx : F.X.env.scope.names.lookup x = some .local) (hy : F.X.env.scope.names.lookup y = some .local)
    (ha : El F ρ s a xs s1) (hb : El F ρ s1 b ds s2) (hk : k.nx ((ρ.set i (.own xs)).set j (.own ds)) s2) (hw : swappedStores [.Tuple [.Name x px, .Name y py] kt pt] (.Tuple [a, b] k2 pt2) F.X.env = pure (some [x, y]) := by rfl) (hs : swapsWithSole [.Tuple [.Name x px, .Name y py] kt pt] (.Tuple [a, b] k2 pt2) pos.line F.X.env = pure false := by rfl)
    (he : starEach [a, b] F.X.env = (false, eval a F.X.env) :: starEach [b] F.X.env := by rfl) (hf : starEach [b] F.X.env = (false, eval b F.X.env) :: starEach [] F.X.env := by rfl) :
    Bs F (.Assign [.Tuple [.Name x px, .Name y py] kt pt] (.Tuple [a, b] k2 pt2) pos) ρ s k :=
  fun O σ H f E q => ws (ps_par hc hN hi hj hij hx hy (pa_cons pe_we (pa_cons pe_we pa_nil hf) he) hw hs) (ha.2 O σ H f _ fun w us H1 f1 x1 n1 h1 r1 => hb.2 (w :: O) σ H1 f1 _ fun v vs H2 f2 x2 n2 h2 r2 => by
    have nw : ¬ (F.act = true ∧ (w = F.p.1 ∨ w = F.p.2) ∧ w ∈ F.S0) := fun z => (f1.fre w List.mem_cons_self).2 z.2.2
    have hne : w ≠ v := ne_of_none h1 n2
    have r3 : Rps F.X.K F.p (v :: w :: O ++ F.S0) H2 us xs := (r1.fresh n2).ext (x2.xt (O := v :: w :: O))
    have f3 := f2.setOwn (i := i) (List.mem_cons_of_mem _ List.mem_cons_self) (f.notOwn n1) (x2.1 _ _ nw h1 nt_lst) r3
    refine ⟨_, _, rfl, q.nx (v :: w :: O) _ H2 _ s2 (f3.setOwn List.mem_cons_self ?_ h2 r2) ⟨(x1.trans x2).xt, fun a m => ?_⟩ hk⟩
    · intro l u es h z
      by_cases e : i = l
      · subst e
        by_cases hl : i < σ.length
        · rw [List.getElem?_set_self hl] at z; cases z; exact hne rfl
        · rw [List.getElem?_eq_none (by simpa using hl)] at z; cases z
      · rw [List.getElem?_set_ne e] at h z
        exact f1.notOwn n2 l u es h z
    · rcases List.mem_cons.mp m with rfl | m
      · exact .inr (x1.2 _ n2)
      · rcases List.mem_cons.mp m with rfl | m
        · exact .inr n1
        · exact .inl m)
/-- what is owned is turned -/
theorem Fm.mutO {O : List Addr} {σ : L2.St} {H : Hp} {a : Addr} {vs : List V} {i : Nat} {w w' : Ow} (f : Fm F O σ H ρ s) (hρ : ρ[i]? = some (.ow w xs)) (ho : σ[i]? = some (some (.ref a))) (r : Rps F.X.K F.p (O ++ F.S0) H vs ds) (ft : w'.fit a ds) (ht : ∃ u, H a = some u ∧ NT u) : Fm F O σ (upd H a (w'.ho vs)) (ρ.set i (.ow w' ds)) s ∧ XT (O ++ F.S0) H (upd H a (w'.ho vs)) := by
  have ma : a ∈ O := f.own i w xs a hρ ho
  have x : XT (O ++ F.S0) H (upd H a (w'.ho vs)) := ⟨fun b o n h _ => by rw [upd_ne (show b ≠ a from fun z => n (by rw [z]; exact List.mem_append_left _ ma))]; exact h, fun b h => upd_none h⟩
  have key : ∀ (j : Nat) (g : G), (ρ.set i (.ow w' ds))[j]? = some g → (j = i ∧ g = .ow w' ds) ∨ (j ≠ i ∧ ρ[j]? = some g) := fun j g h => by
    by_cases e : i = j
    · subst e
      by_cases hl : i < ρ.length
      · rw [List.getElem?_set_self hl] at h; exact .inl ⟨rfl, (Option.some.inj h).symm⟩
      · rw [List.getElem?_eq_none (by simpa using hl)] at h; cases h
    · rw [List.getElem?_set_ne e] at h; exact .inr ⟨fun z => e z.symm, h⟩
  have own : ∀ (j : Nat) (u : Ow) (es : List D), (ρ.set i (.ow w' ds))[j]? = some (.ow u es) → ∃ u' es', ρ[j]? = some (.ow u' es') := fun j u es h => by
    rcases key j _ h with ⟨rfl, _⟩ | ⟨_, h⟩
    · exact ⟨w, xs, hρ⟩
    · exact ⟨u, es, h⟩
  obtain ⟨u0, hu0, nt0⟩ := ht
  have tab : ∀ T, LamX.Tabs T H → LamX.Tabs T (upd H a (w'.ho vs)) := fun T tt => by
    have ne : ∀ P ps, H P = some (.tbl ps) → P ≠ a := fun P ps e z => by
      rw [z, hu0] at e
      exact nt0 ps (Option.some.inj e)
    intro pq hp
    obtain ⟨ps, h1, h2, h3⟩ := tt pq hp
    refine ⟨ps, by rw [upd_ne (ne _ _ h1)]; exact h1, h2, fun pos cv hc => ?_⟩
    obtain ⟨c, e1, e2⟩ := h3 pos cv hc
    refine ⟨c, e1, ?_⟩
    by_cases z : c = a
    · exfalso
      subst z
      obtain ⟨o, ho2, q⟩ := f.slot i _ hρ
      rw [ho] at ho2
      cases ho2
      obtain ⟨b, ws, e, m, hb, _⟩ := q
      cases e
      rw [e2] at hb
      have := Option.some.inj hb
      unfold LamX.CodeO at this
      cases w <;> cases this
    · rw [upd_ne z]; exact e2
  refine ⟨⟨⟨fun b o h n _ => ?_, fun b h => f.ext.2 b (upd_none h)⟩, fun j g hg => ?_, fun j u es b hg hb => ?_, fun j l u u' es fs b hne h1 h2 h3 => ?_, f.fre, fun b m => ?_, ?_, f.pm, f.kd⟩, x⟩
  · rw [upd_ne fun z => ?_]
    · exact f.ext.1 b o h n (by assumption)
    · rw [z, (f.fre a ma).1] at h; cases h
  · rcases key j g hg with ⟨rfl, rfl⟩ | ⟨hne, hg⟩
    · exact ⟨_, ho, a, vs, rfl, List.mem_append_left _ ma, upd_same, r.ext x, ft⟩
    · obtain ⟨o, ho', q⟩ := f.slot j g hg
      refine ⟨o, ho', ?_⟩
      cases g with
      | no => trivial
      | val d =>
        obtain ⟨v, e, r'⟩ := q
        exact ⟨v, e, r'.ext x⟩
      | ow u es =>
        obtain ⟨b, ws, e, m, hb, r', ft'⟩ := q
        subst e
        refine ⟨b, ws, rfl, m, ?_, r'.ext x, ft'⟩
        rw [upd_ne fun z => ?_]
        · exact hb
        · subst z
          exact f.dis i j w u xs es b (Ne.symm hne) hρ hg ho ho'
  · obtain ⟨u2, es', h⟩ := own j u es hg
    exact f.own j u2 es' b h hb
  · obtain ⟨u2, es', h1⟩ := own j u es h1
    obtain ⟨u3, fs', h2⟩ := own l u' fs h2
    exact f.dis j l u2 u3 es' fs' b hne h1 h2 h3
  · obtain ⟨o, e⟩ := f.trk b m
    by_cases z : b = a
    · rw [z]; exact ⟨_, upd_same⟩
    · exact ⟨o, by rw [upd_ne z]; exact e⟩
  · have q := f.st
    have pm := f.pm
    cases s with
    | none => exact tab _ q
    | some ys =>
      obtain ⟨q1, q2, ws, q3, q4⟩ := q
      exact ⟨tab _ q1, q2, ws, q3.out (pm rfl) (f.fre a ma).2, q4.ext x⟩
theorem Fm.mut {O : List Addr} {σ : L2.St} {H : Hp} {a : Addr} {vs : List V} {i : Nat} (f : Fm F O σ H ρ s) (hρ : ρ[i]? = some (.own xs)) (ho : σ[i]? = some (some (.ref a))) (r : Rps F.X.K F.p (O ++ F.S0) H vs ds) : Fm F O σ (upd H a (.lst vs)) (ρ.set i (.own ds)) s ∧ XT (O ++ F.S0) H (upd H a (.lst vs)) := by
  refine f.mutO (w := .lst) (w' := .lst) hρ ho r trivial ?_
  obtain ⟨o, ho2, b, ws, e, m, hb, _⟩ := f.slot i _ hρ
  rw [ho] at ho2
  cases ho2
  cases e
  exact ⟨_, hb, nt_lst⟩
/-- x.append(e), x owned -/
theorem bs_append (i : Nat) {x : Str} {px pa : Pos} {cpos : Pos} (hi : F.X.N[i]? = some x) (hv : Vis F.X.env.scope x) (hρ : ρ[i]? = some (.own xs)) (h : Ed F ρ s e d s1) (hl : xs.length < sizeLine) (hk : k.nx (ρ.set i (.own (xs ++ [d]))) s1)
    (hd : (x == ("__debug__" : Str)) = false := by decide) (hcd : (x == ("__classdict__" : Str)) = false := by decide) (he : starEach [e] F.X.env = (false, eval e F.X.env) :: starEach [] F.X.env := by rfl)
    (hb : attributeBase (.Name x px) "append" F.X.env (eval (.Name x px) F.X.env) = eval (.Name x px) F.X.env := by rfl) (hline : (pa.endLine == cpos.line) = true := by rfl) (hpl : (backTo cpos (starEach [] F.X.env)).any (·.1) = false := by rfl)
    (hfew : ((backTo cpos (starEach [e] F.X.env)).all (fun x => !x.1) && (backToKw cpos (keywordEach [] F.X.env)).all (fun x => x.1.isSome) && decide ([e].length + ([] : List Keyword).length + (if ([] : List Keyword).isEmpty then 0 else 1) < 30)) = true := by rfl)
    (hs : swapsWith (.Call (.Attribute (.Name x px) "append" pa) [e] [] cpos) none pos.line F.X.env = pure false := by rfl) : Bs F (.Expr (.Call (.Attribute (.Name x px) "append" pa) [e] [] cpos) pos) ρ s k :=
  fun O σ H f E q => ws (ps_expr (pe_bm PySem.F.plainAttrs_list PySem.F.slot_list_append PySem.F.type_list_append mt_append (pe_var hi hv hd hcd) (pa_cons pe_we pa_nil he) hb hfew hline he hpl) hs) (by
    obtain ⟨o, ho, a, vs, eo, m, h1, r, _⟩ := f.slot i _ hρ
    subst eo
    have na : ¬ (F.act = true ∧ (a = F.p.1 ∨ a = F.p.2) ∧ a ∈ F.S0) := fun z => (f.fre a (f.own i _ xs a hρ ho)).2 z.2.2
    refine ⟨_, ho, .inl ⟨rfl, _, .inl (.inl h1)⟩, h.2 O σ H f _ fun w H1 f1 x1 r1 => ?_⟩
    refine ⟨a, vs, w, rfl, rfl, x1.1 _ _ na h1 nt_lst, by rw [r.length]; exact hl, ?_⟩
    obtain ⟨f2, x2⟩ := f1.mut hρ ho ((r.ext x1.xt).append (.one r1))
    exact q.nx O σ _ _ s1 f2 (.of (x1.xt.trans x2)) hk)
theorem Ow.rp {K : PySem.W.Frag} {p : Pa} {S : List Addr} {H : Hp} {a : Addr} {vs : List V} {w : Ow} (n : a ∉ S) (h : H a = some (w.ho vs)) (r : Rps K p S H vs ds) (ft : w.fit a ds) (hw : ∀ ks, w ≠ .dT ks) : Rp K p S H (.ref a) (w.d ds) := by
  cases w with
  | lst => exact .lst n h r
  | ins x C dx ks => exact .ins n h r ft.2
  | dK ks => exact .dK n h r ft
  | dT ks => exact absurd rfl (hw ks)
  | fT ob ks => exact .dT n h r ft
  | lsA b => exact .lst n h r
/-- what is owned is data from now on -/
theorem Fm.freezeO {O : List Addr} {σ : L2.St} {H : Hp} {i : Nat} {w : Ow} (f : Fm F O σ H ρ s) (hρ : ρ[i]? = some (.ow w xs)) (hw : ∀ ks, w ≠ .dT ks := by intro _ z; cases z) : ∃ O', Fm F O' σ H (ρ.set i (.val (w.d xs))) s ∧ ∀ a ∈ O', a ∈ O := by
  obtain ⟨o, ho, a, vs, eo, m, h1, r, ft⟩ := f.slot i _ hρ
  subst eo
  have sub : ∀ b ∈ O.filter (· ≠ a) ++ F.S0, b ∈ O ++ F.S0 := fun b m => by
    rcases List.mem_append.mp m with m | m
    · exact List.mem_append_left _ (List.mem_filter.mp m).1
    · exact List.mem_append_right _ m
  have key : ∀ (j : Nat) (g : G), (ρ.set i (.val (w.d xs)))[j]? = some g → (j = i ∧ g = .val (w.d xs)) ∨ (j ≠ i ∧ ρ[j]? = some g) := fun j g h => by
    by_cases e : i = j
    · subst e
      by_cases hl : i < ρ.length
      · rw [List.getElem?_set_self hl] at h; exact .inl ⟨rfl, (Option.some.inj h).symm⟩
      · rw [List.getElem?_eq_none (by simpa using hl)] at h; cases h
    · rw [List.getElem?_set_ne e] at h; exact .inr ⟨fun z => e z.symm, h⟩
  have own : ∀ (j : Nat) (u : Ow) (es : List D), (ρ.set i (.val (w.d xs)))[j]? = some (.ow u es) → j ≠ i ∧ ρ[j]? = some (.ow u es) := fun j u es h => by
    rcases key j _ h with ⟨_, z⟩ | h
    · cases z
    · exact h
  have st : F.Sa (O.filter (· ≠ a)) H s := by
    have q := f.st
    have pm := f.pm
    cases s with
    | none => exact q
    | some ys =>
      obtain ⟨q1, q2, ws, q3, q4⟩ := q
      exact ⟨q1, (pm rfl).app, ws, q3, q4.weak sub⟩
  refine ⟨O.filter (· ≠ a), ⟨f.ext, fun j g hg => ?_, fun j u es b hg hb => ?_, fun j l u u' es fs b hne h1 h2 h3 => ?_, fun b m => f.fre b (List.mem_filter.mp m).1, fun b m => f.trk b (sub b m), st, f.pm, f.kd⟩, fun b m => (List.mem_filter.mp m).1⟩
  · rcases key j g hg with ⟨rfl, rfl⟩ | ⟨hne, hg⟩
    · refine ⟨_, ho, _, rfl, Ow.rp (fun m => ?_) h1 (r.weak sub) ft hw⟩
      rcases List.mem_append.mp m with m | m
      · simpa using (List.mem_filter.mp m).2
      · exact (f.fre a (f.own j w xs a hρ ho)).2 m
    · obtain ⟨o, ho', q⟩ := f.slot j g hg
      refine ⟨o, ho', ?_⟩
      cases g with
      | no => trivial
      | val d =>
        obtain ⟨v, e, r'⟩ := q
        exact ⟨v, e, r'.weak sub⟩
      | ow u es =>
        obtain ⟨b, ws, e, m, hb, r', ft'⟩ := q
        subst e
        refine ⟨b, ws, rfl, ?_, hb, r'.weak sub, ft'⟩
        refine List.mem_append_left _ (List.mem_filter.mpr ⟨f.own j u es b hg ho', ?_⟩)
        simp only [ne_eq, decide_not, Bool.not_eq_eq_eq_not, Bool.not_true, decide_eq_false_iff_not]
        intro z
        subst z
        exact f.dis i j w u xs es b (Ne.symm hne) hρ hg ho ho'
  · obtain ⟨hne, hg⟩ := own j u es hg
    refine List.mem_filter.mpr ⟨f.own j u es b hg hb, ?_⟩
    simp only [ne_eq, decide_not, Bool.not_eq_eq_eq_not, Bool.not_true, decide_eq_false_iff_not]
    intro z
    subst z
    exact f.dis i j w u xs es b (Ne.symm hne) hρ hg ho hb
  · exact f.dis j l u u' es fs b hne (own j u es h1).2 (own l u' fs h2).2 h3
theorem Fm.freeze {O : List Addr} {σ : L2.St} {H : Hp} {i : Nat} (f : Fm F O σ H ρ s) (hρ : ρ[i]? = some (.own xs)) : ∃ O', Fm F O' σ H (ρ.set i (.val (.lst xs))) s ∧ ∀ a ∈ O', a ∈ O := f.freezeO (w := .lst) hρ
theorem bk_freeze (i : Nat) {sts : List Stmt} (hρ : ρ[i]? = some (.own xs)) (h : Bk F sts (ρ.set i (.val (.lst xs))) s k) : Bk F sts ρ s k := fun O σ H f E q => by
  obtain ⟨O', f', hs⟩ := f.freeze hρ
  exact h O' σ H f' E (q.to ⟨.refl, fun a m => .inl (hs a m)⟩)
end
end Gh
set_option Elab.async false
set_option linter.all false
set_option maxRecDepth 100000
namespace Gh
open PySem PySem.Spec PyProof.Rows L2
/-! ### list comprehensions -/
/-- the block's contexts -/
structure Bx where
  s : Shared
  H : Hp
  C : Addr
  cl : List (Str × Addr)
  fp : List Addr
abbrev Fx.blk (F : Fx) (scope : Scope) (c : Bx) : Fx := ⟨F.X.blk c.s c.H scope (compEnvC scope c.cl c.C F.X.env) c.fp, F.H0, F.S0, F.p, F.act, F.T⟩
def gwipe (ρ : List G) : List Nat → List G
  | [] => ρ
  | v :: vs => (gwipe ρ vs).set v .no
section
variable {F : Fx} {ρ : List G} {s s1 s2 s3 : Sx} {tg a b c e elt iter : Expr} {ifs : List Expr} {x y d : D} {xs ys ds items : List D} {pos p : Pos} {k : GE} {scope : Scope}
theorem Fm.setNo {O : List Addr} {σ : L2.St} {H : Hp} {i : Nat} (f : Fm F O σ H ρ s) : Fm F O (σ.set i none) H (ρ.set i .no) s := by
  have key : ∀ (j : Nat) (g : G), (ρ.set i .no)[j]? = some g → (j = i ∧ g = .no ∧ j < ρ.length) ∨ (j ≠ i ∧ ρ[j]? = some g) := fun j g h => by
    by_cases e : i = j
    · subst e
      by_cases hl : i < ρ.length
      · rw [List.getElem?_set_self hl] at h; exact .inl ⟨rfl, (Option.some.inj h).symm, hl⟩
      · rw [List.getElem?_eq_none (by simpa using hl)] at h; cases h
    · rw [List.getElem?_set_ne e] at h; exact .inr ⟨fun z => e z.symm, h⟩
  have own : ∀ (j : Nat) (w : Ow) (es : List D), (ρ.set i .no)[j]? = some (.ow w es) → j ≠ i ∧ ρ[j]? = some (.ow w es) := fun j w es h => by
    rcases key j _ h with ⟨_, z, _⟩ | q
    · cases z
    · exact q
  refine ⟨f.ext, fun j g hg => ?_, fun j w es a hg ha => ?_, fun j l w u es fs a hne h1 h2 h3 => ?_, f.fre, f.trk, f.st, f.pm, f.kd⟩
  · rcases key j g hg with ⟨rfl, rfl, hl⟩ | ⟨hne, hg⟩
    · have : j < σ.length := by
        have hx : ρ[j]? = some ρ[j] := List.getElem?_eq_getElem hl
        obtain ⟨o, ho, _⟩ := f.slot j _ hx
        exact (List.getElem?_eq_some_iff.mp ho).1
      exact ⟨none, List.getElem?_set_self this, trivial⟩
    · obtain ⟨o, ho, q⟩ := f.slot j g hg
      exact ⟨o, by rw [List.getElem?_set_ne (Ne.symm hne)]; exact ho, q⟩
  · obtain ⟨hne, hg⟩ := own j w es hg
    rw [List.getElem?_set_ne (Ne.symm hne)] at ha
    exact f.own j w es a hg ha
  · obtain ⟨n1, h1⟩ := own j w es h1
    obtain ⟨n2, h2⟩ := own l u fs h2
    rw [List.getElem?_set_ne (Ne.symm n1)] at h3
    rw [List.getElem?_set_ne (Ne.symm n2)]
    exact f.dis j l w u es fs a hne h1 h2 h3
theorem Fm.wipe {O : List Addr} {σ : L2.St} {H : Hp} (f : Fm F O σ H ρ s) : ∀ vs : List Nat, Fm F O (L2.wipe σ vs) H (gwipe ρ vs) s
  | [] => f
  | v :: vs => (f.wipe vs).setNo
theorem Fm.blk {O : List Addr} {σ : L2.St} {H : Hp} {c : Bx} (f : Fm F O σ H ρ s) : Fm (F.blk scope c) O σ H ρ s := ⟨f.ext, f.slot, f.own, f.dis, f.fre, f.trk, f.st, f.pm, f.kd⟩
theorem Fm.unblk {O : List Addr} {σ : L2.St} {H : Hp} {c : Bx} (f : Fm (F.blk scope c) O σ H ρ s) : Fm F O σ H ρ s := ⟨f.ext, f.slot, f.own, f.dis, f.fre, f.trk, f.st, f.pm, f.kd⟩
theorem wipe_get {σ : L2.St} : ∀ (vs : List Nat) (j : Nat), j ∈ vs → j < σ.length → (L2.wipe σ vs)[j]? = some none
  | [], _, m, _ => absurd m (by simp)
  | v :: vs, j, m, hl => by
    unfold L2.wipe
    by_cases e : v = j
    · subst e
      exact List.getElem?_set_self (by rw [wipe_length]; exact hl)
    · rw [List.getElem?_set_ne e]
      exact wipe_get vs j ((List.mem_cons.mp m).resolve_left fun z => e z.symm) hl
theorem wipe_eq {σ σ2 : L2.St} {vs js : List Nat} (hl : σ2.length = σ.length) (hj : ∀ j ∈ js, j ∈ vs) (h : ∀ j, j ∉ js → σ2[j]? = (L2.wipe σ vs)[j]?) : L2.wipe σ2 vs = L2.wipe σ vs := by
  apply List.ext_getElem?
  intro j
  by_cases m : j ∈ vs
  · by_cases l : j < σ.length
    · rw [wipe_get vs j m l, wipe_get vs j m (by omega)]
    · rw [List.getElem?_eq_none (by rw [wipe_length]; omega), List.getElem?_eq_none (by rw [wipe_length]; omega)]
  · rw [wipe_out m, h j fun z => m (hj j z)]
/-- the tests of the clause -/
def Eifs (F : Fx) (ρ : List G) (s : Sx) (ifs : List Expr) (b : Bool) (s' : Sx) : Prop := (ifs = [] ∧ b = true ∧ s' = s) ∨ ∃ c, ifs = [c] ∧ Et F ρ s c b s'
def wgB (X : Cx) (scope : Scope) (tg : Expr) : TG := fun v σ H Q => ∀ c : Bx, WG (X.blk c.s c.H scope (compEnvC scope c.cl c.C X.env) c.fp) tg v σ H Q
def WTs (X : Cx) (ifs : List Expr) : TT := fun σ H Q => ∀ pins s, Inv X pins σ H s →
    wpAny (model X.prog X.w) X.A (forIn ifs true fun c r => if r = true then do let ok ← isTrue c X.env (eval c X.env); pure (ForInStep.yield ok) else pure (ForInStep.yield r)) (TP X pins σ Q) X.xe s
theorem wts {X : Cx} {ifs : List Expr} {t : TT} {σ : L2.St} {H : Hp} {Q : Bool → Hp → Prop} (p : PTs X ifs t) (h : t σ H Q) : WTs X ifs σ H Q := fun pins s I => p.run pins s σ H Q I h
def wtB (X : Cx) (scope : Scope) (ifs : List Expr) : TT := fun σ H Q => ∀ c : Bx, WTs (X.blk c.s c.H scope (compEnvC scope c.cl c.C X.env) c.fp) ifs σ H Q
def weB (X : Cx) (scope : Scope) (e : Expr) : TE := fun σ H Q => ∀ c : Bx, WE (X.blk c.s c.H scope (compEnvC scope c.cl c.C X.env) c.fp) e σ H Q
/-- the turns: out i is what has been made ahead of turn i, st i the stream's state there -/
structure Comp (F : Fx) (ρ : List G) (scope : Scope) (vs : List Nat) (tg : Expr) (ifs : List Expr) (elt : Expr) (items : List D) (out : Nat → List D) (st : Nat → Sx) : Prop where
  nil : out 0 = []
  len : ∀ i, i ≤ items.length → (out i).length ≤ sizeLine
  turn : ∀ i d, items[i]? = some d → ∃ ρ2 js, (∀ c, Eg (F.blk scope c) tg d (gwipe ρ vs) ρ2 js) ∧ (∀ j ∈ js, j ∈ vs) ∧ ∃ b s2, (∀ c, Eifs (F.blk scope c) ρ2 (st i) ifs b s2) ∧
    (b = true → ∃ y, (∀ c, Ed (F.blk scope c) ρ2 s2 elt y (st (i + 1))) ∧ out (i + 1) = out i ++ [y]) ∧ (b = false → st (i + 1) = s2 ∧ out (i + 1) = out i)
theorem comp_run {out : Nat → List D} {st : Nat → Sx} {own : List (Str × Nat)} (hi : Ei F ρ s tg iter items (st 0)) (hcmp : Comp F ρ scope (own.map (·.2)) tg ifs elt items out st) :
    ∀ O σ H, Fm F O σ H ρ s → ∀ Q : VK, (∀ a vs H', Fm F (a :: O) σ H' ρ (st items.length) → XE F H H' → H a = none → H' a = some (.lst vs) → Rps F.X.K F.p (a :: (O ++ F.S0)) H' vs (out items.length) → Q (.ref a) H') →
      tLc (WI F.X tg iter) (wgB F.X scope tg) (wtB F.X scope ifs) (weB F.X scope elt) (own.map (·.2)) σ H Q := by
  intro O σ H f Q q
  refine hi.2 O σ H f _ fun J H1 f1 x1 w A nA => ?_
  refine lc_it w (fun i H' => Fm F (A :: O) σ H' ρ (st i) ∧ XE F H1 H' ∧ ∃ vs, H' A = some (.lst vs) ∧ Rps F.X.K F.p (A :: (O ++ F.S0)) H' vs (out i)) ?_ ?_ ?_ ?_
  · exact ⟨f1.newO nA, .new nA, [], upd_same, by rw [hcmp.nil]; exact .nil⟩
  · rintro i H' _ ⟨_, x2, _⟩
    exact x2.xt
  · rintro i v H' H2 hi' ⟨f2, x2, ws, hA, rA⟩ ⟨ha, d, hd, hr⟩
    obtain ⟨ρ2, js, hg, hj, b, s2, ht, hy, hn⟩ := hcmp.turn i d hd
    have f3 := f2.all ha
    have x3 : XE F H1 H2 := x2.trans ⟨fun a o _ e _ => ha a o e, (xt_all (S := []) ha).2⟩
    have nA' : ¬ (F.act = true ∧ (A = F.p.1 ∨ A = F.p.2) ∧ A ∈ F.S0) := fun z => (f2.fre A List.mem_cons_self).2 z.2.2
    have r3 := hr (A :: O) fun a m => ⟨(List.mem_cons.mp m).elim (fun z => .inr (z ▸ nA)) .inl, f2.trk a (List.mem_append_left _ m)⟩
    have back : ∀ H4 s4, XE F H2 H4 → F.Sa (A :: O) H4 s4 → s4.isSome = F.act → Fm F (A :: O) σ H4 ρ s4 := fun H4 s4 x4 t4 k4 => by
      refine f3.grow ⟨fun a o e n nt => x4.1 a o (fun z => ?_) e nt, x4.2⟩ (f3.kd.trans k4.symm) t4
      rcases n with n | n
      · have q1 := f3.kd
        rw [n] at q1
        rw [← q1] at z
        cases z.1
      · exact n z.2.1
    have wf : Fm F (A :: O) (L2.wipe σ (own.map (·.2))) H2 (gwipe ρ (own.map (·.2))) (st i) := f3.wipe _
    intro c
    refine hg c (A :: O) _ H2 v (st i) wf.blk r3 _ fun σ2 f4 l4 e4 => ⟨wipe_eq (by rw [l4, wipe_length]) hj e4, fun c2 => ?_⟩
    have f4 : Fm F (A :: O) σ2 H2 ρ2 (st i) := f4.unblk
    have key : ∀ H3, Fm F (A :: O) σ2 H3 ρ2 s2 → XE F H2 H3 → (if b = true then weB F.X scope elt σ2 H3 fun y H4 => ∃ acc, H4 A = some (.lst acc) ∧ acc.length < sizeLine ∧ (Fm F (A :: O) σ (upd H4 A (.lst (acc ++ [y]))) ρ (st (i + 1)) ∧ XE F H1 (upd H4 A (.lst (acc ++ [y]))) ∧ ∃ vs, (upd H4 A (.lst (acc ++ [y]))) A = some (.lst vs) ∧ Rps F.X.K F.p (A :: (O ++ F.S0)) (upd H4 A (.lst (acc ++ [y]))) vs (out (i + 1)))
        else (Fm F (A :: O) σ H3 ρ (st (i + 1)) ∧ XE F H1 H3 ∧ ∃ vs, H3 A = some (.lst vs) ∧ Rps F.X.K F.p (A :: (O ++ F.S0)) H3 vs (out (i + 1)))) := by
      intro H3 f5 x5
      cases b with
      | true =>
        obtain ⟨y, hy1, hy2⟩ := hy rfl
        refine iteT fun c3 => (hy1 c3).2 (A :: O) σ2 H3 f5.blk _ fun u H4 f6 x6 r6 => ?_
        have f6 : Fm F (A :: O) σ2 H4 ρ2 (st (i + 1)) := f6.unblk
        have x6 : XE F H3 H4 := x6
        have x7 : XE F H2 H4 := x5.trans x6
        have hA4 : H4 A = some (.lst ws) := x7.1 _ _ nA' (ha _ _ hA) nt_lst
        have rA4 : Rps F.X.K F.p (A :: (O ++ F.S0)) H4 ws (out i) := (rA.ext (xt_all ha)).ext (x7.xt (O := A :: O))
        have hlen := hcmp.len (i + 1) (by have := (List.getElem?_eq_some_iff.mp hd).1; omega)
        refine ⟨ws, hA4, ?_, ?_⟩
        · rw [hy2, List.length_append] at hlen
          rw [rA4.length]
          exact Nat.lt_of_succ_le (by simpa using hlen)
        · have f7 := back H4 (st (i + 1)) x7 f6.st f6.kd
          have xm : XT (A :: O ++ F.S0) H4 (upd H4 A (.lst (ws ++ [u]))) := ⟨fun b o n h _ => by rw [upd_ne (show b ≠ A from fun z => n (by rw [z]; exact List.mem_cons_self))]; exact h, fun b h => upd_none h⟩
          refine ⟨?_, ?_, _, upd_same, ?_⟩
          · -- the new list holds one more
            refine ⟨⟨fun b o h n nt => ?_, fun b h => f7.ext.2 b (upd_none h)⟩, fun j g hgj => ?_, f7.own, f7.dis, f7.fre, fun b m => ?_, ?_, f7.pm, f7.kd⟩
            · rw [upd_ne (show b ≠ A from fun z => ?_)]
              · exact f7.ext.1 b o h n nt
              · rw [z, (f7.fre A List.mem_cons_self).1] at h; cases h
            · obtain ⟨o, ho, qs⟩ := f7.slot j g hgj
              refine ⟨o, ho, ?_⟩
              cases g with
              | no => trivial
              | val d =>
                obtain ⟨v, e, r'⟩ := qs
                exact ⟨v, e, r'.ext xm⟩
              | ow u es =>
                obtain ⟨b, us, e, m, hb, r', ft⟩ := qs
                subst e
                refine ⟨b, us, rfl, m, ?_, r'.ext xm, ft⟩
                rw [upd_ne (show b ≠ A from fun z => ?_)]
                · exact hb
                · have mo := f1.own j u es b hgj ho
                  rw [z] at mo
                  exact f1.fresh nA (List.mem_append_left _ mo)
            · obtain ⟨o, e⟩ := f7.trk b m
              by_cases z : b = A
              · rw [z]; exact ⟨_, upd_same⟩
              · exact ⟨o, by rw [upd_ne z]; exact e⟩
            · have qs := f7.st
              have pm := f7.pm
              revert qs pm
              cases st (i + 1) with
              | none => exact fun qs _ => tabs_upd qs hA4 nt_lst nc_lst
              | some ys =>
                rintro ⟨q1, q2, ws', q3, q4⟩ pm
                exact ⟨tabs_upd q1 hA4 nt_lst nc_lst, q2, ws', q3.out (pm rfl) (f7.fre A List.mem_cons_self).2, q4.ext xm⟩
          · have x8 := x3.trans x7
            exact ⟨fun b o n h nt => by rw [upd_ne (show b ≠ A from fun z => by rw [z, nA] at h; cases h)]; exact x8.1 b o n h nt, fun b h => x8.2 b (upd_none h)⟩
          · rw [hy2]
            exact (rA4.append (.one r6)).ext xm
      | false =>
        obtain ⟨hn1, hn2⟩ := hn rfl
        refine iteF ⟨?_, x3.trans x5, ws, x5.1 _ _ nA' (ha _ _ hA) nt_lst, ?_⟩
        · rw [hn1]; exact back H3 s2 x5 f5.st f5.kd
        · rw [hn2]; exact (rA.ext (xt_all ha)).ext (x5.xt (O := A :: O))
    rcases ht c2 with ⟨e1, e2, e3⟩ | ⟨c3, e1, e2⟩
    · subst e1
      have z := key H2 (by rw [e3]; exact f4) .refl
      subst e2
      exact wts pts_nil z
    · subst e1
      exact wts (pts_one pt_wt) (e2.2 (A :: O) σ2 H2 f4.blk _ fun H3 f5 x5 => key H3 f5.unblk x5)
  · rintro H' ⟨f2, x2, ws, hA, rA⟩
    exact q A ws H' f2 (x1.trans x2) (x1.2 A nA) hA rA
/-- [elt for tg in iter if ..], a new list -/
theorem el_comp {out : Nat → List D} {st : Nat → Sx} (own : List (Str × Nat)) (hc : F.X.calm = true) (hN : F.X.N.Nodup) (hi : Ei F ρ s tg iter items (st 0)) (ok : BlkOk F.X.N F.X.env.scope scope own) (hcmp : Comp F ρ scope (own.map (·.2)) tg ifs elt items out st)
    (kd : s.isSome = (st items.length).isSome) (hs : ∀ x, foldedSetIterable iter F.X.env x = pure x := by intro _; rfl) : El F ρ s (.ListComp elt [⟨tg, iter, ifs, 0⟩] scope pos) (out items.length) (st items.length) :=
  ⟨kd, fun O σ H f Q q => we (pe_lc hc hN pi_wi ok (fun s H C cl fp => ⟨fun pins s' σ H' v u Q I r h => h ⟨s, H, C, cl, fp⟩ pins s' u I r⟩) (fun s H C cl fp => ⟨fun pins s' σ H' Q I h => h ⟨s, H, C, cl, fp⟩ pins s' I⟩)
    (fun s H C cl fp => ⟨fun pins s' σ H' Q I h => h ⟨s, H, C, cl, fp⟩ pins s' I⟩) hs) (comp_run hi hcmp O σ H f Q q)⟩
/-- y = [elt for tg in iter if ..] -/
theorem bs_setLc (i : Nat) {y : Str} {py spos : Pos} {out : Nat → List D} {st : Nat → Sx} (own : List (Str × Nat)) (hc : F.X.calm = true) (hN : F.X.N.Nodup) (hy : F.X.N[i]? = some y) (hyl : F.X.env.scope.names.lookup y = some .local) (hsw : swapsWith (.ListComp elt [⟨tg, iter, ifs, 0⟩] scope pos) (some (.Name y py)) spos.line F.X.env = pure true)
    (hi : Ei F ρ s tg iter items (st 0)) (ok : BlkOk F.X.N F.X.env.scope scope own) (hcmp : Comp F ρ scope (own.map (·.2)) tg ifs elt items out st) (hk : k.nx (ρ.set i (.own (out items.length))) (st items.length)) (hs : ∀ x, foldedSetIterable iter F.X.env x = pure x := by intro _; rfl) :
    Bs F (.Assign [.Name y py] (.ListComp elt [⟨tg, iter, ifs, 0⟩] scope pos) spos) ρ s k :=
  fun O σ H f E q => ws (ps_setLc hc hN hy hyl hsw pi_wi ok (fun s H C cl fp => ⟨fun pins s' σ H' v u Q I r h => h ⟨s, H, C, cl, fp⟩ pins s' u I r⟩) (fun s H C cl fp => ⟨fun pins s' σ H' Q I h => h ⟨s, H, C, cl, fp⟩ pins s' I⟩)
    (fun s H C cl fp => ⟨fun pins s' σ H' Q I h => h ⟨s, H, C, cl, fp⟩ pins s' I⟩) hs) (comp_run hi hcmp O σ H f _ fun v vs H1 f1 x1 n1 h1 r1 => q.nx (v :: O) _ H1 _ _ (f1.setOwn List.mem_cons_self (f.notOwn n1) h1 r1)
      ⟨x1.xt, fun a m => (List.mem_cons.mp m).elim (fun z => .inr (z ▸ n1)) .inl⟩ hk)
/-- plain turns: each item d gives f d; nothing is drawn -/
theorem Comp.map {vs : List Nat} (f : D → D) (hl : items.length ≤ sizeLine) (h : ∀ (i : Nat) (d : D), items[i]? = some d → ∃ ρ2 js, (∀ c, Eg (F.blk scope c) tg d (gwipe ρ vs) ρ2 js) ∧ (∀ j ∈ js, j ∈ vs) ∧ ∀ c, Ed (F.blk scope c) ρ2 s elt (f d) s) :
    Comp F ρ scope vs tg [] elt items (fun i => (items.take i).map f) (fun _ => s) := by
  refine ⟨rfl, fun i hi => by simp; omega, fun i d hd => ?_⟩
  obtain ⟨ρ2, js, h1, h2, h3⟩ := h i d hd
  refine ⟨ρ2, js, h1, h2, true, s, fun c => .inl ⟨rfl, rfl, rfl⟩, fun _ => ⟨f d, h3, ?_⟩, fun z => by cases z⟩
  rw [List.take_add_one, hd]
  simp
/-- with a test -/
theorem Comp.filter {vs : List Nat} {c : Expr} (f : D → D) (g : D → Bool) (hl : items.length ≤ sizeLine) (h : ∀ (i : Nat) (d : D), items[i]? = some d → ∃ ρ2 js, (∀ c, Eg (F.blk scope c) tg d (gwipe ρ vs) ρ2 js) ∧ (∀ j ∈ js, j ∈ vs) ∧ (∀ b, Et (F.blk scope b) ρ2 s c (g d) s) ∧ (g d = true → ∀ c, Ed (F.blk scope c) ρ2 s elt (f d) s)) :
    Comp F ρ scope vs tg [c] elt items (fun i => ((items.take i).filter g).map f) (fun _ => s) := by
  refine ⟨rfl, fun i hi => ?_, fun i d hd => ?_⟩
  · have h1 := List.length_filter_le g (items.take i)
    have h2 := List.length_take_le' i items
    simp only [List.length_map]
    omega
  · obtain ⟨ρ2, js, h1, h2, h3, h4⟩ := h i d hd
    refine ⟨ρ2, js, h1, h2, g d, s, fun b => .inr ⟨c, rfl, h3 b⟩, fun e => ⟨f d, h4 e, ?_⟩, fun e => ⟨rfl, ?_⟩⟩
    · rw [List.take_add_one, hd]
      simp [e]
    · rw [List.take_add_one, hd]
      simp [e]
end
end Gh
set_option Elab.async false
set_option linter.all false
set_option maxRecDepth 100000
set_option maxHeartbeats 2000000
/-! zip of any two of lists and tuples; enumerate of a tuple -/
namespace Zm
open PySem PySem.Spec PyProof.Rows L2
/-- t: a tuple's, else a list's -/
def Src (t : Bool) (h : Heap) (l : Addr) (xs : Array Value) : Prop := if t = true then h.IsTuple l xs else h.IsList l xs
def Run (t : Bool) (h : Heap) (i l : Addr) (k : Nat) : Prop := if t = true then h.IsTupleIter i l k else h.IsListIter i l k
section
variable {t : Bool} {h h' : Heap} {i l b : Addr} {k : Nat} {xs : Array Value}
theorem Src.but (x : Src t h l xs) (e : Heap.ExtBut b h h') (n : l ≠ b) : Src t h' l xs := by
  cases t with
  | true => exact Heap.IsTuple.extBut x e n
  | false => exact Heap.IsList.extBut x e n
theorem Run.but (x : Run t h i l k) (e : Heap.ExtBut b h h') (n : i ≠ b) : Run t h' i l k := by
  cases t with
  | true => exact Heap.IsTupleIter.extBut x e n
  | false => exact Heap.IsListIter.extBut x e n
theorem Run.to (x : Run t h i l k) (e : ∀ o, h.get? i = some o → h'.get? i = some o) : Run t h' i l k := by
  cases t with
  | true => exact Heap.IsTupleIter.at x e
  | false => exact Heap.IsListIter.at x e
theorem Run.obj (x : Run t h i l k) : ∃ o vs, h.get? i = some o ∧ o.data = .fields vs := by
  cases t with
  | true => obtain ⟨o, e, _, d⟩ := (show h.IsTupleIter i l k from x); exact ⟨o, _, e, d⟩
  | false => obtain ⟨o, e, _, d⟩ := (show h.IsListIter i l k from x); exact ⟨o, _, e, d⟩
theorem Run.lt (x : Run t h i l k) : i < h.objs.size := by
  obtain ⟨o, _, e, _⟩ := x.obj
  exact Heap.lt_size e
end
section
variable {prog : Program} {w : World} {A : Around} {E : Value → Shared → Prop} {s : Shared}
theorem next_item {t : Bool} {i l : Addr} {k : Nat} {xs : Array Value} {x : Value} {Q : Value → Shared → Prop} (hi : Run t s.heap i l k) (hl : Src t s.heap l xs) (hx : xs[k]? = some x)
    (q : ∀ h', Run t h' i l (k + 1) → Heap.SameBut i s.heap h' → Q x { s with heap := h' }) : wpAny (model prog w) A (Builtin.SmallTypes.nextOf (.ref i)) Q E s := by
  cases t with
  | true => exact RZ.nextOf_tuple_item hi hl hx q
  | false => exact wpAny_nextOf_list_item hi hl hx q
theorem next_end {t : Bool} {i l : Addr} {k : Nat} {xs : Array Value} {Q : Value → Shared → Prop} (hh : A.handled = none) (hi : Run t s.heap i l k) (hl : Src t s.heap l xs) (hx : xs[k]? = none)
    (q : ∀ h' e, Heap.ExtBut i s.heap h' → (∃ o, h'.get? e = some o ∧ o.cls = .type "StopIteration") → E (.ref e) { s with heap := h' }) : wpAny (model prog w) A (Builtin.SmallTypes.nextOf (.ref i)) Q E s := by
  cases t with
  | true => exact RZ.nextOf_tuple_end hh hi hl hx q
  | false => exact wpAny_nextOf_list_end hh hi hl hx q
variable {t u : Bool} {z TI TO i1 i2 l1 l2 : Addr} {k1 k2 : Nat} {xs ys : Array Value} {a b : Value}
/-- a turn that gives a pair -/
theorem zip_item {x y : Value} {Q : Value → Shared → Prop} (D : ZipApart z TI TO i1 i2 l1 l2) (hz : IsZip s.heap z TI TO .none) (hTI : IsPair s.heap TI (.ref i1) (.ref i2)) (hTO : IsPair s.heap TO a b) (h1 : Run t s.heap i1 l1 k1) (h2 : Run u s.heap i2 l2 k2)
    (hl1 : Src t s.heap l1 xs) (hl2 : Src u s.heap l2 ys) (hx : xs[k1]? = some x) (hy : ys[k2]? = some y)
    (hQ : ∀ h', IsZip h' z TI TO (rawInt s.heap.objs.size) → IsPair h' TO x y → Run t h' i1 l1 (k1 + 1) → Run u h' i2 l2 (k2 + 1) → IsPair h' s.heap.objs.size x y → h'.objs.size = s.heap.objs.size + 1 →
      (∀ c o, c ≠ z → c ≠ TO → c ≠ i1 → c ≠ i2 → s.heap.get? c = some o → h'.get? c = some o) → Q (.ref s.heap.objs.size) { s with heap := h' }) :
    wpAny (model prog w) A (Builtin.«zip.__next__» ⟨[.ref z], []⟩) (fun fin s' => ∃ v, fin = .done (.ret v) ∧ Q v s') E s := by
  show wpAny _ _ (field (.ref z) 2 >>= _) _ _ _
  refine wpAny_bind (wpAny_field hz rfl (x := .bool false) rfl ?_)
  show wpAny _ _ (field (.ref z) 3 >>= _) _ _ _
  refine wpAny_bind (wpAny_field hz rfl (x := .ref TI) rfl (wpAny_bind (wpAny_seqItems hTI rfl ?_)))
  show wpAny _ _ (Builtin.SmallTypes.ownedTupleIsFree (.ref z) >>= _) _ _ _
  refine wpAny_bind ?_
  unfold Builtin.SmallTypes.ownedTupleIsFree
  refine wpAny_bind (wpAny_field hz rfl (x := .none) rfl (wpAny_pure ?_))
  simp only [if_true]
  refine wpAny_bind (wpAny_rule (wpAny_bind (wpAny_field hz rfl (x := .ref TO) rfl (wpAny_bind (wpAny_setField_rec hz (by simp) fun g1 z1 s1 => ?_)))))
  replace z1 : IsZip g1 z TI TO .ellipsis := z1
  refine wpAny_bind ?_
  simp only [List.zipIdx_cons, List.zipIdx_nil, List.forIn_cons, List.forIn_nil]
  refine wpAny_bind (wpAny_bind (wpAny_onRaise ?_))
  show wpAny _ _ (Builtin.SmallTypes.nextOf (.ref i1) >>= _) _ _ _
  refine wpAny_bind (next_item (h1.but s1.extBut D.i1z) (hl1.but s1.extBut D.l1z) hx fun g2 r2 s2 => wpAny_pure ?_)
  have p2 : IsPair g2 TO a b := s2.extBut _ _ D.TOi1 (s1.extBut _ _ D.TOz hTO)
  refine wpAny_bind (wpAny_seqItems p2 rfl (wpAny_bind (wpAny_updateSeq_pair p2 fun g3 p3 s3 => ?_)))
  replace p3 : IsPair g3 TO x b := p3
  refine wpAny_bind (wpAny_letGo (wpAny_pure (wpAny_bind (wpAny_bind (wpAny_onRaise ?_)))))
  show wpAny _ _ (Builtin.SmallTypes.nextOf (.ref i2) >>= _) _ _ _
  refine wpAny_bind (next_item (((h2.but s1.extBut D.i2z).but s2.extBut D.i12.symm).but s3.extBut D.TOi2.symm) (((hl2.but s1.extBut D.l2z).but s2.extBut D.l2i1).but s3.extBut D.l2TO) hy fun g4 r4 s4 => wpAny_pure ?_)
  have p4 : IsPair g4 TO x b := s4.extBut _ _ D.TOi2 p3
  refine wpAny_bind (wpAny_seqItems p4 rfl (wpAny_bind (wpAny_updateSeq_pair p4 fun g5 p5 s5 => ?_)))
  replace p5 : IsPair g5 TO x y := p5
  refine wpAny_bind (wpAny_letGo (wpAny_pure (wpAny_pure (wpAny_bind (wpAny_seqItems p5 rfl (wpAny_bind (wpAny_newTuple ?_)))))))
  have sz : g5.objs.size = s.heap.objs.size := by rw [s5.1, s4.1, s3.1, s2.1, s1.1]
  have z5 : IsZip g5 z TI TO .ellipsis := s5.extBut _ _ D.TOz.symm (s4.extBut _ _ D.i2z.symm (s3.extBut _ _ D.TOz.symm (s2.extBut _ _ D.i1z.symm z1)))
  have r1' : Run t g5 i1 l1 (k1 + 1) := ((r2.but s3.extBut D.TOi1.symm).but s4.extBut D.i12).but s5.extBut D.TOi1.symm
  have r2' : Run u g5 i2 l2 (k2 + 1) := r4.but s5.extBut D.TOi2.symm
  have zlt : z < g5.objs.size := Heap.lt_size z5
  show wpAny _ _ (Builtin.SmallTypes.ownedTupleHandOut (.ref z) (.ref g5.objs.size) >>= _) _ _ _
  refine wpAny_bind ?_
  unfold Builtin.SmallTypes.ownedTupleHandOut
  have z6 : IsZip (g5.push { cls := .type "tuple", data := .seq #[x, y] }) z TI TO .ellipsis := Heap.get?_push_of_some _ z5
  refine wpAny_bind (wpAny_setField_rec z6 (by simp) fun g7 z7 s7 => ?_)
  replace z7 : IsZip g7 z TI TO (rawInt g5.objs.size) := z7
  refine wpAny_setField_rec z7 (by simp) fun g8 z8 s8 => ?_
  replace z8 : IsZip g8 z TI TO (rawInt g5.objs.size) := z8
  have up : ∀ c o, c ≠ z → g5.get? c = some o → g8.get? c = some o := fun c o n e => s8.extBut _ _ n (s7.extBut _ _ n (Heap.get?_push_of_some _ e))
  have p8 : IsPair g8 g5.objs.size x y := s8.extBut _ _ (Nat.ne_of_gt zlt) (s7.extBut _ _ (Nat.ne_of_gt zlt) (Heap.get?_push_size _ rfl))
  have sz8 : g8.objs.size = g5.objs.size + 1 := by rw [s8.1, s7.1, Heap.size_push]
  rw [sz] at z8 p8 sz8
  refine wpAny_pure ⟨_, rfl, ?_⟩
  show Q (.ref g5.objs.size) _
  rw [sz]
  exact hQ g8 z8 (up _ _ D.TOz p5) (r1'.to fun o e => up _ o D.i1z e) (r2'.to fun o e => up _ o D.i2z e) p8 sz8 fun c o n1 n2 n3 n4 e =>
    up c o n1 (s5.extBut _ _ n2 (s4.extBut _ _ n4 (s3.extBut _ _ n2 (s2.extBut _ _ n3 (s1.extBut _ _ n1 e)))))
/-- the turn at which one of both is through -/
theorem zip_end {Q : Fin → Shared → Prop} (hh : A.handled = none) (D : ZipApart z TI TO i1 i2 l1 l2) (hz : IsZip s.heap z TI TO .none) (hTI : IsPair s.heap TI (.ref i1) (.ref i2)) (hTO : IsPair s.heap TO a b) (h1 : Run t s.heap i1 l1 k1) (h2 : Run u s.heap i2 l2 k2)
    (hl1 : Src t s.heap l1 xs) (hl2 : Src u s.heap l2 ys) (hend : xs[k1]? = none ∨ ys[k2]? = none)
    (hE : ∀ h' e, (∀ c o, c ≠ z → c ≠ TO → c ≠ i1 → c ≠ i2 → s.heap.get? c = some o → h'.get? c = some o) → (∃ o, h'.get? e = some o ∧ o.cls = .type "StopIteration") → E (.ref e) { s with heap := h' }) :
    wpAny (model prog w) A (Builtin.«zip.__next__» ⟨[.ref z], []⟩) Q E s := by
  show wpAny _ _ (field (.ref z) 2 >>= _) _ _ _
  refine wpAny_bind (wpAny_field hz rfl (x := .bool false) rfl ?_)
  show wpAny _ _ (field (.ref z) 3 >>= _) _ _ _
  refine wpAny_bind (wpAny_field hz rfl (x := .ref TI) rfl (wpAny_bind (wpAny_seqItems hTI rfl ?_)))
  show wpAny _ _ (Builtin.SmallTypes.ownedTupleIsFree (.ref z) >>= _) _ _ _
  refine wpAny_bind ?_
  unfold Builtin.SmallTypes.ownedTupleIsFree
  refine wpAny_bind (wpAny_field hz rfl (x := .none) rfl (wpAny_pure ?_))
  simp only [if_true]
  refine wpAny_bind (wpAny_rule (wpAny_bind (wpAny_field hz rfl (x := .ref TO) rfl (wpAny_bind (wpAny_setField_rec hz (by simp) fun g1 z1 s1 => ?_)))))
  replace z1 : IsZip g1 z TI TO .ellipsis := z1
  refine wpAny_bind ?_
  simp only [List.zipIdx_cons, List.zipIdx_nil, List.forIn_cons, List.forIn_nil]
  refine wpAny_bind (wpAny_bind (wpAny_onRaise ?_))
  show wpAny _ _ (Builtin.SmallTypes.nextOf (.ref i1) >>= _) _ _ _
  cases hx : xs[k1]? with
  | none =>
    refine wpAny_bind (next_end hh (h1.but s1.extBut D.i1z) (hl1.but s1.extBut D.l1z) hx fun g2 e s2 he => ?_)
    obtain ⟨oe, hoe, hce⟩ := he
    have z2 : IsZip g2 z TI TO .ellipsis := s2 _ _ D.i1z.symm z1
    have ne : e ≠ z := fun q => by subst q; rw [z2] at hoe; cases hoe; simp at hce
    exact wpAny_setField_rec z2 (by simp) fun g3 _ s3 => hE g3 e (fun c o n1 _ n3 _ q => s3.extBut _ _ n1 (s2 _ _ n3 (s1.extBut _ _ n1 q))) ⟨oe, s3.extBut _ _ ne hoe, hce⟩
  | some x =>
    have hy : ys[k2]? = none := by rcases hend with h | h; rw [hx] at h; cases h; exact h
    refine wpAny_bind (next_item (h1.but s1.extBut D.i1z) (hl1.but s1.extBut D.l1z) hx fun g2 r2 s2 => wpAny_pure ?_)
    have p2 : IsPair g2 TO a b := s2.extBut _ _ D.TOi1 (s1.extBut _ _ D.TOz hTO)
    refine wpAny_bind (wpAny_seqItems p2 rfl (wpAny_bind (wpAny_updateSeq_pair p2 fun g3 p3 s3 => ?_)))
    refine wpAny_bind (wpAny_letGo (wpAny_pure (wpAny_bind (wpAny_bind (wpAny_onRaise ?_)))))
    show wpAny _ _ (Builtin.SmallTypes.nextOf (.ref i2) >>= _) _ _ _
    refine wpAny_bind (next_end hh (((h2.but s1.extBut D.i2z).but s2.extBut D.i12.symm).but s3.extBut D.TOi2.symm) (((hl2.but s1.extBut D.l2z).but s2.extBut D.l2i1).but s3.extBut D.l2TO) hy fun g4 e s4 he => ?_)
    obtain ⟨oe, hoe, hce⟩ := he
    have z4 : IsZip g4 z TI TO .ellipsis := s4 _ _ D.i2z.symm (s3.extBut _ _ D.TOz.symm (s2.extBut _ _ D.i1z.symm z1))
    have ne : e ≠ z := fun q => by subst q; rw [z4] at hoe; cases hoe; simp at hce
    exact wpAny_setField_rec z4 (by simp) fun g5 _ s5 => hE g5 e (fun c o n1 n2 n3 n4 q => s5.extBut _ _ n1 (s4 _ _ n4 (s3.extBut _ _ n2 (s2.extBut _ _ n3 (s1.extBut _ _ n1 q))))) ⟨oe, s5.extBut _ _ ne hoe, hce⟩
theorem py_item {x y : Value} {Q : Option Value → Shared → Prop} (D : ZipApart z TI TO i1 i2 l1 l2) (hz : IsZip s.heap z TI TO .none) (hTI : IsPair s.heap TI (.ref i1) (.ref i2)) (hTO : IsPair s.heap TO a b) (h1 : Run t s.heap i1 l1 k1) (h2 : Run u s.heap i2 l2 k2)
    (hl1 : Src t s.heap l1 xs) (hl2 : Src u s.heap l2 ys) (hx : xs[k1]? = some x) (hy : ys[k2]? = some y)
    (hQ : ∀ h', IsZip h' z TI TO (rawInt s.heap.objs.size) → IsPair h' TO x y → Run t h' i1 l1 (k1 + 1) → Run u h' i2 l2 (k2 + 1) → IsPair h' s.heap.objs.size x y → h'.objs.size = s.heap.objs.size + 1 →
      (∀ c o, c ≠ z → c ≠ TO → c ≠ i1 → c ≠ i2 → s.heap.get? c = some o → h'.get? c = some o) → Q (some (.ref s.heap.objs.size)) { s with heap := h' }) : wpAny (model prog w) A (pyNext (.ref z)) Q E s := by
  have hT : s.TypeIs (.ref z) "zip" := ⟨_, hz, rfl⟩
  unfold pyNext
  refine wpAny_bind (wpAny_attempt (wpAny_callSpecial?_slot (name := Str.ofString "__next__") hT F.slot_zip_next (wpAny_call_entry F.slot_zip_next hT F.entry_zip_next ?_ (F.args_zip_next_1 _))))
  exact zip_item D hz hTI hTO h1 h2 hl1 hl2 hx hy fun h' a1 a2 a3 a4 a5 a6 a7 => wpAny_pure (hQ h' a1 a2 a3 a4 a5 a6 a7)
theorem py_end {Q : Option Value → Shared → Prop} (hh : A.handled = none) (D : ZipApart z TI TO i1 i2 l1 l2) (hz : IsZip s.heap z TI TO .none) (hTI : IsPair s.heap TI (.ref i1) (.ref i2)) (hTO : IsPair s.heap TO a b) (h1 : Run t s.heap i1 l1 k1) (h2 : Run u s.heap i2 l2 k2)
    (hl1 : Src t s.heap l1 xs) (hl2 : Src u s.heap l2 ys) (hend : xs[k1]? = none ∨ ys[k2]? = none) (hQ : ∀ h', (∀ c o, c ≠ z → c ≠ TO → c ≠ i1 → c ≠ i2 → s.heap.get? c = some o → h'.get? c = some o) → Q none { s with heap := h' }) : wpAny (model prog w) A (pyNext (.ref z)) Q E s := by
  have hT : s.TypeIs (.ref z) "zip" := ⟨_, hz, rfl⟩
  unfold pyNext
  refine wpAny_bind (wpAny_attempt (wpAny_callSpecial?_slot (name := Str.ofString "__next__") hT F.slot_zip_next (wpAny_call_entry F.slot_zip_next hT F.entry_zip_next ?_ (F.args_zip_next_1 _))))
  refine zip_end hh D hz hTI hTO h1 h2 hl1 hl2 hend fun h' e hk he => ?_
  obtain ⟨o, ho, hc⟩ := he
  exact wpAny_bind (wpAny_isInstance (T := "StopIteration") (b := true) ⟨o, ho, hc⟩ isSubtype_stop (wpAny_pure (hQ _ hk)))
end
/-! the making -/
def itN (t : Bool) : String := if t = true then "tuple_iterator" else "list_iterator"
abbrev m1 (t : Bool) (h : Heap) (l1 : Addr) : Heap := h.push { cls := .type (itN t), data := .fields #[.ref l1, .int 0 0] }
abbrev m2 (t u : Bool) (h : Heap) (l1 l2 : Addr) : Heap := (m1 t h l1).push { cls := .type (itN u), data := .fields #[.ref l2, .int 0 0] }
abbrev m3 (t u : Bool) (h : Heap) (l1 l2 : Addr) : Heap := (m2 t u h l1 l2).push { cls := .type "tuple", data := .seq #[.ref h.objs.size, .ref (m1 t h l1).objs.size] }
abbrev m4 (t u : Bool) (h : Heap) (l1 l2 : Addr) : Heap := (m3 t u h l1 l2).push { cls := .type "tuple", data := .seq #[.none, .none] }
abbrev m5 (t u : Bool) (h : Heap) (l1 l2 : Addr) : Heap := (m4 t u h l1 l2).push { cls := .type "zip", data := .fields #[.none, .bool false, .bool false, .ref (m2 t u h l1 l2).objs.size, .ref (m3 t u h l1 l2).objs.size] }
theorem made (t u : Bool) (l1 l2 : Addr) (xs ys : Array Value) : Meets (Builtin.«zip.__new__» ⟨[.type "zip", .ref l1, .ref l2], []⟩) (fun _ R s => Src t s.heap l1 xs ∧ Src u s.heap l2 ys ∧ R (.ok (.ret (.ref (m4 t u s.heap l1 l2).objs.size))) { s with heap := m5 t u s.heap l1 l2 }) :=
  .of_wp fun prog w A R s h => by
    obtain ⟨hp, g, d, tk, os⟩ := s; obtain ⟨hl1, hl2, h⟩ := h
    have hsub := sub_zip
    cases t with
    | true =>
      have e1 : Heap.IsTuple (Shared.heap ⟨hp, g, d, tk, os⟩) l1 xs := hl1
      cases u with
      | true =>
        have e2 : Heap.IsTuple (Shared.heap ⟨hp.push { cls := .type "tuple_iterator", data := .fields #[.ref l1, .int 0 0] }, g, d, tk, os⟩) l2 ys := Heap.IsTuple.push hl2 _
        wp_walk using wpAny_pyIter_tuple e1, wpAny_pyIter_tuple e2
        exact ⟨_, rfl, h⟩
      | false =>
        have e2 : Heap.IsList (Shared.heap ⟨hp.push { cls := .type "tuple_iterator", data := .fields #[.ref l1, .int 0 0] }, g, d, tk, os⟩) l2 ys := Heap.IsList.push hl2 _
        wp_walk using wpAny_pyIter_tuple e1, wpAny_pyIter_list e2
        exact ⟨_, rfl, h⟩
    | false =>
      have e1 : Heap.IsList (Shared.heap ⟨hp, g, d, tk, os⟩) l1 xs := hl1
      cases u with
      | true =>
        have e2 : Heap.IsTuple (Shared.heap ⟨hp.push { cls := .type "list_iterator", data := .fields #[.ref l1, .int 0 0] }, g, d, tk, os⟩) l2 ys := Heap.IsTuple.push hl2 _
        wp_walk using wpAny_pyIter_list e1, wpAny_pyIter_tuple e2
        exact ⟨_, rfl, h⟩
      | false =>
        have e2 : Heap.IsList (Shared.heap ⟨hp.push { cls := .type "list_iterator", data := .fields #[.ref l1, .int 0 0] }, g, d, tk, os⟩) l2 ys := Heap.IsList.push hl2 _
        wp_walk using wpAny_pyIter_list e1, wpAny_pyIter_list e2
        exact ⟨_, rfl, h⟩
theorem run0 {t : Bool} {h : Heap} {i l : Addr} (e : h.get? i = some { cls := .type (itN t), data := .fields #[.ref l, .int 0 0] }) : Run t h i l 0 := by
  cases t with
  | true => exact ⟨_, e, rfl, rfl⟩
  | false => exact ⟨_, e, rfl, rfl⟩
section
variable {prog : Program} {w : World} {A : Around} {E : Value → Shared → Prop} {s : Shared}
theorem call_zip {t u : Bool} {l1 l2 : Addr} {xs ys : Array Value} {Q : Value → Shared → Prop} (hl1 : Src t s.heap l1 xs) (hl2 : Src u s.heap l2 ys)
    (h : ∀ h', IsZip h' (s.heap.objs.size + 4) (s.heap.objs.size + 2) (s.heap.objs.size + 3) .none → IsPair h' (s.heap.objs.size + 2) (.ref s.heap.objs.size) (.ref (s.heap.objs.size + 1)) → IsPair h' (s.heap.objs.size + 3) .none .none →
      Run t h' s.heap.objs.size l1 0 → Run u h' (s.heap.objs.size + 1) l2 0 → h'.objs.size = s.heap.objs.size + 5 → (∀ c o, s.heap.get? c = some o → h'.get? c = some o) → Q (.ref (s.heap.objs.size + 4)) { s with heap := h' }) :
    wpAny (model prog w) A (call (.type "zip") [.ref l1, .ref l2]) Q E s := by
  refine callType_new F.called_zip (by decide) (F.typeCall_zip_2 _ _) (F.newCall_zip_2 _ _) (fun obj => F.args_object_init_3 obj _ _) F.entry_zip_new (made t u l1 l2 xs ys) ⟨hl1, hl2, ?_⟩
  have n1 : (m1 t s.heap l1).objs.size = s.heap.objs.size + 1 := Heap.size_push ..
  have n2 : (m2 t u s.heap l1 l2).objs.size = s.heap.objs.size + 2 := by rw [Heap.size_push, n1]
  have n3 : (m3 t u s.heap l1 l2).objs.size = s.heap.objs.size + 3 := by rw [Heap.size_push, n2]
  have n4 : (m4 t u s.heap l1 l2).objs.size = s.heap.objs.size + 4 := by rw [Heap.size_push, n3]
  have n5 : (m5 t u s.heap l1 l2).objs.size = s.heap.objs.size + 5 := by rw [Heap.size_push, n4]
  have q5 : (m5 t u s.heap l1 l2).get? (m4 t u s.heap l1 l2).objs.size = some _ := Heap.get?_push_size _ rfl
  have q4 : (m5 t u s.heap l1 l2).get? (m3 t u s.heap l1 l2).objs.size = some _ := Heap.get?_push_of_some _ (Heap.get?_push_size _ rfl)
  have q3 : (m5 t u s.heap l1 l2).get? (m2 t u s.heap l1 l2).objs.size = some _ := Heap.get?_push_of_some _ (Heap.get?_push_of_some _ (Heap.get?_push_size _ rfl))
  have q2 : (m5 t u s.heap l1 l2).get? (m1 t s.heap l1).objs.size = some _ := Heap.get?_push_of_some _ (Heap.get?_push_of_some _ (Heap.get?_push_of_some _ (Heap.get?_push_size _ rfl)))
  have q1 : (m5 t u s.heap l1 l2).get? s.heap.objs.size = some _ := Heap.get?_push_of_some _ (Heap.get?_push_of_some _ (Heap.get?_push_of_some _ (Heap.get?_push_of_some _ (Heap.get?_push_size _ rfl))))
  show _ ∧ _
  rw [n2, n3, n4] at q5
  rw [n1, n2] at q3
  rw [n3] at q4
  rw [n1] at q2
  rw [n4]
  exact ⟨⟨_, q5, rfl⟩, h _ q5 q3 q4 (run0 q1) (run0 q2) n5 fun c o x => Heap.get?_push_of_some _ (Heap.get?_push_of_some _ (Heap.get?_push_of_some _ (Heap.get?_push_of_some _ (Heap.get?_push_of_some _ x))))⟩
end
/-! the walk over the layer -/
def Sq (t : Bool) (K : PySem.W.Frag) (H : Hp) (a : Addr) (xs : List V) : Prop := if t = true then SqT K H a xs else SqL K H a xs
section
variable {X : Cx} {pins : List (Addr × Obj)} {σ : L2.St} {H : Hp} {s : Shared}
theorem Sq.get {t : Bool} {a : Addr} {xs : List V} (I : Inv X pins σ H s) (h : Sq t X.K H a xs) : ∃ its, Vals xs its ∧ Src t s.heap a its.toArray ∧ a < s.heap.objs.size := by
  cases t with
  | true =>
    obtain ⟨its, rv, p, _⟩ := I.tuple (show SqT X.K H a xs from h)
    obtain ⟨o, ho, _⟩ := id p
    exact ⟨its, rv, p, Heap.lt_size ho⟩
  | false =>
    obtain ⟨its, rv, p, _⟩ := I.list (show SqL X.K H a xs from h)
    exact ⟨its, rv, p.isList, p.lt⟩
theorem Sq.inj {t : Bool} {a : Addr} {xs ys : List V} (I : Inv X pins σ H s) (h : Sq t X.K H a xs) (h' : Sq t X.K H a ys) : xs = ys := by
  cases t with
  | true => exact I.tuple_inj h h'
  | false => exact I.list_inj h h'
end
def Itm (t u : Bool) (K : PySem.W.Frag) (a b : Addr) : It :=
  ⟨fun i H => ∃ (xs ys : List V) (x y : V), Sq t K H a xs ∧ Sq u K H b ys ∧ xs[i]? = some x ∧ ys[i]? = some y,
    fun i H v H' => ∃ T x y, v = .ref T ∧ H T = none ∧ H' = upd H T (.tup [x, y]) ∧ (∀ xs, Sq t K H a xs → xs[i]? = some x) ∧ ∀ ys, Sq u K H b ys → ys[i]? = some y,
    fun i H => ∃ xs ys : List V, Sq t K H a xs ∧ Sq u K H b ys ∧ (xs.length ≤ i ∨ ys.length ≤ i)⟩
theorem turn {P : Program} {w : World} {K : PySem.W.Frag} {elts : List Expr} {kk : Nat} {tpos : Pos} {t u : Bool} {a b z TI TO i1 i2 : Addr} (D : ZipApart z TI TO i1 i2 a b) :
    Turn P w K (.Tuple elts kk tpos) (Itm t u K a b) [z, TI, TO, i1, i2] z (fun i h => IsZip h z TI TO .none ∧ IsPair h TI (.ref i1) (.ref i2) ∧ (∃ x y, IsPair h TO x y) ∧ Run t h i1 a i ∧ Run u h i2 b i) where
  mem := by simp
  obj := fun i h st c hc => by
    obtain ⟨hz, hTI, ⟨x, y, hTO⟩, r1, r2⟩ := st
    obtain ⟨o1, f1, e1, d1⟩ := r1.obj
    obtain ⟨o2, f2, e2, d2⟩ := r2.obj
    simp only [List.mem_cons, List.not_mem_nil, or_false] at hc
    rcases hc with q | q | q | q | q
    · rw [q]; exact ⟨_, hz, fun v q => nomatch q⟩
    · rw [q]; exact ⟨_, hTI, fun v q => nomatch q⟩
    · rw [q]; exact ⟨_, hTO, fun v q => nomatch q⟩
    · rw [q]; exact ⟨o1, e1, fun v q => by rw [d1] at q; cases q⟩
    · rw [q]; exact ⟨o2, e2, fun v q => by rw [d2] at q; cases q⟩
  keep := fun i h h' st k => by
    obtain ⟨hz, hTI, ⟨x, y, hTO⟩, h1, h2⟩ := st
    exact ⟨k z (by simp) _ hz, k TI (by simp) _ hTI, ⟨x, y, k TO (by simp) _ hTO⟩, h1.to fun o q => k i1 (by simp) o q, h2.to fun o q => k i2 (by simp) o q⟩
  item := by
    intro X hP hw hK hc i pins s σ H E I hf st hg
    subst hP hw hK
    obtain ⟨hz, hTI, ⟨x0, y0, hTO⟩, h1, h2⟩ := st
    obtain ⟨xs, ys, x, y, hqx, hqy, hx, hy⟩ := hg
    obtain ⟨its, rv, p, _⟩ := hqx.get I
    obtain ⟨its2, rv2, p2, _⟩ := hqy.get I
    obtain ⟨v1, hu, ru⟩ := rv.get hx
    obtain ⟨v2, hu2, ru2⟩ := rv2.get hy
    have zl : z < s.heap.objs.size := Heap.lt_size hz
    refine py_item D hz hTI hTO h1 h2 p p2 (x := v1) (y := v2) (by simpa using hu) (by simpa using hu2) fun h' z' TO' h1' h2' hT hsz hk => ?_
    refine ⟨_, rfl, wpAny_letOwnedTupleGo_zip (s := { s with heap := h' }) z' fun h'' z'' sb => ?_⟩
    have hT2 : h''.get? s.heap.objs.size = some { cls := .type "tuple", data := .seq #[v1, v2] } := (sb.2 _ (Nat.ne_of_gt zl)).trans hT
    have new : ObjOk X.prog X.w (upd H s.heap.objs.size (.tup [x, y])) h'' s.heap.objs.size (.tup [x, y]) := ⟨by show 2 ≤ sizeLine; decide, [v1, v2], .cons ru (.cons ru2 .nil), ⟨_, hT2, rfl, _, rfl⟩⟩
    have I1 : Inv X pins σ (upd H s.heap.objs.size (.tup [x, y])) { s with heap := h'' } := I.turnedNew (t' := s.toks) (ch := [z, TI, TO, i1, i2])
      (fun c o hb q => (sb.2 c (fun q' => hb (by simp [q']))).trans (hk c o (fun q' => hb (by simp [q'])) (fun q' => hb (by simp [q'])) (fun q' => hb (by simp [q'])) (fun q' => hb (by simp [q'])) q)) hf (Nat.le_refl _) new
    refine ⟨.ref s.heap.objs.size, _, I1, rfl, ⟨_, x, y, rfl, I.hok.fresh (Nat.le_refl _), rfl, fun l hl => by rw [hl.inj I hqx]; exact hx, fun l hl => by rw [hl.inj I hqy]; exact hy⟩, ⟨z'', ?_, ⟨v1, v2, ?_⟩, ?_, ?_⟩, fun c hcm => ?_⟩
    · exact (sb.2 _ D.TIz).trans (hk _ _ D.TIz D.TITO D.TIi1 D.TIi2 hTI)
    · exact (sb.2 _ D.TOz).trans TO'
    · exact h1'.to fun o q => (sb.2 _ D.i1z).trans q
    · exact h2'.to fun o q => (sb.2 _ D.i2z).trans q
    · have hlt : c < s.heap.objs.size := by
        simp only [List.mem_cons, List.not_mem_nil, or_false] at hcm
        rcases hcm with q | q | q | q | q
        · rw [q]; exact zl
        · rw [q]; exact Heap.lt_size hTI
        · rw [q]; exact Heap.lt_size hTO
        · rw [q]; exact h1.lt
        · rw [q]; exact h2.lt
      rw [upd_ne (Nat.ne_of_lt hlt)]
      exact (hf c hcm).1
  done := by
    intro X hP hw hK hc i pins s σ H E I hf st hg
    subst hP hw hK
    obtain ⟨hz, hTI, ⟨x0, y0, hTO⟩, h1, h2⟩ := st
    obtain ⟨xs, ys, hqx, hqy, hend⟩ := hg
    obtain ⟨its, rv, p, _⟩ := hqx.get I
    obtain ⟨its2, rv2, p2, _⟩ := hqy.get I
    have l1 := rv.length
    have l2 := rv2.length
    have he : its.toArray[i]? = none ∨ its2.toArray[i]? = none := by
      rcases hend with q | q
      · exact .inl (by simp; omega)
      · exact .inr (by simp; omega)
    exact py_end (I.ok.hd hc) D hz hTI hTO h1 h2 p p2 he fun h' hk => ⟨rfl, I.turnedL (t' := s.toks) (ch := [z, TI, TO, i1, i2]) (fun c o hb q =>
      hk c o (fun q' => hb (by simp [q'])) (fun q' => hb (by simp [q'])) (fun q' => hb (by simp [q'])) (fun q' => hb (by simp [q'])) q) hf⟩
  self := fun A i s Q E st h => wpAny_pyIter_zip st.1 h
def iZipM (K : PySem.W.Frag) (ta : TA) : TI := fun σ H R => ta σ H fun vs H1 => ∃ t u a b xs ys, vs = [.ref a, .ref b] ∧ Sq t K H1 a xs ∧ Sq u K H1 b ys ∧ R (Itm t u K a b) H1
theorem pi_zipM {X : Cx} {e e2 : Expr} {ta : TA} {p pos tpos : Pos} {elts : List Expr} {kk : Nat} (hg : Gl X "zip") (hm : X.mg "zip" = none) (ha : PA X [e, e2] ta)
    (hs : starEach [e, e2] X.env = (false, eval e X.env) :: starEach [e2] X.env := by rfl) (hpl : (backTo pos (starEach [e2] X.env)).any (·.1) = false := by rfl) : PI X (.Tuple elts kk tpos) (.Call (.Name "zip" p) [e, e2] [] pos) (iZipM X.K ta) := by
  refine ⟨fun pins s σ H R I h => ?_⟩
  refine Call_ (ld_blt I hg hm PyProof.Rows.boot_zip (PyProof.Rows.callWith_type1 (thn (ha.run pos pins s σ H _ I h) fun us s1 ⟨vs, H1, I1, r1, q1⟩ => ?_) hs hpl))
  obtain ⟨t, u, a, b, xs, ys, ex, hqx, hqy, q⟩ := q1
  subst ex
  cases r1 with
  | cons r rr =>
    cases rr with
    | cons r' rr =>
      cases rr; cases r; cases r'
      obtain ⟨its, rv, p1, la⟩ := hqx.get I1
      obtain ⟨its2, rv2, p2, lb⟩ := hqy.get I1
      refine call_zip p1 p2 fun h' hz hTI hTO h1 h2 hsz hk => wpAny_pyIter_zip hz ?_
      have I2 : Inv X pins σ H1 { s1 with heap := h' } := I1.kept (t' := s1.toks) hk
      refine ⟨s1.heap.objs.size + 4, [s1.heap.objs.size + 4, s1.heap.objs.size + 2, s1.heap.objs.size + 3, s1.heap.objs.size, s1.heap.objs.size + 1], _, _, H1, rfl, I2, turn (PySem.W.ktu_apart s1.heap.objs.size a b la lb), ⟨hz, hTI, ⟨_, _, hTO⟩, h1, h2⟩, fun c hcm => ?_, q⟩
      have hle : s1.heap.objs.size ≤ c := by
        simp only [List.mem_cons, List.not_mem_nil, or_false] at hcm
        rcases hcm with z | z | z | z | z <;> rw [z] <;> first | exact Nat.le_add_right _ _ | exact Nat.le_refl _
      exact I1.fpOk hle (I1.hok.fresh hle)
theorem walk {t u : Bool} {K : PySem.W.Frag} {a b : Addr} {xs ys : List V} {n : Nat} (hn : n = min xs.length ys.length) : Walk (Itm t u K a b) n (fun H => Sq t K H a xs ∧ Sq u K H b ys) (YPair (fun i => xs[i]?) (fun i => ys[i]?)) := by
  subst hn
  refine ⟨fun i _ hi q => ?_, fun _ q => ⟨xs, ys, q.1, q.2, by omega⟩, fun i H v H' _ q y => ?_⟩
  · have h1 : i < xs.length := by omega
    have h2 : i < ys.length := by omega
    exact ⟨xs, ys, xs[i], ys[i], q.1, q.2, by simp [h1], by simp [h2]⟩
  · obtain ⟨T, x, z, h1, h2, h3, h4, h5⟩ := y
    exact ⟨T, x, z, h1, h2, h3, h4 xs q.1, h5 ys q.2⟩
end Zm
namespace Gh
open PySem PySem.Spec PyProof.Rows L2
section
variable {F : Fx} {ρ : List G} {s s1 s2 s3 : Sx} {a b e : Expr} {x y d : D} {xs ys : List D} {pos p : Pos}
theorem rp_sq {K : PySem.W.Frag} {q : Pa} {S : List Addr} {H1 : Hp} {v : V} (r : Rp K q S H1 v x) (hx : x = .lst xs ∨ x = .tup xs) : ∃ (t : Bool) (c : Addr) (vs : List V), v = .ref c ∧ Rps K q S H1 vs xs ∧ Zm.Sq t K H1 c vs ∧ ∀ H2, XT S H1 H2 → Zm.Sq t K H2 c vs := by
  rcases hx with rfl | rfl
  · cases r with
    | lst m h1 h2 => exact ⟨false, _, _, rfl, h2, .inl (.inl h1), fun H2 x2 => .inl (.inl (x2.1 _ _ m h1 nt_lst))⟩
  · cases r with
    | tup h1 h2 =>
      refine ⟨true, _, _, rfl, h2, h1.sq, fun H2 x2 => ?_⟩
      rcases h1 with ⟨m, h1⟩ | h1
      · exact .inl (rd_ext x2 m h1 (by first | exact nt_tup | exact nt_lst))
      · exact SU.sq (S := []) (.inr h1)
/-- zip of any two of lists and tuples -/
theorem ei_zipM {kk : Nat} {tpos : Pos} {elts : List Expr} (B : Bf F.X.mg) (ha : Ed F ρ s a x s1) (hx : x = .lst xs ∨ x = .tup xs) (hb : Ed F ρ s1 b y s2) (hy : y = .lst ys ∨ y = .tup ys) (hg : Gl F.X "zip" := by rfl) (he : starEach [a, b] F.X.env = (false, eval a F.X.env) :: starEach [b] F.X.env := by rfl)
    (he2 : starEach [b] F.X.env = (false, eval b F.X.env) :: starEach [] F.X.env := by rfl) (hpl : (backTo pos (starEach [b] F.X.env)).any (·.1) = false := by rfl) : Ei F ρ s (.Tuple elts kk tpos) (.Call (.Name "zip" p) [a, b] [] pos) (zipD xs ys) s2 := by
  refine ⟨ha.1.trans hb.1, fun O σ H f R q => wi (Zm.pi_zipM hg B.zip (pa_cons pe_we (pa_cons pe_we pa_nil he2) he) he hpl) (ha.2 O σ H f _ fun v H1 f1 x1 r1 => hb.2 O σ H1 f1 _ fun w H2 f2 x2 r2 => ?_)⟩
  obtain ⟨t, c1, vs, rfl, h2, q1, w1⟩ := rp_sq (r1.ext x2.xt) hx
  obtain ⟨u, c2, us, rfl, h4, q2, w2⟩ := rp_sq r2 hy
  refine ⟨t, u, c1, c2, vs, us, rfl, q1, q2, q _ _ f2 (x1.trans x2) ?_⟩
  refine (Zm.walk (n := (zipD xs ys).length) (by simp [zipD, h2.length, h4.length])).mono (fun H3 x3 => ⟨w1 H3 x3, w2 H3 x3⟩) fun i H3 z H4 hi x3 y => ?_
  obtain ⟨T, u, t, rfl, n, rfl, e1, e2⟩ := y
  obtain ⟨d1, g1, k1⟩ := h2.getV e1
  obtain ⟨d2, g2, k2⟩ := h4.getV e2
  refine ⟨fun c o h => by rw [upd_ne (ne_of_none h n)]; exact h, .tup [d1, d2], by simp [zipD, List.getElem?_zipWith, g1, g2], fun O' g => ?_⟩
  have nT : T ∉ O' ++ F.S0 := fun m => by
    rcases List.mem_append.mp m with m | m
    · obtain ⟨_, o, ho⟩ := g T m
      rw [n] at ho; cases ho
    · exact f2.fresh (x3.2 T n) (List.mem_append_right _ m)
  exact .tup (.inl ⟨nT, .inl upd_same⟩) (.cons ((rp_later k1 x3 fun a m => (g a m).1).ext (.new n)) (.cons ((rp_later k2 x3 fun a m => (g a m).1).ext (.new n)) .nil))
/-! constants of the module -/
structure Cst (E : En) (x : Str) (d : D) : Prop where
  ok : ∃ v u, E.mg x = some u ∧ RelV v u ∧ ∀ p S H, Rp E.K p S H v d
theorem ed_cst {x : Str} (c : Cst F.en x d) (hg : Gl F.X x := by rfl) (hd : (x == ("__debug__" : Str)) = false := by decide) : Ed F ρ s (.Name x pos) d s := by
  obtain ⟨v, u, h1, h2, h3⟩ := c.ok
  exact ed_glob hg h1 h2 h3 hd
/-! a def as a value, and its call by a local name -/
end
end Gh
set_option Elab.async false
set_option linter.all false
set_option maxRecDepth 100000
set_option maxHeartbeats 4000000
namespace Gh
open PySem PySem.Spec PyProof.Rows L2
section
variable {F : Fx} {ρ : List G} {s s1 s2 s3 : Sx} {a b c e : Expr} {es : List Expr} {x y z d : D} {xs ys zs ds : List D} {pos p : Pos} {k : GE}
/-! tuples -/
theorem ed_sliceT {lo hi : Option Expr} {i j : Option Int} {p2 : Pos} (ha : Ed F ρ s a (.tup xs) s1) (hl : Eo F ρ s1 lo i s2) (hh : Eo F ρ s2 hi j s3) : Ed F ρ s (.Subscript a (.Slice lo hi none p2) pos) (.tup (cutD xs i j)) s3 := by
  have fin : ∀ O σ H H3, Fm F O σ H ρ s → Fm F O σ H3 ρ s3 → XE F H H3 → ∀ v, Rp F.X.K F.p (O ++ F.S0) H3 v (.tup xs) → ∀ Q : VK, (∀ v H', Fm F O σ H' ρ s3 → XE F H H' → Rp F.X.K F.p (O ++ F.S0) H' v (.tup (cutD xs i j)) → Q v H') → rSlA F.X.K v i j H3 Q := by
    intro O σ H H3 f f3 x3 v r Q q
    cases r with
    | tup h1 h2 =>
      refine ⟨_, _, rfl, h1.sq, fun z => q _ _ f3 x3 ?_, fun z t n => q _ _ (f3.new n) (x3.trans (.new n)) (.tup (.inl ⟨f3.fresh n, .inl upd_same⟩) ((rps_cut h2 i j).ext (.new n)))⟩
      have e : cutD xs i j = xs := by
        rw [h2.length] at z
        unfold cutD
        rw [z.1, z.2, List.drop_zero, Nat.sub_zero, List.take_length]
      rw [e]
      exact .tup h1 h2
  cases hl with
  | none =>
    cases hh with
    | none => exact ⟨ha.1, fun O σ H f Q q => we (pe_slice sl_tupA pe_we po_none po_none) (ha.2 O σ H f _ fun v H1 f1 x1 r1 => fin O σ H H1 f f1 x1 v r1 Q q)⟩
    | some hb => exact ⟨ha.1.trans hb.1, fun O σ H f Q q => we (pe_slice sl_tupA pe_we po_none (po_some pe_we)) (ha.2 O σ H f _ fun v H1 f1 x1 r1 => hb.2 O σ H1 f1 _ fun w H2 f2 x2 r2 => by
        cases r2; exact ⟨_, rfl, fin O σ H H2 f f2 (x1.trans x2) v (r1.ext x2.xt) Q q⟩)⟩
  | some hc =>
    cases hh with
    | none => exact ⟨ha.1.trans hc.1, fun O σ H f Q q => we (pe_slice sl_tupA pe_we (po_some pe_we) po_none) (ha.2 O σ H f _ fun v H1 f1 x1 r1 => hc.2 O σ H1 f1 _ fun w H2 f2 x2 r2 => by
        cases r2; exact ⟨_, rfl, fin O σ H H2 f f2 (x1.trans x2) v (r1.ext x2.xt) Q q⟩)⟩
    | some hb => exact ⟨(ha.1.trans hc.1).trans hb.1, fun O σ H f Q q => we (pe_slice sl_tupA pe_we (po_some pe_we) (po_some pe_we)) (ha.2 O σ H f _ fun v H1 f1 x1 r1 => hc.2 O σ H1 f1 _ fun w H2 f2 x2 r2 => by
        cases r2
        exact ⟨_, rfl, hb.2 O σ H2 f2 _ fun w H3 f3 x3 r3 => by cases r3; exact ⟨_, rfl, fin O σ H H3 f f3 ((x1.trans x2).trans x3) v ((r1.ext x2.xt).ext x3.xt) Q q⟩⟩)⟩
theorem El.is (h : El F ρ s e xs s1) (z : xs = ys) : El F ρ s e ys s1 := by rw [← z]; exact h
/-- an expression that turns owned lists -/
def Em (F : Fx) (ρ : List G) (s : Sx) (e : Expr) (d : D) (ρ' : List G) (s' : Sx) : Prop :=
  s.isSome = s'.isSome ∧ ∀ O σ H, Fm F O σ H ρ s → ∀ Q : VK, (∀ v H', Fm F O σ H' ρ' s' → XT (O ++ F.S0) H H' → Rp F.X.K F.p (O ++ F.S0) H' v d → Q v H') → WE F.X e σ H Q
theorem Ed.em (h : Ed F ρ s e d s1) : Em F ρ s e d ρ s1 := ⟨h.1, fun O σ H f Q q => h.2 O σ H f Q fun v H' f' x' r' => q v H' f' x'.xt r'⟩
/-- x.pop(e), x owned -/
theorem em_pop (i : Nat) {x : Str} {px pa : Pos} {cpos : Pos} {n : Nat} (hi : F.X.N[i]? = some x) (hv : Vis F.X.env.scope x) (hρ : ρ[i]? = some (.own xs)) (h : Ed F ρ s e (.int n) s1) (hd' : xs[n]? = some d) (hz : xs.length ≤ sizeLine)
    (hd : (x == ("__debug__" : Str)) = false := by decide) (hcd : (x == ("__classdict__" : Str)) = false := by decide) (he : starEach [e] F.X.env = (false, eval e F.X.env) :: starEach [] F.X.env := by rfl)
    (hb : attributeBase (.Name x px) "pop" F.X.env (eval (.Name x px) F.X.env) = eval (.Name x px) F.X.env := by rfl) (hline : (pa.endLine == cpos.line) = true := by rfl) (hpl : (backTo cpos (starEach [] F.X.env)).any (·.1) = false := by rfl)
    (hfew : ((backTo cpos (starEach [e] F.X.env)).all (fun x => !x.1) && (backToKw cpos (keywordEach [] F.X.env)).all (fun x => x.1.isSome) && decide ([e].length + ([] : List Keyword).length + (if ([] : List Keyword).isEmpty then 0 else 1) < 30)) = true := by rfl) :
    Em F ρ s (.Call (.Attribute (.Name x px) "pop" pa) [e] [] cpos) d (ρ.set i (.own (xs.eraseIdx n))) s1 :=
  ⟨h.1, fun O σ H f Q q => we (pe_bm PySem.F.plainAttrs_list PySem.F.slot_list_pop PySem.F.type_list_pop mt_popAt (pe_var hi hv hd hcd) (pa_cons pe_we pa_nil he) hb hfew hline he hpl) (by
    obtain ⟨o, ho, a, vs, eo, m, h1, r, _⟩ := f.slot i _ hρ
    subst eo
    have na : ¬ (F.act = true ∧ (a = F.p.1 ∨ a = F.p.2) ∧ a ∈ F.S0) := fun z => (f.fre a (f.own i _ xs a hρ ho)).2 z.2.2
    refine ⟨_, ho, .inl ⟨rfl, _, .inl (.inl h1)⟩, h.2 O σ H f _ fun w H1 f1 x1 r1 => ?_⟩
    cases r1
    obtain ⟨v, hv', rv⟩ := r.get hd'
    have hn : n < xs.length := by
      rcases Nat.lt_or_ge n xs.length with h | h
      · exact h
      · rw [List.getElem?_eq_none h] at hd'; cases hd'
    have hl := line63
    refine ⟨a, vs, (n : Int), n, v, rfl, rfl, x1.1 _ _ na h1 nt_lst, by omega, by omega, seqIndex_of (by omega) (by rw [r.length]; omega), hv', ?_⟩
    obtain ⟨f2, x2⟩ := f1.mut hρ ho ((r.ext x1.xt).eraseIdx n)
    exact q v _ f2 (x1.xt.trans x2) ((rv.ext x1.xt).ext x2))⟩
/-- x.append(e), where e may turn owned lists -/
theorem bs_appendM (i : Nat) {x : Str} {px pa : Pos} {cpos : Pos} {ρ1 : List G} (hi : F.X.N[i]? = some x) (hv : Vis F.X.env.scope x) (hρ : ρ[i]? = some (.own xs)) (h : Em F ρ s e d ρ1 s1) (hρ1 : ρ1[i]? = some (.own ys)) (hl : ys.length < sizeLine) (hk : k.nx (ρ1.set i (.own (ys ++ [d]))) s1)
    (hd : (x == ("__debug__" : Str)) = false := by decide) (hcd : (x == ("__classdict__" : Str)) = false := by decide) (he : starEach [e] F.X.env = (false, eval e F.X.env) :: starEach [] F.X.env := by rfl)
    (hb : attributeBase (.Name x px) "append" F.X.env (eval (.Name x px) F.X.env) = eval (.Name x px) F.X.env := by rfl) (hline : (pa.endLine == cpos.line) = true := by rfl) (hpl : (backTo cpos (starEach [] F.X.env)).any (·.1) = false := by rfl)
    (hfew : ((backTo cpos (starEach [e] F.X.env)).all (fun x => !x.1) && (backToKw cpos (keywordEach [] F.X.env)).all (fun x => x.1.isSome) && decide ([e].length + ([] : List Keyword).length + (if ([] : List Keyword).isEmpty then 0 else 1) < 30)) = true := by rfl)
    (hs : swapsWith (.Call (.Attribute (.Name x px) "append" pa) [e] [] cpos) none pos.line F.X.env = pure false := by rfl) : Bs F (.Expr (.Call (.Attribute (.Name x px) "append" pa) [e] [] cpos) pos) ρ s k :=
  fun O σ H f E q => ws (ps_expr (pe_bm PySem.F.plainAttrs_list PySem.F.slot_list_append PySem.F.type_list_append mt_append (pe_var hi hv hd hcd) (pa_cons pe_we pa_nil he) hb hfew hline he hpl) hs) (by
    obtain ⟨o, ho, a, vs, eo, m, h1, r, _⟩ := f.slot i _ hρ
    subst eo
    refine ⟨_, ho, .inl ⟨rfl, _, .inl (.inl h1)⟩, h.2 O σ H f _ fun w H1 f1 x1 r1 => ?_⟩
    obtain ⟨o', ho', a', vs', eo', m', h1', r', _⟩ := f1.slot i _ hρ1
    subst eo'
    have ea : a' = a := by rw [ho] at ho'; cases ho'; rfl
    subst ea
    refine ⟨_, vs', w, rfl, rfl, h1', by rw [r'.length]; exact hl, ?_⟩
    obtain ⟨f2, x2⟩ := f1.mut hρ1 ho (r'.append (.one r1))
    exact q.nx O σ _ _ s1 f2 (.of (x1.trans x2)) hk)
/-- x.extend(e), x owned, e a new list -/
theorem bs_extend (i : Nat) {x : Str} {px pa : Pos} {cpos : Pos} (hi : F.X.N[i]? = some x) (hv : Vis F.X.env.scope x) (hρ : ρ[i]? = some (.own xs)) (h : El F ρ s e ds s1) (hl : xs.length + ds.length ≤ sizeLine) (hk : k.nx (ρ.set i (.own (xs ++ ds))) s1)
    (hd : (x == ("__debug__" : Str)) = false := by decide) (hcd : (x == ("__classdict__" : Str)) = false := by decide) (he : starEach [e] F.X.env = (false, eval e F.X.env) :: starEach [] F.X.env := by rfl)
    (hb : attributeBase (.Name x px) "extend" F.X.env (eval (.Name x px) F.X.env) = eval (.Name x px) F.X.env := by rfl) (hline : (pa.endLine == cpos.line) = true := by rfl) (hpl : (backTo cpos (starEach [] F.X.env)).any (·.1) = false := by rfl)
    (hfew : ((backTo cpos (starEach [e] F.X.env)).all (fun x => !x.1) && (backToKw cpos (keywordEach [] F.X.env)).all (fun x => x.1.isSome) && decide ([e].length + ([] : List Keyword).length + (if ([] : List Keyword).isEmpty then 0 else 1) < 30)) = true := by rfl)
    (hs : swapsWith (.Call (.Attribute (.Name x px) "extend" pa) [e] [] cpos) none pos.line F.X.env = pure false := by rfl) : Bs F (.Expr (.Call (.Attribute (.Name x px) "extend" pa) [e] [] cpos) pos) ρ s k :=
  fun O σ H f E q => ws (ps_expr (pe_bm PySem.F.plainAttrs_list PySem.F.slot_list_extend PySem.F.type_list_extend mt_extend (pe_var hi hv hd hcd) (pa_cons pe_we pa_nil he) hb hfew hline he hpl) hs) (by
    obtain ⟨o, ho, a, vs, eo, m, h1, r, _⟩ := f.slot i _ hρ
    subst eo
    have na : ¬ (F.act = true ∧ (a = F.p.1 ∨ a = F.p.2) ∧ a ∈ F.S0) := fun z => (f.fre a (f.own i _ xs a hρ ho)).2 z.2.2
    refine ⟨_, ho, .inl ⟨rfl, _, .inl (.inl h1)⟩, h.2 O σ H f _ fun w ws H1 f1 x1 n1 h2 r1 => ?_⟩
    refine ⟨a, w, vs, ws, rfl, rfl, x1.1 _ _ na h1 nt_lst, h2, by rw [r.length, r1.length]; exact hl, ?_⟩
    have f0 := f.drop f1
    obtain ⟨f2, x2⟩ := f0.mut hρ ho ((r.ext x1.xt).append (r1.weak fun b m => List.mem_cons_of_mem _ m))
    exact q.nx O σ _ _ s1 f2 (.of (x1.xt.trans x2)) hk)
/-- a, b, c = e1, e2, e3 -/
theorem bs_par3 (i j l : Nat) {x y z : Str} {px py pz pt : Pos} {kt k2} {pt2 : Pos} {d1 d2 d3 : D} (hc : F.X.calm = true) (hN : F.X.N.Nodup) (hi : F.X.N[i]? = some x) (hj : F.X.N[j]? = some y) (hl : F.X.N[l]? = some z) (hij : i ≠ j) (hil : i ≠ l) (hjl : j ≠ l) (hx : F.X.env.scope.names.lookup x = some .local) (hy : F.X.env.scope.names.lookup y = some .local) (hz : F.X.env.scope.names.lookup z = some .local)
    (ha : Ea F ρ s [a, b, c] [d1, d2, d3] s1) (hk : k.nx (((ρ.set i (.val d1)).set j (.val d2)).set l (.val d3)) s1) (hw : swappedStores [.Tuple [.Name x px, .Name y py, .Name z pz] kt pt] (.Tuple [a, b, c] k2 pt2) F.X.env = pure (some [x, y, z]) := by rfl) (hs : swapsWithSole [.Tuple [.Name x px, .Name y py, .Name z pz] kt pt] (.Tuple [a, b, c] k2 pt2) pos.line F.X.env = pure false := by rfl) :
    Bs F (.Assign [.Tuple [.Name x px, .Name y py, .Name z pz] kt pt] (.Tuple [a, b, c] k2 pt2) pos) ρ s k :=
  fun O σ H f E q => ws (ps_par3 hc hN hi hj hl hij hil hjl hx hy hz pa_wa hw hs) (ha.2 O σ H f _ fun vs H1 f1 x1 r1 => by
    cases r1 with
    | cons r1 r2 =>
      cases r2 with
      | cons r2 r3 =>
        cases r3 with
        | cons r3 r4 =>
          cases r4
          exact ⟨_, _, _, rfl, q.nx O _ H1 _ s1 (((f1.set r1).set r2).set r3) (.of x1.xt) hk⟩)
end
end Gh
set_option Elab.async false
set_option linter.all false
set_option maxRecDepth 100000
set_option maxHeartbeats 4000000
/-! a stream that a body makes itself -/
namespace Gh
open PySem PySem.Spec PyProof.Rows L2
mutual
/-- data that hold no stream -/
def D.lone : D → Bool
  | .non => true
  | .bl _ => true
  | .int _ => true
  | .str _ => true
  | .lst xs => D.lones xs
  | .tup xs => D.lones xs
  | .emp => true
  | .scr _ => true
  | .mut => false
  | .cel _ => false
  | .ty _ => true
  | .ref _ => true
  | .ins _ _ ds => D.lones ds
  | .met _ d => d.lone
  | .dK _ ds => D.lones ds
  | .dT _ ds => D.lones ds
  | .lent ds => D.lones ds
  | .clo _ ds => D.lones ds
  | .dq ds => D.lones ds
def D.lones : List D → Bool
  | [] => true
  | x :: xs => x.lone && D.lones xs
end
section
variable {K : PySem.W.Frag} {p q : Pa} {S S' : List Addr} {H : Hp}
mutual
theorem Rp.swap0 : ∀ (d : D) (v : V), Rp K p S H v d → d.lone = true → Rp K q S H v d
  | .non, _, h, _ => by cases h; exact .non
  | .bl _, _, h, _ => by cases h; exact .bl _
  | .int _, _, h, _ => by cases h; exact .int _
  | .str _, _, h, _ => by cases h; exact .str _
  | .lst ds, _, h, n => by
    cases h with
    | lst h1 h2 h3 => exact .lst h1 h2 (Rps.swap0 ds _ h3 (by unfold D.lone at n; exact n))
  | .tup ds, _, h, n => by
    cases h with
    | tup h1 h2 => exact .tup h1 (Rps.swap0 ds _ h2 (by unfold D.lone at n; exact n))
  | .emp, _, h, _ => by
    cases h with
    | emp h1 h2 => exact .emp h1 h2
  | .scr _, _, h, _ => by
    cases h with
    | scr h1 => exact .scr h1
  | .mut, _, _, n => by unfold D.lone at n; cases n
  | .cel _, _, _, n => by unfold D.lone at n; cases n
  | .ty _, _, h, _ => by cases h; exact .ty _
  | .ref _, _, h, _ => by cases h; exact .ref _
  | .ins _ _ ds, _, h, n => by
    cases h with
    | ins h1 h2 h3 h4 => exact .ins h1 h2 (Rps.swap0 ds _ h3 (by unfold D.lone at n; exact n)) h4
  | .met _ d, _, h, n => by
    cases h with
    | met h1 h2 h3 => exact .met h1 h2 (Rp.swap0 d _ h3 (by unfold D.lone at n; exact n))
  | .dK _ ds, _, h, n => by
    cases h with
    | dK h1 h2 h3 h4 => exact .dK h1 h2 (Rps.swap0 ds _ h3 (by unfold D.lone at n; exact n)) h4
  | .dT _ ds, _, h, n => by
    cases h with
    | dT h1 h2 h3 h4 => exact .dT h1 h2 (Rps.swap0 ds _ h3 (by unfold D.lone at n; exact n)) h4
  | .lent ds, _, h, n => by
    cases h with
    | lent h1 h2 h3 => exact .lent h1 h2 (Rps.swap0 ds _ h3 (by unfold D.lone at n; exact n))
  | .dq ds, _, h, n => by
    cases h with
    | dq h1 h2 h3 h4 h5 => exact .dq h1 h2 h3 h4 (Rps.swap0 ds _ h5 (by unfold D.lone at n; exact n))
  | .clo L ds, _, h, n => by
    cases h with
    | clo h1 h2 h3 h4 h5 h6 => exact .clo h1 h2 h3 h4 h5 (Rps.swap0 ds _ h6 (by unfold D.lone at n; exact n))
theorem Rps.swap0 : ∀ (ds : List D) (vs : List V), Rps K p S H vs ds → D.lones ds = true → Rps K q S H vs ds
  | [], _, h, _ => by cases h; exact .nil
  | d :: ds, _, h, n => by
    cases h with
    | cons h1 h2 =>
      unfold D.lones at n
      obtain ⟨n1, n2⟩ := Bool.and_eq_true_iff.mp n
      exact .cons (Rp.swap0 d _ h1 n1) (Rps.swap0 ds _ h2 n2)
end
theorem Rp.swap {v : V} {d : D} (h : Rp K p S H v d) (n : d.lone = true) (w : ∀ a ∈ S', a ∈ S) : Rp K q S' H v d := Rp.swap0 d v (h.weak w) n
theorem Rps.swap {vs : List V} {ds : List D} (h : Rps K p S H vs ds) (n : D.lones ds = true) (w : ∀ a ∈ S', a ∈ S) : Rps K q S' H vs ds := Rps.swap0 ds vs (h.weak w) n
end
def gKeep : G → G
  | .val d => match d.lone with
    | true => .val d
    | false => .no
  | _ => .no
theorem gKeep_own {g : G} {w : Ow} {ds : List D} : gKeep g ≠ .ow w ds := by
  intro h
  cases g with
  | val e =>
    simp only [gKeep] at h
    cases z : e.lone <;> rw [z] at h <;> cases h
  | _ => cases h
/-- the body's context from there on, where the stream lies at a -/
abbrev Fx.strm (F : Fx) (a : Addr) (O : List Addr) (H : Hp) : Fx := ⟨F.X, H, O ++ F.S0, (a, a), true, F.T⟩
section
variable {F : Fx} {ρ : List G} {sts : List Stmt} {k : GE} {s : Sx}
theorem lones_cel : ∀ {xs : List D} {ns : List Int}, D.lones xs = true → D.cel ns ∉ xs
  | [], _, _, m => nomatch m
  | x :: xs, ns, h, m => by
    unfold D.lones at h
    obtain ⟨h1, h2⟩ := Bool.and_eq_true_iff.mp h
    rcases List.mem_cons.mp m with e | m
    · rw [← e] at h1
      unfold D.lone at h1
      cases h1
    · exact lones_cel h2 m
theorem slot_keep {K : PySem.W.Frag} {p q : Pa} {S S' : List Addr} {H : Hp} {o : Option V} {g : G} (h : Slot K p S H o g) (w : ∀ a ∈ S', a ∈ S) : Slot K q S' H o (gKeep g) := by
  cases g with
  | no => trivial
  | ow u ds => trivial
  | val d =>
    simp only [gKeep]
    cases z : d.lone with
    | true =>
      obtain ⟨v, e, r⟩ := h
      exact ⟨v, e, r.swap z w⟩
    | false => trivial
/-- back from the stream's context: the elder stream is as it was -/
theorem Fm.keepA {O : List Addr} {σ : L2.St} {H H2 : Hp} {a : Addr} {z : Sx} (f : Fm F O σ H ρ s) (ma : a ∈ O) (x : XP (a, a) z H H2) : XP F.p s F.H0 H2 := by
  refine ⟨fun b o e n nt => ?_, fun b e => f.ext.2 b (x.2 b e)⟩
  refine x.1 b o (f.ext.1 b o e n nt) (.inr fun zz => ?_) nt
  rw [zz.elim id id, (f.fre a ma).1] at e
  cases e
theorem Fm.backSt {O : List Addr} {σ : L2.St} {H H2 : Hp} {a : Addr} {z : Sx} (f : Fm F O σ H ρ s) (ma : a ∈ O) (x : XP (a, a) z H H2) (t : LamX.Tabs F.T H2) : F.Sa O H2 s := by
  have q := f.st
  have pm := f.pm
  cases s with
  | none => exact t
  | some ys =>
    obtain ⟨q1, q2, vs, q3, q4⟩ := q
    refine ⟨t, q2, vs, q3.to fun c us ec cz => x.1 _ _ ec (.inr fun zz => (f.fre a ma).2 ((zz.elim id id : c = a) ▸ (pm rfl).has cz)) nt_lst, q4.ext ⟨fun b o n e nt => x.1 b o e (.inr fun zz => n (zz.elim (fun e => e ▸ List.mem_append_left _ ma) fun e => e ▸ List.mem_append_left _ ma)) nt, x.2⟩⟩
theorem Fm.back {O O2 : List Addr} {σ σ2 : L2.St} {H H2 : Hp} {ρ2 : List G} {a : Addr} {s2 : Sx} (f : Fm F O σ H ρ s) (ma : a ∈ O) (g : Fm (F.strm a O H) O2 σ2 H2 ρ2 s2) : Fm F O σ2 H2 (ρ2.map gKeep) s := by
  refine ⟨f.keepA ma g.ext, fun i gg h => ?_, fun i w ds b h => ?_, fun i j w u ds es b _ h => ?_, f.fre, fun b m => ?_, f.backSt ma g.ext g.st.tab, f.pm, f.kd⟩
  · rw [List.getElem?_map] at h
    cases e : ρ2[i]? with
    | none => rw [e] at h; cases h
    | some g0 =>
      rw [e] at h
      cases h
      obtain ⟨o, ho, sl⟩ := g.slot i g0 e
      exact ⟨o, ho, slot_keep sl fun b m => List.mem_append_right _ m⟩
  · rw [List.getElem?_map] at h
    cases e : ρ2[i]? with
    | none => rw [e] at h; cases h
    | some g0 => rw [e] at h; exact absurd (Option.some.inj h) gKeep_own
  · rw [List.getElem?_map] at h
    cases e : ρ2[i]? with
    | none => rw [e] at h; cases h
    | some g0 => rw [e] at h; exact absurd (Option.some.inj h) gKeep_own
  · exact g.trk b (List.mem_append_right _ m)
end
end Gh
set_option Elab.async false
set_option linter.all false
set_option maxRecDepth 100000
/-! fractions as data: rationals -/
namespace Gh
open PySem PySem.Spec PyProof.Rows L2
def fr (q : Rat) : D := .tup [.int q.num, .int q.den]
def fm (a b : Rat) : D := .tup [fr a, fr b]
theorem gcd_step (a b : Nat) (h : 0 < b) : Nat.gcd a b = Nat.gcd b (a % b) := by
  rw [Nat.gcd_comm, Nat.gcd_rec, Nat.gcd_comm]
theorem norm_mk (n : Int) (d : Nat) (h : d ≠ 0) : Rat.normalize n d h = mkRat n d := by
  rw [mkRat, dif_neg h]
theorem mk_num (t : Int) (b : Nat) (h : b ≠ 0) : (mkRat t b).num = t / (Nat.gcd t.natAbs b : Int) := by
  rw [Rat.num_mkRat, if_neg h, Nat.gcd_comm]
theorem mk_den (t : Int) (b : Nat) (h : b ≠ 0) : ((mkRat t b).den : Int) = (b : Int) / (Nat.gcd t.natAbs b : Int) := by
  rw [Rat.den_mkRat, if_neg h, Nat.gcd_comm]
  exact Int.natCast_ediv ..
theorem den_pos (q : Rat) : (0 : Int) < q.den := by have := q.den_nz; omega
theorem add_mk (a b : Rat) : mkRat (a.num * b.den + b.num * a.den) (a.den * b.den) = a + b := by rw [Rat.add_def, norm_mk]
theorem sub_mk (a b : Rat) : mkRat (a.num * b.den - b.num * a.den) (a.den * b.den) = a - b := by rw [Rat.sub_def, norm_mk]
theorem mul_mk (a b : Rat) : mkRat (a.num * b.num) (a.den * b.den) = a * b := by rw [Rat.mul_def, norm_mk]
/-- few bits -/
def Sz (n : Nat) (q : Rat) : Prop := q.num.natAbs < 2 ^ n ∧ q.den < 2 ^ n
theorem Sz.mono {m n : Nat} {q : Rat} (h : Sz m q) (l : m ≤ n) : Sz n q := ⟨Nat.lt_of_lt_of_le h.1 (Nat.pow_le_pow_right (by decide) l), Nat.lt_of_lt_of_le h.2 (Nat.pow_le_pow_right (by decide) l)⟩
theorem Sz.mk {n : Nat} {t : Int} {b : Nat} (h1 : t.natAbs < 2 ^ n) (h2 : b < 2 ^ n) (hb : b ≠ 0) : Sz n (mkRat t b) := by
  constructor
  · rw [mk_num t b hb]
    have : (t / (Nat.gcd t.natAbs b : Int)).natAbs ≤ t.natAbs := Int.natAbs_ediv_le_natAbs ..
    omega
  · rw [Rat.den_mkRat, if_neg hb]
    exact Nat.lt_of_le_of_lt (Nat.div_le_self ..) h2
theorem two_pow_mul {m n a b : Nat} (h1 : a < 2 ^ m) (h2 : b < 2 ^ n) : a * b < 2 ^ (m + n) := by
  rw [Nat.pow_add]; exact Nat.mul_lt_mul'' h1 h2
theorem Sz.add {m n : Nat} {a b : Rat} (ha : Sz m a) (hb : Sz n b) : Sz (m + n + 1) (a + b) := by
  rw [← add_mk]
  refine .mk ?_ ?_ (Nat.mul_ne_zero a.den_nz b.den_nz)
  · have h1 := two_pow_mul ha.1 hb.2
    have h2 := two_pow_mul hb.1 ha.2
    have h3 := Int.natAbs_add_le (a.num * b.den) (b.num * a.den)
    rw [Int.natAbs_mul, Int.natAbs_mul, Int.natAbs_natCast, Int.natAbs_natCast] at h3
    rw [Nat.pow_succ]
    rw [Nat.add_comm n m] at h2
    omega
  · have h1 := two_pow_mul ha.2 hb.2
    rw [Nat.pow_succ]; omega
theorem Sz.neg {n : Nat} {a : Rat} (h : Sz n a) : Sz n (-a) := ⟨by rw [Rat.neg_num, Int.natAbs_neg]; exact h.1, by rw [Rat.neg_den]; exact h.2⟩
theorem Sz.sub {m n : Nat} {a b : Rat} (ha : Sz m a) (hb : Sz n b) : Sz (m + n + 1) (a - b) := by rw [Rat.sub_eq_add_neg]; exact ha.add hb.neg
theorem Sz.mul {m n : Nat} {a b : Rat} (ha : Sz m a) (hb : Sz n b) : Sz (m + n) (a * b) := by
  rw [← mul_mk]
  refine .mk ?_ (two_pow_mul ha.2 hb.2) (Nat.mul_ne_zero a.den_nz b.den_nz)
  rw [Int.natAbs_mul]; exact two_pow_mul ha.1 hb.1
theorem fr_eqb (a b : Rat) : (fr a).eqb (fr b) = decide (a = b) := by
  have e : (fr a).eqb (fr b) = (a.num == b.num && (((a.den : Int) == (b.den : Int)) && true)) := by
    simp [D.eqb, fr, D.py, D.pys, PyData.eqv, PyData.eqvAll]
  rw [e]
  by_cases h : a = b
  · subst h; simp
  · rw [decide_eq_false h]
    by_cases h1 : a.num = b.num
    · by_cases h2 : a.den = b.den
      · exact absurd (Rat.ext h1 h2) h
      · have h3 : ¬ ((a.den : Int) = (b.den : Int)) := fun z => h2 (by omega)
        simp [h3]
    · simp [h1]
theorem fr_eqC (a : Rat) : (fr a).eqC := by
  constructor
  · simp [fr, D.pure, D.pures]
  · simp [fr, D.py, D.pys, SeqAt.shaped, PyData.canLay0, PyData.canLayAll0, PyData.depth, PyData.depthAll]
theorem lt_8000 {n : Nat} (h : n < 2 ^ 6001) : n < 2 ^ 8000 := Nat.lt_of_lt_of_le h (Nat.pow_le_pow_right (by decide) (by decide))
/-- what * and // ask, of fractions of few bits -/
theorem mulW {a b : Int} (ha : a.natAbs < 2 ^ 3000) (hb : b.natAbs < 2 ^ 3000) : CMulW a b := wide_mul ha hb (by decide) (by decide) (by decide)
theorem Sz.n {q : Rat} (h : Sz 3000 q) : q.num.natAbs < 2 ^ 3000 := h.1
theorem Sz.d {q : Rat} (h : Sz 3000 q) : ((q.den : Int)).natAbs < 2 ^ 3000 := by rw [Int.natAbs_natCast]; exact h.2
theorem dd_pos (a b : Rat) : 0 < (a.den : Int) * (b.den : Int) := Int.mul_pos (den_pos a) (den_pos b)
theorem dd_size {a b : Rat} (ha : Sz 3000 a) (hb : Sz 3000 b) : ((a.den : Int) * (b.den : Int)).natAbs < 2 ^ 8000 := by
  rw [Int.natAbs_mul]
  exact lt_8000 (Nat.lt_of_lt_of_le (two_pow_mul ha.d hb.d) (Nat.pow_le_pow_right (by decide) (by decide)))
theorem dd_nat (a b : Rat) : ((a.den : Int) * (b.den : Int)).toNat = a.den * b.den := by rw [← Int.natCast_mul]; exact Int.toNat_natCast _
end Gh
set_option Elab.async false
set_option linter.all false
set_option maxRecDepth 100000
namespace Gh
open PySem PySem.Spec PyProof.Rows L2
/-- a def of the text, as it stands behind the top -/
structure Df (E : En) (st : Stmt) (f : Str) (ps : List Str) : Prop where
  ok : ∃ fa fd, Fun E.K f f st fa fd ∧ E.mg f = some (.ref fa) ∧ Binds E.K fd ps []
/-- the context of a def's body -/
abbrev bodyF (E : En) (N : List Str) (x : Str) (st : Stmt) (s : Sx) (fa : Addr) (cdv : Value) (A : Around) (outer : List Env) (sh : Shared) (H0 : Hp) (EX : XK) (S0 : List Addr) (p : Pa) : Fx :=
  ⟨(cxOf CX0 E.P E.w E.K E.mg E.base N x (defScope st) fa cdv A outer sh H0 EX).nox, H0, S0, p, s.isSome, E.T⟩
theorem Df.rn {E : En} {x : Str} {st : Stmt} {N ps : List Str} {k : Nat} {ds : List D} {s s' : Sx} {d : D} (T : Df E st x ps) (S : FnScope N ps (defScope st)) (kd : s.isSome = s'.isSome) (hl : ds.length = ps.length)
    (body : ∀ (fa : Addr) (cdv : Value) (A : Around) (outer : List Env) (sh : Shared) (H0 : Hp) (EX : XK) (S0 : List Addr) (p : Pa), Room k (bodyF E N x st s fa cdv A outer sh H0 EX S0 p).X.A →
      Bk (bodyF E N x st s fa cdv A outer sh H0 EX S0 p) (defBody st) (gStart N ds) s { nx := fun _ t => d = .non ∧ t = s', rt := fun r t => r = d ∧ t = s' }) : Rn E (k + 1) x ds s d s' := by
  obtain ⟨fa, fd, F, hm, hb⟩ := T.ok
  exact rn_of F S hm hb kd hl fun cdv A outer sh H0 EX S0 p hr => body fa cdv A outer sh H0 EX S0 p hr
section
variable {F : Fx} {ρ : List G} {s s1 s2 : Sx} {a b e : Expr} {pos p : Pos} {k : GE} {d : D}
theorem Ed.is {x y : D} (h : Ed F ρ s e x s1) (z : x = y) : Ed F ρ s e y s1 := by rw [← z]; exact h
/-- what the stream holds -/
theorem ed_ixM {i : Int} {xs : List D} {d : D} (ha : Ed F ρ s a .mut (some xs)) (hb : Ed F ρ (some xs) b (.int i) (some xs)) (h : atI xs i = some d) (hs : PlainIx b := by exact fun _ _ => rfl) : Ed F ρ s (.Subscript a b pos) d (some xs) :=
  ⟨ha.1, fun O σ H f Q q => we (pe_ix ix_list pe_we pe_we hs) (ha.2 O σ H f _ fun v H1 f1 x1 r1 => hb.2 O σ H1 f1 _ fun w H2 f2 x2 r2 => by
    cases r1; cases r2
    obtain ⟨_, _, vs, h1, h2⟩ := f2.st
    obtain ⟨v, e, r⟩ := atI_rps h2 h
    exact ⟨_, vs, i, v, rfl, rfl, .inl (.inl h1.1), e, q v H2 f2 (x1.trans x2) r⟩)⟩
/-- the stream turned -/
theorem Fm.setM {O : List Addr} {σ : L2.St} {H : Hp} {xs ys : List D} {ws : List V} (f : Fm F O σ H ρ (some xs)) (r : Rps F.X.K F.p (O ++ F.S0) H ws ys) (hc : ∀ ns, D.cel ns ∈ ys → D.cel ns ∈ xs) : Fm F O σ (upd H F.p.1 (.lst ws)) ρ (some ys) ∧ XT (O ++ F.S0) H (upd H F.p.1 (.lst ws)) := by
  have x : XP F.p (some xs) H (upd H F.p.1 (.lst ws)) := ⟨fun a o e n _ => by
    rw [upd_ne (show a ≠ F.p.1 from fun z => (n.resolve_left fun z => by cases z) (.inl z))]; exact e, fun a h => upd_none h⟩
  obtain ⟨q1, q2, vs, q3, q4⟩ := f.st
  have xt : XT (O ++ F.S0) H (upd H F.p.1 (.lst ws)) := x.xt f.st
  exact ⟨f.grow x rfl ⟨tabs_upd q1 q3.1 nt_lst nc_lst, q2, ws, ⟨upd_same, (by
    by_cases e : F.p.2 = F.p.1
    · rw [e]; exact ⟨_, upd_same⟩
    · rw [upd_ne e]; exact q3.2.1), fun ns m => ⟨(q3.2.2 ns (hc ns m)).1, by rw [upd_ne (q3.2.2 ns (hc ns m)).1.symm]; exact (q3.2.2 ns (hc ns m)).2⟩⟩, r.ext xt⟩, xt⟩
theorem bs_stM (i : Nat) {x : Str} {px ps : Pos} {ix : Expr} {xs : List D} {n : D} {l : Int} {j : Nat} (hN : F.X.N[i]? = some x) (hv : Vis F.X.env.scope x) (hρ : ρ[i]? = some (.val .mut)) (h : Ed F ρ s e n (some xs)) (hi : Ed F ρ (some xs) ix (.int l) (some xs)) (hj : ixN xs.length l = some j) (hk : k.nx ρ (some (xs.set j n))) (nc : n.isCel = false := by rfl)
    (hd : (x == ("__debug__" : Str)) = false := by decide) (hcd : (x == ("__classdict__" : Str)) = false := by decide) (hs : swapsWithSole [.Subscript (.Name x px) ix ps] e pos.line F.X.env = pure false := by rfl) (hw : swappedStores [.Subscript (.Name x px) ix ps] e F.X.env = pure none := by rfl)
    (h1 : (assignEach [.Subscript (.Name x px) ix ps] F.X.env).map (·.2) = [assign (.Subscript (.Name x px) ix ps) F.X.env] := by rfl)
    (ha : ∀ v, assign (.Subscript (.Name x px) ix ps) F.X.env v = (do
      let ov ← holding [v] (eval (.Name x px) F.X.env)
      let iv ← holding [v, ov] (eval ix F.X.env)
      standAt ps
      holding [v, ov, iv] (setItem ov iv v)
      release [v, ov, iv] []) := by intro _; rfl) : Bs F (.Assign [.Subscript (.Name x px) ix ps] e pos) ρ s k :=
  fun O σ H f E q => ws (ps_asg pe_we (pg_sub (pe_var hN hv hd hcd) pe_we set_list ha) hs hw h1) (h.2 O σ H f _ fun v H1 f1 x1 r1 => by
    obtain ⟨o, ho, w, e, r⟩ := f1.slot i _ hρ
    subst e
    cases r
    refine ⟨_, ho, hi.2 O σ H1 f1 _ fun w H2 f2 x2 r2 => ?_⟩
    cases r2
    obtain ⟨_, _, vs, h1, h2⟩ := f2.st
    refine ⟨_, vs, l, j, rfl, rfl, h1.1, by rw [h2.length]; exact hj, ?_⟩
    obtain ⟨f3, x3⟩ := f2.setM (h2.set j (r1.ext x2.xt)) fun ns m => (List.mem_or_eq_of_mem_set m).resolve_right fun z => by
      rw [← z] at nc
      cases nc
    exact q.nx O σ _ ρ _ f3 (.of ((x1.xt.trans x2.xt).trans x3)) hk)
end
end Gh
namespace Gh
open PySem PySem.Spec PyProof.Rows L2
section
variable {F : Fx} {ρ : List G} {s s1 s2 s3 : Sx} {e : Expr} {es : List Expr} {d : D} {ds : List D} {pos p : Pos}
/-- f(..): the arguments first -/
theorem ed_cl {f : Str} {k : Nat} (ha : Ea F ρ s (e :: es) ds s1) (hr : Room k F.X.A) (R : Rn F.en k f ds s1 d s2) (hg : Gl F.X f := by rfl) (hdb : (f == ("__debug__" : Str)) = false := by decide)
    (he : starEach (e :: es) F.X.env = (false, eval e F.X.env) :: starEach es F.X.env := by rfl) (hpl : (backTo pos (starEach es F.X.env)).any (·.1) = false := by rfl) : Ed F ρ s (.Call (.Name f p) (e :: es) [] pos) d s2 := ed_call R hr ha hg hdb he hpl
end
end Gh
set_option Elab.async false
set_option linter.all false
set_option maxRecDepth 100000
set_option maxHeartbeats 4000000
/-! defs that hand back a new list -/
namespace Gh
open PySem PySem.Spec PyProof.Rows L2
def BkL (F : Fx) (sts : List Stmt) (ρ : List G) (s : Sx) (ds : List D) (s' : Sx) : Prop := ∀ O σ H, Fm F O σ H ρ s → ∀ E : Ends,
  (∀ a vs H', F.H0 a = none → a ∉ F.S0 → H' a = some (.lst vs) → Rps F.X.K F.p (a :: F.S0) H' vs ds → XP F.p s' F.H0 H' → F.Sa [a] H' s' → E.rt (.ref a) H') → WB F.X sts E σ H
def spL (K : PySem.W.Frag) (T : Ts) (ds : List D) (s : Sx) (zs : List D) (s' : Sx) : Sp := fun vs H Q _ => ∃ (p : Pa) (S : List Addr), Rps K p S H vs ds ∧ (∀ a ∈ S, ∃ o, H a = some o) ∧ StA K T p S H s ∧
  ∀ a ws H', H a = none → H' a = some (.lst ws) → Rps K p (a :: S) H' ws zs → XP p s H H' → StA K T p (a :: S) H' s' → Q (.ref a) H'
/-- the def f, called with these data, hands back a new list -/
structure RnL (E : En) (k : Nat) (f : Str) (ds : List D) (s : Sx) (zs : List D) (s' : Sx) : Prop where
  kd : s.isSome = s'.isSome
  ok : ∃ fa fd ps, E.mg f = some (.ref fa) ∧ PySem.W.keepIn E.K (.ref fa) = true ∧ Binds E.K fd ps [] ∧ FnOk E.P E.w E.K E.mg E.base CX0 k fa fd ps (spL E.K E.T ds s zs s')
theorem RnL.mono {E : En} {j k : Nat} {f : Str} {ds zs : List D} {s s' : Sx} (r : RnL E j f ds s zs s') (h : j ≤ k) : RnL E k f ds s zs s' := by
  obtain ⟨kd, fa, fd, ps, h1, h2, h3, h4⟩ := r
  exact ⟨kd, fa, fd, ps, h1, h2, h3, h4.mono h⟩
theorem RnL.is {E : En} {k : Nat} {f : Str} {ds zs zs' : List D} {s s' : Sx} (r : RnL E k f ds s zs s') (h : zs = zs') : RnL E k f ds s zs' s' := h ▸ r
section
variable {F : Fx} {ρ : List G} {s s1 s2 s' : Sx} {e : Expr} {es : List Expr} {st : Stmt} {sts : List Stmt} {ds zs : List D} {pos p : Pos}
theorem Fm.addO {O : List Addr} {σ : L2.St} {H1 H2 : Hp} {a : Addr} {vs : List V} (f : Fm F O σ H1 ρ s1) (x : XP F.p s1 H1 H2) (kd : s1.isSome = s2.isSome) (t : F.Sa (a :: O) H2 s2) (n : H1 a = none) (h : H2 a = some (.lst vs)) : Fm F (a :: O) σ H2 ρ s2 := by
  refine (f.newO (u := .lst vs) n).grow ⟨fun b o e nb nt => ?_, fun b e => ?_⟩ kd t
  · by_cases z : b = a
    · subst z; rw [upd_same] at e; rw [h]; exact e
    · rw [upd_ne z] at e; exact x.1 b o e nb nt
  · have z : b ≠ a := fun z => by rw [z, h] at e; cases e
    rw [upd_ne z]; exact x.2 b e
theorem bkl_ret (h : El F ρ s e zs s') : BkL F (.Return (some e) pos :: sts) ρ s zs s' := fun O σ H f E q => wb (pss_cons (ps_ret pe_we) pss_wb) (h.2 O σ H f _ fun a vs H1 f1 x1 n1 h1 r1 => by
  have n0 : F.H0 a = none := f.ext.2 a n1
  exact q a vs H1 n0 (fun m => by
    obtain ⟨o, ho⟩ := f.trk a (List.mem_append_right _ m)
    rw [n1] at ho; cases ho) h1 (r1.weak fun b m => by
      rcases List.mem_cons.mp m with z | z
      · exact z ▸ List.mem_cons_self
      · exact List.mem_cons_of_mem _ (List.mem_append_right _ z)) f1.ext (by
    have q2 := f1.st
    have pm := f1.pm
    cases s' with
    | none => exact q2
    | some ys =>
      obtain ⟨q3, q4, ws, q5, q6⟩ := q2
      exact ⟨q3, (pm rfl).app, ws, q5, q6.weak fun b m => by
        rcases List.mem_cons.mp m with z | z
        · exact z ▸ List.mem_cons_self
        · exact List.mem_cons_of_mem _ (List.mem_append_right _ z)⟩))
theorem bkl_cons (h1 : Bs F st ρ s { nx := fun ρ' s1 => BkL F sts ρ' s1 zs s', rt := fun _ _ => False }) : BkL F (st :: sts) ρ s zs s' := fun O σ H f E q => wb (pss_cons ps_ws pss_wb) (h1 O σ H f _
  ⟨fun O' σ' H' ρ' s' f' st h' => h' O' σ' H' f' E q, fun _ _ _ _ _ _ _ h => h.elim, fun _ _ _ _ _ _ _ h => h.elim, fun _ _ _ _ _ _ _ h => h.elim, fun _ _ _ _ _ _ _ _ _ _ _ h => h.elim⟩)
/-- f(..), a new list -/
theorem el_cl {f : Str} {k : Nat} (ha : Ea F ρ s (e :: es) ds s1) (hr : Room k F.X.A) (R : RnL F.en k f ds s1 zs s2) (hg : Gl F.X f := by rfl) (hdb : (f == ("__debug__" : Str)) = false := by decide)
    (he : starEach (e :: es) F.X.env = (false, eval e F.X.env) :: starEach es F.X.env := by rfl) (hpl : (backTo pos (starEach es F.X.env)).any (·.1) = false := by rfl) : El F ρ s (.Call (.Name f p) (e :: es) [] pos) zs s2 := by
  obtain ⟨kd, fa, fd, ps, h1, h2, h3, h4⟩ := R
  refine ⟨ha.1.trans kd, fun O σ H fm Q q => we (pe_call h4 hr hg h1 h2 h3 .nil pass0 pa_wa hdb he hpl) (ha.2 O σ H fm _ fun vs H1 f1 x1 r1 => ?_)⟩
  rw [List.append_nil]
  exact ⟨F.p, O ++ F.S0, r1, f1.trk, f1.st, fun a ws H2 n2 g2 r2 x2 t2 => q a ws H2 (f1.addO x2 kd t2 n2 g2) (x1.trans (x2.xe f1.pm f1.kd)) (x1.2 a n2) g2 r2⟩
end
theorem Df.rnL {E : En} {x : Str} {st : Stmt} {N ps : List Str} {k : Nat} {ds zs : List D} {s s' : Sx} (T : Df E st x ps) (S : FnScope N ps (defScope st)) (kd : s.isSome = s'.isSome) (hl : ds.length = ps.length)
    (body : ∀ (fa : Addr) (cdv : Value) (A : Around) (outer : List Env) (sh : Shared) (H0 : Hp) (EX : XK) (S0 : List Addr) (p : Pa), Room k (bodyF E N x st s fa cdv A outer sh H0 EX S0 p).X.A →
      BkL (bodyF E N x st s fa cdv A outer sh H0 EX S0 p) (defBody st) (gStart N ds) s zs s') : RnL E (k + 1) x ds s zs s' := by
  obtain ⟨fa, fd, F, hm, hb⟩ := T.ok
  refine ⟨kd, fa, fd, ps, hm, F.kp, hb, F.ok S (fun vs H Q EX h => ?_) fun cdv A outer sh H vs Q EX hr h => ?_⟩
  · obtain ⟨p, S, r, _⟩ := h
    rw [r.length, hl]
  · obtain ⟨p, S0, r, tr, t, q⟩ := h
    refine ⟨_, pss_wb, body fa cdv A outer sh H EX S0 p hr [] (L2.start N vs) H (fm_start (F := bodyF E N x st s fa cdv A outer sh H EX S0 p) r tr t rfl) _ fun a ws H' n0 nS h1 r1 x1 t1 => ?_⟩
    exact q a ws H' n0 h1 r1 (x1.kind kd.symm) t1
end Gh
set_option Elab.async false
set_option linter.all false
set_option maxRecDepth 100000
set_option maxHeartbeats 4000000
namespace Gh
open PySem PySem.Spec PyProof.Rows L2
end Gh
set_option Elab.async false
set_option linter.all false
set_option maxRecDepth 100000
set_option maxHeartbeats 4000000
/-! enumerate of a tuple, of a text; a text walked -/
namespace Es
open PySem PySem.Spec PyProof.Rows L2
section
theorem new1 {v : Value} {o : Obj} {H : Heap → Prop} (B : Begins v o H) :
    Meets (Builtin.«enumerate.__new__» ⟨[.type "enumerate", v], []⟩) (fun _ R s => H s.heap ∧
      R (.ok (.ret (.ref (s.heap.push o).objs.size))) { s with heap := (s.heap.push o).push { cls := .type "enumerate", data := .fields #[.none, .bool false, .ref s.heap.objs.size, rawInt 0, .none, .none] } }) :=
  .of_wp fun prog w A R s h => by
    obtain ⟨hp, g, d, tk, os⟩ := s; obtain ⟨h1, h⟩ := h
    have hsub := sub_enumerate
    have q1 : ∀ {A' : Around} {E : Value → Shared → Prop} {Q : Value → Shared → Prop}, Q (.ref hp.objs.size) ⟨hp.push o, g, d, tk, os⟩ → wpAny (model prog w) A' (pyIter v) Q E ⟨hp, g, d, tk, os⟩ :=
      fun q => B.iter prog w _ _ ⟨hp, g, d, tk, os⟩ _ h1 q
    wp_walk using q1
    refine wpAny_stack_any fun st => wpAny_pure ?_
    split
    · rename_i c _ _ _ _ _
      cases (c == Value.type "enumerate")
      · wp_walk using q1
        exact ⟨_, rfl, h⟩
      · wp_walk using q1
        exact ⟨_, rfl, h⟩
    · wp_walk using q1
      exact ⟨_, rfl, h⟩
variable {prog : Program} {w : World} {A : Around} {E : Value → Shared → Prop} {s : Shared}
theorem made {v : Value} {o : Obj} {H : Heap → Prop} {Q : Value → Shared → Prop} (B : Begins v o H) (h1 : H s.heap)
    (h : ∀ h', IsEnum h' (s.heap.objs.size + 1) s.heap.objs.size 0 .none → h'.get? s.heap.objs.size = some o → h'.objs.size = s.heap.objs.size + 2 →
      (∀ b o, s.heap.get? b = some o → h'.get? b = some o) → Q (.ref (s.heap.objs.size + 1)) { s with heap := h' }) :
    wpAny (model prog w) A (call (.type "enumerate") [v]) Q E s := by
  refine callType_new F.called_enumerate (by decide) (F.typeCall_enumerate_1 _) (F.newCall_enumerate_1 _) (fun obj => F.args_object_init_2 obj _) F.entry_enumerate_new (new1 B) ⟨h1, ?_⟩
  have hz : (s.heap.push o).objs.size = s.heap.objs.size + 1 := Heap.size_push ..
  show _ ∧ _
  rw [hz]
  have he : IsEnum ((s.heap.push o).push { cls := .type "enumerate", data := .fields #[.none, .bool false, .ref s.heap.objs.size, rawInt 0, .none, .none] }) (s.heap.objs.size + 1) s.heap.objs.size 0 .none := by
    have := Heap.get?_push_size (s.heap.push o) (o := { cls := .type "enumerate", data := .fields #[.none, .bool false, .ref s.heap.objs.size, rawInt 0, .none, .none] }) rfl
    rw [hz] at this; exact this
  refine ⟨⟨_, he, rfl⟩, h _ he (Heap.get?_push_of_some _ (Heap.get?_push_size _ B.free)) (by rw [Heap.size_push, hz]) fun b o x => Heap.get?_push_of_some _ (Heap.get?_push_of_some _ x)⟩
end
theorem getV : ∀ {xs : List V} {us : List Value} {i : Nat} {v : Value}, Vals xs us → us[i]? = some v → ∃ x, xs[i]? = some x ∧ RelV x v
  | _, _, _, _, .nil, h => by simp at h
  | _, _, 0, _, .cons r _, h => by simp at h; subst h; exact ⟨_, rfl, r⟩
  | _, _, i + 1, _, .cons _ rr, h => by simpa using getV (i := i) rr (by simpa using h)
/-- what is enumerated: the i-th value (where the source stands so in H) -/
structure Src (P : Program) (w : World) (K : PySem.W.Frag) where
  at_ : Hp → List V → Prop
  fp : Addr → List Addr
  st : Addr → Nat → Heap → Prop
  inj : ∀ {X : Cx} {pins : List (Addr × Obj)} {σ : L2.St} {H : Hp} {s : Shared} {xs ys : List V}, X.K = K → Inv X pins σ H s → at_ H xs → at_ H ys → xs = ys
  cell : ∀ it i h, st it i h → ∃ o vs, h.get? it = some o ∧ o.data = .fields vs
  keep : ∀ it i h h', st it i h → (∀ o, h.get? it = some o → h'.get? it = some o) → st it i h'
  draws : ∀ {X : Cx} {pins : List (Addr × Obj)} {σ : L2.St} {H : Hp} {s : Shared} {xs : List V} (it e : Addr), X.prog = P → X.w = w → X.K = K → X.calm = true → Inv X pins σ H s → at_ H xs → (∃ o vs, s.heap.get? it = some o ∧ o.data = .fields vs) → (∃ o vs, s.heap.get? e = some o ∧ o.data = .fields vs) →
    e ≠ it → ∃ (n : Nat) (Pv : Nat → Value → Prop) (fp : List Addr) (St : Nat → Heap → Prop), n = xs.length ∧ Draws P w X.A.in1 it fp n Pv St ∧ it ∈ fp ∧ e ∉ fp ∧ (∀ i, st it i s.heap → St i s.heap) ∧ (∀ i h, St i h → st it i h) ∧ ∀ i v, Pv i v → ∃ x, xs[i]? = some x ∧ RelV x v
def It (K : PySem.W.Frag) {P : Program} {w : World} (S : Src P w K) : L2.It :=
  ⟨fun i H => ∃ (xs : List V) (x : V), S.at_ H xs ∧ xs[i]? = some x, fun i H v H' => ∃ T x, v = .ref T ∧ H T = none ∧ H' = upd H T (.tup [.int (i : Nat), x]) ∧ ∀ xs, S.at_ H xs → xs[i]? = some x, fun i H => ∃ xs : List V, S.at_ H xs ∧ xs.length = i⟩
theorem turn {P : Program} {w : World} {K : PySem.W.Frag} {elts : List Expr} {kk : Nat} {tpos : Pos} (S : Src P w K) (e it : Addr) :
    Turn P w K (.Tuple elts kk tpos) (It K S) [e, it] e (fun i h => (∃ old, IsEnum h e it ((i : Nat) : Int) old) ∧ S.st it i h ∧ e ≠ it) where
  mem := by simp
  obj := fun i h st b hb => by
    obtain ⟨⟨old, he⟩, hi, _⟩ := st
    obtain ⟨o, vs, ho, hd⟩ := S.cell _ _ _ hi
    have e' : b = e ∨ b = it := by simpa using hb
    rcases e' with z | z
    · rw [z]; exact ⟨_, he, fun v q => nomatch q⟩
    · rw [z]; exact ⟨o, ho, fun v q => by rw [hd] at q; cases q⟩
  keep := fun i h h' st k => let ⟨⟨old, he⟩, hi, hne⟩ := st; ⟨⟨old, k e (by simp) _ he⟩, S.keep _ _ _ _ hi fun o q => k it (by simp) o q, hne⟩
  item := by
    intro X hP hw hK hc i pins s σ H E I hf st hg
    obtain ⟨⟨old, he⟩, hit, hne⟩ := st
    obtain ⟨xs, x, hq, hx⟩ := hg
    obtain ⟨n, Pv, fp, St, hn, D, hm, hef, h1, h2, h3⟩ := S.draws it e hP hw hK hc I hq (S.cell _ _ _ hit) ⟨_, _, he, rfl⟩ hne
    subst hP hw hK
    have hel : e < s.heap.objs.size := Heap.lt_size he
    have hil : it < s.heap.objs.size := by obtain ⟨_, _, q, _⟩ := S.cell _ _ _ hit; exact Heap.lt_size q
    have hin : i < n := by rw [hn]; exact (List.getElem?_eq_some_iff.mp hx).1
    refine wpAny_pyNext_enum_itemD D he (h1 i hit) hin hne hef fun u h' tk hP ho hit' hT hsz hk => ?_
    obtain ⟨x', hx', ru⟩ := h3 i u hP
    obtain rfl : x' = x := Option.some.inj (hx'.symm.trans hx)
    refine ⟨_, rfl, wpAny_letOwnedTupleGo_enum (s := { s with heap := h', toks := tk + 1 }) ho fun h'' he' sb => ?_⟩
    have hT2 : h''.get? s.heap.objs.size = some { cls := .type "tuple", data := .seq #[.int i tk, u] } := (sb.2 _ (Nat.ne_of_gt hel)).trans hT
    have new : ObjOk X.prog X.w (upd H s.heap.objs.size (.tup [.int (i : Nat), x'])) h'' s.heap.objs.size (.tup [.int (i : Nat), x']) :=
      ⟨by show 2 ≤ sizeLine; decide, [.int i tk, u], .cons ⟨_, rfl⟩ (.cons ru .nil), ⟨_, hT2, rfl, _, rfl⟩⟩
    have I1 : Inv X pins σ (upd H s.heap.objs.size (.tup [.int (i : Nat), x'])) { s with heap := h'', toks := tk + 1 } :=
      I.turnedNew (ch := [e, it]) (fun b ob hb q => (sb.2 b (fun z => hb (by simp [z]))).trans (hk b ob (fun z => hb (by simp [z])) (fun z => hb (by simp [z])) q)) hf (Nat.le_refl _) new
    refine ⟨.ref s.heap.objs.size, _, I1, rfl, ⟨_, x', rfl, I.hok.fresh (Nat.le_refl _), rfl, fun ys hy => by rw [S.inj rfl I hy hq]; exact hx⟩, ⟨⟨u, ?_⟩, S.keep _ _ _ _ (h2 _ _ hit') fun o q => (sb.2 it (Ne.symm hne)).trans q, hne⟩, fun b hb => ?_⟩
    · have e1 : ((i + 1 : Nat) : Int) = (i : Int) + 1 := by omega
      rw [e1]; exact he'
    · have hb' : b < s.heap.objs.size := by
        have e' : b = e ∨ b = it := by simpa using hb
        rcases e' with z | z
        · rw [z]; exact hel
        · rw [z]; exact hil
      rw [upd_ne (Nat.ne_of_lt hb')]
      exact (hf b hb).1
  done := by
    intro X hP hw hK hc i pins s σ H E I hf st hg
    obtain ⟨⟨old, he⟩, hit, hne⟩ := st
    obtain ⟨xs, hq, hx⟩ := hg
    obtain ⟨n, Pv, fp, St, hn, D, hm, hef, h1, h2, h3⟩ := S.draws it e hP hw hK hc I hq (S.cell _ _ _ hit) ⟨_, _, he, rfl⟩ hne
    subst hP hw hK
    obtain ⟨f0, f1, f2, f3, f4, f5⟩ := hf it (by simp)
    have e2 : i = n := by omega
    subst e2
    exact wpAny_pyNext_enum_endD D he (h1 _ hit) fun h' eb => ⟨rfl, I.turned (t' := s.toks) (fun b o hb q => eb b o hb q) f0 f1 f3 f4 f5⟩
  self := fun A i s Q E st h => let ⟨⟨_, he⟩, _⟩ := st; wpAny_pyIter_enum he h
def srcT (P : Program) (w : World) (K : PySem.W.Frag) (a : Addr) : Src P w K where
  at_ := fun H xs => SqT K H a xs
  fp := fun it => [it, a]
  st := fun it i h => h.IsTupleIter it a i
  inj := fun hK I h1 h2 => by subst hK; exact Zm.Sq.inj (t := true) I h1 h2
  cell := fun it i h st => by obtain ⟨o, e, _, d⟩ := st; exact ⟨o, _, e, d⟩
  keep := fun it i h h' st k => st.at k
  draws := fun {X pins σ H s xs} it e hP hw hK hc I hq c1 c2 hne => by
    subst hP hw hK
    obtain ⟨its, rv, p, hz⟩ := Zm.Sq.get (t := true) I hq
    have p : s.heap.IsTuple a its.toArray := p
    have nt : ∀ b, (∃ o vs, s.heap.get? b = some o ∧ o.data = .fields vs) → b ≠ a := fun b hb z => by
      obtain ⟨o, vs, e1, d1⟩ := hb
      obtain ⟨o2, e2, _, n, d2⟩ := p
      rw [z] at e1
      rw [e1] at e2
      cases e2
      rw [d1] at d2
      cases d2
    refine ⟨its.toArray.size, _, _, _, ?_, Draws.tuple (A := X.A.in1) (I.ok.hd hc) it a (Ne.symm (nt it c1)) its.toArray, by simp, ?_, fun i st => ⟨st, p⟩, fun i h st => st.1, fun i v hv => ?_⟩
    · rw [rv.length]; simp
    · simp only [List.mem_cons, List.not_mem_nil, or_false, not_or]
      exact ⟨hne, nt e c2⟩
    · exact getV rv (by simpa using hv)
def srcS (P : Program) (w : World) (K : PySem.W.Frag) (x : Str) (t : Tok) : Src P w K where
  at_ := fun _ xs => xs = x.cps.toList.map fun c => .str ⟨#[c]⟩
  fp := fun it => [it]
  st := fun it i h => h.IsStrIter it (strIterType x) x t i
  inj := fun hK I h1 h2 => by rw [h1, h2]
  cell := fun it i h st => by obtain ⟨o, e, _, d⟩ := st; exact ⟨o, _, e, d⟩
  keep := fun it i h h' st k => by obtain ⟨o, ho, r⟩ := st; exact ⟨o, k o ho, r⟩
  draws := fun {X pins σ H s xs} it e hP hw hK hc I hq c1 c2 hne => by
    subst hP hw hK hq
    refine ⟨x.cps.size, _, _, _, by simp, Draws.text (A := X.A.in1) (I.ok.hd hc) it x t, by simp, by simpa using hne, fun i st => st, fun i h st => st, fun i v hv => ?_⟩
    obtain ⟨c, u, h1, h2⟩ := hv
    exact ⟨.str ⟨#[c]⟩, by simp [h1], u, h2⟩
def iEn (K : PySem.W.Frag) (P : Program) (w : World) (ta : TA) : TI := fun σ H R => ta σ H fun vs H1 => (∃ a xs, vs = [.ref a] ∧ SqT K H1 a xs ∧ R (It K (srcT P w K a)) H1) ∨ ∃ x, vs = [.str x] ∧ ∀ t, R (It K (srcS P w K x t)) H1
theorem pi_en {X : Cx} {e : Expr} {ta : TA} {p pos tpos : Pos} {elts : List Expr} {kk : Nat} (hg : Gl X "enumerate") (hm : X.mg "enumerate" = none) (ha : PA X [e] ta) (hs : starEach [e] X.env = [(false, eval e X.env)] := by rfl) :
    PI X (.Tuple elts kk tpos) (.Call (.Name "enumerate" p) [e] [] pos) (iEn X.K X.prog X.w ta) := by
  refine ⟨fun pins s σ H R I h => ?_⟩
  refine Call_ (ld_blt I hg hm boot_enumerate (PyProof.Rows.callWith_type1 (thn (ha.run pos pins s σ H _ I h) fun us s1 ⟨vs, H1, I1, r1, q1⟩ => ?_) hs rfl))
  have fin : ∀ {h' : Heap} {t' : Nat} {S : Src X.prog X.w X.K}, IsEnum h' (s1.heap.objs.size + 1) s1.heap.objs.size 0 .none → S.st s1.heap.objs.size 0 h' → (∀ b o, s1.heap.get? b = some o → h'.get? b = some o) → R (It X.K S) H1 →
      wpAny (model X.prog X.w) X.A (pyIter (.ref (s1.heap.objs.size + 1))) (PIE X pins σ (.Tuple elts kk tpos) R) X.xe { s1 with heap := h' } := fun {h' t' S} he hit hk q => by
    refine wpAny_pyIter_enum he ?_
    have I2 : Inv X pins σ H1 { s1 with heap := h' } := I1.kept (t' := s1.toks) hk
    refine ⟨s1.heap.objs.size + 1, [s1.heap.objs.size + 1, s1.heap.objs.size], _, _, H1, rfl, I2, turn S (s1.heap.objs.size + 1) s1.heap.objs.size, ⟨⟨.none, he⟩, hit, Nat.succ_ne_self _⟩, fun b hb => ?_, q⟩
    have e' : b = s1.heap.objs.size + 1 ∨ b = s1.heap.objs.size := by simpa using hb
    have hle : s1.heap.objs.size ≤ b := by
      rcases e' with z | z
      · rw [z]; exact Nat.le_add_right _ _
      · rw [z]; exact Nat.le_refl _
    exact I1.fpOk hle (I1.hok.fresh hle)
  rcases q1 with ⟨a, xs, ex, hq, q⟩ | ⟨x, ex, q⟩
  · subst ex
    cases r1 with
    | cons r rr =>
      cases rr
      cases r
      obtain ⟨its, rv, p', hz⟩ := Zm.Sq.get (t := true) I1 hq
      have p' : s1.heap.IsTuple a its.toArray := p'
      exact made (begins_tuple a its.toArray) p' fun h' he hit hsz hk => fin (t' := s1.toks) (S := srcT X.prog X.w X.K a) he ⟨_, hit, rfl, rfl⟩ hk q
  · subst ex
    cases r1 with
    | cons r rr =>
      cases rr
      obtain ⟨t, rfl⟩ := r
      exact made (begins_text x t) trivial fun h' he hit hsz hk => fin (t' := s1.toks) (S := srcS X.prog X.w X.K x t) he ⟨_, hit, rfl, rfl⟩ hk (q t)
theorem walkT {P : Program} {w : World} {K : PySem.W.Frag} {a : Addr} {xs : List V} : Walk (It K (srcT P w K a)) xs.length (fun H => SqT K H a xs) (YPair (fun i => some (.int (i : Nat))) (fun i => xs[i]?)) := by
  refine ⟨fun i _ hi q => ⟨xs, xs[i], q, by simp [hi]⟩, fun _ q => ⟨xs, q, rfl⟩, fun i H v H' _ q y => ?_⟩
  obtain ⟨T, x, h1, h2, h3, h4⟩ := y
  exact ⟨T, .int (i : Nat), x, h1, h2, h3, rfl, h4 xs q⟩
end Es
set_option Elab.async false
set_option linter.all false
set_option maxRecDepth 100000
set_option maxHeartbeats 4000000
/-! list(zip(xs, ys)), xs and ys lists -/
namespace Lz
open PySem PySem.Spec PyProof.Rows L2
section
variable {prog : Program} {w : World} {A : Around} {E : Value → Shared → Prop} {s : Shared}
structure Zs (xs ys : Array Value) (z TI TO i1 i2 l1 l2 S : Addr) (i : Nat) (h : Heap) : Prop where
  tI : IsPair h TI (.ref i1) (.ref i2)
  r1 : h.IsListIter i1 l1 i
  r2 : h.IsListIter i2 l2 i
  s1 : h.IsList l1 xs
  s2 : h.IsList l2 ys
  z : (i = 0 ∧ IsZip h z TI TO .none ∧ ∃ x y, IsPair h TO x y) ∨ ∃ T f oT, IsZipHeld h z TI TO T f ∧ h.get? T = some oT ∧ S < T
theorem Zs.keep {xs ys : Array Value} {z TI TO i1 i2 l1 l2 S : Addr} {i : Nat} {h h' : Heap} (x : Zs xs ys z TI TO i1 i2 l1 l2 S i h) (k : ∀ b o, b ≠ S → h.get? b = some o → h'.get? b = some o) (n : z ≠ S ∧ TI ≠ S ∧ TO ≠ S ∧ i1 ≠ S ∧ i2 ≠ S ∧ l1 ≠ S ∧ l2 ≠ S) : Zs xs ys z TI TO i1 i2 l1 l2 S i h' := by
  obtain ⟨n1, n2, n3, n4, n5, n6, n7⟩ := n
  refine ⟨k _ _ n2 x.tI, x.r1.at fun o e => k _ o n4 e, x.r2.at fun o e => k _ o n5 e, x.s1.at fun o e => k _ o n6 e, x.s2.at fun o e => k _ o n7 e, ?_⟩
  rcases x.z with ⟨e, q, u, v, p⟩ | ⟨T, f, oT, q, e, lt⟩
  · exact .inl ⟨e, k _ _ n1 q, u, v, k _ _ n3 p⟩
  · exact .inr ⟨T, f, oT, k _ _ n1 q, k _ _ (Nat.ne_of_gt lt) e, lt⟩
theorem done {xs ys : Array Value} {z TI TO i1 i2 l1 l2 S : Addr} {i : Nat} {Q : Option Value → Shared → Prop} (hh : A.handled = none) (D : ZipApart z TI TO i1 i2 l1 l2) (st : Zs xs ys z TI TO i1 i2 l1 l2 S i s.heap) (he : xs[i]? = none ∨ ys[i]? = none)
    (hQ : ∀ h', (∀ b o, b ≠ z → b ≠ TO → b ≠ i1 → b ≠ i2 → s.heap.get? b = some o → h'.get? b = some o) → Q none { s with heap := h' }) : wpAny (model prog w) A (pyNext (.ref z)) Q E s := by
  rcases st.z with ⟨e, q, u, v, p⟩ | ⟨T, f, oT, q, e, ltT⟩
  · exact Zm.py_end (t := false) (u := false) hh D q st.tI p st.r1 st.r2 st.s1 st.s2 he fun h' hk => hQ h' hk
  · exact wpAny_pyNext_zip_end_held hh D q e st.tI st.r1 st.r2 st.s1 st.s2 he fun h' hk => hQ h' fun b o c1 _ c3 c4 e => hk b o c1 c3 c4 e
/-- how the cells lie -/
structure Lie (z TI TO i1 i2 l1 l2 S : Addr) : Prop where
  D : ZipApart z TI TO i1 i2 l1 l2
  lt : z < S ∧ i1 < S ∧ i2 < S ∧ TO < S ∧ l1 < S ∧ l2 < S ∧ TI < S
  n : l1 ≠ i2 ∧ l1 ≠ i1 ∧ l2 ≠ i1 ∧ l2 ≠ i2 ∧ l1 ≠ z ∧ l2 ≠ z ∧ l1 ≠ TO ∧ l2 ≠ TO
theorem Lie.ne {z TI TO i1 i2 l1 l2 S : Addr} (L : Lie z TI TO i1 i2 l1 l2 S) : z ≠ S ∧ TI ≠ S ∧ TO ≠ S ∧ i1 ≠ S ∧ i2 ≠ S ∧ l1 ≠ S ∧ l2 ≠ S := by
  obtain ⟨o1, o2, o3, o4, o5, o6, o7⟩ := L.lt
  exact ⟨Nat.ne_of_lt o1, Nat.ne_of_lt o7, Nat.ne_of_lt o4, Nat.ne_of_lt o2, Nat.ne_of_lt o3, Nat.ne_of_lt o5, Nat.ne_of_lt o6⟩
end
/-! over the layer -/
end Lz
set_option Elab.async false
set_option linter.all false
set_option maxRecDepth 100000
set_option maxHeartbeats 4000000
namespace Gh
open PySem PySem.Spec PyProof.Rows L2
section
variable {F : Fx} {ρ : List G} {s s1 s2 s3 : Sx} {tg a b e : Expr} {es : List Expr} {x y d : D} {xs ys ds items : List D} {pos p : Pos} {k : GE}
theorem ei_pairs {J : It} {n : Nat} {G : Hp → Prop} {f : Nat → Option V} {O : List Addr} {H1 : Hp} {σ : L2.St} (w : Walk J n G (YPair (fun i => some (.int (i : Nat))) f)) (hn : n = xs.length) (hG : ∀ H2, XT (O ++ F.S0) H1 H2 → G H2) (f1 : Fm F O σ H1 ρ s1)
    (hv : ∀ i v, f i = some v → ∃ d, xs[i]? = some d ∧ Rp F.X.K F.p (O ++ F.S0) H1 v d) : Walk J (enumD xs).length (fun H2 => XT (O ++ F.S0) H1 H2) (Yd F O H1 (enumD xs)) := by
  rw [enumD_length, ← hn]
  refine w.mono (fun H3 x3 => hG H3 x3) fun i H3 z H4 hi x3 y => ?_
  obtain ⟨T, u, t, rfl, n, rfl, e1, e2⟩ := y
  cases e1
  obtain ⟨d2, g2, k2⟩ := hv i t e2
  refine ⟨fun c o h => by rw [upd_ne (ne_of_none h n)]; exact h, _, enumD_get g2, fun O' g => ?_⟩
  have nT : T ∉ O' ++ F.S0 := fun m => by
    rcases List.mem_append.mp m with m | m
    · obtain ⟨_, o, ho⟩ := g T m
      rw [n] at ho; cases ho
    · exact f1.fresh (x3.2 T n) (List.mem_append_right _ m)
  exact .tup (.inl ⟨nT, .inl upd_same⟩) (.cons (.int _) (.cons ((rp_later k2 x3 fun a m => (g a m).1).ext (.new n)) .nil))
theorem ei_enumT {kk : Nat} {tpos : Pos} {elts : List Expr} (B : Bf F.X.mg) (ha : Ed F ρ s a (.tup xs) s1) (hg : Gl F.X "enumerate" := by rfl) (he : starEach [a] F.X.env = [(false, eval a F.X.env)] := by rfl) :
    Ei F ρ s (.Tuple elts kk tpos) (.Call (.Name "enumerate" p) [a] [] pos) (enumD xs) s1 := by
  refine ⟨ha.1, fun O σ H f R q => wi (Es.pi_en hg B.enum (pa_cons pe_we pa_nil (by rw [he]; rfl)) he) (ha.2 O σ H f _ fun v H1 f1 x1 r1 => ?_)⟩
  obtain ⟨t, c, vs, rfl, rv, h1, h2⟩ := rp_sq r1 (.inr rfl)
  cases r1 with
  | tup g1 g2 =>
    refine .inl ⟨_, _, rfl, g1.sq, q _ _ f1 x1 (ei_pairs (f1 := f1) Es.walkT g2.length (fun H2 x2 => ?_) fun i v hv => g2.getV hv)⟩
    rcases g1 with ⟨m, g1⟩ | g1
    · exact .inl (rd_ext x2 m g1 nt_tup)
    · rcases g1 with g1 | g1
      · exact (rd_none g1).elim
      · exact .inr g1
/-- enumerate of a list or a tuple -/
theorem ei_enumA {kk : Nat} {tpos : Pos} {elts : List Expr} (B : Bf F.X.mg) (ha : Ed F ρ s a x s1) (hx : x = .lst xs ∨ x = .tup xs) (hg : Gl F.X "enumerate" := by rfl) (he : starEach [a] F.X.env = [(false, eval a F.X.env)] := by rfl) :
    Ei F ρ s (.Tuple elts kk tpos) (.Call (.Name "enumerate" p) [a] [] pos) (enumD xs) s1 := by
  rcases hx with rfl | rfl
  · exact ei_enum B ha hg he
  · exact ei_enumT B ha hg he
/-! max, min of a list of ints -/
/-! targets that turn owned lists -/
/-- list(range(n)), list(range(i, j)) -/
def rgD (a b : Int) : List D := (List.range (b - a).toNat).map fun i => D.int (a + (i : Nat))
theorem rps_rg {K : PySem.W.Frag} {q : Pa} {S : List Addr} {H : Hp} (a : Int) : ∀ l : List Nat, Rps K q S H (l.map fun i => V.int (a + (i : Nat))) (l.map fun i => D.int (a + (i : Nat)))
  | [] => .nil
  | i :: l => .cons (.int _) (rps_rg a l)
theorem el_listRg1 {p2 pos2 : Pos} {n : Int} (B : Bf F.X.mg) (hc : F.X.calm = true) (ha : Ed F ρ s a (.int n) s1) (h : RgOk 0 n) (hg : Gl F.X "list" := by rfl) (hg2 : Gl F.X "range" := by rfl) (na : starEach [a] F.X.env = (false, eval a F.X.env) :: starEach [] F.X.env := by rfl)
    (nb : starEach [.Call (.Name "range" p2) [a] [] pos2] F.X.env = (false, eval (.Call (.Name "range" p2) [a] [] pos2) F.X.env) :: starEach [] F.X.env := by rfl) : El F ρ s (.Call (.Name "list" p) [.Call (.Name "range" p2) [a] [] pos2] [] pos) (rgD 0 n) s1 :=
  ⟨ha.1, fun O σ H f Q q => we (pe_listRg hc hg B.list (prg_1 hg2 B.range pe_we na) nb) (ha.2 O σ H f _ fun v H1 f1 x1 r1 => by
    cases r1
    exact ⟨n, rfl, h, fun c nc => q c _ _ (f1.newO nc) (x1.trans (.new nc)) (x1.2 c nc) upd_same (rps_rg 0 _)⟩)⟩
end
/-! len(set(xs)), ints -/
end Gh
set_option Elab.async false
set_option linter.all false
set_option maxRecDepth 100000
set_option maxHeartbeats 4000000
namespace Gh
open PySem PySem.Spec PyProof.Rows L2
section
variable {F : Fx} {ρ : List G} {s s1 s2 s3 : Sx} {tg a b c e : Expr} {es : List Expr} {x y d : D} {xs ys ds zs items : List D} {pos p : Pos} {k : GE}
/-! list(zip(a, b)), both lists -/
/-! several names at once, new lists among them -/
inductive GV (K : PySem.W.Frag) (p : Pa) (S : List Addr) (H : Hp) : List V → List G → List Addr → Prop
  | nil : GV K p S H [] [] []
  | val {v : V} {d : D} {vs : List V} {gs : List G} {A : List Addr} : Rp K p S H v d → GV K p S H vs gs A → GV K p S H (v :: vs) (.val d :: gs) A
  | own {a : Addr} {ws : List V} {ds : List D} {vs : List V} {gs : List G} {A : List Addr} : H a = some (.lst ws) → Rps K p S H ws ds → a ∉ A → GV K p S H vs gs A → GV K p S H (.ref a :: vs) (.own ds :: gs) (a :: A)
theorem GV.to {K : PySem.W.Frag} {p : Pa} {S S' : List Addr} {H H' : Hp} {vs : List V} {gs : List G} {A : List Addr} (g : GV K p S H vs gs A) (hr : ∀ v d, Rp K p S H v d → Rp K p S' H' v d) (hrs : ∀ vs ds, Rps K p S H vs ds → Rps K p S' H' vs ds) (ha : ∀ a ∈ A, ∀ o, H a = some o → H' a = some o) : GV K p S' H' vs gs A := by
  induction g with
  | nil => exact .nil
  | val r g ih => exact .val (hr _ _ r) (ih ha)
  | own h r n g ih => exact .own (ha _ List.mem_cons_self _ h) (hrs _ _ r) n (ih fun a m => ha a (List.mem_cons_of_mem _ m))
theorem GV.length {K : PySem.W.Frag} {p : Pa} {S : List Addr} {H : Hp} {vs : List V} {gs : List G} {A : List Addr} (g : GV K p S H vs gs A) : vs.length = gs.length := by
  induction g with
  | nil => rfl
  | val r g ih => simp [ih]
  | own h r n g ih => simp [ih]
def Eag (F : Fx) (ρ : List G) (s : Sx) (es : List Expr) (gs : List G) (s' : Sx) : Prop :=
  s.isSome = s'.isSome ∧ ∀ O σ H, Fm F O σ H ρ s → ∀ Q : List V → Hp → Prop, (∀ A O' vs H', Fm F O' σ H' ρ s' → XE F H H' → (∀ a ∈ A, a ∈ O' ∧ H a = none) → (∀ a ∈ O', a ∈ O ∨ H a = none) → (∀ a ∈ O, a ∈ O') → GV F.X.K F.p (O' ++ F.S0) H' vs gs A → Q vs H') → WA F.X es σ H Q
theorem eag_nil : Eag F ρ s [] [] s := ⟨rfl, fun O σ H f Q q => wa pa_nil (q [] O [] H f .refl (fun _ m => absurd m (by simp)) (fun a m => .inl m) (fun a m => m) .nil)⟩
theorem eag_val {gs : List G} (ha : Ed F ρ s e d s1) (hr : Eag F ρ s1 es gs s2) (hs : starEach (e :: es) F.X.env = (false, eval e F.X.env) :: starEach es F.X.env := by rfl) : Eag F ρ s (e :: es) (.val d :: gs) s2 :=
  ⟨ha.1.trans hr.1, fun O σ H f Q q => wa (pa_cons pe_we pa_wa hs) (ha.2 O σ H f _ fun v H1 f1 x1 r1 => hr.2 O σ H1 f1 _ fun A O' vs H2 f2 x2 hA hO hO2 g => q A O' _ H2 f2 (x1.trans x2) (fun a m => ⟨(hA a m).1, x1.2 a (hA a m).2⟩) (fun a m => (hO a m).imp id fun z => x1.2 a z) hO2
    (.val ((r1.to (S' := O' ++ F.S0) fun b m => by
      rcases List.mem_append.mp m with m | m
      · exact (hO b m).imp (fun m => List.mem_append_left _ m) id
      · exact .inl (List.mem_append_right _ m)).ext x2.xt) g))⟩
theorem eag_own {gs : List G} (ha : El F ρ s e ds s1) (hr : Eag F ρ s1 es gs s2) (hs : starEach (e :: es) F.X.env = (false, eval e F.X.env) :: starEach es F.X.env := by rfl) : Eag F ρ s (e :: es) (.own ds :: gs) s2 :=
  ⟨ha.1.trans hr.1, fun O σ H f Q q => wa (pa_cons pe_we pa_wa hs) (ha.2 O σ H f _ fun a vs H1 f1 x1 n1 h1 r1 => hr.2 (a :: O) σ H1 f1 _ fun A O' ws H2 f2 x2 hA hO hO2 g => by
    have na : ¬ (F.act = true ∧ (a = F.p.1 ∨ a = F.p.2) ∧ a ∈ F.S0) := fun z => (f1.fre a List.mem_cons_self).2 z.2.2
    have nA : a ∉ A := fun m => by
      have := (hA a m).2
      rw [h1] at this; cases this
    refine q (a :: A) O' _ H2 f2 (x1.trans x2) (fun b m => ?_) (fun b m => ?_) (fun b m => hO2 b (List.mem_cons_of_mem _ m)) (.own (x2.1 _ _ na h1 nt_lst) ((r1.to (S' := O' ++ F.S0) fun b m => ?_).ext x2.xt) nA g)
    · rcases List.mem_cons.mp m with rfl | m
      · exact ⟨hO2 _ List.mem_cons_self, n1⟩
      · exact ⟨(hA b m).1, x1.2 b (hA b m).2⟩
    · rcases hO b m with z | z
      · rcases List.mem_cons.mp z with rfl | z
        · exact .inr n1
        · exact .inl z
      · exact .inr (x1.2 b z)
    · rcases List.mem_append.mp m with m | m
      · exact (hO b m).imp (fun m => List.mem_append_left _ m) id
      · exact .inl (List.mem_cons_of_mem _ (List.mem_append_right _ m)))⟩
def setG : List G → List Nat → List G → List G
  | ρ, i :: is, g :: gs => setG (ρ.set i g) is gs
  | ρ, _, _ => ρ
def setV : L2.St → List Nat → List V → L2.St
  | σ, i :: is, v :: vs => setV (σ.set i (some v)) is vs
  | σ, _, _ => σ
theorem fm_gv {O : List Addr} {H : Hp} : ∀ {is : List Nat} {vs : List V} {gs : List G} {A : List Addr} {σ : L2.St} {ρ : List G}, is.length = gs.length → Fm F O σ H ρ s → GV F.X.K F.p (O ++ F.S0) H vs gs A → (∀ a ∈ A, a ∈ O) →
    (∀ (j : Nat) (w : Ow) (es : List D) (a : Addr), ρ[j]? = some (.ow w es) → a ∈ A → σ[j]? ≠ some (some (.ref a))) → Fm F O (setV σ is vs) H (setG ρ is gs) s
  | [], _, _, _, _, _, hl, f, g, _, _ => by
    cases g with
    | nil => exact f
    | val => cases hl
    | own => cases hl
  | i :: is, _, _, _, σ, ρ, hl, f, g, hA, hn => by
    cases g with
    | nil => cases hl
    | val rv g =>
      refine fm_gv (is := is) (σ := σ.set i (some _)) (ρ := ρ.set i (.val _)) (Nat.succ.inj hl) (f.set rv) g hA fun j w es a hg m z => ?_
      by_cases e : i = j
      · subst e
        by_cases hl : i < ρ.length
        · rw [List.getElem?_set_self hl] at hg; cases hg
        · rw [List.getElem?_eq_none (by simpa using hl)] at hg; cases hg
      · rw [List.getElem?_set_ne e] at hg z
        exact hn j w es a hg m z
    | @own a ws ds vs gs A h0 rs na g =>
      refine fm_gv (is := is) (σ := σ.set i (some (.ref a))) (ρ := ρ.set i (.own ds)) (Nat.succ.inj hl) (f.setOwn (hA a List.mem_cons_self) (fun j w es hg z => hn j w es a hg List.mem_cons_self z) h0 rs) g (fun b m => hA b (List.mem_cons_of_mem _ m)) fun j w es b hg m z => ?_
      by_cases e : i = j
      · subst e
        by_cases hl : i < σ.length
        · rw [List.getElem?_set_self hl] at z; cases z; exact na m
        · rw [List.getElem?_eq_none (by simpa using hl)] at z; cases z
      · rw [List.getElem?_set_ne e] at hg z
        exact hn j w es b hg (List.mem_cons_of_mem _ m) z
/-- a, b, c = e1, e2, e3, new lists among them -/
theorem bs_par3G (i j l : Nat) {x y z : Str} {px py pz pt : Pos} {kt k2} {pt2 : Pos} {g1 g2 g3 : G} (hc : F.X.calm = true) (hN : F.X.N.Nodup) (hi : F.X.N[i]? = some x) (hj : F.X.N[j]? = some y) (hl : F.X.N[l]? = some z) (hij : i ≠ j) (hil : i ≠ l) (hjl : j ≠ l) (hx : F.X.env.scope.names.lookup x = some .local) (hy : F.X.env.scope.names.lookup y = some .local) (hz : F.X.env.scope.names.lookup z = some .local)
    (ha : Eag F ρ s [a, b, c] [g1, g2, g3] s1) (hk : k.nx (((ρ.set i g1).set j g2).set l g3) s1) (hw : swappedStores [.Tuple [.Name x px, .Name y py, .Name z pz] kt pt] (.Tuple [a, b, c] k2 pt2) F.X.env = pure (some [x, y, z]) := by rfl) (hs : swapsWithSole [.Tuple [.Name x px, .Name y py, .Name z pz] kt pt] (.Tuple [a, b, c] k2 pt2) pos.line F.X.env = pure false := by rfl) :
    Bs F (.Assign [.Tuple [.Name x px, .Name y py, .Name z pz] kt pt] (.Tuple [a, b, c] k2 pt2) pos) ρ s k :=
  fun O σ H f E q => ws (ps_par3 hc hN hi hj hl hij hil hjl hx hy hz pa_wa hw hs) (ha.2 O σ H f _ fun A O' vs H1 f1 x1 hA hO hO2 g => by
    have f2 := fm_gv (is := [i, j, l]) rfl f1 g (fun a m => (hA a m).1) fun j w es a hg m z => f.notOwn (hA a m).2 j w es hg z
    have e := g.length
    match vs, e, f2 with
    | [v1, v2, v3], _, f2 => exact ⟨_, _, _, rfl, q.nx O' _ H1 _ s1 f2 ⟨x1.xt, fun a m => hO a m⟩ hk⟩)
/-! e.append(c), e a new list that nobody holds -/
end
end Gh
set_option Elab.async false
set_option linter.all false
set_option maxRecDepth 100000
set_option maxHeartbeats 4000000
namespace Gh
open PySem PySem.Spec PyProof.Rows L2
theorem StA.less {K : PySem.W.Frag} {T : Ts} {p : Pa} {S S' : List Addr} {H : Hp} {s : Sx} (h : StA K T p S H s) (m : s.isSome = true → In p S') (w : ∀ b ∈ S', b ∈ S) : StA K T p S' H s := by
  cases s with
  | none => exact h
  | some ds =>
    obtain ⟨q1, q2, vs, q3, q4⟩ := h
    exact ⟨q1, m rfl, vs, q3, q4.weak w⟩
theorem RnL.rn {E : En} {k : Nat} {f : Str} {ds zs : List D} {s s' : Sx} (r : RnL E k f ds s zs s') : Rn E k f ds s (.lst zs) s' := by
  obtain ⟨kd, fa, fd, ps, h1, h2, h3, h4⟩ := r
  refine ⟨kd, fa, fd, ps, h1, h2, h3, h4.imp fun vs H Q EX h => ?_⟩
  obtain ⟨p, S, r, tr, t, q⟩ := h
  refine ⟨p, S, r, tr, t, fun a ws H' n h' rs x t' => q _ _ (.lst (fun m => ?_) h' (rs.weak fun b m => List.mem_cons_of_mem _ m)) x (t'.less (fun z => by
    cases s with
    | none => rw [← kd] at z; cases z
    | some ds => exact t.2.1) fun b m => List.mem_cons_of_mem _ m)⟩
  obtain ⟨o, ho⟩ := tr a m
  rw [n] at ho; cases ho
section
variable {F : Fx} {ρ : List G} {s : Sx} {sts : List Stmt} {ds : List D} {pos p : Pos}
/-- return x, x owned -/
theorem bkl_retOwn (i : Nat) {x : Str} (hN : F.X.N[i]? = some x) (hv : Vis F.X.env.scope x) (hρ : ρ[i]? = some (.own ds)) (hd : (x == ("__debug__" : Str)) = false := by decide) (hcd : (x == ("__classdict__" : Str)) = false := by decide) : BkL F (.Return (some (.Name x p)) pos :: sts) ρ s ds s :=
  fun O σ H f E q => wb (pss_cons (ps_ret (pe_var hN hv hd hcd)) pss_wb) (by
    obtain ⟨o, ho, a, vs, eo, m, h1, r, _⟩ := f.slot i _ hρ
    subst eo
    have ma := f.own i _ ds a hρ ho
    have w : ∀ b ∈ a :: F.S0, b ∈ O ++ F.S0 := fun b m => ?_
    refine ⟨_, ho, q a vs H (f.fre a ma).1 (f.fre a ma).2 h1 (r.weak w) f.ext (f.st.less (fun z => (f.pm z).to fun _ m => List.mem_cons_of_mem _ m) w)⟩
    rcases List.mem_cons.mp m with rfl | m
    · exact List.mem_append_left _ ma
    · exact List.mem_append_right _ m)
end
end Gh
set_option Elab.async false
set_option linter.all false
set_option maxRecDepth 100000
set_option maxHeartbeats 4000000
namespace Gh
open PySem PySem.Spec PyProof.Rows L2
end Gh
set_option Elab.async false
set_option linter.all false
set_option maxRecDepth 100000
set_option maxHeartbeats 4000000
namespace Gh
open PySem PySem.Spec PyProof.Rows L2
section
variable {F : Fx} {ρ : List G} {s s1 s2 s3 : Sx} {a b c e : Expr} {es rest : List Expr} {x y z d : D} {xs ys zs ds : List D} {pos p p2 : Pos} {tg : Expr}
/-- int(bool) -/
theorem ed_intB {k : Bool} (B : Bf F.X.mg) (ha : Ed F ρ s a (.bl k) s1) (hg : Gl F.X "int" := by rfl) (he : starEach [a] F.X.env = (false, eval a F.X.env) :: starEach [] F.X.env := by rfl) : Ed F ρ s (.Call (.Name "int" p) [a] [] pos) (.int (if k then 1 else 0)) s1 :=
  ed_callTy call_int1 B.int boot_int' (ea_cons ha ea_nil he) (fun O σ H f vs r Q q => by
    cases r with
    | cons r1 r2 => cases r2; cases r1; exact .inr ⟨k, rfl, q _ _ f .refl (.int _)⟩) hg (by decide) (by decide) he rfl
/-- list * int -/
theorem el_rep {k : Int} (ha : Ed F ρ s a (.lst xs) s1) (hb : Ed F ρ s1 b (.int k) s2) (hk : -(2 ^ 63) ≤ k ∧ k < 2 ^ 63) (hl : xs.length * k.toNat ≤ sizeLine) : El F ρ s (.BinOp a .Mult b pos) (List.replicate k.toNat xs).flatten s2 :=
  el_op op_rep ha hb fun O σ H f v w r1 r2 Q q => by
    cases r1 with
    | lst m1 h1 h2 =>
      cases r2
      exact ⟨_, k, _, rfl, rfl, h1, hk.1, hk.2, by rw [h2.length]; exact hl, fun t n => q t _ _ (f.newO n) (.new n) n upd_same (((rps_rep h2 _).fresh n).ext (.new n))⟩
end
end Gh
set_option Elab.async false
set_option linter.all false
set_option maxRecDepth 100000
set_option maxHeartbeats 4000000
/-! xs[::-1] of a list -/
namespace Gh
open PySem PySem.Spec PyProof.Rows L2
end Gh
set_option Elab.async false
set_option linter.all false
set_option maxRecDepth 100000
set_option maxHeartbeats 4000000
/-! list(zip(xs, ys)), xs and ys lists or tuples -/
namespace Lm
open PySem PySem.Spec PyProof.Rows L2
section
variable {prog : Program} {w : World} {A : Around} {E : Value → Shared → Prop} {s : Shared}
theorem Src_to {t : Bool} {h h' : Heap} {l : Addr} {xs : Array Value} (x : Zm.Src t h l xs) (e : ∀ o, h.get? l = some o → h'.get? l = some o) : Zm.Src t h' l xs := by
  cases t with
  | true => exact Heap.IsTuple.at x e
  | false => exact Heap.IsList.at x e
theorem held_end {t u : Bool} {z TI TO T i1 i2 l1 l2 : Addr} {f : Bool} {oT : Obj} {k1 k2 : Nat} {xs ys : Array Value} {Q : Option Value → Shared → Prop} (hh : A.handled = none) (D : ZipApart z TI TO i1 i2 l1 l2)
    (hz : IsZipHeld s.heap z TI TO T f) (hT : s.heap.get? T = some oT) (hTI : IsPair s.heap TI (.ref i1) (.ref i2))
    (h1 : Zm.Run t s.heap i1 l1 k1) (h2 : Zm.Run u s.heap i2 l2 k2) (hl1 : Zm.Src t s.heap l1 xs) (hl2 : Zm.Src u s.heap l2 ys) (hend : xs[k1]? = none ∨ ys[k2]? = none)
    (hQ : ∀ h', (∀ c o, c ≠ z → c ≠ i1 → c ≠ i2 → s.heap.get? c = some o → h'.get? c = some o) → Q none { s with heap := h' }) : wpAny (model prog w) A (pyNext (.ref z)) Q E s := by
  have hTy : s.TypeIs (.ref z) "zip" := ⟨_, hz, rfl⟩
  unfold pyNext
  refine wpAny_bind (wpAny_attempt (wpAny_callSpecial?_slot (name := Str.ofString "__next__") hTy F.slot_zip_next (wpAny_call_entry F.slot_zip_next hTy F.entry_zip_next ?_ (F.args_zip_next_1 _))))
  have key : ∀ (E' : Value → Shared → Prop) (Q' : Fin → Shared → Prop), (∀ (h' : Heap) (e : Addr), (∀ c o, c ≠ z → c ≠ i1 → c ≠ i2 → s.heap.get? c = some o → h'.get? c = some o) → (∃ o, h'.get? e = some o ∧ o.cls = .type "StopIteration") → E' (.ref e) { s with heap := h' }) →
      wpAny (model prog w) A.in1 (Builtin.«zip.__next__» ⟨[.ref z], []⟩) Q' E' s := fun E' Q' hE => by
    show wpAny _ _ (field (.ref z) 2 >>= _) _ _ _
    refine wpAny_bind (wpAny_field hz rfl (x := .bool false) rfl ?_)
    show wpAny _ _ (field (.ref z) 3 >>= _) _ _ _
    refine wpAny_bind (wpAny_field hz rfl (x := .ref TI) rfl (wpAny_bind (wpAny_seqItems hTI rfl ?_)))
    show wpAny _ _ (Builtin.SmallTypes.ownedTupleIsFree (.ref z) >>= _) _ _ _
    refine wpAny_bind (wpAny_tupleHeld_zip hz hT fun ha za sa => ?_)
    simp only [Bool.false_eq_true, if_false]
    refine wpAny_bind ?_
    rw [← Array.forIn_toList]
    simp only [List.forIn_cons, List.forIn_nil]
    refine wpAny_bind (wpAny_bind (wpAny_holding ?_))
    show wpAny _ _ (Builtin.SmallTypes.nextOf (.ref i1) >>= _) _ _ _
    cases hx : xs[k1]? with
    | none => exact wpAny_bind (Zm.next_end (s := { s with heap := ha }) hh (h1.but sa.extBut D.i1z) (hl1.but sa.extBut D.l1z) hx fun hb e sb he => hE hb e (fun c o c1 c2 _ x => sb _ _ c2 (sa.extBut _ _ c1 x)) he)
    | some x =>
      have hy : ys[k2]? = none := by
        rcases hend with h | h
        · rw [hx] at h; cases h
        · exact h
      refine wpAny_bind (Zm.next_item (s := { s with heap := ha }) (h1.but sa.extBut D.i1z) (hl1.but sa.extBut D.l1z) hx fun hb r1 sb => wpAny_pure (wpAny_pure ?_))
      refine wpAny_bind (wpAny_bind (wpAny_holding ?_))
      show wpAny _ _ (Builtin.SmallTypes.nextOf (.ref i2) >>= _) _ _ _
      exact wpAny_bind (Zm.next_end (s := { s with heap := hb }) hh ((h2.but sa.extBut D.i2z).but sb.extBut D.i12.symm) ((hl2.but sa.extBut D.l2z).but sb.extBut D.l2i1) hy fun hc e sc he => hE hc e (fun c o c1 c2 c3 x => sc _ _ c3 (sb.extBut _ _ c2 (sa.extBut _ _ c1 x))) he)
  refine key _ _ fun h' e hk he => ?_
  obtain ⟨o, ho, hc⟩ := he
  refine wpAny_bind (wpAny_isInstance (T := "StopIteration") (b := true) ⟨o, ho, hc⟩ isSubtype_stop ?_)
  exact wpAny_pure (hQ _ hk)
structure Zs (ta tb : Bool) (xs ys : Array Value) (z TI TO i1 i2 l1 l2 S : Addr) (i : Nat) (h : Heap) : Prop where
  tI : IsPair h TI (.ref i1) (.ref i2)
  r1 : Zm.Run ta h i1 l1 i
  r2 : Zm.Run tb h i2 l2 i
  s1 : Zm.Src ta h l1 xs
  s2 : Zm.Src tb h l2 ys
  z : (i = 0 ∧ IsZip h z TI TO .none ∧ ∃ x y, IsPair h TO x y) ∨ ∃ T f oT, IsZipHeld h z TI TO T f ∧ h.get? T = some oT ∧ S < T
theorem Zs.keep {ta tb : Bool} {xs ys : Array Value} {z TI TO i1 i2 l1 l2 S : Addr} {i : Nat} {h h' : Heap} (x : Zs ta tb xs ys z TI TO i1 i2 l1 l2 S i h) (k : ∀ b o, b ≠ S → h.get? b = some o → h'.get? b = some o) (n : z ≠ S ∧ TI ≠ S ∧ TO ≠ S ∧ i1 ≠ S ∧ i2 ≠ S ∧ l1 ≠ S ∧ l2 ≠ S) : Zs ta tb xs ys z TI TO i1 i2 l1 l2 S i h' := by
  obtain ⟨n1, n2, n3, n4, n5, n6, n7⟩ := n
  refine ⟨k _ _ n2 x.tI, x.r1.to fun o e => k _ o n4 e, x.r2.to fun o e => k _ o n5 e, Src_to x.s1 fun o e => k _ o n6 e, Src_to x.s2 fun o e => k _ o n7 e, ?_⟩
  rcases x.z with ⟨e, q, u, v, p⟩ | ⟨T, f, oT, q, e, lt⟩
  · exact .inl ⟨e, k _ _ n1 q, u, v, k _ _ n3 p⟩
  · exact .inr ⟨T, f, oT, k _ _ n1 q, k _ _ (Nat.ne_of_gt lt) e, lt⟩
theorem done {ta tb : Bool} {xs ys : Array Value} {z TI TO i1 i2 l1 l2 S : Addr} {i : Nat} {Q : Option Value → Shared → Prop} (hh : A.handled = none) (D : ZipApart z TI TO i1 i2 l1 l2) (st : Zs ta tb xs ys z TI TO i1 i2 l1 l2 S i s.heap) (he : xs[i]? = none ∨ ys[i]? = none)
    (hQ : ∀ h', (∀ b o, b ≠ z → b ≠ TO → b ≠ i1 → b ≠ i2 → s.heap.get? b = some o → h'.get? b = some o) → Q none { s with heap := h' }) : wpAny (model prog w) A (pyNext (.ref z)) Q E s := by
  rcases st.z with ⟨e, q, u, v, p⟩ | ⟨T, f, oT, q, e, ltT⟩
  · exact Zm.py_end (t := ta) (u := tb) hh D q st.tI p st.r1 st.r2 st.s1 st.s2 he fun h' hk => hQ h' hk
  · exact held_end (t := ta) (u := tb) hh D q e st.tI st.r1 st.r2 st.s1 st.s2 he fun h' hk => hQ h' fun b o c1 _ c3 c4 e => hk b o c1 c3 c4 e
/-- how the cells lie -/
structure Lie (z TI TO i1 i2 l1 l2 S : Addr) : Prop where
  D : ZipApart z TI TO i1 i2 l1 l2
  lt : z < S ∧ i1 < S ∧ i2 < S ∧ TO < S ∧ l1 < S ∧ l2 < S ∧ TI < S
  n : l1 ≠ i2 ∧ l1 ≠ i1 ∧ l2 ≠ i1 ∧ l2 ≠ i2 ∧ l1 ≠ z ∧ l2 ≠ z ∧ l1 ≠ TO ∧ l2 ≠ TO
theorem Lie.ne {z TI TO i1 i2 l1 l2 S : Addr} (L : Lie z TI TO i1 i2 l1 l2 S) : z ≠ S ∧ TI ≠ S ∧ TO ≠ S ∧ i1 ≠ S ∧ i2 ≠ S ∧ l1 ≠ S ∧ l2 ≠ S := by
  obtain ⟨o1, o2, o3, o4, o5, o6, o7⟩ := L.lt
  exact ⟨Nat.ne_of_lt o1, Nat.ne_of_lt o7, Nat.ne_of_lt o4, Nat.ne_of_lt o2, Nat.ne_of_lt o3, Nat.ne_of_lt o5, Nat.ne_of_lt o6⟩
end
end Lm
namespace Gh
open PySem PySem.Spec PyProof.Rows L2
end Gh
set_option Elab.async false
set_option linter.all false
set_option maxRecDepth 100000
set_option maxHeartbeats 4000000
/-! instances that are only read, methods, bound methods, the making of an instance -/
namespace Gh
open PySem PySem.Spec PyProof.Rows L2
/-- the def at an address, called with these data, hands back that -/
structure RnA (E : En) (k : Nat) (fa : Addr) (ds : List D) (s : Sx) (d : D) (s' : Sx) : Prop where
  kd : s.isSome = s'.isSome
  ok : ∃ fd ps, PySem.W.keepIn E.K (.ref fa) = true ∧ Binds E.K fd ps [] ∧ FnOk E.P E.w E.K E.mg E.base CX0 k fa fd ps (spOf E.K E.T ds s d s')
theorem RnA.is {E : En} {k : Nat} {f : Addr} {ds : List D} {s s' : Sx} {d d' : D} (r : RnA E k f ds s d s') (h : d = d') : RnA E k f ds s d' s' := h ▸ r
theorem RnA.mono {E : En} {j k : Nat} {f : Addr} {ds : List D} {s s' : Sx} {d : D} (r : RnA E j f ds s d s') (h : j ≤ k) : RnA E k f ds s d s' := by
  obtain ⟨kd, fd, ps, h2, h3, h4⟩ := r
  exact ⟨kd, fd, ps, h2, h3, h4.mono h⟩
theorem Rn.at {E : En} {k : Nat} {f : Str} {fa : Addr} {ds : List D} {s s' : Sx} {d : D} (r : Rn E k f ds s d s') (h : E.mg f = some (.ref fa)) : RnA E k fa ds s d s' := by
  obtain ⟨kd, fb, fd, ps, h1, h2, h3, h4⟩ := r
  obtain rfl : fb = fa := by
    have z := h1.symm.trans h
    cases z; rfl
  exact ⟨kd, fd, ps, h2, h3, h4⟩
/-- a def, whatever its defaults -/
structure FunQ (K : PySem.W.Frag) (x qual : Str) (st : Stmt) (f : Addr) (fd : FuncData) : Prop where
  ex : ∃ (oc : Value) (od : Option Addr) (dV kV doc pm : Value) (an : Option Addr) (cdv ct : Value) (osl : Array (Option Value)),
    fd = PySem.W.fnOf x qual (defArgs st) (defBody st) (defScope st) dV kV doc pm an cdv ct ∧ K.lookup f = some ⟨oc, od, .func fd, osl⟩ ∧ PySem.W.codeIn K cdv qual = true
  kp : PySem.W.keepIn K (.ref f) = true
theorem FunQ.ok {P : Program} {w : World} {K : PySem.W.Frag} {mg : Str → Option Value} {base : Heap} {x qual : Str} {st : Stmt} {f : Addr} {fd : FuncData} {N ps : List Str} {k : Nat} {sp : Sp} (F : FunQ K x qual st f fd) (S : FnScope N ps (defScope st)) (len : ∀ vs H Q E, sp vs H Q E → vs.length = ps.length)
    (hbody : ∀ (cdv : Value) (A : Around) (outer : List Env) (s : Shared) (H : Hp) (vs : List V) (Q : VK) (E : XK), Room k (A.deeper (envOfC qual (defScope st) s.heap.objs.size f cdv)) → sp vs H Q E →
      ∃ t, PSs (cxOf CX0 P w K mg base N qual (defScope st) f cdv A outer s H E).nox (defBody st) t ∧ t { nx := fun _ H' => Q .non H', rt := Q } (start N vs) H) : FnOk P w K mg base CX0 (k + 1) f fd ps sp := by
  obtain ⟨oc, od, dV, kV, doc, pm, an, cdv, ct, osl, rfl, lk, hcd⟩ := F.ex
  refine fn_of lk hcd S len fun A outer s H vs Q E hr hsp => ?_
  obtain ⟨t, h, q⟩ := hbody cdv A outer s H vs Q E hr hsp
  exact ⟨t, h.nox, q⟩
theorem funq_of {K : PySem.W.Frag} {x q : Str} {st : Stmt} {dvs : List V} {kws : List (Str × V)} {f : Addr} {fd : FuncData} (F : FunD K x q (defArgs st) (defBody st) (defScope st) dvs kws f fd) : FunQ K x q st f fd := by
  obtain ⟨oc, od, dV, kV, doc, pm, an, cdv, ct, osl, e, lk, hcd, hD, hK⟩ := F.ex
  exact ⟨⟨oc, od, dV, kV, doc, pm, an, cdv, ct, osl, e, lk, hcd⟩, F.kp⟩
/-- all parameters are given -/
theorem bindsQ {K : PySem.W.Frag} {x qual : Str} {params : Arguments} {body : List Stmt} {scope : Scope} {dvs : List V} {kws : List (Str × V)} {f : Addr} {fd : FuncData} {ps : List Str} (F : FunD K x qual params body scope dvs kws f fd) (hd : dvs ≠ [])
    (h : ∀ (T : Addr) (kV doc pm : Value) (an : Option Addr) (cdv ct : Value) (us its : List Value), us.length = ps.length → its.length = dvs.length →
      ∃ k, bindArgs (PySem.W.fnOf x qual params body scope (.ref T) kV doc pm an cdv ct) ⟨us, []⟩ = seqItems? (.ref T) >>= k ∧ k (some its.toArray) = pure (ps.zip us)) : Binds K fd ps [] := by
  obtain ⟨ds, hv, hb⟩ := F.binds1 (ps := ps) ps.length dvs.length hd (by omega) fun T kV doc pm an cdv ct us its h1 h2 => by
    obtain ⟨k, e1, e2⟩ := h T kV doc pm an cdv ct us its h1 h2
    refine ⟨k, e1, ?_⟩
    rw [← h2, List.drop_length, List.append_nil]
    exact e2
  have : ds = [] := by
    rw [List.drop_length] at hv
    exact List.length_eq_zero_iff.mp hv.length.symm
  rw [this] at hb
  exact hb
structure Dm (E : En) (st : Stmt) (fa : Addr) (x q : Str) (ps : List Str) : Prop where
  ok : ∃ fd, FunQ E.K x q st fa fd ∧ Binds E.K fd ps []
abbrev bodyM (E : En) (N : List Str) (q : Str) (st : Stmt) (s : Sx) (fa : Addr) (cdv : Value) (A : Around) (outer : List Env) (sh : Shared) (H0 : Hp) (EX : XK) (S0 : List Addr) (p : Pa) : Fx :=
  ⟨(cxOf CX0 E.P E.w E.K E.mg E.base N q (defScope st) fa cdv A outer sh H0 EX).nox, H0, S0, p, s.isSome, E.T⟩
theorem Dm.rn {E : En} {x q : Str} {st : Stmt} {N ps : List Str} {k : Nat} {fa : Addr} {ds : List D} {s s' : Sx} {d : D} (T : Dm E st fa x q ps) (S : FnScope N ps (defScope st)) (kd : s.isSome = s'.isSome) (hl : ds.length = ps.length)
    (body : ∀ (cdv : Value) (A : Around) (outer : List Env) (sh : Shared) (H0 : Hp) (EX : XK) (S0 : List Addr) (p : Pa), Room k (bodyM E N q st s fa cdv A outer sh H0 EX S0 p).X.A →
      Bk (bodyM E N q st s fa cdv A outer sh H0 EX S0 p) (defBody st) (gStart N ds) s { nx := fun _ t => d = .non ∧ t = s', rt := fun r t => r = d ∧ t = s' }) : RnA E (k + 1) fa ds s d s' := by
  obtain ⟨fd, F, hb⟩ := T.ok
  refine ⟨kd, fd, ps, F.kp, hb, F.ok S (fun vs H Q EX h => ?_) fun cdv A outer sh H vs Q EX hr h => ?_⟩
  · obtain ⟨p, S, r, _⟩ := h
    rw [r.length, hl]
  · obtain ⟨p, S0, r, tr, t, q2⟩ := h
    refine ⟨_, pss_wb, body cdv A outer sh H EX S0 p hr [] (L2.start N vs) H (fm_start (F := bodyM E N q st s fa cdv A outer sh H EX S0 p) r tr t rfl) _ ⟨fun O σ H' ρ t' f st h => ?_, fun v H' r' t' rv xp ta h => ?_, fun O σ H' ρ t' f st h => h.elim, fun O σ H' ρ t' f st h => h.elim, fun O σ H' ρ t' cls dd x f st a h => h.elim⟩⟩
    · obtain ⟨rfl, rfl⟩ := h
      exact q2 .non H' .non (f.ext.kind kd.symm) f.sa0
    · obtain ⟨rfl, rfl⟩ := h
      exact q2 v H' rv (xp.kind kd.symm) ta
theorem zip_lookup {K : PySem.W.Frag} {p : Pa} {S : List Addr} {H : Hp} {f : Str} {d : D} : ∀ {ks : List Str} {vs : List V} {ds : List D}, Rps K p S H vs ds → (ks.zip ds).lookup f = some d → ∃ v, (ks.zip vs).lookup f = some v ∧ Rp K p S H v d
  | [], _, _, _, h => by simp at h
  | k :: ks, _, [], _, h => by simp at h
  | k :: ks, _, e :: ds, r, h => by
    cases r with
    | cons r1 r2 =>
      rw [List.zip_cons_cons, List.lookup_cons] at h ⊢
      cases z : f == k with
      | true => rw [z] at h; cases h; exact ⟨_, rfl, r1⟩
      | false => rw [z] at h; exact zip_lookup r2 h
theorem zip_none {α : Type} {f : Str} : ∀ {ks : List Str} {vs : List α}, f ∉ ks → (ks.zip vs).lookup f = none
  | [], _, _ => by simp
  | k :: ks, [], _ => by simp
  | k :: ks, v :: vs, h => by
    rw [List.zip_cons_cons, List.lookup_cons, show (f == k) = false from by simpa using fun z => h (by rw [z]; exact List.mem_cons_self)]
    exact zip_none fun m => h (List.mem_cons_of_mem _ m)
theorem putF_new {f : Str} {y : V} : ∀ {ks : List Str} {vs : List V}, f ∉ ks → ks.length = vs.length → putF f y (ks.zip vs) = (ks ++ [f]).zip (vs ++ [y])
  | [], [], _, _ => rfl
  | [], _ :: _, _, h => by cases h
  | _ :: _, [], _, h => by cases h
  | k :: ks, v :: vs, h, e => by
    rw [List.zip_cons_cons, putF, if_neg (fun z => h (by rw [z]; exact List.mem_cons_self)), List.cons_append, List.cons_append, List.zip_cons_cons, putF_new (fun m => h (List.mem_cons_of_mem _ m)) (by simpa using e)]
section
variable {F : Fx} {ρ : List G} {s s1 s2 s3 : Sx} {o e : Expr} {es : List Expr} {d : D} {xs ds : List D} {pos p : Pos} {k : GE} {C g : Addr} {ks : List Str} {f m : Str}
/-- o.f, a field -/
theorem ed_fld (c : Cls F.X.K C) (n : NoAttr F.X.K C f) (ho : Ed F ρ s o (.ins C ks xs) s1) (h : (ks.zip xs).lookup f = some d) (hb : attributeBase o f F.X.env (eval o F.X.env) = eval o F.X.env := by rfl) : Ed F ρ s (.Attribute o f pos) d s1 :=
  ⟨ho.1, fun O σ H fm Q q => we (pe_fld pe_we hb) (ho.2 O σ H fm _ fun v H1 f1 x1 r1 => by
    cases r1 with
    | ins m h1 h2 h3 =>
      obtain ⟨v, e1, e2⟩ := zip_lookup h2 h
      exact ⟨_, _, _, _, v, rfl, h1, c, n, e1, q v H1 f1 x1 e2⟩)⟩
/-- self.f = e, f new -/
theorem bs_fld (i : Nat) {x : Str} {px p' : Pos} {a dx : Addr} (c : Cls F.X.K C) (n : NoAttr F.X.K C f) (hN : F.X.N[i]? = some x) (hv : Vis F.X.env.scope x) (h : Ed F ρ s e d s1) (hρ : ρ[i]? = some (.ow (.ins a C dx ks) xs)) (hf : f ∉ ks) (hk : k.nx (ρ.set i (.ow (.ins a C dx (ks ++ [f])) (xs ++ [d]))) s1) (hl : ks.length < 900)
    (hd : (x == ("__debug__" : Str)) = false := by decide) (hcd : (x == ("__classdict__" : Str)) = false := by decide) (hs : swapsWith e (some (.Attribute (.Name x px) f p')) pos.line F.X.env = pure false := by rfl) : Bs F (.Assign [.Attribute (.Name x px) f p'] e pos) ρ s k :=
  fun O σ H fm E q => ws (ps_fld (pe_var hN hv hd hcd) pe_we hs) (h.2 O σ H fm _ fun v H1 f1 x1 r1 => by
    obtain ⟨o, ho, b, vs, eo, mb, h1, r, ft⟩ := f1.slot i _ hρ
    subst eo
    have el : ks.length = vs.length := by rw [r.length]; exact ft.2
    refine ⟨_, ho, b, C, dx, _, rfl, h1, c, n, ?_, ?_⟩
    · show (ks.zip vs).length < 1000
      rw [List.length_zip]; omega
    · obtain ⟨f2, x2⟩ := f1.mutO (w' := .ins a C dx (ks ++ [f])) hρ ho (r.append (.one r1)) ⟨ft.1, by simp [ft.2]⟩ ⟨_, h1, nt_ins⟩
      have e9 : (HO.ins C dx (putF f v (ks.zip vs))) = Ow.ho (.ins a C dx (ks ++ [f])) (vs ++ [v]) := by
        show _ = HO.ins C dx _
        rw [putF_new hf el]
      rw [e9]
      exact q.nx O σ _ _ s1 f2 (.of (x1.xt.trans x2)) hk)
/-- o.m(e, ..) -/
theorem ed_meth {j : Nat} {apos : Pos} {pl : Sem Bool} (c : Cls F.X.K C) (hm : Meth F.X.K C m g) (ho : Ed F ρ s o (.ins C ks xs) s1) (hn : m ∉ ks) (ha : Ea F ρ s1 (e :: es) ds s2) (hr : Room j F.X.A) (R : RnA F.en j g (.ins C ks xs :: ds) s2 d s3)
    (hst : starEach (e :: es) F.X.env = (false, eval e F.X.env) :: starEach es F.X.env := by rfl) (hpl : (backTo pos (starEach es F.X.env)).any (·.1) = false := by rfl)
    (ht : eval (.Call (.Attribute o m apos) (e :: es) [] pos) F.X.env = (do
      let ov ← eval o F.X.env
      standAt apos.atName
      let (f, first) ← holding [ov] (getMethod ov m pl)
      callWith pos f first (backTo pos (starEach (e :: es) F.X.env)) (backToKw pos (keywordEach [] F.X.env))) := by rfl) : Ed F ρ s (.Call (.Attribute o m apos) (e :: es) [] pos) d s3 := by
  obtain ⟨kd, fd, ps, h2, h3, h4⟩ := R
  refine ⟨(ho.1.trans ha.1).trans kd, fun O σ H fm Q q => we (pe_meth pe_we c hm h4 hr h3 .nil pass0 pa_wa hst hpl ht) (ho.2 O σ H fm _ fun v H1 f1 x1 r1 => ?_)⟩
  cases r1 with
  | @ins a dx _ _ vs _ n1 h1 hv hl =>
    refine ⟨a, dx, _, rfl, h1, zip_none hn, ha.2 O σ H1 f1 _ fun ws H2 f2 x2 r2 => ?_⟩
    rw [List.append_nil]
    exact ⟨F.p, O ++ F.S0, .cons ((Rp.ins n1 h1 hv hl).ext x2.xt) r2, f2.trk, f2.st, fun v H3 r3 x3 t3 => q v H3 (f2.grow x3 kd t3) ((x1.trans x2).trans (x3.xe f2.pm f2.kd)) r3⟩
/-- o.m() -/
theorem ed_meth0 {j : Nat} {apos : Pos} {pl : Sem Bool} (c : Cls F.X.K C) (hm : Meth F.X.K C m g) (ho : Ed F ρ s o (.ins C ks xs) s1) (hn : m ∉ ks) (hr : Room j F.X.A) (R : RnA F.en j g [.ins C ks xs] s1 d s3)
    (ht : eval (.Call (.Attribute o m apos) [] [] pos) F.X.env = (do
      let ov ← eval o F.X.env
      standAt apos.atName
      let (f, first) ← holding [ov] (getMethod ov m pl)
      callWith pos f first (backTo pos (starEach [] F.X.env)) (backToKw pos (keywordEach [] F.X.env))) := by rfl) : Ed F ρ s (.Call (.Attribute o m apos) [] [] pos) d s3 := by
  obtain ⟨kd, fd, ps, h2, h3, h4⟩ := R
  refine ⟨ho.1.trans kd, fun O σ H fm Q q => we (pe_meth0 pe_we c hm h4 hr h3 .nil pass0 ht) (ho.2 O σ H fm _ fun v H1 f1 x1 r1 => ?_)⟩
  cases r1 with
  | @ins a dx _ _ vs _ n1 h1 hv hl =>
    exact ⟨a, dx, _, rfl, h1, zip_none hn, F.p, O ++ F.S0, .cons (Rp.ins n1 h1 hv hl) .nil, f1.trk, f1.st, fun v H3 r3 x3 t3 => q v H3 (f1.grow x3 kd t3) (x1.trans (x3.xe f1.pm f1.kd)) r3⟩
end
/-! ### C(e, ..) -/
def hid (x : Addr) (H : Hp) : Hp := fun b => if b = x then none else H b
theorem hid_ne {x b : Addr} {H : Hp} (h : b ≠ x) : hid x H b = H b := if_neg h
theorem hid_same {x : Addr} {H : Hp} : hid x H x = none := if_pos rfl
/-- what __init__ promises: from these data the instance gets these fields -/
def spI (K : PySem.W.Frag) (T : Ts) (C : Addr) (ds : List D) (s : Sx) (ks : List Str) (es : List D) (s' : Sx) : Sp := fun vs H Q _ => ∃ (x dx : Addr) (ws : List V) (p : Pa) (S : List Addr), vs = .ref x :: ws ∧ H x = some (.ins C dx []) ∧ x ∉ S ∧ Rps K p (x :: S) H ws ds ∧ (∀ a ∈ S, ∃ o, H a = some o) ∧ (s.isSome = true → In p S) ∧ StA K T p (x :: S) H s ∧
  ∀ H' us, H' x = some (.ins C dx (ks.zip us)) → ks.length = us.length → Rps K p (x :: S) H' us es → XP p s (hid x H) H' → StA K T p (x :: S) H' s' → Q .non H'
/-- C(..) with these data gives an instance with these fields -/
structure RnI (E : En) (k : Nat) (c : Str) (C : Addr) (ds : List D) (s : Sx) (ks : List Str) (es : List D) (s' : Sx) : Prop where
  kd : s.isSome = s'.isSome
  ok : ∃ fI fd ps, E.mg c = some (.ref C) ∧ Mk E.K C fI ∧ Binds E.K fd ps [] ∧ FnOk E.P E.w E.K E.mg E.base CX0 k fI fd ps (spI E.K E.T C ds s ks es s')
theorem RnI.mono {E : En} {j k : Nat} {c : Str} {C : Addr} {ds es : List D} {ks : List Str} {s s' : Sx} (r : RnI E j c C ds s ks es s') (h : j ≤ k) : RnI E k c C ds s ks es s' := by
  obtain ⟨kd, fa, fd, ps, h1, h2, h3, h4⟩ := r
  exact ⟨kd, fa, fd, ps, h1, h2, h3, h4.mono h⟩
theorem ed_make {F : Fx} {ρ : List G} {s s1 s2 : Sx} {e : Expr} {es : List Expr} {ds xs : List D} {pos p : Pos} {c : Str} {C : Addr} {ks : List Str} {j : Nat} (ha : Ea F ρ s (e :: es) ds s1) (hr : Room (j + 1) F.X.A) (R : RnI F.en j c C ds s1 ks xs s2) (hg : Gl F.X c := by rfl) (hdb : (c == ("__debug__" : Str)) = false := by decide)
    (he : starEach (e :: es) F.X.env = (false, eval e F.X.env) :: starEach es F.X.env := by rfl) (hpl : (backTo pos (starEach es F.X.env)).any (·.1) = false := by rfl) : Ed F ρ s (.Call (.Name c p) (e :: es) [] pos) (.ins C ks xs) s2 := by
  obtain ⟨kd, fI, fd, ps, h1, M, h3, h4⟩ := R
  refine ⟨ha.1.trans kd, fun O σ H fm Q q => we (pe_make M h4 hr hg h1 h3 .nil pass0 pa_wa hdb he hpl) (ha.2 O σ H fm _ fun vs H1 f1 x1 r1 => ?_)⟩
  intro x dx nx ndx nex
  rw [List.append_nil]
  have n2 : upd H1 dx (.own x) x = none := by rw [upd_ne (Ne.symm nex)]; exact nx
  have kp : ∀ b o, H1 b = some o → (upd (upd H1 dx (.own x)) x (.ins C dx [])) b = some o := fun b o h => by
    rw [upd_ne (ne_of_none h nx), upd_ne (ne_of_none h ndx)]; exact h
  have xt : ∀ S, XT S H1 (upd (upd H1 dx (.own x)) x (.ins C dx [])) := fun S => ⟨fun b o _ h _ => kp b o h, fun b h => upd_none (upd_none h)⟩
  have hx : x ∉ O ++ F.S0 := f1.fresh nx
  refine ⟨x, dx, vs, F.p, O ++ F.S0, rfl, upd_same, hx, (r1.fresh nx).ext (xt _), fun a m => ?_, fun z => (f1.pm z).app, ?_, fun H' us e1 e2 e3 e4 e5 => ⟨rfl, ?_⟩⟩
  · obtain ⟨o, ho⟩ := f1.trk a m
    exact ⟨o, kp a o ho⟩
  · have st := f1.st
    cases s1 with
    | none => exact LamX.Tabs.ext st kp
    | some ys =>
      obtain ⟨q1, q2, ws, q3, q4⟩ := st
      exact ⟨LamX.Tabs.ext q1 kp, q2.to fun _ m => List.mem_cons_of_mem _ m, ws, q3.to fun _ _ e _ => kp _ _ e, (q4.fresh nx).ext (xt _)⟩
  · have x4 : XP F.p s1 H1 H' := by
      refine ⟨fun b o h nb nt => e4.1 b o ?_ nb nt, fun b h => ?_⟩
      · rw [hid_ne (ne_of_none h nx)]; exact kp b o h
      · have := e4.2 b h
        by_cases z : b = x
        · rw [z]; exact nx
        · rw [hid_ne z] at this
          exact upd_none (upd_none this)
    have t5 : F.Sa O H' s2 := e5.less (fun z => (f1.pm (kd.trans z)).app) fun b m => List.mem_cons_of_mem _ m
    refine q _ H' (f1.grow x4 kd t5) (x1.trans (x4.xe f1.pm f1.kd)) (.ins hx e1 (e3.weak fun b m => List.mem_cons_of_mem _ m) ?_)
    rw [e2, e3.length]
/-- the body of __init__ -/
abbrev bodyI (E : En) (N : List Str) (q : Str) (st : Stmt) (s : Sx) (fa : Addr) (cdv : Value) (A : Around) (outer : List Env) (sh : Shared) (H0 : Hp) (EX : XK) (S0 : List Addr) (p : Pa) (x : Addr) : Fx :=
  ⟨(cxOf CX0 E.P E.w E.K E.mg E.base N q (defScope st) fa cdv A outer sh H0 EX).nox, hid x H0, S0, p, s.isSome, E.T⟩
def gStartI (N : List Str) (x C dx : Addr) (ds : List D) : List G := .ow (.ins x C dx []) [] :: (ds.map G.val ++ List.replicate (N.length - (ds.length + 1)) .no)
theorem Dm.init {E : En} {q c : Str} {st : Stmt} {N ps : List Str} {k : Nat} {C fI : Addr} {ds es : List D} {ks : List Str} {s s' : Sx} (hm : E.mg c = some (.ref C)) (M : Mk E.K C fI) (T : Dm E st fI "__init__" q ps) (S : FnScope N ps (defScope st)) (kd : s.isSome = s'.isSome) (hl : ds.length + 1 = ps.length)
    (body : ∀ (cdv : Value) (A : Around) (outer : List Env) (sh : Shared) (H0 : Hp) (EX : XK) (S0 : List Addr) (p : Pa) (x dx : Addr), Room k (bodyI E N q st s fI cdv A outer sh H0 EX S0 p x).X.A →
      Bk (bodyI E N q st s fI cdv A outer sh H0 EX S0 p x) (defBody st) (gStartI N x C dx ds) s { nx := fun ρ t => ρ[0]? = some (.ow (.ins x C dx ks) es) ∧ t = s', rt := fun _ _ => False }) : RnI E (k + 1) c C ds s ks es s' := by
  obtain ⟨fd, F, hb⟩ := T.ok
  refine ⟨kd, fI, fd, ps, hm, M, hb, F.ok S (fun vs H Q EX h => ?_) fun cdv A outer sh H vs Q EX hr h => ?_⟩
  · obtain ⟨x, dx, ws, p, S, rfl, _, _, r, _⟩ := h
    rw [List.length_cons, r.length, hl]
  · obtain ⟨x, dx, ws, p, S0, rfl, hx, nx, r, tr, pm, t, q2⟩ := h
    have hlen := r.length
    have f0 : Fm (bodyI E N q st s fI cdv A outer sh H EX S0 p x) [x] (L2.start N (.ref x :: ws)) H (gStartI N x C dx ds) s := by
      have key : ∀ (i : Nat) (g : G), (gStartI N x C dx ds)[i]? = some g → (i = 0 ∧ g = .ow (.ins x C dx []) []) ∨ (∃ z j, i = j + 1 ∧ ds[j]? = some z ∧ g = .val z) ∨ (g = .no ∧ (L2.start N (.ref x :: ws))[i]? = some none) := by
        intro i g hg
        unfold gStartI at hg
        cases i with
        | zero => exact .inl ⟨rfl, by simpa using hg.symm⟩
        | succ j =>
          rw [List.getElem?_cons_succ] at hg
          by_cases hj : j < ds.length
          · rw [List.getElem?_append_left (by simpa using hj), List.getElem?_map] at hg
            cases e : ds[j]? with
            | none => rw [e] at hg; cases hg
            | some z => rw [e] at hg; exact .inr (.inl ⟨z, j, rfl, e, by simpa using hg.symm⟩)
          · rw [List.getElem?_append_right (by simpa using hj), List.getElem?_replicate] at hg
            refine .inr (.inr ?_)
            unfold L2.start
            rw [List.getElem?_append_right (by simp; omega), List.getElem?_replicate]
            simp only [List.length_map, List.length_cons] at hg ⊢
            rw [hlen]
            split at hg
            · cases hg
              refine ⟨rfl, ?_⟩
              rw [if_pos (by omega)]
            · cases hg
      refine ⟨⟨fun b o h _ _ => ?_, fun b h => ?_⟩, fun i g hg => ?_, fun i w es a hg ho => ?_, fun i j w u es fs a hne h1 h2 h3 => ?_, fun a m => ?_, fun a m => ?_, t, pm, rfl⟩
      · by_cases z : b = x
        · have h : hid x H b = some o := h
          rw [z, hid_same] at h; cases h
        · have h : hid x H b = some o := h
          rw [hid_ne z] at h; exact h
      · show hid x H b = none
        unfold hid; split
        · rfl
        · exact h
      · rcases key i g hg with ⟨rfl, rfl⟩ | ⟨z, j, rfl, e, rfl⟩ | ⟨rfl, e⟩
        · exact ⟨_, rfl, x, [], rfl, List.mem_cons_self, hx, .nil, rfl, rfl⟩
        · obtain ⟨v, e1, e2⟩ := r.get e
          refine ⟨some v, ?_, v, rfl, e2⟩
          unfold L2.start
          have hj := (List.getElem?_eq_some_iff.mp e1).1
          rw [List.getElem?_append_left (by simp; exact hj), List.getElem?_map, List.getElem?_cons_succ, e1]; rfl
        · exact ⟨none, e, trivial⟩
      · rcases key i _ hg with ⟨rfl, z⟩ | ⟨z, j, rfl, e, z2⟩ | ⟨z, e⟩
        · have e : (L2.start N (.ref x :: ws))[0]? = some (some (.ref x)) := rfl
          rw [e] at ho; cases ho; exact List.mem_cons_self
        · cases z2
        · cases z
      · rcases key i _ h1 with ⟨rfl, z⟩ | ⟨z, j, rfl, e, z2⟩ | ⟨z, e⟩
        · rcases key j _ h2 with ⟨rfl, z⟩ | ⟨z, j, rfl, e, z2⟩ | ⟨z, e⟩
          · exact absurd rfl hne
          · cases z2
          · cases z
        · cases z2
        · cases z
      · rcases List.mem_cons.mp m with rfl | m
        · exact ⟨hid_same, nx⟩
        · cases m
      · rcases List.mem_cons.mp m with rfl | m
        · exact ⟨_, hx⟩
        · exact tr a m
    refine ⟨_, pss_wb, body cdv A outer sh H EX S0 p x dx hr [x] (L2.start N (.ref x :: ws)) H f0 _ ⟨fun O σ H' ρ t' f st h => ?_, fun v H' r' t' rv xp ta h => h.elim, fun O σ H' ρ t' f st h => h.elim, fun O σ H' ρ t' f st h => h.elim, fun O σ H' ρ t' cls dd x f st a h => h.elim⟩⟩
    obtain ⟨h0, rfl⟩ := h
    obtain ⟨o, ho, a, us, eo, m, h1, r1, ft⟩ := f.slot 0 _ h0
    obtain ⟨e1, e2⟩ := ft
    subst e1
    have w : ∀ b ∈ x :: S0, b ∈ O ++ S0 := fun b m2 => by
      rcases List.mem_cons.mp m2 with rfl | m2
      · exact m
      · exact List.mem_append_right _ m2
    exact q2 H' us h1 (by rw [r1.length]; exact e2) (r1.weak w) (f.ext.kind kd.symm) (f.st.less (fun z => (f.pm z).to fun _ m => List.mem_cons_of_mem _ m) w)
end Gh
set_option Elab.async false
set_option linter.all false
set_option maxRecDepth 100000
set_option maxHeartbeats 4000000
/-! a stream within a body that goes on to own its other lists -/
namespace Gh
open PySem PySem.Spec PyProof.Rows L2
end Gh
set_option Elab.async false
set_option linter.all false
set_option maxRecDepth 100000
set_option maxHeartbeats 4000000
/-! a stream for some statements alone: what it holds at the end is data -/
namespace Gh
open PySem PySem.Spec PyProof.Rows L2
end Gh
set_option Elab.async false
set_option linter.all false
set_option maxRecDepth 100000
set_option maxHeartbeats 4000000
/-! an owned list lent for a test; a stream for one statement, owned again behind it; a loop over the stream -/
namespace Gh
open PySem PySem.Spec PyProof.Rows L2
end Gh
set_option Elab.async false
set_option linter.all false
set_option maxRecDepth 100000
set_option maxHeartbeats 1000000
/-! in and not in of data of any depth; xs.remove(x) of such; a comprehension whose turns take from owned lists -/
namespace Gh
open PySem PySem.Spec PyProof.Rows L2
section
variable {F : Fx} {ρ : List G} {s s1 s2 s3 : Sx} {a b c e : Expr} {es : List Expr} {x y d : D} {xs ys ds items : List D} {pos p : Pos} {k : GE}
theorem room65 {n : Nat} {A : Around} (r : Room n A) : A.units + 65 < cLine := by have := r.un; omega
theorem any_pys (x : D) : ∀ ys : List D, (D.pys ys).any (fun z => PyData.eqv z x.py) = ys.any fun y => y.eqb x
  | [] => by unfold D.pys; rfl
  | y :: ys => by
    unfold D.pys
    rw [List.any_cons, List.any_cons, any_pys x ys]; rfl
theorem cp_notInV {n : Nat} (hr : Room n F.X.A) (ha : Ed F ρ s a x s1) (hb : Ev F ρ s1 b ys s2) (hx : x.eqC) (hy : (D.lst ys).eqC) (hm : behindInMarks .NotIn b = false := by rfl) : Cp F ρ s .NotIn a b (!ys.any fun y => y.eqb x) s2 :=
  ⟨ha.1.trans hb.1, hm, _, op_notInD (room65 hr), fun O σ H f Q q => ha.2 O σ H f _ fun v H1 f1 x1 r1 => hb.2 O σ H1 f1 _ fun w ws H2 f2 x2 h2 n2 r2 =>
    ⟨x.py, D.pys ys, Rp.dp x _ (r1.ext x2.xt) hx.1, .lst (.inl (.inl h2)) (Rps.dp ys _ r2 (by have := hy.1; unfold D.pure at this; exact this)), hx.2, by have := hy.2; unfold D.py at this; exact this, by
      rw [any_pys]
      exact q _ f2 (x1.trans x2)⟩⟩
/-! a comprehension whose turns take from owned lists -/
end
end Gh
set_option Elab.async false
set_option linter.all false
set_option maxRecDepth 100000
set_option maxHeartbeats 1000000
/-! loops and comprehensions over lists that are told by things -/
namespace Gh
open PySem PySem.Spec PyProof.Rows L2
theorem take_foldl {α β : Type} {xs : List α} {i : Nat} {a : α} (h : xs[i]? = some a) (f : β → α → β) (b : β) : (xs.take (i + 1)).foldl f b = f ((xs.take i).foldl f b) a := by
  rw [List.take_add_one, h, List.foldl_append]; rfl
theorem take_mapS {α β : Type} {xs : List α} {i : Nat} {a : α} (h : xs[i]? = some a) (f : α → β) : (xs.take (i + 1)).map f = (xs.take i).map f ++ [f a] := by
  rw [List.take_add_one, h, List.map_append]; rfl
theorem map_get {α β : Type} {xs : List α} {f : α → β} {i : Nat} {d : β} (h : (xs.map f)[i]? = some d) : ∃ a, xs[i]? = some a ∧ d = f a := by
  rw [List.getElem?_map] at h
  cases e : xs[i]? with
  | none => rw [e] at h; cases h
  | some a => rw [e] at h; cases h; exact ⟨a, rfl, rfl⟩
theorem cutD_take {α : Type} (xs : List α) (n : Nat) : cutD xs none (some (n : Int)) = xs.take n := by
  unfold cutD
  rw [HT.sIx_none, HT.sIx_nat, Nat.sub_zero, List.drop_zero]
  rcases Nat.le_total n xs.length with h | h
  · rw [Nat.min_eq_left h]
  · rw [Nat.min_eq_right h, List.take_of_length_le (Nat.le_refl _), List.take_of_length_le h]
theorem cutD_drop {α : Type} (xs : List α) (n : Nat) : cutD xs (some (n : Int)) none = xs.drop n := by
  unfold cutD
  rw [HT.sIx_none, HT.sIx_nat]
  rcases Nat.le_total n xs.length with h | h
  · rw [Nat.min_eq_left h, List.take_of_length_le (by rw [List.length_drop]; omega)]
  · rw [Nat.min_eq_right h, List.drop_of_length_le (Nat.le_refl _), List.drop_of_length_le h]; simp
section
variable {F : Fx} {ρ : List G} {s s1 s2 : Sx} {tg elt iter e : Expr} {scope : Scope} {pos : Pos} {k : GE} {α : Type}
theorem Comp.filterM {vs : List Nat} {c : Expr} (φ ψ : α → D) (g : α → Bool) {xs : List α} (hl : xs.length ≤ sizeLine)
    (h : ∀ a ∈ xs, ∃ ρ2 js, (∀ b, Eg (F.blk scope b) tg (φ a) (gwipe ρ vs) ρ2 js) ∧ (∀ j ∈ js, j ∈ vs) ∧ (∀ b, Et (F.blk scope b) ρ2 s c (g a) s) ∧ (g a = true → ∀ b, Ed (F.blk scope b) ρ2 s elt (ψ a) s)) :
    Comp F ρ scope vs tg [c] elt (xs.map φ) (fun i => ((xs.take i).filter g).map ψ) (fun _ => s) := by
  refine ⟨rfl, fun i hi => ?_, fun i d hd => ?_⟩
  · have h1 := List.length_filter_le g (xs.take i)
    have h2 := List.length_take_le' i xs
    simp only [List.length_map] at hi ⊢
    omega
  · obtain ⟨a, ha, rfl⟩ := map_get hd
    obtain ⟨ρ2, js, h1, h2, h3, h4⟩ := h a (List.mem_of_getElem? ha)
    refine ⟨ρ2, js, h1, h2, g a, s, fun b => .inr ⟨c, rfl, h3 b⟩, fun e => ⟨ψ a, h4 e, ?_⟩, fun e => ⟨rfl, ?_⟩⟩
    · rw [List.take_add_one, ha]
      simp [e]
    · rw [List.take_add_one, ha]
      simp [e]
theorem Comp.mapM {vs : List Nat} (φ ψ : α → D) {xs : List α} (hl : xs.length ≤ sizeLine)
    (h : ∀ a ∈ xs, ∃ ρ2 js, (∀ b, Eg (F.blk scope b) tg (φ a) (gwipe ρ vs) ρ2 js) ∧ (∀ j ∈ js, j ∈ vs) ∧ ∀ b, Ed (F.blk scope b) ρ2 s elt (ψ a) s) :
    Comp F ρ scope vs tg [] elt (xs.map φ) (fun i => (xs.take i).map ψ) (fun _ => s) := by
  refine ⟨rfl, fun i hi => by simp at hi ⊢; omega, fun i d hd => ?_⟩
  obtain ⟨a, ha, rfl⟩ := map_get hd
  obtain ⟨ρ2, js, h1, h2, h3⟩ := h a (List.mem_of_getElem? ha)
  exact ⟨ρ2, js, h1, h2, true, s, fun c => .inl ⟨rfl, rfl, rfl⟩, fun _ => ⟨ψ a, h3, take_mapS ha ψ⟩, fun z => by cases z⟩
theorem el_mapM (own : List (Str × Nat)) (φ ψ : α → D) {xs : List α} (hc : F.X.calm = true) (hN : F.X.N.Nodup) (hi : Ei F ρ s tg iter (xs.map φ) s1) (ok : BlkOk F.X.N F.X.env.scope scope own) (hl : xs.length ≤ sizeLine)
    (h : ∀ a ∈ xs, ∃ ρ2 js, (∀ b, Eg (F.blk scope b) tg (φ a) (gwipe ρ (own.map (·.2))) ρ2 js) ∧ (∀ j ∈ js, j ∈ own.map (·.2)) ∧ ∀ b, Ed (F.blk scope b) ρ2 s1 elt (ψ a) s1)
    (hs : ∀ x, foldedSetIterable iter F.X.env x = pure x := by intro _; rfl) : El F ρ s (.ListComp elt [⟨tg, iter, [], 0⟩] scope pos) (xs.map ψ) s1 := by
  have z := el_comp (pos := pos) own hc hN (st := fun _ => s1) hi ok (Comp.mapM φ ψ hl h) hi.1 hs
  simp only [List.length_map, List.take_length] at z
  exact z
theorem el_filterM (own : List (Str × Nat)) (φ ψ : α → D) (g : α → Bool) {c : Expr} {xs : List α} (hc : F.X.calm = true) (hN : F.X.N.Nodup) (hi : Ei F ρ s tg iter (xs.map φ) s1) (ok : BlkOk F.X.N F.X.env.scope scope own) (hl : xs.length ≤ sizeLine)
    (h : ∀ a ∈ xs, ∃ ρ2 js, (∀ b, Eg (F.blk scope b) tg (φ a) (gwipe ρ (own.map (·.2))) ρ2 js) ∧ (∀ j ∈ js, j ∈ own.map (·.2)) ∧ (∀ b, Et (F.blk scope b) ρ2 s1 c (g a) s1) ∧ (g a = true → ∀ b, Ed (F.blk scope b) ρ2 s1 elt (ψ a) s1))
    (hs : ∀ x, foldedSetIterable iter F.X.env x = pure x := by intro _; rfl) : El F ρ s (.ListComp elt [⟨tg, iter, [c], 0⟩] scope pos) ((xs.filter g).map ψ) s1 := by
  have z := el_comp (pos := pos) own hc hN (st := fun _ => s1) hi ok (Comp.filterM φ ψ g hl h) hi.1 hs
  simp only [List.length_map, List.take_length] at z
  exact z
theorem bk_setM (i : Nat) {y : Str} {py spos : Pos} {sts : List Stmt} (own : List (Str × Nat)) (φ ψ : α → D) {xs : List α} (hc : F.X.calm = true) (hN : F.X.N.Nodup) (hy : F.X.N[i]? = some y) (hyl : F.X.env.scope.names.lookup y = some .local) (hsw : swapsWith (.ListComp elt [⟨tg, iter, [], 0⟩] scope pos) (some (.Name y py)) spos.line F.X.env = pure true)
    (hil : (ρ[i]?).isSome = true) (hi : Ei F ρ s tg iter (xs.map φ) s1) (ok : BlkOk F.X.N F.X.env.scope scope own) (hl : xs.length ≤ sizeLine)
    (h : ∀ a ∈ xs, ∃ ρ2 js, (∀ b, Eg (F.blk scope b) tg (φ a) (gwipe ρ (own.map (·.2))) ρ2 js) ∧ (∀ j ∈ js, j ∈ own.map (·.2)) ∧ ∀ b, Ed (F.blk scope b) ρ2 s1 elt (ψ a) s1)
    (hk : Bk F sts (ρ.set i (.val (.lst (xs.map ψ)))) s1 k) (hs : ∀ x, foldedSetIterable iter F.X.env x = pure x := by intro _; rfl) :
    Bk F (.Assign [.Name y py] (.ListComp elt [⟨tg, iter, [], 0⟩] scope pos) spos :: sts) ρ s k := by
  refine bk_cons (bs_setLc i own hc hN hy hyl hsw (st := fun _ => s1) hi ok (Comp.mapM φ ψ hl h) ?_ hs)
  show Bk F sts (ρ.set i (.own ((xs.take (xs.map φ).length).map ψ))) s1 k
  rw [List.length_map, List.take_length]
  refine bk_freeze i (List.getElem?_set_self (by simpa using hil)) ?_
  rw [List.set_set]; exact hk
theorem bs_forM {body : List Stmt} (φ : α → D) {xs : List α} (hp : PassesOwn (model F.X.prog F.X.w) F.X.A F.X.env F.X.xe) (hc : F.X.calm = true) (hi : Ei F ρ s tg e (xs.map φ) s1) (I : Nat → List G → Sx → Prop) (h0 : I 0 ρ s1)
    (turn : ∀ i a ρ' s', xs[i]? = some a → I i ρ' s' → ∃ ρ2 js, Eg F tg (φ a) ρ' ρ2 js ∧ Bk F body ρ2 s' { nx := I (i + 1), ct := I (i + 1), bk := k.nx, rt := k.rt, xc := k.xc })
    (hd : ∀ ρ' s', I xs.length ρ' s' → k.nx ρ' s') (hs : ∀ x, foldedSetIterable e F.X.env x = pure x := by intro _; rfl) : Bs F (.For tg e body [] pos) ρ s k :=
  bs_for hp hc hi I h0 (fun i d ρ' s' hi' iv => by
    obtain ⟨a, ha, rfl⟩ := map_get hi'
    exact turn i a ρ' s' ha iv) (fun ρ' s' iv => hd ρ' s' (by rw [List.length_map] at iv; exact iv)) hs
end
end Gh
set_option Elab.async false
set_option linter.all false
set_option maxRecDepth 100000
set_option maxHeartbeats 4000000
/-! what raises: expressions, statements, defs -/
namespace Gh
open PySem PySem.Spec PyProof.Rows L2
/-- what is wanted of the exception x -/
def Fx.wants (F : Fx) (O : List Addr) (σ : L2.St) (H : Hp) (ρ : List G) (s' : Sx) (x : Xv) : Prop := ∀ H' cls dd, Fm F O σ H' ρ s' → XE F H H' → Xat F.X.K F.X.mg F.p (O ++ F.S0) H' cls dd x → F.wx cls dd σ H'
theorem Fx.wants.back {F : Fx} {O : List Addr} {σ : L2.St} {H H1 : Hp} {ρ : List G} {s' : Sx} {x : Xv} (w : F.wants O σ H ρ s' x) (h : XE F H H1) : F.wants O σ H1 ρ s' x := fun H' cls dd f x2 a => w H' cls dd f (h.trans x2) a
def spX (K : PySem.W.Frag) (mg : Str → Option Value) (T : Ts) (ds : List D) (s : Sx) (x : Xv) (s' : Sx) : Sp := fun vs H _ EX => ∃ (p : Pa) (S : List Addr), Rps K p S H vs ds ∧ (∀ a ∈ S, ∃ o, H a = some o) ∧ StA K T p S H s ∧
  ∀ cls dd H', Xat K mg p S H' cls dd x → XP p s H H' → StA K T p S H' s' → EX cls dd H'
/-- the def f, called with these data, raises x -/
structure RnX (E : En) (k : Nat) (f : Str) (ds : List D) (s : Sx) (x : Xv) (s' : Sx) : Prop where
  kd : s.isSome = s'.isSome
  ok : ∃ fa fd ps, E.mg f = some (.ref fa) ∧ PySem.W.keepIn E.K (.ref fa) = true ∧ Binds E.K fd ps [] ∧ FnOk E.P E.w E.K E.mg E.base (L2.CX E.P E.w) k fa fd ps (spX E.K E.mg E.T ds s x s')
theorem RnX.is {E : En} {k : Nat} {f : Str} {ds : List D} {s s' : Sx} {d d' : Xv} (r : RnX E k f ds s d s') (h : d = d') : RnX E k f ds s d' s' := h ▸ r
theorem RnX.mono {E : En} {j k : Nat} {f : Str} {ds : List D} {s s' : Sx} {d : Xv} (r : RnX E j f ds s d s') (h : j ≤ k) : RnX E k f ds s d s' := by
  obtain ⟨kd, fa, fd, ps, h1, h2, h3, h4⟩ := r
  exact ⟨kd, fa, fd, ps, h1, h2, h3, h4.mono h⟩
section
variable {F : Fx} {ρ : List G} {s s1 s2 s3 : Sx} {e : Expr} {es : List Expr} {d : D} {ds : List D} {pos p : Pos} {x : Xv} {k : GE}
/-- a def of the text -/
def HasFn (E : En) (f : Str) : Prop := ∃ fa, E.mg f = some (.ref fa) ∧ PySem.W.keepIn E.K (.ref fa) = true
theorem Rn.has {E : En} {j : Nat} {f : Str} {s s' : Sx} (r : Rn E j f ds s d s') : HasFn E f := by
  obtain ⟨kd, fa, fd, ps, h1, h2, _⟩ := r
  exact ⟨fa, h1, h2⟩
end
end Gh
set_option Elab.async false
set_option linter.all false
set_option maxRecDepth 100000
set_option maxHeartbeats 4000000
/-! try with several clauses that name what they caught; a def that tells what a lambda raises -/
namespace Gh
open PySem PySem.Spec PyProof.Rows L2
end Gh
set_option Elab.async false
set_option linter.all false
set_option maxRecDepth 100000
set_option maxHeartbeats 4000000
/-! def met(ask): try: ask() / except C as e: return (w, e.f) .. / return None -/
namespace Gh
open PySem PySem.Spec PyProof.Rows L2 LamX
end Gh
set_option Elab.async false
set_option linter.all false
set_option maxRecDepth 100000
set_option maxHeartbeats 4000000
/-! met(lambda: e), e raises -/
namespace Gh
open PySem PySem.Spec PyProof.Rows L2 LamX
end Gh
set_option Elab.async false
set_option linter.all false
set_option maxRecDepth 100000
set_option maxHeartbeats 4000000
/-! met(lambda: e), e raises: what is told -/
namespace Gh
open PySem PySem.Spec PyProof.Rows L2 LamX
/-- a def whose lambdas have a table -/
def LamAt (F : Fx) : Prop := ∃ c P, F.X.env.code = .ref c ∧ TabB F.X.base F.X.mg c P ∧ (P, F.X.env.qual ++ "<lambda>") ∈ F.T ∧ ∀ p ∈ F.T, p.1 = P → p.2 = F.X.env.qual ++ "<lambda>"
end Gh
set_option Elab.async false
set_option linter.all false
set_option maxRecDepth 100000
set_option maxHeartbeats 4000000
/-! new lists in an owned list (nests): tested as data, then one of them is appended to -/
namespace Gh
open PySem PySem.Spec PyProof.Rows L2
/-- new lists that no name holds: each with what it holds -/
structure Nst (F : Fx) (O : List Addr) (σ : L2.St) (H : Hp) (ρ : List G) (ns : List (Addr × List D)) : Prop where
  mem : ∀ n ∈ ns, n.1 ∈ O ∧ ∃ vs, H n.1 = some (.lst vs) ∧ Rps F.X.K F.p (O ++ F.S0) H vs n.2
  own : ∀ n ∈ ns, ∀ (i : Nat) (w : Ow) (ds : List D), ρ[i]? = some (.ow w ds) → σ[i]? ≠ some (some (.ref n.1))
  dis : ns.Pairwise fun a b => a.1 ≠ b.1
inductive Fil (ns : List (Addr × List D)) : D → D → Prop
  | ref {a : Addr} {ds : List D} : (a, ds) ∈ ns → Fil ns (.ref a) (.lst ds)
  | same {d : D} : Fil ns d d
inductive Fils (ns : List (Addr × List D)) : List D → List D → Prop
  | nil : Fils ns [] []
  | cons {d d' : D} {ds ds' : List D} : Fil ns d d' → Fils ns ds ds' → Fils ns (d :: ds) (d' :: ds')
theorem Fils.refl {ns : List (Addr × List D)} : ∀ ds : List D, Fils ns ds ds
  | [] => .nil
  | d :: ds => .cons .same (Fils.refl ds)
section
variable {F : Fx} {ρ : List G} {s s1 s2 : Sx} {O : List Addr} {σ : L2.St} {H H' : Hp} {ns : List (Addr × List D)}
theorem XE.xp (x : XE F H H') (f : Fm F O σ H ρ s) : XP F.p s H H' := ⟨fun a o h n nt => x.1 a o (fun z => by
  rcases n with rfl | n
  · have e := f.kd
    rw [← e] at z
    exact nomatch z.1
  · exact n z.2.1) h nt, x.2⟩
theorem Nst.xe (N : Nst F O σ H ρ ns) (f : Fm F O σ H ρ s) (x : XE F H H') : Nst F O σ H' ρ ns := ⟨fun n m => by
  obtain ⟨mo, vs, e, r⟩ := N.mem n m
  exact ⟨mo, vs, x.1 _ _ (fun z => (f.fre _ mo).2 z.2.2) e nt_lst, r.ext x.xt⟩, N.own, N.dis⟩
variable {sts : List Stmt} {c e e1 e2 : Expr} {d : D} {ds ds1 ds2 ms : List D} {pos : Pos} {k : GE}
theorem bkl_freeze (i : Nat) {xs zs : List D} {s' : Sx} (hρ : ρ[i]? = some (.own xs)) (h : BkL F sts (ρ.set i (.val (.lst xs))) s zs s') : BkL F sts ρ s zs s' := fun O σ H f E q => by
  obtain ⟨O', f', _⟩ := f.freeze hρ
  exact h O' σ H f' E q
theorem Df.has {E : En} {st : Stmt} {f : Str} {ps : List Str} (T : Df E st f ps) : HasFn E f := by
  obtain ⟨fa, fd, F, hm, _⟩ := T.ok
  exact ⟨fa, hm, F.kp⟩
end
end Gh
set_option Elab.async false
set_option linter.all false
set_option maxRecDepth 100000
/-! equality of told data -/
namespace Gh
open PySem PySem.Spec PyProof.Rows L2
/-- what == asks, with the depth -/
def eqD (n : Nat) (x : D) : Prop := x.pure = true ∧ x.py.canLay0 = true ∧ x.py.depth ≤ n
def eqDs (n : Nat) (xs : List D) : Prop := D.pures xs = true ∧ PyData.canLayAll0 (D.pys xs) = true ∧ PyData.depthAll (D.pys xs) ≤ n
theorem eqD.eqC {n : Nat} {x : D} (h : eqD n x) (hn : n ≤ 64 := by decide) : x.eqC := ⟨h.1, by unfold SeqAt.shaped; rw [h.2.1, decide_eq_true (Nat.le_trans h.2.2 hn)]; rfl⟩
theorem eqDs.nil {n : Nat} : eqDs n [] := ⟨by unfold D.pures; rfl, by simp [D.pys, PyData.canLayAll0], by simp [D.pys, PyData.depthAll]⟩
theorem eqDs.cons {n : Nat} {x : D} {xs : List D} (h : eqD n x) (hs : eqDs n xs) : eqDs n (x :: xs) := by
  refine ⟨by unfold D.pures; rw [h.1, hs.1]; rfl, ?_, ?_⟩
  · unfold D.pys PyData.canLayAll0; rw [h.2.1, hs.2.1]; rfl
  · unfold D.pys PyData.depthAll; exact Nat.max_le.mpr ⟨h.2.2, hs.2.2⟩
theorem eqDs.of {n : Nat} {xs : List D} (h : ∀ x ∈ xs, eqD n x) : eqDs n xs := by
  induction xs with
  | nil => exact .nil
  | cons x xs ih => exact .cons (h x List.mem_cons_self) (ih fun y m => h y (List.mem_cons_of_mem _ m))
theorem eqDs.tup {n : Nat} {xs : List D} (h : eqDs n xs) : eqD (n + 1) (.tup xs) := ⟨by unfold D.pure; exact h.1, by unfold D.py PyData.canLay0; exact h.2.1, by unfold D.py PyData.depth; exact Nat.succ_le_succ h.2.2⟩
theorem eqDs.lst {n : Nat} {xs : List D} (h : eqDs n xs) : eqD (n + 1) (.lst xs) := ⟨by unfold D.pure; exact h.1, by unfold D.py PyData.canLay0; exact h.2.1, by unfold D.py PyData.depth; exact Nat.succ_le_succ h.2.2⟩
theorem eqD.int {n : Nat} (i : Int) : eqD n (.int i) := ⟨by unfold D.pure; rfl, by simp [D.py, PyData.canLay0], by simp [D.py, PyData.depth]⟩
theorem eqD.bl {n : Nat} (i : Bool) : eqD n (.bl i) := ⟨by unfold D.pure; rfl, by simp [D.py, PyData.canLay0], by simp [D.py, PyData.depth]⟩
theorem eqD.non {n : Nat} : eqD n .non := ⟨by unfold D.pure; rfl, by simp [D.py, PyData.canLay0], by simp [D.py, PyData.depth]⟩
theorem eqD.str {n : Nat} {i : Str} (h : PyData.strOk i = true := by decide +kernel) : eqD n (.str i) := ⟨by unfold D.pure; rfl, by simp [D.py, PyData.canLay0, h], by simp [D.py, PyData.depth]⟩
theorem eqD.mono {m n : Nat} {x : D} (h : eqD m x) (l : m ≤ n) : eqD n x := ⟨h.1, h.2.1, Nat.le_trans h.2.2 l⟩
theorem eqD.fr (q : Rat) : eqD 1 (fr q) := (eqDs.cons (.int _) (.cons (.int _) .nil)).tup
theorem eqD.fm (a b : Rat) : eqD 2 (fm a b) := (eqDs.cons (.fr _) (.cons (.fr _) .nil)).tup
theorem eqD.frs (qs : List Rat) : eqDs 1 (qs.map Gh.fr) := .of fun x m => by
  obtain ⟨q, _, rfl⟩ := List.mem_map.mp m
  exact .fr q
def eqbs : List D → List D → Bool
  | [], [] => true
  | x :: xs, y :: ys => x.eqb y && eqbs xs ys
  | _, _ => false
theorem eqvAll_eqbs : ∀ xs ys : List D, PyData.eqvAll (D.pys xs) (D.pys ys) = eqbs xs ys
  | [], [] => by simp [D.pys, PyData.eqvAll, eqbs]
  | [], _ :: _ => by simp [D.pys, PyData.eqvAll, eqbs]
  | _ :: _, [] => by simp [D.pys, PyData.eqvAll, eqbs]
  | x :: xs, y :: ys => by unfold D.pys PyData.eqvAll eqbs; rw [eqvAll_eqbs xs ys]; rfl
theorem tup_eqb (xs ys : List D) : (D.tup xs).eqb (.tup ys) = eqbs xs ys := by
  rw [← eqvAll_eqbs]; unfold D.eqb D.py PyData.eqv; rfl
theorem lst_eqb (xs ys : List D) : (D.lst xs).eqb (.lst ys) = eqbs xs ys := by
  rw [← eqvAll_eqbs]; unfold D.eqb D.py PyData.eqv; rfl
end Gh
set_option Elab.async false
set_option linter.all false
set_option maxRecDepth 100000
set_option maxHeartbeats 4000000
/-! From the head's facts to the ghost layer's. -/
namespace Gh
open PySem PySem.Spec PyProof.Rows L2
theorem fun_of {K : PySem.W.Frag} {x q : Str} {st : Stmt} {f : Addr} {fd : FuncData} (F : FunD K x q (defArgs st) (defBody st) (defScope st) [] [] f fd) : Fun K x q st f fd := by
  obtain ⟨oc, od, dV, kV, doc, pm, an, cdv, ct, osl, rfl, lk, hcd, hD, hK⟩ := F.ex
  rcases hD with ⟨_, rfl⟩ | ⟨e, _⟩
  · exact ⟨⟨oc, od, kV, doc, pm, an, cdv, ct, osl, rfl, lk, hcd⟩, F.kp⟩
  · exact absurd rfl e
/-- a def's datum -/
abbrev dd (x : Str) (st : Stmt) : He.DefD := ⟨(x, none), x, x, defArgs st, defBody st, defScope st, [], []⟩
theorem df_of {E : En} {st : Stmt} {x : Str} {ps : List Str} {h : Heap} (X : E.K.In h) (G : h.Ns mainGlobals E.mg) (hd : ∃ fd, FunD E.K x x (defArgs st) (defBody st) (defScope st) [] [] (He.fAd E.K (x, none)) fd) (hf : (He.Fa.glo x).ok E.K = true)
    (hb : ∀ (kV doc pm : Value) (an : Option Addr) (cdv ct : Value) (us : List Value), us.length = ps.length → bindArgs (PySem.W.fnOf x x (defArgs st) (defBody st) (defScope st) .none kV doc pm an cdv ct) ⟨us, []⟩ = pure (ps.zip us)) : Df E st x ps := by
  obtain ⟨fd, F⟩ := hd
  exact ⟨_, fd, fun_of F, He.glo_ok X G hf, F.bindsN hb⟩
theorem cst_tup {E : En} {x : Str} {h : Heap} {vs : List He.Dv} {ds : List D} (X : E.K.In h) (G : h.Ns mainGlobals E.mg) (hf : (He.Fa.glo x).ok E.K = true) (ht : He.tupB E.K x vs = true)
    (hr : ∀ p S H, Rps E.K p S H (vs.map (He.Dv.v E.K)) ds) : Cst E x (.tup ds) :=
  ⟨.ref (He.ga E.K x), _, He.glo_ok X G hf, rfl, fun p S H => .tup (.inr (He.tupB_ok ht _)) (hr p S H)⟩
/-- the law's body, for one script -/
def LawBody (E : En) (N : List Str) (st : Stmt) (k : Nat) (ns : List Int) : Prop := ∀ (fa : Addr) (cdv : Value) (A : Around) (outer : List Env) (sh : Shared) (H0 : Hp) (EX : XK) (S0 : List Addr) (p : Pa), Room k (bodyF E N "law" st none fa cdv A outer sh H0 EX S0 p).X.A →
  Bk (bodyF E N "law" st none fa cdv A outer sh H0 EX S0 p) (defBody st) (gStart N [.scr ns]) none { nx := fun _ t => D.bl true = .non ∧ t = none, rt := fun r t => r = D.bl true ∧ t = none }
def spLaw (K : PySem.W.Frag) (T : Ts := []) : Sp := fun vs H Q EX => ∃ ns : List Int, ns.length ≤ 63 ∧ spOf K T [.scr ns] none (.bl true) none vs H Q EX
theorem law_ok {E : En} {st : Stmt} {fa : Addr} {fd : FuncData} {N : List Str} {k : Nat} (T : Fun E.K "law" "law" st fa fd) {x : Str} (S : FnScope N [x] (defScope st)) (body : ∀ ns : List Int, ns.length ≤ 63 → LawBody E N st k ns) :
    FnOk E.P E.w E.K E.mg E.base CX0 (k + 1) fa fd [x] (spLaw E.K E.T) := by
  refine T.ok S (fun vs H Q EX h => ?_) fun cdv A outer sh H vs Q EX hr h => ?_
  · obtain ⟨ns, _, p, S, r, _⟩ := h
    rw [r.length]; rfl
  · obtain ⟨ns, hl, p, S0, r, tr, t, q⟩ := h
    refine ⟨_, pss_wb, body ns hl fa cdv A outer sh H EX S0 p hr [] (L2.start N vs) H (fm_start (F := bodyF E N "law" st none fa cdv A outer sh H EX S0 p) r tr t rfl) _ ⟨fun O σ H' ρ t' f st h => ?_, fun v H' r' t' rv xp ta h => ?_, fun O σ H' ρ t' f st h => h.elim, fun O σ H' ρ t' f st h => h.elim, fun O σ H' ρ t' cls dd x f st a h => h.elim⟩⟩
    · cases h.1
    · obtain ⟨rfl, rfl⟩ := h
      exact q v H' rv xp ta
theorem law_in {K : PySem.W.Frag} {H : Hp} {a : Addr} {ns : List Int} {T : Ts} (hl : ns.length ≤ 63) (h : SqL K H a (ns.map V.int)) (hT : LamX.Tabs T H := by exact fun _ m => nomatch m) : spLaw K T [.ref a] H (fun v _ => v = .bl true) fun _ _ _ => False := by
  refine ⟨ns, hl, (0, 0), [], .cons (.scr ?_) .nil, fun a m => absurd m (by simp), hT, fun v H' r _ _ => by cases r; rfl⟩
  rcases h with h | h
  · exact .inl ⟨by simp, h⟩
  · exact .inr (.inr h)
end Gh
set_option Elab.async false
set_option linter.all false
set_option maxRecDepth 100000
set_option maxHeartbeats 2000000
/-! sorted(xs, key=lambda x: e), e a look at x alone -/
namespace Kl
open PySem PySem.Spec PySem.Calls PyProof.Rows
end Kl
namespace Kl
open PySem PySem.Spec PySem.Calls PyProof.Rows PySem.W
end Kl
namespace Gh
open PySem PySem.Spec PyProof.Rows L2 LamX PySem.W Kl
theorem Rps.zip {K : PySem.W.Frag} {p : Pa} {S : List Addr} {H : Hp} : ∀ {vs : List V} {ds : List D}, Rps K p S H vs ds → ∀ b ∈ vs.zip ds, Rp K p S H b.1 b.2
  | _, [], h, b, m => by cases h; simp at m
  | _, d :: ds, h, b, m => by
    cases h with
    | cons h1 h2 =>
      rw [List.zip_cons_cons] at m
      rcases List.mem_cons.mp m with rfl | m
      · exact h1
      · exact h2.zip b m
/-- the keys: data without lists, in an order -/
structure KeyO (ky : D → PyData) (le : D → D → Bool) (ds : List D) : Prop where
  ord : ∀ {β : Type} (f : β → D), dataLe false (fun b => ky (f b)) = fun a b => le (f a) (f b)
  trans : ∀ a b c, le a b = true → le b c = true → le a c = true
  total : ∀ a b, (le a b || le b a) = true
  al : AllAlike (ds.map ky)
  so : Sortable (ds.map ky)
  dep : ∀ d ∈ ds, (ky d).depth ≤ 8
  nil : ∀ d ∈ ds, ∀ (h : Heap) u as, Reads h u (ky d) as → as = []
theorem KeyO.ints (k : D → Int) (ds : List D) : KeyO (fun d => .int (k d)) (fun a b => decide (k a ≤ k b)) ds :=
  ⟨fun f => dataLe_int (fun b => k (f b)), fun a b c h1 h2 => by simp only [decide_eq_true_eq] at *; omega, fun a b => by simp only [Bool.or_eq_true, decide_eq_true_eq]; omega,
    AllAlike.of fun _ _ => by simp [alike], Sortable.others fun _ => ⟨fun z => (nomatch z), fun _ z => (nomatch z)⟩, fun d _ => by simp [PyData.depth], fun d _ h u as r => by cases r; rfl⟩
end Gh
set_option Elab.async false
set_option linter.all false
set_option maxRecDepth 100000
set_option maxHeartbeats 4000000
/-! x, y = a, [..] where the stores are not swapped (x is captured) -/
namespace Gh
open PySem PySem.Spec PyProof.Rows L2
section
variable {F : Fx} {ρ : List G} {s s1 s2 : Sx} {a b : Expr} {ds : List D} {pos : Pos} {k : GE}
/-- a statement, with what holds behind it told -/
theorem bk_via {st : Stmt} {sts : List Stmt} (I : List G → Sx → Prop) (h : Bs F st ρ s { k with nx := I }) (hr : ∀ ρ' s', I ρ' s' → Bk F sts ρ' s' k) : Bk F (st :: sts) ρ s k :=
  bk_cons fun O σ H f E q => h O σ H f E ⟨fun O' σ' H' ρ' s' f st i => q.nx O' σ' H' ρ' s' f st (hr ρ' s' i), q.rt, q.bk, q.ct, q.xc⟩
end
end Gh
set_option Elab.async false
set_option linter.all false
set_option maxRecDepth 100000
set_option maxHeartbeats 4000000
/-! a new list handed back out of a loop; an owned list handed to a def -/
namespace Gh
open PySem PySem.Spec PyProof.Rows L2
end Gh
set_option Elab.async false
set_option linter.all false
set_option maxRecDepth 100000
set_option maxHeartbeats 4000000
/-! an instance that is being made is lent: read as data for one expression -/
namespace Gh
open PySem PySem.Spec PyProof.Rows L2
end Gh
set_option Elab.async false
set_option linter.all false
set_option maxRecDepth 100000
set_option maxHeartbeats 4000000
/-! def met(ask): try: return [w, ask()] / except C as e: return [w, e.f] / except C: return [w] -/
namespace Gh
open PySem PySem.Spec PyProof.Rows L2 LamX
end Gh
set_option Elab.async false
set_option linter.all false
set_option maxRecDepth 100000
set_option maxHeartbeats 4000000
/-! more of what raises; met(lambda: e) that tells a tuple, whatever stands behind the try -/
namespace Gh
open PySem PySem.Spec PyProof.Rows L2 LamX
end Gh
set_option Elab.async false
set_option linter.all false
set_option maxRecDepth 100000
set_option maxHeartbeats 4000000
/-! lambdas as data: a lambda's frame -/
namespace Gh
open PySem PySem.Spec PyProof.Rows L2 LamX
/-! ### a frame with cells of its own and captured ones -/
theorem cellsFrom_acc : ∀ (names : List (Str × NameKind)) (n : Nat) (acc : List (Str × Addr)), cellsFrom n names acc = cellsFrom n names [] ++ acc
  | [], n, acc => by simp [cellsFrom]
  | (x, k) :: r, n, acc => by
    unfold cellsFrom
    split
    · rw [cellsFrom_acc r (n + 1) ((x, n) :: acc), cellsFrom_acc r (n + 1) [(x, n)]]; simp
    · exact cellsFrom_acc r n acc
theorem cellsFrom_in : ∀ (names : List (Str × NameKind)) (n : Nat) (acc : List (Str × Addr)) (y : Str) (c : Addr), (y, c) ∈ cellsFrom n names acc → (y, c) ∈ acc ∨ (y, NameKind.cell) ∈ names
  | [], n, acc, y, c, h => .inl h
  | (x, k) :: r, n, acc, y, c, h => by
    unfold cellsFrom at h
    split at h
    · rename_i hk
      rcases cellsFrom_in r _ _ y c h with h | h
      · rcases List.mem_cons.mp h with e | h
        · cases e
          exact .inr (by rw [beq_iff_eq.mp hk]; exact List.mem_cons_self)
        · exact .inl h
      · exact .inr (List.mem_cons_of_mem _ h)
    · rcases cellsFrom_in r _ _ y c h with h | h
      · exact .inl h
      · exact .inr (List.mem_cons_of_mem _ h)
section
variable {M : Model} {A : Around} {E : Value → Shared → Prop} {s₀ s : Shared} {m cm : Str → Option Value} {env : Env} {cs : List (Str × Addr)}
theorem stLC2 {n : Str} {v : Value} {Q : Unit → Shared → Prop} (x : InCallC s₀ env.locals m cs cm s) (hk : env.scope.kind = .function) (hl : env.kindOf n = some .local)
    (h : ∀ s', InCallC s₀ env.locals (fun y => if y = n then some v else m y) cs cm s' → Q () s') : wpAny M A (storeName env n v) Q E s := by
  refine wpAny_storeName_local hl x.toInCall.ns (fun h' hn' hs' => h _ ⟨⟨?_, hn', fun b o e => ?_, x.toInCall.fresh⟩, fun k c hc => ?_, x.apart, x.above⟩) (by rw [hk]; rfl)
  · obtain ⟨h₁, tk, rfl⟩ := x.toInCall.same
    exact ⟨h', _, rfl⟩
  · exact hs'.extBut b o (Nat.ne_of_lt (Nat.lt_of_lt_of_le (Heap.lt_size e) x.toInCall.fresh)) (x.toInCall.keep b o e)
  · exact (x.cell k c hc).sameBut hs' (Nat.ne_of_gt (x.above k c (PySem.mem_of_lookup hc)))
theorem stCC2 {n : Str} {c : Addr} {v : Value} {Q : Unit → Shared → Prop} (x : InCallC s₀ env.locals m cs cm s) (hk : env.scope.kind = .function) (hl : env.kindOf n = some .cell)
    (hc : env.cells.lookup n = some c) (hcs : cs.lookup n = some c)
    (h : ∀ s', InCallC s₀ env.locals m cs (fun y => if y = n then some v else cm y) s' → Q () s') : wpAny M A (storeName env n v) Q E s := by
  have hLc := x.above n c (PySem.mem_of_lookup hcs)
  refine wpAny_storeName_cell hk hl hc (x.cell n c hcs) fun h' hc' hs' => h _ ⟨⟨?_, x.toInCall.ns.sameBut hs' (Nat.ne_of_lt hLc), fun b o e => ?_, x.toInCall.fresh⟩, fun k c' hk' => ?_, x.apart, x.above⟩
  · obtain ⟨h₁, tk, rfl⟩ := x.toInCall.same
    exact ⟨h', _, rfl⟩
  · exact hs'.extBut b o (Nat.ne_of_lt (Nat.lt_trans (Nat.lt_of_lt_of_le (Heap.lt_size e) x.toInCall.fresh) hLc)) (x.toInCall.keep b o e)
  · by_cases hkn : k = n
    · subst hkn
      rw [hcs] at hk'; cases hk'
      simpa using hc'
    · rw [if_neg hkn]
      exact (x.cell k c' hk').sameBut hs' fun e => hkn (PySem.name_of_addr x.apart (PySem.mem_of_lookup hk') (e ▸ PySem.mem_of_lookup hcs))
theorem bindParams2 (f : Str × Value → PUnit → Sem (ForInStep PUnit)) (hf : ∀ n v u, f (n, v) u = (do storeName env n v; pure (.yield ⟨⟩))) (hk : env.scope.kind = .function) :
    ∀ (binds : List (Str × Value)) (m cm : Str → Option Value) (s : Shared) (Q : PUnit → Shared → Prop), InCallC s₀ env.locals m cs cm s →
      (∀ x ∈ binds, env.kindOf x.1 = some .local ∨ (env.kindOf x.1 = some .cell ∧ ∃ c, env.cells.lookup x.1 = some c ∧ cs.lookup x.1 = some c)) →
      (∀ s', InCallC s₀ env.locals (bindL env.kindOf binds m) cs (bindC env.kindOf binds cm) s' → Q ⟨⟩ s') → wpAny M A (forIn binds ⟨⟩ f) Q E s
  | [], m, cm, s, Q, x, _, h => by rw [List.forIn_nil]; exact wpAny_pure (h s x)
  | (n, v) :: r, m, cm, s, Q, x, hkind, h => by
    rw [List.forIn_cons, hf]
    have hr : ∀ y ∈ r, env.kindOf y.1 = some .local ∨ (env.kindOf y.1 = some .cell ∧ ∃ c, env.cells.lookup y.1 = some c ∧ cs.lookup y.1 = some c) := fun y hy => hkind y (List.mem_cons_of_mem _ hy)
    rcases hkind (n, v) List.mem_cons_self with hl | ⟨hl, c, hc, hc2⟩
    · refine wpAny_bind (wpAny_bind (stLC2 x hk hl fun s' x' => wpAny_pure (bindParams2 f hf hk r _ _ s' Q x' hr fun s'' x'' => h s'' ?_)))
      unfold bindL bindC; rw [if_pos hl, if_pos hl]; exact x''
    · have hnl : ¬ env.kindOf n = some .local := by rw [hl]; decide
      refine wpAny_bind (wpAny_bind (stCC2 x hk hl hc hc2 fun s' x' => wpAny_pure (bindParams2 f hf hk r _ _ s' Q x' hr fun s'' x'' => h s'' ?_)))
      unfold bindL bindC; rw [if_neg hnl, if_neg hnl]; exact x''
/-- its own cells, then the captured ones -/
abbrev ownC (n : Nat) (scope : Scope) : List (Str × Addr) := cellsFrom (n + 1) scope.names []
theorem newEnv2 {scope : Scope} {globals : Addr} {cl : List (Str × Addr)} {binds : List (Str × Value)} {qual : Str} {func : Option Addr} {code : Value} {builtins : Addr} {Q : Env → Shared → Prop}
    (hk : scope.kind = .function)
    (hkind : ∀ x ∈ binds, scope.names.lookup x.1 = some .local ∨ (scope.names.lookup x.1 = some .cell ∧ ((ownC s.heap.objs.size scope).lookup x.1).isSome = true))
    (hQ : ∀ env, env = newEnv scope s.heap.objs.size globals (ownC s.heap.objs.size scope ++ cl) qual func code none builtins →
      ∀ s', InCallC s env.locals (bindL env.kindOf binds fun _ => none) (ownC s.heap.objs.size scope) (bindC env.kindOf binds fun _ => none) s' → Q env s') :
    wpAny M A (newFunctionEnv scope globals cl binds qual func code none builtins) Q E s := by
  simp only [newFunctionEnv, Option.isSome_none, Bool.false_eq_true, if_false]
  refine wpAny_bind (wpAny_alloc ?_)
  refine wpAny_bind (wpAny_layCells _ (fun name kind cells => by cases hkc : kind == NameKind.cell <;> simp [hkc]) _ _ _ _ ?_)
  have ok := cellsFrom_ok scope.names (s.heap.push { cls := .type "frame", data := .dict #[] }) (s.heap.objs.size + 1) [] ⟨fun _ _ hm => (nomatch hm), List.Pairwise.nil⟩ (by rw [Heap.size_push]; exact Nat.le_refl _)
  rw [Heap.size_push] at ok
  rw [show ({ s with heap := s.heap.push { cls := .type "frame", data := .dict #[] } } : Shared).heap.objs.size = s.heap.objs.size + 1 from Heap.size_push ..]
  rw [cellsFrom_acc]
  refine wpAny_bind (bindParams2 (s₀ := s) (env := newEnv scope s.heap.objs.size globals (ownC s.heap.objs.size scope ++ cl) qual func code none builtins) (cs := ownC s.heap.objs.size scope)
    _ (fun _ _ _ => rfl) hk binds (fun _ => none) (fun _ => none) _ _
    ⟨⟨⟨_, _, rfl⟩, (Heap.Ns.new s.heap (.type "frame")).keeps (pushCells_keeps _ _), fun b o e => pushCells_keeps _ _ b o (Heap.get?_push_of_some _ e), Nat.le_refl _⟩,
      fun n c hc => (ok.empty n c (PySem.mem_of_lookup hc)).1, ok.apart, fun n c hm => (ok.empty n c hm).2⟩
    (fun x hx => (hkind x hx).imp id fun ⟨h1, h2⟩ => ⟨h1, ?_⟩) fun s' x => wpAny_pure (hQ _ rfl s' x))
  obtain ⟨c, hc⟩ := Option.isSome_iff_exists.mp h2
  refine ⟨c, ?_, hc⟩
  show (ownC s.heap.objs.size scope ++ cl).lookup x.1 = some c
  rw [List.lookup_append, hc]; rfl
end
/-- a lambda's names: parameters, captured ones -/
structure CScope (ps fr : List Str) (sc : Scope) : Prop where
  kind : sc.kind = .function
  co : sc.isCoroutine = false
  gen : sc.isGenerator = false
  nd : (ps ++ fr).Nodup
  par : ∀ x ∈ ps, sc.names.lookup x = some .local ∨ sc.names.lookup x = some .cell
  free : ∀ y ∈ sc.names, y.2 = .free → y.1 ∈ fr
  frk : ∀ x ∈ fr, sc.names.lookup x = some .free
  nc : ∀ x ∈ fr, (x, NameKind.cell) ∉ sc.names
def cscB (ps fr : List Str) (sc : Scope) : Bool :=
  decide (sc.kind = .function) && !sc.isCoroutine && !sc.isGenerator && decide (ps ++ fr).Nodup && ps.all (fun x => decide (sc.names.lookup x = some .local) || decide (sc.names.lookup x = some .cell)) && sc.names.all (fun y => !decide (y.2 = .free) || decide (y.1 ∈ fr)) && fr.all (fun x => decide (sc.names.lookup x = some .free)) && fr.all (fun x => !decide ((x, NameKind.cell) ∈ sc.names))
theorem cscope_by {ps fr : List Str} {sc : Scope} (h : cscB ps fr sc = true) : CScope ps fr sc := by
  unfold cscB at h
  simp only [Bool.and_eq_true, Bool.not_eq_true', decide_eq_true_eq, List.all_eq_true, Bool.or_eq_true, decide_eq_false_iff_not] at h
  obtain ⟨⟨⟨⟨⟨⟨⟨h1, h2⟩, h3⟩, h4⟩, h5⟩, h6⟩, h7⟩, h8⟩ := h
  exact ⟨h1, h2, h3, h4, h5, fun y hy e => (h6 y hy).elim (fun z => absurd e z) id, h7, h8⟩
abbrev cloEnv (L : Lm) (cl : List (Str × Addr)) (c' f : Addr) (n : Nat) : Env := PySem.W.envX L.q L.scope n f (.ref c') (ownC n L.scope ++ cl)
/-- the context of a lambda's body, at its entry -/
def cloCx (P : Program) (w : World) (K : PySem.W.Frag) (mg : Str → Option Value) (base : Heap) (L : Lm) (cl : List (Str × Addr)) (c' f : Addr) (A : Around) (outer : List Env) (s : Shared) (H : Hp) (E : XK) : Cx where
  prog := P
  w := w
  K := K
  mg := mg
  base := base
  A := A.deeper (cloEnv L cl c' f s.heap.objs.size)
  N := L.ps ++ L.fr
  s_0 := s
  H_0 := H
  env := cloEnv L cl c' f s.heap.objs.size
  outer := outer
  stack := cloEnv L cl c' f s.heap.objs.size :: outer
  ex := []
  calm := true
  fn := fun y => decide (L.scope.names.lookup y = some .cell)
  pn := []
  xe := fun e s' => wpAny (model P w) (A.deeper (cloEnv L cl c' f s.heap.objs.size)) (leaving (cloEnv L cl c' f s.heap.objs.size) e) (fun _ s'' => CX0 outer H s E e s'') (fun e' s'' => CX0 outer H s E e' s'') s'
theorem lk_app {l1 l2 : List (Str × Addr)} {y : Str} {c : Addr} (h : (l1 ++ l2).lookup y = some c) : l1.lookup y = some c ∨ (l1.lookup y = none ∧ l2.lookup y = some c) := by
  rw [List.lookup_append] at h
  cases e : l1.lookup y with
  | none => rw [e] at h; exact .inr ⟨rfl, h⟩
  | some d => rw [e] at h; exact .inl h
section
variable {P : Program} {w : World} {K : PySem.W.Frag} {mg : Str → Option Value} {base : Heap} {L : Lm} {cl : List (Str × Addr)} {c' f : Addr} {A : Around} {outer : List Env} {s s1 : Shared} {H : Hp} {E : XK} {us : List Value} {vs ws : List V}
theorem inv_startC (S : CScope L.ps L.fr L.scope) (hd : A.handled = none) (e0 : Env0 P w K mg base A outer s H) (hl : vs.length = L.ps.length) (r : Vals vs us) (C : NdefX.CellsAt cl L.fr (ws.map some) s.heap H)
    (x : InCallC s s.heap.objs.size (bindL (cloEnv L cl c' f s.heap.objs.size).kindOf (L.ps.zip us) fun _ => none) (ownC s.heap.objs.size L.scope) (bindC (cloEnv L cl c' f s.heap.objs.size).kindOf (L.ps.zip us) fun _ => none) s1) :
    Inv (cloCx P w K mg base L cl c' f A outer s H E) [] ((vs ++ ws).map some) H s1 := by
  obtain ⟨h1, tk, rfl, hk⟩ := x.done
  have noA : ∀ b : Addr, b ∉ (cloCx P w K mg base L cl c' f A outer s H E).ex := fun b z => absurd (show b ∈ ([] : List Addr) from z) (by simp)
  have clen : ws.length = L.fr.length := by have z := C.len; rwa [List.length_map] at z
  have own_ge : ∀ y c, (ownC s.heap.objs.size L.scope).lookup y = some c → s.heap.objs.size < c := fun y c h => x.above y c (PySem.mem_of_lookup h)
  have cl_lt : ∀ y c, cl.lookup y = some c → c < s.heap.objs.size := fun y c h => by
    obtain ⟨_, v, o, ho, _⟩ := C.all y c h
    exact Heap.lt_size ho
  have ndP : L.ps.Nodup := (List.nodup_append.mp S.nd).1
  have cellK : ∀ {c : Addr} {v : Option Value}, s.heap.IsCell c v → h1.IsCell c v := fun {c v} ⟨o, ho, hd⟩ => ⟨o, hk _ _ ho, hd⟩
  have own_none : ∀ y ∈ L.fr, (ownC s.heap.objs.size L.scope).lookup y = none := fun y m => by
    cases e : (ownC s.heap.objs.size L.scope).lookup y with
    | none => rfl
    | some c =>
      rcases cellsFrom_in _ _ _ _ _ (PySem.mem_of_lookup e) with z | z
      · cases z
      · exact absurd z (S.nc y m)
  refine ⟨⟨e0.mod, S.kind, rfl, rfl, Nat.le_refl _, fun y z c h1 h2 => ?_, fun y hy => ?_, fun y c hf h => ?_, fun _ => hd, Around.frames_deeper e0.frames, .inr ⟨rfl, rfl⟩, fun b z => absurd z (noA b), e0.bs, e0.bsz, fun b _ _ => noA b, fun b z => absurd z (noA b), e0.funs, e0.frf⟩,
    rfl, e0.bare, Un.kept hk, ⟨_, x.toInCall.ns, fun i y v h1 h2 h3 => ?_⟩, fun y c h => ?_, e0.hok.fresh (Nat.le_refl _), fun y c h => ?_, fun p hp => absurd (show p ∈ ([] : List (Addr × Obj)) from hp) (by simp), e0.hok.kept hk, ?_⟩
  · have h1 : (ownC s.heap.objs.size L.scope ++ cl).lookup y = some c := h1
    have h2 : (ownC s.heap.objs.size L.scope ++ cl).lookup z = some c := h2
    rcases lk_app h1 with a | ⟨_, a⟩ <;> rcases lk_app h2 with b | ⟨_, b⟩
    · exact PySem.name_of_addr x.apart (PySem.mem_of_lookup a) (PySem.mem_of_lookup b)
    · exact absurd (Nat.lt_trans (own_ge _ _ a) (cl_lt _ _ b)) (Nat.lt_irrefl _)
    · exact absurd (Nat.lt_trans (own_ge _ _ b) (cl_lt _ _ a)) (Nat.lt_irrefl _)
    · exact C.inj _ _ _ a b
  · have hy : L.scope.names.lookup y = some .cell ∨ L.scope.names.lookup y = some .free := hy
    show ∃ c, (ownC s.heap.objs.size L.scope ++ cl).lookup y = some c
    rw [List.lookup_append]
    rcases hy with hy | hy
    · obtain ⟨c, e⟩ := cell_has (n := s.heap.objs.size + 1) hy
      exact ⟨c, by rw [e]; rfl⟩
    · obtain ⟨i, hi⟩ := List.mem_iff_getElem?.mp (S.free _ (PySem.mem_of_lookup hy) rfl)
      obtain ⟨c, hc, _⟩ := C.has i y hi
      cases e : (ownC s.heap.objs.size L.scope).lookup y with
      | none => exact ⟨c, hc⟩
      | some d => exact ⟨d, rfl⟩
  · have h : (ownC s.heap.objs.size L.scope ++ cl).lookup y = some c := h
    have hf : L.scope.names.lookup y = some .cell := of_decide_eq_true hf
    obtain ⟨d, e⟩ := cell_has (n := s.heap.objs.size + 1) hf
    rw [List.lookup_append, e] at h
    have h : some d = some c := h
    cases h
    exact Nat.le_of_lt (own_ge _ _ e)
  · have h1 : (L.ps ++ L.fr)[i]? = some y := h1
    rw [List.getElem?_map] at h2
    by_cases hi : i < L.ps.length
    · rw [List.getElem?_append_left (by omega)] at h2
      rw [List.getElem?_append_left hi] at h1
      have ha : vs[i]? = some v := by
        cases e : vs[i]? with
        | none => rw [e] at h2; cases h2
        | some a => rw [e] at h2; cases h2; rfl
      obtain ⟨u, hu, rv⟩ := r.get ha
      refine ⟨u, rv, ?_⟩
      rcases S.par y (List.mem_of_getElem? h1) with k | k
      · exact .inl ⟨k, bindL_get ndP h1 hu k⟩
      · obtain ⟨c, e⟩ := cell_has (n := s.heap.objs.size + 1) k
        refine .inr ⟨.inl k, c, ?_, ?_⟩
        · show (ownC s.heap.objs.size L.scope ++ cl).lookup y = some c
          rw [List.lookup_append, e]; rfl
        · have q := x.cell y c e
          rw [bindC_get ndP h1 hu (by show L.scope.names.lookup y ≠ _; rw [k]; decide)] at q
          exact q
    · rw [List.getElem?_append_right (by omega), hl] at h2
      rw [List.getElem?_append_right (by omega)] at h1
      obtain ⟨c, hc, hv⟩ := C.has (i - L.ps.length) y h1
      obtain ⟨u, ru, hu⟩ := hv v (by rw [List.getElem?_map]; exact h2)
      refine ⟨u, ru, .inr ⟨.inr (S.frk y (List.mem_of_getElem? h1)), c, ?_, cellK hu⟩⟩
      show (ownC s.heap.objs.size L.scope ++ cl).lookup y = some c
      rw [List.lookup_append, own_none y (List.mem_of_getElem? h1)]; exact hc
  · have h : (ownC s.heap.objs.size L.scope ++ cl).lookup y = some c := h
    rcases lk_app h with h | ⟨_, h⟩
    · exact ⟨_, x.cell y c h⟩
    · obtain ⟨v, z⟩ := (C.all y c h).2
      exact ⟨v, cellK z⟩
  · have h : (ownC s.heap.objs.size L.scope ++ cl).lookup y = some c := h
    rcases lk_app h with h | ⟨_, h⟩
    · exact e0.hok.fresh (Nat.le_of_lt (own_ge y c h))
    · exact (C.all y c h).1
  · show _ = (L.ps ++ L.fr).length
    rw [List.length_map, List.length_append, List.length_append, hl, clen]
/-- the call of a lambda's function object -/
theorem clo_run {k : Nat} {Q : VK} {pm ctv : Value} (S : CScope L.ps L.fr L.scope) (hr : Room (k + 1) A) (e0 : Env0 P w K mg base A outer s H) (ho : s.heap.get? f = some (PySem.W.kla_obj "<lambda>" L.q L.params L.body L.scope cl pm c' ctv)) (hcd : s.heap.CodeRec (.ref c') L.q)
    (hb : ∀ (cl : List (Str × Addr)) (pm cv ctv : Value) (us : List Value), us.length = L.ps.length → bindArgs (PySem.W.kla_fn "<lambda>" L.q L.params L.body L.scope cl pm cv ctv) ⟨us, []⟩ = pure (L.ps.zip us))
    (hl : vs.length = L.ps.length) (r : Vals vs us) (C : NdefX.CellsAt cl L.fr (ws.map some) s.heap H)
    (body : Room k (A.deeper (cloEnv L cl c' f s.heap.objs.size)) → WE (cloCx P w K mg base L cl c' f A outer s H E) L.body ((vs ++ ws).map some) H Q) :
    codeAny (model P w) A (.call (.ref f) ⟨us, []⟩) (CR CX0 outer P w H s Q E) s := by
  have lim : s.heap.NoLimit := e0.mod.nolimit.keeps fun b o e => (e0.bs b o e).1
  have hkind : ∀ y ∈ L.ps.zip us, L.scope.names.lookup y.1 = some .local ∨ (L.scope.names.lookup y.1 = some .cell ∧ ((ownC s.heap.objs.size L.scope).lookup y.1).isSome = true) := fun ⟨n, v⟩ hy => by
    rcases S.par n (List.of_mem_zip hy).1 with q | q
    · exact .inl q
    · exact .inr ⟨q, PySem.W.cellsFrom_some _ _ _ (.inl q)⟩
  refine PySem.W.kla_callFunE hr.depth ho rfl S.co S.gen rfl hcd ?_
  rw [hb cl pm (.ref c') ctv us (by rw [← r.length]; exact hl)]
  refine wpAny_pure (newEnv2 S.kind hkind fun env he s1 x => ?_)
  subst he
  refine ⟨lim.keeps x.toInCall.keep, ?_⟩
  have J : Inv (cloCx P w K mg base L cl c' f A outer s H E) [] ((vs ++ ws).map some) H s1 := inv_startC S hr.hd e0 hl r C x
  refine PySem.W.kla_codeExpr (wpAny_mono (body (hr.deeper _) [] s1 J) (fun v s' hq => ?_) fun e s' hq => hq)
  obtain ⟨v', H', J', rv, q⟩ := hq
  exact ⟨v', H', J'.os, J'.bare, J'.base, J'.hok, rv, q⟩
end
end Gh
set_option Elab.async false
set_option linter.all false
set_option maxRecDepth 100000
set_option maxHeartbeats 4000000
/-! lambdas as data: locked cells -/
namespace Gh
open PySem PySem.Spec PyProof.Rows L2 LamX
mutual
/-- no lambda in it -/
def D.noC : D → Bool
  | .lst xs => D.noCs xs
  | .tup xs => D.noCs xs
  | .ins _ _ ds => D.noCs ds
  | .met _ d => D.noC d
  | .dK _ ds => D.noCs ds
  | .dT _ ds => D.noCs ds
  | .lent ds => D.noCs ds
  | .clo _ _ => false
  | .dq ds => D.noCs ds
  | .scr _ => true
  | .non => true
  | .bl _ => true
  | .int _ => true
  | .str _ => true
  | .ty _ => true
  | .emp => true
  | .mut => true
  | .cel _ => true
  | .ref _ => true
def D.noCs : List D → Bool
  | [] => true
  | x :: xs => D.noC x && D.noCs xs
end
theorem noCs_of {xs : List D} (h : ∀ x ∈ xs, x.noC = true) : D.noCs xs = true := by
  induction xs with
  | nil => simp [D.noCs]
  | cons x xs ih => rw [D.noCs, h x List.mem_cons_self, ih fun y m => h y (List.mem_cons_of_mem _ m)]; rfl
theorem noCs_map {α : Type} {f : α → D} (h : ∀ x, (f x).noC = true) (xs : List α) : D.noCs (xs.map f) = true := noCs_of fun y m => by
  obtain ⟨x, _, rfl⟩ := List.mem_map.mp m
  exact h x
/-- what the stream holds has no lambda -/
def SxN (s : Sx) : Prop := ∀ xs, s = some xs → D.noCs xs = true
theorem SxN.none : SxN none := fun _ h => by cases h
section
variable {K : PySem.W.Frag} {p : Pa} {S S' : List Addr} {H H' : Hp}
/-- what the reading of data without lambdas leans on -/
def ImpN (S S' : List Addr) (H H' : Hp) : Prop := ∀ a o, a ∉ S → H a = some o → NT o → (∀ ob, o ≠ .frz ob (.own 0)) → (∀ φ, o ≠ .ext φ) → a ∉ S' ∧ H' a = some o
theorem ImpN.rd (hE : ImpN S S' H H') {a : Addr} {u : HO} (n : a ∉ S) (h : Rd H a u) (t : NT u) (t2 : ∀ ob, u ≠ .frz ob (.own 0)) (t3 : u ≠ .own 0) (t4 : ∀ φ, u ≠ .ext φ) : a ∉ S' ∧ Rd H' a u := by
  rcases h with h | ⟨o, h⟩
  · obtain ⟨x, y⟩ := hE a _ n h t t2 t4
    exact ⟨x, .inl y⟩
  · obtain ⟨x, y⟩ := hE a _ n h nt_frz (fun ob z => by cases z; exact t3 rfl) (fun φ z => by cases z)
    exact ⟨x, .inr ⟨o, y⟩⟩
mutual
theorem Rp.impN (hE : ImpN S S' H H') : ∀ (d : D) (v : V), D.noC d = true → Rp K p S H v d → Rp K p S' H' v d
  | .non, _, _, h => by cases h; exact .non
  | .bl _, _, _, h => by cases h; exact .bl _
  | .int _, _, _, h => by cases h; exact .int _
  | .str _, _, _, h => by cases h; exact .str _
  | .ty _, _, _, h => by cases h; exact .ty _
  | .mut, _, _, h => by cases h; exact .mut
  | .cel _, _, _, h => by cases h; exact .cel _
  | .ref _, _, _, h => by cases h; exact .ref _
  | .scr _, _, _, h => by
    cases h with
    | scr h1 =>
      refine .scr (h1.elim (fun ⟨n, x⟩ => .inl ?_) .inr)
      exact hE.rd n x nt_lst (fun _ z => by cases z) (fun z => by cases z) (fun _ z => by cases z)
  | .lst ds, _, n, h => by
    cases h with
    | lst h1 h2 h3 =>
      obtain ⟨x, y⟩ := hE _ _ h1 h2 nt_lst (fun _ z => by cases z) (fun _ z => by cases z)
      exact .lst x y (Rps.impN hE ds _ (by simpa only [D.noC] using n) h3)
  | .tup ds, _, n, h => by
    cases h with
    | tup h1 h2 =>
      refine .tup (h1.elim (fun ⟨n, x⟩ => .inl ?_) .inr) (Rps.impN hE ds _ (by simpa only [D.noC] using n) h2)
      exact hE.rd n x nt_tup (fun _ z => by cases z) (fun z => by cases z) (fun _ z => by cases z)
  | .emp, _, _, h => by
    cases h with
    | emp h1 h2 =>
      obtain ⟨x, y⟩ := hE _ _ h1 h2 nt_dK (fun _ z => by cases z) (fun _ z => by cases z)
      exact .emp x y
  | .ins _ _ ds, _, n, h => by
    cases h with
    | ins h1 h2 h3 h4 =>
      obtain ⟨x, y⟩ := hE _ _ h1 h2 nt_ins (fun _ z => by cases z) (fun _ z => by cases z)
      exact .ins x y (Rps.impN hE ds _ (by simpa only [D.noC] using n) h3) h4
  | .met _ d, _, n, h => by
    cases h with
    | met h1 h2 h3 =>
      obtain ⟨x, y⟩ := hE _ _ h1 h2 nt_met (fun _ z => by cases z) (fun _ z => by cases z)
      exact .met x y (Rp.impN hE d _ (by simpa only [D.noC] using n) h3)
  | .dK _ ds, _, n, h => by
    cases h with
    | dK h1 h2 h3 h4 =>
      obtain ⟨x, y⟩ := hE _ _ h1 h2 nt_dK (fun _ z => by cases z) (fun _ z => by cases z)
      exact .dK x y (Rps.impN hE ds _ (by simpa only [D.noC] using n) h3) h4
  | .dT _ ds, _, n, h => by
    cases h with
    | dT h1 h2 h3 h4 =>
      obtain ⟨x, y⟩ := hE _ _ h1 h2 nt_frz (fun _ z => by cases z) (fun _ z => by cases z)
      exact .dT x y (Rps.impN hE ds _ (by simpa only [D.noC] using n) h3) h4
  | .lent ds, _, n, h => by
    cases h with
    | lent h1 h2 h3 =>
      obtain ⟨x, y⟩ := hE _ _ h1 h2 nt_frz (fun _ z => by cases z) (fun _ z => by cases z)
      exact .lent x y (Rps.impN hE ds _ (by simpa only [D.noC] using n) h3)
  | .clo .., _, n, _ => by simp only [D.noC] at n; cases n
  | .dq ds, _, n, h => by
    cases h with
    | dq h1 h2 h3 h4 h5 =>
      obtain ⟨x, y⟩ := hE _ _ h1 h2 nt_frz (fun _ z => by cases z) (fun _ z => by cases z)
      exact .dq x y h3 h4 (Rps.impN hE ds _ (by simpa only [D.noC] using n) h5)
theorem Rps.impN (hE : ImpN S S' H H') : ∀ (ds : List D) (vs : List V), D.noCs ds = true → Rps K p S H vs ds → Rps K p S' H' vs ds
  | [], _, _, h => by cases h; exact .nil
  | d :: ds, _, n, h => by
    simp only [D.noCs, Bool.and_eq_true] at n
    cases h with
    | cons h1 h2 => exact .cons (Rp.impN hE d _ n.1 h1) (Rps.impN hE ds _ n.2 h2)
end
end
/-! ### the lock -/
structure Lkd (cs : List Addr) (h : Heap) (H H2 : Hp) : Prop where
  out : ∀ b, b ∉ cs → H2 b = H b
  ins : ∀ b ∈ cs, H b = none ∧ ∃ o, h.get? b = some o ∧ H2 b = some (.frz o (.own 0))
def lkH (cs : List Addr) (h : Heap) (H : Hp) : Hp := fun b => if b ∈ cs then (h.get? b).map (fun o => HO.frz o (.own 0)) else H b
def ulH (cs : List Addr) (H : Hp) : Hp := fun b => if b ∈ cs then none else H b
def rlH (cs : List Addr) (H H' : Hp) : Hp := fun b => if b ∈ cs then H b else H' b
theorem ulH_out {cs : List Addr} {H : Hp} {b : Addr} (h : b ∉ cs) : ulH cs H b = H b := if_neg h
theorem ulH_in {cs : List Addr} {H : Hp} {b : Addr} (h : b ∈ cs) : ulH cs H b = none := if_pos h
theorem rlH_out {cs : List Addr} {H H' : Hp} {b : Addr} (h : b ∉ cs) : rlH cs H H' b = H' b := if_neg h
theorem rlH_in {cs : List Addr} {H H' : Hp} {b : Addr} (h : b ∈ cs) : rlH cs H H' b = H b := if_pos h
section
variable {P : Program} {w : World} {cs : List Addr} {h h' : Heap} {H H2 H' : Hp} {fs : List Addr}
theorem lkd_lk (a : ∀ b ∈ cs, H b = none ∧ ∃ o, h.get? b = some o) : Lkd cs h H (lkH cs h H) :=
  ⟨fun b n => if_neg n, fun b m => ⟨(a b m).1, by
    obtain ⟨o, e⟩ := (a b m).2
    refine ⟨o, e, ?_⟩
    unfold lkH
    rw [if_pos m, e]; rfl⟩⟩
theorem lkd_ul (x : HOk P w H h) (a : ∀ b ∈ cs, ∃ o, H b = some (.frz o (.own 0))) : Lkd cs h (ulH cs H) H :=
  ⟨fun b n => (ulH_out n).symm, fun b m => ⟨ulH_in m, by
    obtain ⟨o, e⟩ := a b m
    exact ⟨o, (x b _ e).1, e⟩⟩⟩
theorem Lkd.nin (l : Lkd cs h H H2) {b : Addr} {o : HO} (e : H b = some o) : b ∉ cs := fun m => by
  rw [(l.ins b m).1] at e; cases e
theorem Lkd.up (l : Lkd cs h H H2) {b : Addr} {o : HO} (e : H b = some o) : H2 b = some o := (l.out b (l.nin e)).trans e
theorem Lkd.hok (l : Lkd cs h H H2) (x : HOk P w H h) : HOk P w H2 h := fun a o e => by
  by_cases m : a ∈ cs
  · obtain ⟨_, ob, e1, e2⟩ := l.ins a m
    rw [e2] at e; cases e
    exact ⟨e1, ob, e1⟩
  · rw [l.out a m] at e
    exact (x a o e).stay (fun b u _ q => q) (fun b q => l.up q) fun b xs q => l.up q
theorem Lkd.dn (l : Lkd cs h H H2) (x : HOk P w H2 h) : HOk P w H h := fun a o e => by
  have nf : ∀ b u, H2 b = some u → (∀ ob, u ≠ .frz ob (.own 0)) → H b = some u := fun b u q n => by
    by_cases m : b ∈ cs
    · obtain ⟨_, ob, _, e2⟩ := l.ins b m
      rw [e2] at q; cases q; exact absurd rfl (n ob)
    · rw [← l.out b m]; exact q
  exact (x a o (l.up e)).stay (fun b u _ q => q) (fun b q => nf _ _ q fun _ z => by cases z) fun b xs q => nf _ _ q fun _ z => by cases z
/-- a call ran with the locked cells: without them -/
theorem Lkd.after (l : Lkd cs h H H2) (u : Un fs [] H2 H' h h') (x : HOk P w H' h') : Un fs [] H (ulH cs H') h h' ∧ Lkd cs h' (ulH cs H') H' ∧ HOk P w (ulH cs H') h' := by
  have at_ : ∀ b ∈ cs, ∃ o, h.get? b = some o ∧ H' b = some (.frz o (.own 0)) ∧ h'.get? b = some o := fun b m => by
    obtain ⟨_, o, e1, e2⟩ := l.ins b m
    have e3 := u.frzs b _ _ e2
    exact ⟨o, e1, e3, (x b _ e3).1⟩
  have l' : Lkd cs h' (ulH cs H') H' := lkd_ul x fun b m => by
    obtain ⟨o, _, e, _⟩ := at_ b m
    exact ⟨o, e⟩
  refine ⟨⟨fun b o e n nb nx => ?_, fun b o e n nb nx => ?_, fun b o e n nx => ?_, fun b o e nx => u.there b o e nx, fun b xs e => ?_, fun b ob xs e => ?_, fun b ps e => ?_⟩, l', l'.dn x⟩
  · by_cases m : b ∈ cs
    · obtain ⟨o2, e1, _, e3⟩ := at_ b m
      rw [e] at e1; cases e1; exact e3
    · exact u.keep b o e ((l.out b m).trans n) nb nx
  · by_cases m : b ∈ cs
    · obtain ⟨o2, e1, _, e3⟩ := at_ b m
      rw [e] at e1; cases e1; exact ⟨o.slots, e3⟩
    · exact u.slot b o e ((l.out b m).trans n) nb nx
  · by_cases m : b ∈ cs
    · exact ulH_in m
    · rw [ulH_out m]
      exact u.free b o e ((l.out b m).trans n) nx
  · rw [ulH_out (l.nin e)]
    exact u.tups b xs (l.up e)
  · rw [ulH_out (l.nin e)]
    exact u.frzs b ob xs (l.up e)
  · obtain ⟨more, z⟩ := u.tbls b ps (l.up e)
    exact ⟨more, by rw [ulH_out (l.nin e)]; exact z⟩
/-- a lambda's body ran without its cells locked: with them -/
theorem Lkd.back (l : Lkd cs h H H2) (u : Un fs [] H H' h h') (x : HOk P w H' h') (nf : ∀ b ∈ cs, b ∉ fs) : Un fs [] H2 (rlH cs H2 H') h h' ∧ Lkd cs h' H' (rlH cs H2 H') ∧ HOk P w (rlH cs H2 H') h' := by
  have at_ : ∀ b ∈ cs, ∃ o, h.get? b = some o ∧ H2 b = some (.frz o (.own 0)) ∧ h'.get? b = some o ∧ H' b = none := fun b m => by
    obtain ⟨n, o, e1, e2⟩ := l.ins b m
    exact ⟨o, e1, e2, u.keep b o e1 n (nf b m) (by simp), u.free b o e1 n (by simp)⟩
  have l' : Lkd cs h' H' (rlH cs H2 H') := ⟨fun b n => rlH_out n, fun b m => by
    obtain ⟨o, _, e2, e3, e4⟩ := at_ b m
    exact ⟨e4, o, e3, (rlH_in m).trans e2⟩⟩
  have dn : ∀ b, b ∉ cs → H2 b = none → H b = none := fun b n e => by rw [← l.out b n]; exact e
  refine ⟨⟨fun b o e n nb nx => ?_, fun b o e n nb nx => ?_, fun b o e n nx => ?_, fun b o e nx => u.there b o e nx, fun b xs e => ?_, fun b ob xs e => ?_, fun b ps e => ?_⟩, l', l'.hok x⟩
  · by_cases m : b ∈ cs
    · obtain ⟨o2, _, e2, _⟩ := at_ b m
      rw [e2] at n; cases n
    · exact u.keep b o e (dn b m n) nb nx
  · by_cases m : b ∈ cs
    · obtain ⟨o2, _, e2, _⟩ := at_ b m
      rw [e2] at n; cases n
    · exact u.slot b o e (dn b m n) nb nx
  · by_cases m : b ∈ cs
    · obtain ⟨o2, _, e2, _⟩ := at_ b m
      rw [e2] at n; cases n
    · rw [rlH_out m]
      exact u.free b o e (dn b m n) nx
  · by_cases m : b ∈ cs
    · obtain ⟨o2, _, e2, _⟩ := at_ b m
      rw [e2] at e; cases e
    · rw [rlH_out m]
      exact u.tups b xs (by rw [← l.out b m]; exact e)
  · by_cases m : b ∈ cs
    · rw [rlH_in m]; exact e
    · rw [rlH_out m]
      exact u.frzs b ob xs (by rw [← l.out b m]; exact e)
  · by_cases m : b ∈ cs
    · obtain ⟨o2, _, e2, _⟩ := at_ b m
      rw [e2] at e; cases e
    · obtain ⟨more, z⟩ := u.tbls b ps (by rw [← l.out b m]; exact e)
      exact ⟨more, by rw [rlH_out m]; exact z⟩
end
end Gh
set_option Elab.async false
set_option linter.all false
set_option maxRecDepth 100000
set_option maxHeartbeats 4000000
/-! lambdas as data: made for a call; called -/
namespace Gh
open PySem PySem.Spec PyProof.Rows L2 LamX
section
variable {X : Cx} {pins : List (Addr × Obj)} {σ : L2.St} {H : Hp} {s : Shared}
theorem inv_lam {L : Lm} {cl : List (Str × Addr)} {c' : Addr} {o : Obj} {t' : Nat} {pm ctv : Value} (I : L2.Inv X pins σ H s) (ho : o = PySem.W.kla_obj "<lambda>" L.q L.params L.body L.scope cl pm c' ctv) :
    L2.Inv X pins σ (upd H s.heap.objs.size (LamO s.heap.objs.size L cl c')) { s with heap := s.heap.push o, toks := t' } := by
  subst ho
  refine I.laid (a := s.heap.objs.size) (fun b u e => Heap.get?_push_of_some _ e) (Nat.le_refl _) ?_
  have e : (s.heap.push (PySem.W.kla_obj "<lambda>" L.q L.params L.body L.scope cl pm c' ctv)).get? s.heap.objs.size = some (PySem.W.kla_obj "<lambda>" L.q L.params L.body L.scope cl pm c' ctv) := Heap.get?_push_size _ rfl
  exact ⟨⟨pm, ctv, e⟩, ⟨_, e⟩, fun h1 h2 ⟨p, t, z⟩ st => ⟨p, t, st _ z⟩⟩
theorem lam_make4 {T : List (Addr × Str)} {c P : Addr} {params : Arguments} {body : Expr} {scope : Scope} {ps fr : List Str} {pos : Pos} {E : Value → Shared → Prop} {Q : Value → Shared → Prop} (I : L2.Inv X pins σ H s) (TB : TabB X.base X.mg c P) (hcode : X.env.code = .ref c)
    (hm : (P, X.env.qual ++ "<lambda>") ∈ T) (hu : ∀ p ∈ T, p.1 = P → p.2 = X.env.qual ++ "<lambda>") (hT : Tabs T H) (hdef : defaultsOf params X.env = ([], [])) (hfree : ∀ y ∈ scope.names, y.2 = .free → ∃ c, X.env.cells.lookup y.1 = some c)
    (h : ∀ (f c' : Addr) (H1 : Hp) (s' : Shared), L2.Inv X pins σ H1 s' → ExtN H H1 → (∀ b, H1 b = none → H b = none) → Tabs T H1 → H f = none →
      H1 f = some (LamO f ⟨X.env.qual ++ "<lambda>", params, body, scope, ps, fr⟩ (cloFrom X.env.cells scope.names []) c') → H1 c' = some (CodeO c' (X.env.qual ++ "<lambda>")) → Q (.ref f) s') :
    wpAny (model X.prog X.w) X.A (eval (.Lambda params body scope pos) X.env) Q E s := by
  obtain ⟨ps0, hP, ht, ha⟩ := hT _ hm
  refine PySem.W.kla_eval hdef ?_
  have bP : s.heap.BuiltinsAt X.mg P := TB.bm.keeps I.bk
  have hP' : s.heap.get? P = some { cls := .none, data := .fields ps0 } := I.hok P _ hP
  cases hc : codeAmong pos ps0.toList with
  | none =>
    refine PySem.W.kla_makeFunction (mg := X.mg) (c := c) (P := P) (ps := ps0) (closure_ok hfree) I.ok.glob (I.mod.glob.keeps I.bk) hcode (TB.code.keeps I.bk) hP' ht hc TB.gP bP fun c' ctv h' tk hx hge hlt hrec htb => ?_
    obtain ⟨c2, oc, vs, t, e2, hoc, hd, hv⟩ := hrec
    cases e2
    have nC : H c' = none := I.hok.fresh hge
    have I1 := inv_table (t' := tk) (more := #[rawInt pos.line, rawInt pos.col, .ref c']) (h' := h') I hP (fun b o hb e => hx b o hb e) htb hge ⟨oc, vs, t, hoc, hd, hv⟩
    have hE : ExtN H (upd (upd H P (.tbl (ps0 ++ #[rawInt pos.line, rawInt pos.col, .ref c']))) c' (CodeO c' (X.env.qual ++ "<lambda>"))) := fun b o e n => by
      rw [upd_ne (ne_of_none e nC), upd_ne (fun z => n ps0 (Option.some.inj (e.symm.trans (by rw [z]; exact hP))))]
      exact e
    have eL : (ps0 ++ #[rawInt pos.line, rawInt pos.col, .ref c']).toList = ps0.toList ++ [rawInt pos.line, rawInt pos.col, .ref c'] := by simp
    have T1 : Tabs T (upd (upd H P (.tbl (ps0 ++ #[rawInt pos.line, rawInt pos.col, .ref c']))) c' (CodeO c' (X.env.qual ++ "<lambda>"))) := fun p hp => by
      by_cases hb : p.1 = P
      · rw [hu p hp hb, hb]
        refine ⟨_, by rw [upd_ne (ne_of_none hP nC), upd_same], by rw [eL]; exact PySem.TriplesOk_snoc _ _ _ _ ht, fun p' cv hcv => ?_⟩
        rw [eL] at hcv
        rcases among_app _ ht hcv with z | z
        · obtain ⟨c0, e1, e2⟩ := ha p' cv z
          exact ⟨c0, e1, hE _ _ e2 codeO_ne⟩
        · exact ⟨c', z, upd_same⟩
      · obtain ⟨ps', a1, a2, a3⟩ := hT p hp
        refine ⟨ps', by rw [upd_ne (ne_of_none a1 nC), upd_ne hb]; exact a1, a2, fun p' cv hcv => ?_⟩
        obtain ⟨c0, e1, e2⟩ := a3 p' cv hcv
        exact ⟨c0, e1, hE _ _ e2 codeO_ne⟩
    have nF := I1.hok.fresh (Nat.le_refl _)
    have I2 := inv_lam (L := ⟨X.env.qual ++ "<lambda>", params, body, scope, ps, fr⟩) (cl := cloFrom X.env.cells scope.names []) (c' := c') (t' := tk) (pm := (X.mg "__name__").getD .none) (ctv := ctv) I1 rfl
    refine h h'.objs.size c' _ _ I2 (fun b o e n => ?_) (fun b e => upd_none (upd_none (upd_none e))) (T1.ext fun b o e => ?_) (I.hok.fresh (Nat.le_trans hge (Nat.le_of_lt hlt))) upd_same ?_
    · have e1 := hE b o e n
      exact (upd_ne (ne_of_none e1 nF)).trans e1
    · exact (upd_ne (ne_of_none e nF)).trans e
    · exact (upd_ne (Nat.ne_of_lt hlt)).trans upd_same
  | some cv =>
    obtain ⟨c', e, hco⟩ := ha pos cv hc
    subst e
    refine PySem.W.kla_makeFunctionHit (mg := X.mg) (c := c) (P := P) (ps := ps0) (closure_ok hfree) I.ok.glob (I.mod.glob.keeps I.bk) hcode (TB.code.keeps I.bk) hP' ht hc bP fun ctv h' tk hx hsz => ?_
    have I1 : L2.Inv X pins σ H { s with heap := h', toks := tk } := I.kept hx
    have nF : H h'.objs.size = none := I1.hok.fresh (Nat.le_refl _)
    have I2 := inv_lam (L := ⟨X.env.qual ++ "<lambda>", params, body, scope, ps, fr⟩) (cl := cloFrom X.env.cells scope.names []) (c' := c') (t' := tk) (pm := (X.mg "__name__").getD .none) (ctv := ctv) I1 rfl
    refine h h'.objs.size c' _ _ I2 (fun b o e n => ?_) (fun b e => upd_none e) (hT.ext fun b o e => ?_) nF upd_same ?_
    · exact (upd_ne (ne_of_none e nF)).trans e
    · exact (upd_ne (ne_of_none e nF)).trans e
    · exact (upd_ne (ne_of_none hco nF)).trans hco
end
def tLamV (X : Cx) (T : Ts) (L : Lm) : TE := fun σ H Q => Tabs T H ∧ ∀ (f c' : Addr) (H1 : Hp), ExtN H H1 → (∀ b, H1 b = none → H b = none) → Tabs T H1 → H f = none →
  H1 f = some (LamO f L (cloFrom X.env.cells L.scope.names []) c') → H1 c' = some (CodeO c' L.q) → Q (.ref f) H1
theorem pe_lamV {X : Cx} {T : Ts} {c P : Addr} {params : Arguments} {body : Expr} {scope : Scope} {ps fr : List Str} {pos : Pos} (TB : TabB X.base X.mg c P) (hcode : X.env.code = .ref c)
    (hm : (P, X.env.qual ++ "<lambda>") ∈ T) (hu : ∀ p ∈ T, p.1 = P → p.2 = X.env.qual ++ "<lambda>") (hdef : defaultsOf params X.env = ([], [])) (hfree : ∀ y ∈ scope.names, y.2 = .free → X.env.scope.names.lookup y.1 = some .cell ∨ X.env.scope.names.lookup y.1 = some .free) :
    PE X (.Lambda params body scope pos) (tLamV X T ⟨X.env.qual ++ "<lambda>", params, body, scope, ps, fr⟩) := by
  refine ⟨fun pins s σ H Q I h => ?_⟩
  obtain ⟨hT, h⟩ := h
  exact lam_make4 (ps := ps) (fr := fr) I TB hcode hm hu hT hdef (fun y hy e => (hfree y hy e).elim (fun z => I.ok.has _ (.inl z)) fun z => I.ok.has _ (.inr z)) fun f c' H1 s' I1 eN dn T1 n h1 h2 => ⟨.ref f, H1, I1, rfl, h f c' H1 eN dn T1 n h1 h2⟩
/-! ### arguments, the last one a lambda -/
def EaL (F : Fx) (ρ : List G) (s : Sx) (es : List Expr) (L : Lm) (ds : List D) (s' : Sx) : Prop :=
  s.isSome = s'.isSome ∧ ∀ O σ H, Fm F O σ H ρ s → ∀ Q : List V → Hp → Prop, (∀ vs f c' H', Fm F O σ H' ρ s' → XE F H H' → Rps F.X.K F.p (O ++ F.S0) H' vs ds → f ∉ O ++ F.S0 →
    H' f = some (LamO f L (cloFrom F.X.env.cells L.scope.names []) c') → H' c' = some (CodeO c' L.q) → Q (vs ++ [.ref f]) H') → WA F.X es σ H Q
/-- what the captured names hold -/
inductive Cap (F : Fx) (ρ : List G) : List Str → List D → Prop
  | nil : Cap F ρ [] []
  | cons (j : Nat) {y : Str} {ys : List Str} {d : D} {ds : List D} : F.X.N[j]? = some y → ρ[j]? = some (.val d) → F.X.fn y = true → (F.X.env.scope.names.lookup y = some .cell ∨ F.X.env.scope.names.lookup y = some .free) → Cap F ρ ys ds → Cap F ρ (y :: ys) (d :: ds)
theorem Cap.get {F : Fx} {ρ : List G} {ys : List Str} {ds : List D} (c : Cap F ρ ys ds) : ds.length = ys.length ∧ ∀ (i : Nat) (y : Str), ys[i]? = some y → ∃ (j : Nat) (d : D), F.X.N[j]? = some y ∧ ρ[j]? = some (.val d) ∧ F.X.fn y = true ∧ (F.X.env.scope.names.lookup y = some .cell ∨ F.X.env.scope.names.lookup y = some .free) ∧ ds[i]? = some d := by
  induction c with
  | nil => exact ⟨rfl, fun i y h => by simp at h⟩
  | cons j h1 h2 h3 h4 _ ih =>
    refine ⟨by simp [ih.1], fun i y h => ?_⟩
    cases i with
    | zero =>
      simp at h; subst h
      exact ⟨j, _, h1, h2, h3, h4, rfl⟩
    | succ i => simpa using ih.2 i y (by simpa using h)
section
variable {F : Fx} {ρ : List G} {s s1 s2 : Sx} {e : Expr} {es : List Expr} {d : D} {ds : List D} {pos p lpos : Pos}
theorem sa_ext {O : List Addr} {H H1 : Hp} (fm : F.Sa O H s) (eN : ExtN H H1) (dn : ∀ b, H1 b = none → H b = none) (T1 : Tabs F.T H1) : F.Sa O H1 s := by
  cases s with
  | none => exact T1
  | some ds =>
    obtain ⟨z1, z2, vs, z3, z4⟩ := fm
    exact ⟨T1, z2, vs, z3.to fun _ _ e _ => eN _ _ e (fun ps w => by cases w), z4.ext ⟨fun a o _ h t => eN a o h (fun ps w => t ps w), dn⟩⟩
theorem eaL_one {params : Arguments} {body : Expr} {scope : Scope} {ps fr : List Str} (TL : LamAt F) (hfree : ∀ y ∈ scope.names, y.2 = .free → F.X.env.scope.names.lookup y.1 = some .cell ∨ F.X.env.scope.names.lookup y.1 = some .free) (hdef : defaultsOf params F.X.env = ([], []) := by rfl)
    (hs : starEach [.Lambda params body scope lpos] F.X.env = (false, eval (.Lambda params body scope lpos) F.X.env) :: starEach [] F.X.env := by rfl) : EaL F ρ s [.Lambda params body scope lpos] ⟨F.X.env.qual ++ "<lambda>", params, body, scope, ps, fr⟩ [] s := by
  obtain ⟨c, P, hcode, TB, hmT, hu⟩ := TL
  refine ⟨rfl, fun O σ H fm Q q => wa (pa_cons (pe_lamV (ps := ps) (fr := fr) TB hcode hmT hu hdef hfree) pa_nil hs) ⟨fm.st.tab, fun f c' H1 eN dn T1 n h1 h2 => ?_⟩⟩
  have xp1 : XP F.p s H H1 := ⟨fun a o h _ t => eN a o h t, dn⟩
  have fm1 : Fm F O σ H1 ρ s := fm.grow xp1 rfl (sa_ext fm.st eN dn T1)
  exact q [] f c' H1 fm1 (xp1.xe fm.pm fm.kd) .nil (fm.fresh n) h1 h2
theorem eaL_cons {L : Lm} (ha : Ed F ρ s e d s1) (hr : EaL F ρ s1 es L ds s2) (hs : starEach (e :: es) F.X.env = (false, eval e F.X.env) :: starEach es F.X.env := by rfl) : EaL F ρ s (e :: es) L (d :: ds) s2 :=
  ⟨ha.1.trans hr.1, fun O σ H f Q q => wa (pa_cons pe_we pa_wa hs) (ha.2 O σ H f _ fun v H1 f1 x1 r1 => hr.2 O σ H1 f1 _ fun vs g c' H2 f2 x2 r2 n h1 h2 => q (v :: vs) g c' H2 f2 (x1.trans x2) (.cons (r1.ext x2.xt) r2) n h1 h2)⟩
theorem look_mem {cl : List (Str × Addr)} {c : Addr} (m : c ∈ cl.map (·.2)) : ∃ y, (y, c) ∈ cl := by
  obtain ⟨q, hq, rfl⟩ := List.mem_map.mp m
  exact ⟨q.1, hq⟩
theorem list_ex {P : Nat → V → Prop} : ∀ (n : Nat), (∀ i, i < n → ∃ v, P i v) → ∃ ws : List V, ws.length = n ∧ ∀ i v, ws[i]? = some v → P i v
  | 0, _ => ⟨[], rfl, fun i v h => by simp at h⟩
  | n + 1, h => by
    obtain ⟨ws, h1, h2⟩ := list_ex n fun i hi => h i (by omega)
    obtain ⟨v, hv⟩ := h n (by omega)
    refine ⟨ws ++ [v], by simp [h1], fun i u hu => ?_⟩
    by_cases hi : i < ws.length
    · rw [List.getElem?_append_left hi] at hu
      exact h2 i u hu
    · rw [List.getElem?_append_right (by omega)] at hu
      have e : i - ws.length = 0 := by
        cases z : i - ws.length with
        | zero => rfl
        | succ k => rw [z] at hu; simp at hu
      rw [e] at hu
      simp at hu
      subst hu
      have e2 : i = n := by omega
      rw [e2]; exact hv
theorem sta_up {K : PySem.W.Frag} {T : Ts} {p : Pa} {S S1 : List Addr} {H H2 : Hp} {s : Sx} (st : StA K T p S H s) (up : XT [] H H2) (tb : ∀ b o, H b = some o → H2 b = some o) (sub : ∀ a ∈ S1, a ∈ S) (pS : ∀ ds0, s = some ds0 → In p S1) : StA K T p S1 H2 s := by
  cases s with
  | none => exact LamX.Tabs.ext st tb
  | some ds0 =>
    obtain ⟨q1, q2, ws0, q3, q4⟩ := st
    exact ⟨LamX.Tabs.ext q1 tb, pS _ rfl, ws0, q3.to fun _ _ e _ => tb _ _ e, (q4.ext (up.mono fun a m => by cases m)).weak sub⟩
theorem sta_imp {K : PySem.W.Frag} {T : Ts} {p : Pa} {S S1 : List Addr} {H H2 : Hp} {s : Sx} (st : StA K T p S H s) (tb : LamX.Tabs T H2) (imp : ImpN S S1 H H2) (hs : SxN s) (lst : ∀ b xs, H b = some (.lst xs) → H2 b = some (.lst xs)) (pS : ∀ ds0, s = some ds0 → In p S1) : StA K T p S1 H2 s := by
  cases s with
  | none => exact tb
  | some ds0 =>
    obtain ⟨q1, q2, ws0, q3, q4⟩ := st
    exact ⟨tb, pS _ rfl, ws0, q3.to fun _ _ e _ => lst _ _ e, Rps.impN imp _ _ (hs _ rfl) q4⟩
theorem sta_p {K : PySem.W.Frag} {T : Ts} {p : Pa} {S : List Addr} {H : Hp} {s : Sx} (st : StA K T p S H s) : ∀ ds0, s = some ds0 → In p S ∧ ∀ c, (c = p.1 ∨ c = p.2) → ∃ ws, H c = some (.lst ws) := fun ds0 e => by
  rw [e] at st
  obtain ⟨_, q2, ws, q3, _⟩ := st
  exact ⟨q2, fun c z => z.elim (fun e => ⟨ws, e ▸ q3.1⟩) fun e => e ▸ q3.2.1⟩
/-- f(.., lambda ..: ..) -/
theorem ed_clF {f : Str} {k : Nat} {L : Lm} {cs : List D} (ha : EaL F ρ s (e :: es) L ds s1) (hc : Cap F ρ L.fr cs) (S : CScope L.ps L.fr L.scope) (hr : Room k F.X.A) (R : Rn F.en k f (ds ++ [.clo L cs]) s1 d s2) (hn : d.noC = true) (hs : SxN s2)
    (hg : Gl F.X f := by rfl) (hdb : (f == ("__debug__" : Str)) = false := by decide)
    (he : starEach (e :: es) F.X.env = (false, eval e F.X.env) :: starEach es F.X.env := by rfl) (hpl : (backTo pos (starEach es F.X.env)).any (·.1) = false := by rfl) : Ed F ρ s (.Call (.Name f p) (e :: es) [] pos) d s2 := by
  obtain ⟨kd, fa, fd, ps, h1, h2, h3, h4⟩ := R
  obtain ⟨clen, cget⟩ := hc.get
  refine ⟨ha.1.trans kd, fun O σ H fm Q q pins sh I => ?_⟩
  refine wpAny_Call_Name_kw (ld_glob I hg h1 ?_ hdb)
  refine PySem.W.callWith_K (h₀ := F.X.base) I.ok.mod.kin h2 (thn (ha.2 O σ H fm (fun vs' H1 => ∃ vs g c', vs' = vs ++ [.ref g] ∧ Fm F O σ H1 ρ s1 ∧ XE F H H1 ∧ Rps F.X.K F.p (O ++ F.S0) H1 vs ds ∧ g ∉ O ++ F.S0 ∧ H1 g = some (LamO g L (cloFrom F.X.env.cells L.scope.names []) c') ∧ H1 c' = some (CodeO c' L.q)) (fun vs g c' H1 a b c d e f => ⟨vs, g, c', rfl, a, b, c, d, e, f⟩) pos pins sh I) fun us s2' ⟨vs', H1, I1, rV, vs, g, c', evs, f1, x1, r1, ng, hg1, hc1⟩ => ⟨I1.kIn, ?_⟩) he hpl
  subst evs
  show wpAny _ _ (call (.ref fa) us) _ _ _
  -- the cells
  have hfree : ∀ y ∈ L.scope.names, y.2 = .free → ∃ c, F.X.env.cells.lookup y.1 = some c := fun y hy e => by
    obtain ⟨i, hi⟩ := List.mem_iff_getElem?.mp (S.free y hy e)
    obtain ⟨j, d0, _, _, _, k4, _⟩ := cget i y.1 hi
    exact k4.elim (fun z => I1.ok.has _ (.inl z)) fun z => I1.ok.has _ (.inr z)
  have memC : ∀ y c, (y, c) ∈ cloFrom F.X.env.cells L.scope.names [] → F.X.env.cells.lookup y = some c ∧ y ∈ L.fr := fun y c m => by
    rcases cloFrom_mem m with hm | ⟨a1, a2⟩
    · cases hm
    · obtain ⟨c1, hc⟩ := hfree _ a1 rfl
      have hc : F.X.env.cells.lookup y = some c1 := hc
      refine ⟨?_, S.free _ a1 rfl⟩
      rw [a2, hc]; rfl
  have facts : ∀ y c, F.X.env.cells.lookup y = some c → y ∈ L.fr → H1 c = none ∧ F.X.s_0.heap.objs.size ≤ c ∧ c ≠ F.X.env.locals ∧ ∃ o, s2'.heap.get? c = some o := fun y c e m => by
    obtain ⟨i, hi⟩ := List.mem_iff_getElem?.mp m
    obtain ⟨j, d0, _, _, k3, _⟩ := cget i y hi
    obtain ⟨v, o, ho, _⟩ := I1.cell y c e
    exact ⟨I1.freeC y c e, I1.ok.cab y c k3 e, I1.cne y c e, o, ho⟩
  have val : ∀ i y, L.fr[i]? = some y → ∃ c o u v d0, F.X.env.cells.lookup y = some c ∧ (cloFrom F.X.env.cells L.scope.names []).lookup y = some c ∧ s2'.heap.get? c = some o ∧ o.data = .cell (some u) ∧ RelV v u ∧ cs[i]? = some d0 ∧ Rp F.X.K F.p (O ++ F.S0) H1 v d0 := fun i y hi => by
    obtain ⟨j, d0, k1, k2, k3, k4, k5⟩ := cget i y hi
    obtain ⟨o0, ho0, v, rfl, rv⟩ := f1.slot j _ k2
    obtain ⟨m, hn', hl⟩ := I1.loc
    obtain ⟨u, ru, l⟩ := hl j y v k1 ho0 (k4.elim (fun z => .inr (.inl z)) fun z => .inr (.inr z))
    rcases l with ⟨z, _⟩ | ⟨_, c, hcl, oc, hoc, hdc⟩
    · have z' : F.X.env.scope.names.lookup y = some .local := z
      rcases k4 with k | k <;> rw [k] at z' <;> cases z'
    · exact ⟨c, oc, u, v, d0, hcl, NdefX.clo_has hfree (PySem.mem_of_lookup (S.frk y (List.mem_of_getElem? hi))) hcl, hoc, hdc, ru, k5, rv⟩
  let cls := (cloFrom F.X.env.cells L.scope.names []).map (·.2)
  have cfacts : ∀ b ∈ cls, H1 b = none ∧ F.X.s_0.heap.objs.size ≤ b ∧ b ≠ F.X.env.locals ∧ ∃ o, s2'.heap.get? b = some o := fun b m => by
    obtain ⟨y, m⟩ := look_mem m
    obtain ⟨a1, a2⟩ := memC y b m
    exact facts y b a1 a2
  have lk : Lkd cls s2'.heap H1 (lkH cls s2'.heap H1) := lkd_lk fun b m => ⟨(cfacts b m).1, (cfacts b m).2.2.2⟩
  have e1 := I1.env0
  have nfs : ∀ b ∈ cls, b ∉ frs F.X.stack := fun b m z => by
    rcases List.mem_cons.mp (I1.stkSub b z) with z | z
    · exact (cfacts b m).2.2.1 z
    · obtain ⟨_, o, ho, _⟩ := I1.ok.funs.mem z
      exact absurd (Nat.lt_of_lt_of_le (Heap.lt_size ho) (cfacts b m).2.1) (Nat.lt_irrefl _)
  have e2 : Env0 F.X.prog F.X.w F.X.K F.X.mg F.X.base F.X.A F.X.stack s2' (lkH cls s2'.heap H1) := by
    refine ⟨e1.frames, e1.mod, fun b o e => ⟨(e1.bs b o e).1, ?_⟩, e1.bsz, e1.funs, fun b m => ?_, lk.hok e1.hok, e1.bare⟩
    · rw [lk.out b fun m => ?_]
      · exact (e1.bs b o e).2
      · exact absurd (Nat.lt_of_lt_of_le (Heap.lt_size e) (Nat.le_trans I1.ok.bsz (cfacts b m).2.1)) (Nat.lt_irrefl _)
    · rw [lk.out b fun m2 => nfs b m2 m]
      exact e1.frf b m
  -- the data
  have trkN : ∀ b ∈ cls, b ∉ O ++ F.S0 := fun b m z => by
    obtain ⟨o, ho⟩ := f1.trk b z
    rw [(cfacts b m).1] at ho; cases ho
  have up : XT [] H1 (lkH cls s2'.heap H1) := ⟨fun a o _ e _ => lk.up e, fun a e => by
    by_cases m : a ∈ cls
    · exact (cfacts a m).1
    · rw [lk.out a m] at e; exact e⟩
  have up2 : XT (O ++ F.S0) H1 (lkH cls s2'.heap H1) := up.mono fun a m => by cases m
  let S1 := (O ++ F.S0).filter (· ≠ c')
  have subS : ∀ a ∈ S1, a ∈ O ++ F.S0 := fun a m => (List.mem_filter.mp m).1
  have ncS : c' ∉ S1 := fun m => by simpa using (List.mem_filter.mp m).2
  have pS : ∀ ds0, s1 = some ds0 → In F.p S1 := fun ds0 e => by
    obtain ⟨q2, q3⟩ := sta_p f1.st ds0 e
    have go : ∀ c, (c = F.p.1 ∨ c = F.p.2) → c ∈ S1 := fun c hc => ?_
    exact ⟨go _ (.inl rfl), go _ (.inr rfl)⟩
    obtain ⟨ws, q3⟩ := q3 c hc
    refine List.mem_filter.mpr ⟨q2.has hc, ?_⟩
    simp only [ne_eq, decide_not, Bool.not_eq_eq_eq_not, Bool.not_true, decide_eq_false_iff_not]
    intro z
    rw [← z, q3] at hc1
    have := Option.some.inj hc1
    unfold CodeO at this
    cases this
  obtain ⟨ws, wlen, wrel⟩ := list_ex (P := fun i v => ∃ y c o u d0, L.fr[i]? = some y ∧ (cloFrom F.X.env.cells L.scope.names []).lookup y = some c ∧ s2'.heap.get? c = some o ∧ o.data = .cell (some u) ∧ RelV v u ∧ cs[i]? = some d0 ∧ Rp F.X.K F.p (O ++ F.S0) H1 v d0) L.fr.length fun i hi => by
    obtain ⟨c, o, u, v, d0, a1, a2, a3, a4, a5, a6, a7⟩ := val i _ (List.getElem?_eq_getElem hi)
    exact ⟨v, _, c, o, u, d0, List.getElem?_eq_getElem hi, a2, a3, a4, a5, a6, a7⟩
  have wR : Rps F.X.K F.p (O ++ F.S0) H1 ws cs := by
    have go : ∀ (ws : List V) (cs : List D), ws.length = cs.length → (∀ (i : Nat) (v : V), ws[i]? = some v → ∃ d0, cs[i]? = some d0 ∧ Rp F.X.K F.p (O ++ F.S0) H1 v d0) → Rps F.X.K F.p (O ++ F.S0) H1 ws cs := by
      intro ws
      induction ws with
      | nil => intro cs h _; cases cs with
        | nil => exact .nil
        | cons _ _ => simp at h
      | cons w ws ih =>
        intro cs h k
        cases cs with
        | nil => simp at h
        | cons d0 cs =>
          obtain ⟨d1, a, b⟩ := k 0 w rfl
          simp at a; subst a
          exact .cons b (ih cs (by simpa using h) fun i v hv => by
            obtain ⟨d2, a, b⟩ := k (i + 1) v (by simpa using hv)
            exact ⟨d2, by simpa using a, b⟩)
    exact go ws cs (by rw [wlen, clen]) fun i v hv => by
      obtain ⟨y, c, o, u, d0, _, _, _, _, _, a, b⟩ := wrel i v hv
      exact ⟨d0, a, b⟩
  have frz_at : ∀ c o, c ∈ cls → s2'.heap.get? c = some o → lkH cls s2'.heap H1 c = some (.frz o (.own 0)) := fun c o m e => by
    obtain ⟨_, o2, e3, e4⟩ := lk.ins c m
    rw [e] at e3; cases e3; exact e4
  have mcl : ∀ y c, (cloFrom F.X.env.cells L.scope.names []).lookup y = some c → c ∈ cls := fun y c e => List.mem_map.mpr ⟨(y, c), PySem.mem_of_lookup e, rfl⟩
  have cf : CellsF (lkH cls s2'.heap H1) S1 (cloFrom F.X.env.cells L.scope.names []) L.fr ws := by
    refine ⟨wlen, fun y c e => ⟨fun m => trkN c (mcl y c e) (subS c m), ?_⟩, fun x y c a b => I1.ok.inj x y c (memC x c (PySem.mem_of_lookup a)).1 (memC y c (PySem.mem_of_lookup b)).1, fun i y hi => ?_⟩
    · obtain ⟨a1, a2⟩ := memC y c (PySem.mem_of_lookup e)
      obtain ⟨i, hi⟩ := List.mem_iff_getElem?.mp a2
      obtain ⟨c2, o, u, v, d0, b1, b2, b3, b4, b5, b6, b7⟩ := val i y hi
      rw [a1] at b1; cases b1
      exact ⟨o, u, frz_at c o (mcl y c e) b3, b4⟩
    · have hlt := (List.getElem?_eq_some_iff.mp hi).1
      obtain ⟨y2, c, o, u, d0, e9, a3, a4, a5, a6, _, _⟩ := wrel i _ (List.getElem?_eq_getElem (by rw [wlen]; exact hlt))
      rw [hi] at e9
      cases e9
      exact ⟨c, o, u, _, a3, frz_at c o (mcl _ c a3) a4, a5, List.getElem?_eq_getElem (by rw [wlen]; exact hlt), a6⟩
  have args : Rps F.X.K F.p S1 (lkH cls s2'.heap H1) (vs ++ [.ref g]) (ds ++ [.clo L cs]) :=
    ((r1.ext up2).weak subS).append (.one (.clo (fun m => ng (subS g m)) (up.1 _ _ (by simp) hg1 nt_lam) ncS (up.1 _ _ (by simp) hc1 nt_code) cf ((wR.ext up2).weak subS)))
  have st1 : StA F.X.K F.T F.p S1 (lkH cls s2'.heap H1) s1 := sta_up f1.st up (fun b o e => lk.up e) subS pS
  have hl : us.length = ps.length := by
    rw [← rV.length]
    exact h4.len _ (lkH cls s2'.heap H1) (fun _ _ => True) E0 ⟨F.p, S1, args, fun a m => (f1.trk a (subS a m)).imp fun o e => lk.up e, st1, fun _ _ _ _ _ => trivial⟩
  refine wpAny_call (codeAny_mono (h4.run F.X.A F.X.stack s2' (lkH cls s2'.heap H1) ⟨us, []⟩ us _ (fun v H' => Rp F.X.K F.p S1 H' v d ∧ XP F.p s1 (lkH cls s2'.heap H1) H' ∧ StA F.X.K F.T F.p S1 H' s2) E0 hr e2 (by
      have z := h3 s2' us I1.kIn (by simpa using hl)
      simpa using z) rV ⟨F.p, S1, args, fun a m => (f1.trk a (subS a m)).imp fun o e => lk.up e, st1, fun v H' a b c => ⟨a, b, c⟩⟩) fun r s3 hq => ?_)
  cases r with
  | error e => exact (show False from hq).elim
  | ok fl =>
    cases fl with
    | next => exact False.elim hq
    | brk => exact False.elim hq
    | cont => exact False.elim hq
    | ret u =>
      obtain ⟨v, H3, os, bare, un, hok, rv, rp, xp, st3⟩ := hq
      obtain ⟨un2, lk2, hok2⟩ := lk.after un hok
      have hc3 : H3 c' = some (CodeO c' L.q) := by
        refine xp.1 _ _ (lk.up hc1) ?_ nt_code
        rcases Option.eq_none_or_eq_some s1 with e | ⟨ds0, e⟩
        · exact .inl e
        · exact .inr fun z => ncS ((pS _ e).has z)
      have imp : ImpN S1 (O ++ F.S0) H3 (ulH cls H3) := fun a o n e t t2 t3 => by
        have m : a ∉ cls := fun m => by
          obtain ⟨_, ob, _, e4⟩ := lk2.ins a m
          rw [e4] at e
          exact t2 ob (Option.some.inj e).symm
        refine ⟨fun z => ?_, by rw [ulH_out m]; exact e⟩
        by_cases hac : a = c'
        · rw [hac, hc3] at e
          exact t3 _ (Option.some.inj e).symm
        · exact n (List.mem_filter.mpr ⟨z, by simpa using hac⟩)
      have xp2 : XP F.p s1 H1 (ulH cls H3) := ⟨fun a o e n t => by
        rw [ulH_out (lk.nin e)]
        exact xp.1 a o (lk.up e) n t, fun a e => by
        by_cases m : a ∈ cls
        · exact (cfacts a m).1
        · rw [ulH_out m] at e
          have z := xp.2 a e
          rw [lk.out a m] at z; exact z⟩
      have tb : LamX.Tabs F.T (ulH cls H3) := fun pq hp => by
        obtain ⟨qs, t1, t2, t3⟩ := st3.tab pq hp
        have nf : ∀ a o, H3 a = some o → (∀ ob u, o ≠ .frz ob u) → ulH cls H3 a = some o := fun a o e n => by
          rw [ulH_out fun m => ?_]
          · exact e
          · obtain ⟨_, ob, _, e4⟩ := lk2.ins a m
            rw [e4] at e
            exact n ob _ (Option.some.inj e).symm
        refine ⟨qs, nf _ _ t1 (fun _ _ z => by cases z), t2, fun pos cv hcv => ?_⟩
        obtain ⟨c, w1, w2⟩ := t3 pos cv hcv
        exact ⟨c, w1, nf _ _ w2 fun _ _ z => by unfold CodeO at z; cases z⟩
      have st4 : F.Sa O (ulH cls H3) s2 := sta_imp st3 tb imp hs (fun b xs e => by
        rw [ulH_out fun m => ?_]
        · exact e
        · obtain ⟨_, ob, _, e4⟩ := lk2.ins _ m
          rw [e4] at e; cases e) fun ds0 e => (sta_p st3 ds0 e).1.to subS
      refine I1.after ⟨v, ulH cls H3, os, bare, un2, hok2, rv, ?_⟩
      exact q v _ (f1.grow xp2 kd st4) (x1.trans (xp2.xe f1.pm f1.kd)) (Rp.impN imp _ _ hn rp)
end
end Gh
set_option Elab.async false
set_option linter.all false
set_option maxRecDepth 100000
set_option maxHeartbeats 4000000
/-! functions as values: called -/
namespace Gh
open PySem PySem.Spec PyProof.Rows L2 LamX
/-- the function value g, called with these data, hands back that -/
structure RnV (E : En) (k : Nat) (g : D) (ds : List D) (s : Sx) (d : D) (s' : Sx) : Prop where
  kd : s.isSome = s'.isSome
  fn : ∀ p S H v, Rp E.K p S H v g → ∃ a, v = .ref a ∧ (PySem.W.keepIn E.K (.ref a) = true ∨ ∃ L cl c', a ∉ S ∧ H a = some (LamO a L cl c'))
  run : ∀ (A : Around) (outer : List Env) (sh : Shared) (H : Hp) (p : Pa) (S : List Addr) (v : V) (u : Value) (vs : List V) (us : List Value) (Q : VK) (EX : XK), Room k A → Env0 E.P E.w E.K E.mg E.base A outer sh H → Rp E.K p S H v g → Rps E.K p S H vs ds → RelV v u → Vals vs us →
    (∀ a ∈ S, ∃ o, H a = some o) → StA E.K E.T p S H s → (∀ v' H', Rp E.K p S H' v' d → XP p s H H' → StA E.K E.T p S H' s' → Q v' H') → codeAny (model E.P E.w) A (.call u ⟨us, []⟩) (CR CX0 outer E.P E.w H sh Q EX) sh
theorem RnV.mono {E : En} {j k : Nat} {g : D} {ds : List D} {s s' : Sx} {d : D} (r : RnV E j g ds s d s') (h : j ≤ k) : RnV E k g ds s d s' :=
  ⟨r.kd, r.fn, fun A outer sh H p S v u vs us Q EX hr => r.run A outer sh H p S v u vs us Q EX (hr.mono h)⟩
theorem RnV.is {E : En} {k : Nat} {g : D} {ds : List D} {s s' : Sx} {d d' : D} (r : RnV E k g ds s d s') (h : d = d') : RnV E k g ds s d' s' := h ▸ r
/-- a def as a value -/
theorem Rn.v {E : En} {k : Nat} {f : Str} {ds : List D} {s s' : Sx} {d : D} {fa : Addr} (r : Rn E k f ds s d s') (hm : E.mg f = some (.ref fa)) : RnV E k (.ref fa) ds s d s' := by
  obtain ⟨kd, fa', fd, ps, h1, h2, h3, h4⟩ := r
  rw [hm] at h1
  cases h1
  refine ⟨kd, fun p S H v r => ?_, fun A outer sh H p S v u vs us Q EX hr e0 rg rs ru rv tr st q => ?_⟩
  · cases r; exact ⟨_, rfl, .inl h2⟩
  · cases rg
    obtain rfl : u = Value.ref _ := ru
    have sp : spOf E.K E.T ds s d s' vs H Q EX := ⟨p, S, rs, tr, st, q⟩
    have hl : us.length = ps.length := by rw [← rv.length]; exact h4.len _ _ _ _ sp
    have KX : E.K.In sh.heap := e0.mod.kin.keeps fun b o e => (e0.bs b o e).1
    exact h4.run A outer sh H ⟨us, []⟩ us vs Q EX hr e0 (by simpa using h3 sh us KX (by simpa using hl)) rv sp
section
variable {F : Fx} {ρ : List G} {s s1 s2 : Sx} {e : Expr} {es : List Expr} {d : D} {ds : List D} {pos p : Pos}
/-- a def's name, as a value -/
theorem ed_fn {f : Str} {fa : Addr} (hm : F.X.mg f = some (.ref fa)) (hg : Gl F.X f := by rfl) (hd : (f == ("__debug__" : Str)) = false := by decide) : Ed F ρ s (.Name f pos) (.ref fa) s :=
  ed_glob (v := .ref fa) hg hm rfl (fun _ _ _ => .ref _) hd
theorem lamO_fnAt {P : Program} {w : World} {H : Hp} {h : Heap} {a c' : Addr} {L : Lm} {cl : List (Str × Addr)} (hok : HOk P w H h) (e : H a = some (LamO a L cl c')) : PySem.W.FnAt a h := by
  obtain ⟨⟨pm, ctv, ho⟩, _, _⟩ := hok a _ e
  exact ⟨_, _, _, _, ho⟩
/-- x(e, ..), x a name that holds a function -/
theorem ed_clV (i : Nat) {x : Str} {g : D} {k : Nat} (hN : F.X.N[i]? = some x) (hv : Vis F.X.env.scope x) (hρ : ρ[i]? = some (.val g)) (ha : Ea F ρ s (e :: es) ds s1) (hr : Room k F.X.A) (R : RnV F.en k g ds s1 d s2)
    (hd : (x == ("__debug__" : Str)) = false := by decide) (hcd : (x == ("__classdict__" : Str)) = false := by decide)
    (he : starEach (e :: es) F.X.env = (false, eval e F.X.env) :: starEach es F.X.env := by rfl) (hpl : (backTo pos (starEach es F.X.env)).any (·.1) = false := by rfl) : Ed F ρ s (.Call (.Name x p) (e :: es) [] pos) d s2 := by
  obtain ⟨kd, hfn, hrun⟩ := R
  refine ⟨ha.1.trans kd, fun O σ H fm Q q pins sh I => ?_⟩
  obtain ⟨o, ho, v, rfl, rg⟩ := fm.slot i _ hρ
  obtain ⟨a, rfl, hk⟩ := hfn _ _ _ _ rg
  refine wpAny_Call_Name_kw (thn ((pe_var (pos := p) hN hv hd hcd).run pins sh σ H (fun v H1 => v = .ref a ∧ H1 = H) I ⟨.ref a, ho, rfl, rfl⟩) fun u s1' ⟨v, H1, I1, r1, q1⟩ => ?_)
  obtain ⟨ev, eH⟩ := q1
  subst ev
  rw [eH] at I1
  obtain rfl : u = Value.ref a := r1
  have fin : ∀ us s2' vs H1, L2.Inv F.X pins σ H1 s2' → Vals vs us → Fm F O σ H1 ρ s1 → XE F H H1 → Rps F.X.K F.p (O ++ F.S0) H1 vs ds → wpAny (model F.X.prog F.X.w) F.X.A (call (.ref a) us) (EP F.X pins σ Q) F.X.xe s2' := fun us s2' vs H1 I1 rV f1 x1 r1 => by
    refine wpAny_call (codeAny_mono (hrun F.X.A F.X.stack s2' H1 F.p (O ++ F.S0) (.ref a) (.ref a) vs us Q E0 hr I1.env0 (rg.ext x1.xt) r1 rfl rV f1.trk f1.st fun v' H' r' x' t' => q v' H' (f1.grow x' kd t') (x1.trans (x'.xe f1.pm f1.kd)) r') fun r s3 hq => ?_)
    cases r with
    | error e => exact (show False from hq).elim
    | ok fl =>
      cases fl with
      | ret u => exact I1.after hq
      | next => exact False.elim hq
      | brk => exact False.elim hq
      | cont => exact False.elim hq
  have hA := ha.2 O σ H fm (fun vs H1 => Fm F O σ H1 ρ s1 ∧ XE F H H1 ∧ Rps F.X.K F.p (O ++ F.S0) H1 vs ds) (fun vs H1 a b c => ⟨a, b, c⟩) pos pins s1' I1
  rcases hk with hk | ⟨L, cl, c', na, hl⟩
  · exact PySem.W.callWith_K (h₀ := F.X.base) (first := []) I1.ok.mod.kin hk (thn hA fun us s2' ⟨vs, H1, I1, rV, f1, x1, r1⟩ => ⟨I1.kIn, fin us s2' vs H1 I1 rV f1 x1 r1⟩) he hpl
  · exact PySem.W.callWith_F (first := []) (lamO_fnAt I1.hok hl) (thn hA fun us s2' ⟨vs, H1, I1, rV, f1, x1, r1⟩ => ⟨lamO_fnAt I1.hok (x1.xt.1 _ _ na hl nt_lam), fin us s2' vs H1 I1 rV f1 x1 r1⟩) he hpl
end
/-- the context of a lambda's body -/
abbrev cloF (E : En) (L : Lm) (s : Sx) (cl : List (Str × Addr)) (c' f : Addr) (A : Around) (outer : List Env) (sh : Shared) (H0 : Hp) (EX : XK) (S0 : List Addr) (p : Pa) : Fx :=
  ⟨cloCx E.P E.w E.K E.mg E.base L cl c' f A outer sh H0 EX, H0, S0, p, s.isSome, E.T⟩
theorem fm_startC {E : En} {L : Lm} {s : Sx} {cl : List (Str × Addr)} {c' f : Addr} {A : Around} {outer : List Env} {sh : Shared} {H0 : Hp} {EX : XK} {S0 : List Addr} {p : Pa} {vs : List V} {ds : List D} (r : Rps E.K p S0 H0 vs ds) (tr : ∀ a ∈ S0, ∃ o, H0 a = some o) (t : StA E.K E.T p S0 H0 s) :
    Fm (cloF E L s cl c' f A outer sh H0 EX S0 p) [] (vs.map some) H0 (ds.map G.val) s := by
  have no : ∀ (i : Nat) (w : Ow) (es : List D), (ds.map G.val)[i]? ≠ some (.ow w es) := fun i w es h => by
    rw [List.getElem?_map] at h
    cases e : ds[i]? with
    | none => rw [e] at h; cases h
    | some z => rw [e] at h; cases h
  refine ⟨.refl, fun i g hg => ?_, fun i w es a h => absurd h (no i w es), fun i j w u es fs a _ h => absurd h (no i w es), fun a m => absurd m (by simp), fun a m => tr a (by simpa using m), t, fun z => ?_, rfl⟩
  · rw [List.getElem?_map] at hg
    cases e : ds[i]? with
    | none => rw [e] at hg; cases hg
    | some z =>
      rw [e] at hg
      cases hg
      obtain ⟨v, e1, e2⟩ := r.get e
      exact ⟨some v, by rw [List.getElem?_map, e1]; rfl, v, rfl, e2⟩
  · cases s with
    | none => cases z
    | some ds => exact t.2.1
/-- a lambda as a value, by its body -/
theorem rnV_clo {E : En} {k : Nat} {L : Lm} {cs ds : List D} {s s' : Sx} {d : D} (S : CScope L.ps L.fr L.scope) (kd : s.isSome = s'.isSome) (hl : ds.length = L.ps.length) (hcs : D.noCs cs = true) (hds : D.noCs ds = true) (hs : SxN s)
    (hb : ∀ (cl : List (Str × Addr)) (pm cv ctv : Value) (us : List Value), us.length = L.ps.length → bindArgs (PySem.W.kla_fn "<lambda>" L.q L.params L.body L.scope cl pm cv ctv) ⟨us, []⟩ = pure (L.ps.zip us))
    (body : ∀ (cl : List (Str × Addr)) (c' f : Addr) (A : Around) (outer : List Env) (sh : Shared) (H0 : Hp) (EX : XK) (S0 : List Addr) (p : Pa), Room k (cloF E L s cl c' f A outer sh H0 EX S0 p).X.A →
      Ed (cloF E L s cl c' f A outer sh H0 EX S0 p) ((ds ++ cs).map G.val) s L.body d s') : RnV E (k + 1) (.clo L cs) ds s d s' := by
  refine ⟨kd, fun p S H v r => ?_, fun A outer sh H p S0 v u vs us Q EX hr e0 rg rs ru rv tr st q => ?_⟩
  · cases r with
    | clo h1 h2 => exact ⟨_, rfl, .inr ⟨_, _, _, h1, h2⟩⟩
  · cases rg with
    | @clo f c' _ cl ws _ g1 g2 g3 g4 g5 g6 =>
      obtain rfl : u = Value.ref f := ru
      obtain ⟨⟨pm, ctv, ho⟩, _, _⟩ := e0.hok f _ g2
      obtain ⟨⟨oc, ovs, ot, hoc, hod, hov⟩, _, _⟩ := e0.hok c' _ g4
      have hcd : sh.heap.CodeRec (.ref c') L.q := ⟨c', oc, ovs, ot, rfl, hoc, hod, hov⟩
      -- the cells: those that some name finds
      let cls := (cl.map (·.2)).filter fun b => (cl.map (·.1)).any fun y => decide (cl.lookup y = some b)
      have mcl : ∀ b ∈ cls, ∃ y, cl.lookup y = some b := fun b m => by
        have z := (List.mem_filter.mp m).2
        obtain ⟨y, hy, z⟩ := List.any_eq_true.mp z
        exact ⟨y, of_decide_eq_true z⟩
      have icl : ∀ y b, cl.lookup y = some b → b ∈ cls := fun y b e =>
        List.mem_filter.mpr ⟨List.mem_map.mpr ⟨(y, b), PySem.mem_of_lookup e, rfl⟩, List.any_eq_true.mpr ⟨y, List.mem_map.mpr ⟨(y, b), PySem.mem_of_lookup e, rfl⟩, decide_eq_true e⟩⟩
      have frzs : ∀ b ∈ cls, ∃ o, H b = some (.frz o (.own 0)) := fun b m => by
        obtain ⟨y, e⟩ := mcl b m
        obtain ⟨_, o, u, e2, _⟩ := g5.all y b e
        exact ⟨o, e2⟩
      have lk : Lkd cls sh.heap (ulH cls H) H := lkd_ul e0.hok frzs
      have e1 : Env0 E.P E.w E.K E.mg E.base A outer sh (ulH cls H) := by
        refine ⟨e0.frames, e0.mod, fun b o e => ⟨(e0.bs b o e).1, ?_⟩, e0.bsz, e0.funs, fun b m => ?_, lk.dn e0.hok, e0.bare⟩
        · by_cases m : b ∈ cls
          · exact ulH_in m
          · rw [ulH_out m]; exact (e0.bs b o e).2
        · by_cases m2 : b ∈ cls
          · exact ulH_in m2
          · rw [ulH_out m2]; exact e0.frf b m
      have imp : ImpN S0 S0 H (ulH cls H) := fun a o n e t t2 t3 => ⟨n, by
        rw [ulH_out fun m => ?_]
        · exact e
        · obtain ⟨ob, e4⟩ := frzs a m
          rw [e4] at e
          exact t2 ob (Option.some.inj e).symm⟩
      have st1 : StA E.K E.T p S0 (ulH cls H) s := by
        have tb : LamX.Tabs E.T (ulH cls H) := fun pq hp => by
          obtain ⟨qs, t1, t2, t3⟩ := st.tab pq hp
          have nf : ∀ a o, H a = some o → (∀ ob u, o ≠ .frz ob u) → ulH cls H a = some o := fun a o e n => by
            rw [ulH_out fun m => ?_]
            · exact e
            · obtain ⟨ob, e4⟩ := frzs a m
              rw [e4] at e
              exact n ob _ (Option.some.inj e).symm
          refine ⟨qs, nf _ _ t1 (fun _ _ z => by cases z), t2, fun pos cv hcv => ?_⟩
          obtain ⟨c, w1, w2⟩ := t3 pos cv hcv
          exact ⟨c, w1, nf _ _ w2 fun _ _ z => by unfold CodeO at z; cases z⟩
        cases s with
        | none => exact tb
        | some xs =>
          obtain ⟨_, q2, ws0, q3, q4⟩ := st
          refine ⟨tb, q2, ws0, q3.to fun c us q3 _ => ?_, Rps.impN imp _ _ (hs _ rfl) q4⟩
          rw [ulH_out fun m => ?_]
          · exact q3
          · obtain ⟨ob, e4⟩ := frzs _ m
            rw [e4] at q3; cases q3
      have CA : NdefX.CellsAt cl L.fr (ws.map some) sh.heap (ulH cls H) := by
        refine ⟨by rw [List.length_map]; exact g5.len, fun y c e => ⟨ulH_in (icl y c e), ?_⟩, g5.inj, fun i y hi => ?_⟩
        · obtain ⟨_, o, u, e2, e3⟩ := g5.all y c e
          exact ⟨some u, o, (e0.hok c _ e2).1, e3⟩
        · obtain ⟨c, o, u, v, b1, b2, b3, b4, b5⟩ := g5.has i y hi
          refine ⟨c, b1, fun v' hv' => ?_⟩
          rw [List.getElem?_map, b4] at hv'
          cases hv'
          exact ⟨u, b5, o, (e0.hok c _ b2).1, b3⟩
      have R0 : Rps E.K p S0 (ulH cls H) (vs ++ ws) (ds ++ cs) := (Rps.impN imp _ _ hds rs).append (Rps.impN imp _ _ hcs g6)
      have tr1 : ∀ a ∈ S0, ∃ o, ulH cls H a = some o := fun a m => by
        obtain ⟨o, ho⟩ := tr a m
        refine ⟨o, ?_⟩
        rw [ulH_out fun m2 => ?_]
        · exact ho
        · obtain ⟨y, e⟩ := mcl a m2
          exact (g5.all y a e).1 m
      refine codeAny_mono (clo_run (Q := fun v H' => Rp E.K p S0 H' v d ∧ XP p s (ulH cls H) H' ∧ StA E.K E.T p S0 H' s') S hr e1 ho hcd hb (by rw [rs.length, hl]) rv CA fun hr' =>
        (body cl c' f A outer sh (ulH cls H) EX S0 p hr').2 [] _ _ (fm_startC R0 tr1 st1) _ fun v H' f' x' r' => ⟨r', f'.ext.kind kd.symm, f'.sa0⟩) fun r s3 hq => ?_
      cases r with
      | error e => exact (show False from hq).elim
      | ok fl =>
        cases fl with
        | next => exact False.elim hq
        | brk => exact False.elim hq
        | cont => exact False.elim hq
        | ret u =>
          obtain ⟨v, H', os, bare, un, hok, rv, rp, xp, st3⟩ := hq
          obtain ⟨un2, lk2, hok2⟩ := lk.back un hok fun b m z => by
            obtain ⟨ob, e4⟩ := frzs b m
            rw [e0.frf b z] at e4; cases e4
          have up : XT [] H' (rlH cls H H') := ⟨fun a o _ e _ => lk2.up e, fun a e => by
            by_cases m : a ∈ cls
            · exact (lk2.ins a m).1
            · rw [rlH_out m] at e; exact e⟩
          have up2 : XT S0 H' (rlH cls H H') := up.mono fun a m => by cases m
          refine ⟨v, rlH cls H H', os, bare, un2, hok2, rv, q v _ (rp.ext up2) ⟨fun a o e n t => ?_, fun a e => ?_⟩ ?_⟩
          · by_cases m : a ∈ cls
            · rw [rlH_in m]; exact e
            · rw [rlH_out m]
              exact xp.1 a o (by rw [ulH_out m]; exact e) n t
          · by_cases m : a ∈ cls
            · rw [rlH_in m] at e; exact e
            · rw [rlH_out m] at e
              have z := xp.2 a e
              rw [ulH_out m] at z; exact z
          · cases s' with
            | none => exact LamX.Tabs.ext st3 fun b o e => lk2.up e
            | some xs =>
              obtain ⟨q1, q2, ws0, q3, q4⟩ := st3
              exact ⟨LamX.Tabs.ext q1 fun b o e => lk2.up e, q2, ws0, q3.to fun _ _ e _ => lk2.up e, q4.ext up2⟩
end Gh
set_option Elab.async false
set_option linter.all false
set_option maxRecDepth 100000
set_option maxHeartbeats 4000000
/-! x[i] = e, x an owned list; x, y, z = a, b, [..] where the stores are not swapped (x is captured) -/
namespace Gh
open PySem PySem.Spec PyProof.Rows L2
section
variable {F : Fx} {ρ : List G} {s s1 s2 s3 : Sx} {a b c e : Expr} {xs ds : List D} {pos : Pos} {k : GE}
theorem bs_stO (i : Nat) {x : Str} {px ps : Pos} {ix : Expr} {n : D} {l : Int} {j : Nat} (hN : F.X.N[i]? = some x) (hv : Vis F.X.env.scope x) (hρ : ρ[i]? = some (.own xs)) (h : Ed F ρ s e n s1) (hi : Ed F ρ s1 ix (.int l) s2) (hj : ixN xs.length l = some j) (hk : k.nx (ρ.set i (.own (xs.set j n))) s2)
    (hd : (x == ("__debug__" : Str)) = false := by decide) (hcd : (x == ("__classdict__" : Str)) = false := by decide) (hs : swapsWithSole [.Subscript (.Name x px) ix ps] e pos.line F.X.env = pure false := by rfl) (hw : swappedStores [.Subscript (.Name x px) ix ps] e F.X.env = pure none := by rfl)
    (h1 : (assignEach [.Subscript (.Name x px) ix ps] F.X.env).map (·.2) = [assign (.Subscript (.Name x px) ix ps) F.X.env] := by rfl)
    (ha : ∀ v, assign (.Subscript (.Name x px) ix ps) F.X.env v = (do
      let ov ← holding [v] (eval (.Name x px) F.X.env)
      let iv ← holding [v, ov] (eval ix F.X.env)
      standAt ps
      holding [v, ov, iv] (setItem ov iv v)
      release [v, ov, iv] []) := by intro _; rfl) : Bs F (.Assign [.Subscript (.Name x px) ix ps] e pos) ρ s k :=
  fun O σ H f E q => ws (ps_asg pe_we (pg_sub (pe_var hN hv hd hcd) pe_we set_list ha) hs hw h1) (h.2 O σ H f _ fun v H1 f1 x1 r1 => by
    obtain ⟨o, ho, c, vs, eo, m, g1, r, _⟩ := f1.slot i _ hρ
    subst eo
    have na : ¬ (F.act = true ∧ (c = F.p.1 ∨ c = F.p.2) ∧ c ∈ F.S0) := fun z => (f1.fre c (f1.own i _ xs c hρ ho)).2 z.2.2
    refine ⟨_, ho, hi.2 O σ H1 f1 _ fun w H2 f2 x2 r2 => ?_⟩
    cases r2
    refine ⟨c, vs, l, j, rfl, rfl, x2.1 _ _ na g1 nt_lst, by rw [r.length]; exact hj, ?_⟩
    obtain ⟨f3, x3⟩ := f2.mut hρ ho ((r.ext x2.xt).set j (r1.ext x2.xt))
    exact q.nx O σ _ _ s2 f3 (.of ((x1.xt.trans x2.xt).trans x3)) hk)
end
end Gh
set_option Elab.async false
set_option linter.all false
set_option maxRecDepth 100000
set_option maxHeartbeats 4000000
/-! extend; dicts with ints as keys that are only filled; dict(pairs), of which only the keys are told; starred displays -/
namespace Gh
open PySem PySem.Spec PyProof.Rows L2
end Gh
set_option Elab.async false
set_option linter.all false
set_option maxRecDepth 100000
set_option maxHeartbeats 4000000
/-! sorted(d), keys ints; starred displays -/
namespace Gh
open PySem PySem.Spec PyProof.Rows L2
end Gh
set_option Elab.async false
set_option linter.all false
set_option maxRecDepth 100000
set_option maxHeartbeats 4000000
/-! a function by a name that holds it, raising; an owned list read as data by two statements; x = f(x, ..) that hands back x itself -/
namespace Gh
open PySem PySem.Spec PyProof.Rows L2 LamX
end Gh
set_option Elab.async false
set_option linter.all false
set_option maxRecDepth 100000
set_option maxHeartbeats 4000000
/-! xs != [], whatever xs holds -/
namespace Gh
open PySem PySem.Spec PyProof.Rows L2
def rNeNil (K : PySem.W.Frag) : R2 := fun x y H Q => ∃ a b xs, x = .ref a ∧ y = .ref b ∧ SqL K H a xs ∧ SqL K H b [] ∧ Q (.bl (!xs.isEmpty)) H
theorem op_neNil {X : Cx} (hu : X.A.units < cLine) : OpR X (compareOp .NotEq) (rNeNil X.K) := by
  intro pins s σ H x y v u Q I rx ry h
  obtain ⟨a, b, xs, rfl, rfl, ha, hb, q⟩ := h
  cases (show v = Value.ref a from rx)
  cases (show u = Value.ref b from ry)
  obtain ⟨us, r1, p1, _⟩ := I.list ha
  obtain ⟨ws, r2, p2, _⟩ := I.list hb
  cases r2
  cases r1 with
  | nil => exact SeqAt.RcNeAt.lists (e := fun _ => true) p1.isList p2.isList rfl hu (fun j h1 h2 => absurd h1 (by simp)) X.prog X.w X.xe _ ⟨.bl false, H, I, rfl, q⟩
  | cons r rs => exact SeqAt.RcNeAt.lists_lengths p1.isList p2.isList (by simp) hu X.prog X.w X.xe _ ⟨.bl true, H, I, rfl, q⟩
section
variable {F : Fx} {ρ : List G} {s s1 s2 : Sx} {a b : Expr} {xs : List D}
theorem cp_neNil {n : Nat} (hr : Room n F.X.A) (ha : Ev F ρ s a xs s1) (hb : Ev F ρ s1 b [] s2) : Cp F ρ s .NotEq a b (!xs.isEmpty) s2 :=
  ⟨ha.1.trans hb.1, nomark _, _, op_neNil (by have := hr.units; omega), fun O σ H f Q q => ha.2 O σ H f _ fun v vs H1 f1 x1 h1 n1 r1 => hb.2 O σ H1 f1 _ fun w ws H2 f2 x2 h2 n2 r2 => by
    cases r2
    have e : vs.isEmpty = xs.isEmpty := by cases r1 <;> rfl
    exact ⟨_, _, vs, rfl, rfl, .inl (.inl (x2.1 _ _ n1 h1 nt_lst)), .inl (.inl h2), by rw [e]; exact q _ f2 (x1.trans x2)⟩⟩
end
end Gh
set_option Elab.async false
set_option linter.all false
set_option maxRecDepth 100000
set_option maxHeartbeats 4000000
/-! enumerate of the script -/
namespace Gh
open PySem PySem.Spec PyProof.Rows L2
end Gh
set_option Elab.async false
set_option linter.all false
set_option maxRecDepth 100000
set_option maxHeartbeats 4000000
/-! a stream with a list of ints within it: made by a def, taken by a body, popped -/
namespace Gh
open PySem PySem.Spec PyProof.Rows L2
def BkC (F : Fx) (sts : List Stmt) (ρ : List G) (ns : List Int) (xs : List D) : Prop := ∀ O σ H, Fm F O σ H ρ none → ∀ E : Ends,
  (∀ a b vs H', F.H0 a = none → F.H0 b = none → a ≠ b → H' a = some (.lst (.ref b :: vs)) → H' b = some (.lst (ns.map V.int)) → Rps F.X.K F.p (a :: b :: F.S0) H' vs xs → XP F.p none F.H0 H' → LamX.Tabs F.T H' → E.rt (.ref a) H') → WB F.X sts E σ H
def spC (K : PySem.W.Frag) (T : Ts) (ds : List D) (ns : List Int) (xs : List D) : Sp := fun vs H Q _ => ∃ (p : Pa) (S : List Addr), Rps K p S H vs ds ∧ (∀ a ∈ S, ∃ o, H a = some o) ∧ StA K T p S H none ∧
  ∀ a b ws H', H a = none → H b = none → a ≠ b → H' a = some (.lst (.ref b :: ws)) → H' b = some (.lst (ns.map V.int)) → Rps K p (a :: b :: S) H' ws xs → XP p none H H' → LamX.Tabs T H' → Q (.ref a) H'
/-- the def f hands back a new list of a new list of ints and of other things -/
structure RnC (E : En) (k : Nat) (f : Str) (ds : List D) (ns : List Int) (xs : List D) : Prop where
  ok : ∃ fa fd ps, E.mg f = some (.ref fa) ∧ PySem.W.keepIn E.K (.ref fa) = true ∧ Binds E.K fd ps [] ∧ FnOk E.P E.w E.K E.mg E.base CX0 k fa fd ps (spC E.K E.T ds ns xs)
theorem RnC.mono {E : En} {j k : Nat} {f : Str} {ds xs : List D} {ns : List Int} (r : RnC E j f ds ns xs) (h : j ≤ k) : RnC E k f ds ns xs := by
  obtain ⟨fa, fd, ps, h1, h2, h3, h4⟩ := r
  exact ⟨fa, fd, ps, h1, h2, h3, h4.mono h⟩
section
variable {F : Fx} {ρ : List G} {s s1 s2 s' : Sx} {e o a b : Expr} {es : List Expr} {st : Stmt} {sts : List Stmt} {ds xs : List D} {ns : List Int} {n : Int} {pos p : Pos} {k : GE}
theorem bkc_cons (h1 : Bs F st ρ none { nx := fun ρ' s1 => s1 = none ∧ BkC F sts ρ' ns xs, rt := fun _ _ => False }) : BkC F (st :: sts) ρ ns xs := fun O σ H f E q => wb (pss_cons ps_ws pss_wb) (h1 O σ H f _
  ⟨fun O' σ' H' ρ' s1 f' st h' => by
    obtain ⟨rfl, h'⟩ := h'
    exact h' O' σ' H' f' E q, fun _ _ _ _ _ _ _ h => h.elim, fun _ _ _ _ _ _ _ h => h.elim, fun _ _ _ _ _ _ _ h => h.elim, fun _ _ _ _ _ _ _ _ _ _ _ h => h.elim⟩)
theorem bkc_ret {lp : Pos} (h : El F ρ none e (ns.map D.int) none) (hr : Ea F ρ none es xs none) (hl : xs.length < sizeLine := by exact Nat.le_of_ble_eq_true rfl)
    (hs : starEach (e :: es) F.X.env = (false, eval e F.X.env) :: starEach es F.X.env := by rfl) : BkC F (.Return (some (.List (e :: es) lp)) pos :: sts) ρ ns xs := fun O σ H f E q =>
  wb (pss_cons (ps_ret (pe_lst (pa_cons pe_we pa_wa hs))) pss_wb) (h.2 O σ H f _ fun b us H1 f1 x1 n1 h1 r1 => hr.2 (b :: O) σ H1 f1 _ fun vs H2 f2 x2 r2 => by
    refine ⟨by rw [List.length_cons, r2.length]; omega, fun a n => ?_⟩
    have hb : H2 b = some (.lst us) := x2.1 b _ (fun z => (f1.fre b List.mem_cons_self).2 z.2.2) h1 nt_lst
    have hab : a ≠ b := fun z => by rw [z, hb] at n; cases n
    refine q a b vs _ (f2.ext.2 a n) (f.ext.2 b n1) hab upd_same (by rw [upd_ne hab.symm, hb, r1.ints]) (((r2.fresh n).ext (.new n)).weak fun c m => ?_) (f2.ext.trans (.new n)) (tabs_new f2.st n)
    rcases List.mem_cons.mp m with z | m
    · exact z ▸ List.mem_cons_self
    · rcases List.mem_cons.mp m with z | m
      · exact z ▸ List.mem_cons_of_mem _ List.mem_cons_self
      · exact List.mem_cons_of_mem _ (List.mem_append_right _ m))
/-- xs != [] of the list within the stream -/
theorem cp_neNilC {l : Nat} (hr : Room l F.X.A) (ha : Ed F ρ s a (.cel ns) (some xs)) (hb : Ev F ρ (some xs) b [] (some xs)) (hm : D.cel ns ∈ xs) : Cp F ρ s .NotEq a b (!ns.isEmpty) (some xs) :=
  ⟨ha.1.trans hb.1, nomark _, _, op_neNil (by have := hr.units; omega), fun O σ H f Q q => ha.2 O σ H f _ fun v H1 f1 x1 r1 => hb.2 O σ H1 f1 _ fun w ws H2 f2 x2 h2 n2 r2 => by
    cases r2
    cases r1
    obtain ⟨_, _, vs, t3, t4⟩ := f2.st
    have e : (ns.map V.int).isEmpty = ns.isEmpty := by cases ns <;> rfl
    exact ⟨_, _, _, rfl, rfl, .inl (.inl (t3.2.2 ns hm).2), .inl (.inl h2), by rw [e]; exact q _ f2 (x1.trans x2)⟩⟩
/-- o.pop(0), o the list within the stream -/
theorem ed_popC {pa : Pos} {cpos : Pos} (hl : D.lones xs = true) (ho : Ed F ρ s o (.cel (n :: ns)) (some (.cel (n :: ns) :: xs))) (h : Ed F ρ (some (.cel (n :: ns) :: xs)) e (.int 0) (some (.cel (n :: ns) :: xs)))
    (he : starEach [e] F.X.env = (false, eval e F.X.env) :: starEach [] F.X.env := by rfl)
    (hb : attributeBase o "pop" F.X.env (eval o F.X.env) = eval o F.X.env := by rfl) (hline : (pa.endLine == cpos.line) = true := by rfl) (hpl : (backTo cpos (starEach [] F.X.env)).any (·.1) = false := by rfl)
    (hfew : ((backTo cpos (starEach [e] F.X.env)).all (fun x => !x.1) && (backToKw cpos (keywordEach [] F.X.env)).all (fun x => x.1.isSome) && decide ([e].length + ([] : List Keyword).length + (if ([] : List Keyword).isEmpty then 0 else 1) < 30)) = true := by rfl) :
    Ed F ρ s (.Call (.Attribute o "pop" pa) [e] [] cpos) (.int n) (some (.cel ns :: xs)) :=
  ⟨ho.1, fun O σ H f Q q => we (pe_bm PySem.F.plainAttrs_list PySem.F.slot_list_pop PySem.F.type_list_pop mt_popAt pe_we (pa_cons pe_we pa_nil he) hb hfew hline he hpl) (ho.2 O σ H f _ fun v H1 f1 x1 r1 => by
    cases r1
    obtain ⟨_, _, us, h0, _⟩ := f1.st
    refine .inl ⟨rfl, _, .inl (.inl (h0.2.2 _ List.mem_cons_self).2)⟩ |> fun z => ⟨z, h.2 O σ H1 f1 _ fun w H2 f2 x2 r2 => ?_⟩
    cases r2
    obtain ⟨t1, t2, vs, t3, t4⟩ := f2.st
    obtain ⟨ne, e2⟩ := t3.2.2 _ List.mem_cons_self
    refine ⟨F.p.2, _, 0, 0, .int n, rfl, rfl, e2, by decide, by decide, by simp [seqIndex?], by simp, ?_⟩
    have x : XP F.p (some (.cel (n :: ns) :: xs)) H2 (upd H2 F.p.2 (.lst (ns.map V.int))) := ⟨fun c o ec nc _ => by
      rw [upd_ne fun z => (nc.resolve_left fun z => by cases z) (.inr z)]; exact ec, fun c hc => upd_none hc⟩
    have t4' : Rps F.X.K F.p (O ++ F.S0) (upd H2 F.p.2 (.lst (ns.map V.int))) vs (.cel ns :: xs) := by
      cases t4 with
      | cons w1 w2 =>
        cases w1
        exact .cons (.cel ns) (w2.ext (x.xt f2.st))
    refine q _ _ (f2.grow x rfl ⟨tabs_upd t1 e2 nt_lst nc_lst, t2, vs, ⟨by rw [upd_ne ne]; exact t3.1, ⟨_, upd_same⟩, fun ms m => ⟨ne, ?_⟩⟩, t4'⟩) ((x1.trans x2).trans (x.xe f2.pm f2.kd)) (.int n)
    rcases List.mem_cons.mp m with z | m
    · cases z; exact upd_same
    · exact absurd m (lones_cel hl))⟩
abbrev Fx.strmC (F : Fx) (a b : Addr) (O : List Addr) (H : Hp) : Fx := ⟨F.X, H, O ++ F.S0, (a, b), true, F.T⟩
theorem Fm.keepC {O : List Addr} {σ : L2.St} {H H2 : Hp} {a b : Addr} {z : Sx} (f : Fm F O σ H ρ none) (ma : a ∈ O) (mb : b ∈ O) (x : XP (a, b) z H H2) : XP F.p none F.H0 H2 := by
  refine ⟨fun c o e n nt => ?_, fun b e => f.ext.2 b (x.2 b e)⟩
  refine x.1 c o (f.ext.1 c o e n nt) (.inr fun zz => ?_) nt
  rcases zz with zz | zz
  · rw [zz, (f.fre a ma).1] at e; cases e
  · rw [zz, (f.fre b mb).1] at e; cases e
theorem Fm.backC {O O2 : List Addr} {σ σ2 : L2.St} {H H2 : Hp} {ρ2 : List G} {a b : Addr} {s2 : Sx} (f : Fm F O σ H ρ none) (ma : a ∈ O) (mb : b ∈ O) (g : Fm (F.strmC a b O H) O2 σ2 H2 ρ2 s2) : Fm F O σ2 H2 (ρ2.map gKeep) none := by
  refine ⟨f.keepC ma mb g.ext, fun i gg h => ?_, fun i w ds b h => ?_, fun i j w u ds es b _ h => ?_, f.fre, fun b m => ?_, g.st.tab, f.pm, f.kd⟩
  · rw [List.getElem?_map] at h
    cases e : ρ2[i]? with
    | none => rw [e] at h; cases h
    | some g0 =>
      rw [e] at h
      cases h
      obtain ⟨o, ho, sl⟩ := g.slot i g0 e
      exact ⟨o, ho, slot_keep sl fun b m => List.mem_append_right _ m⟩
  · rw [List.getElem?_map] at h
    cases e : ρ2[i]? with
    | none => rw [e] at h; cases h
    | some g0 => rw [e] at h; exact absurd (Option.some.inj h) gKeep_own
  · rw [List.getElem?_map] at h
    cases e : ρ2[i]? with
    | none => rw [e] at h; cases h
    | some g0 => rw [e] at h; exact absurd (Option.some.inj h) gKeep_own
  · exact g.trk b (List.mem_append_right _ m)
theorem Fm.enterC {O : List Addr} {σ : L2.St} {H : Hp} {a b : Addr} {vs : List V} {i : Nat} (f : Fm F O σ H ρ none) (ma : a ∈ O) (mb : b ∈ O) (hl : i < ρ.length) (ho : σ[i]? = some (some (.ref a))) (ha : H a = some (.lst (.ref b :: vs))) (hb : H b = some (.lst (ns.map V.int))) (hab : a ≠ b) (r : Rps F.X.K F.p (O ++ F.S0) H vs xs) (hl0 : D.lones xs = true)
    (h : Bk (F.strmC a b O H) sts ((ρ.map gKeep).set i (.val .mut)) (some (.cel ns :: xs)) { nx := fun ρ2 _ => k.nx (ρ2.map gKeep) none, rt := fun d _ => d.lone = true ∧ k.rt d none, bk := fun ρ2 _ => k.bk (ρ2.map gKeep) none, ct := fun ρ2 _ => k.ct (ρ2.map gKeep) none, xc := fun x ρ2 _ => x.d.lone = true ∧ k.xc x (ρ2.map gKeep) none })
    {E : Ends} (q : k.ok F O H E) : WB F.X sts E σ H := by
  have g : Fm (F.strmC a b O H) [] σ H ((ρ.map gKeep).set i (.val .mut)) (some (.cel ns :: xs)) := by
    have iS : In (a, b) (O ++ F.S0) := ⟨List.mem_append_left _ ma, List.mem_append_left _ mb⟩
    refine ⟨.refl, fun j gg hj => ?_, fun j w ds b hj => ?_, fun j l w u ds es b _ hj => ?_, (fun b m => nomatch m), fun b m => f.trk b m, ⟨f.st, iS.app, .ref b :: vs, ⟨ha, ⟨_, hb⟩, fun ms m => ⟨hab, ?_⟩⟩, .cons (.cel ns) (r.swap hl0 fun b m => (by simpa using m))⟩, fun _ => iS, rfl⟩
    · by_cases e : i = j
      · subst e
        rw [List.getElem?_set_self (by rw [List.length_map]; exact hl)] at hj
        cases hj
        exact ⟨_, ho, _, rfl, .mut⟩
      · rw [List.getElem?_set_ne e, List.getElem?_map] at hj
        cases e2 : ρ[j]? with
        | none => rw [e2] at hj; cases hj
        | some g0 =>
          rw [e2] at hj
          cases hj
          obtain ⟨o, ho, sl⟩ := f.slot j g0 e2
          exact ⟨o, ho, slot_keep sl fun b m => m⟩
    · by_cases e : i = j
      · subst e
        rw [List.getElem?_set_self (by rw [List.length_map]; exact hl)] at hj
        cases hj
      · rw [List.getElem?_set_ne e, List.getElem?_map] at hj
        cases e2 : ρ[j]? with
        | none => rw [e2] at hj; cases hj
        | some g0 => rw [e2] at hj; exact absurd (Option.some.inj hj) gKeep_own
    · by_cases e : i = j
      · subst e
        rw [List.getElem?_set_self (by rw [List.length_map]; exact hl)] at hj
        cases hj
      · rw [List.getElem?_set_ne e, List.getElem?_map] at hj
        cases e2 : ρ[j]? with
        | none => rw [e2] at hj; cases hj
        | some g0 => rw [e2] at hj; exact absurd (Option.some.inj hj) gKeep_own
    · rcases List.mem_cons.mp m with z | m
      · cases z; exact hb
      · exact absurd m (lones_cel hl0)
  refine h [] σ H g E ⟨fun O2 σ2 H2 ρ2 s2 f2 t2 n2 => ?_, fun v H2 d s2 r2 x2 t2 n2 => ?_, fun O2 σ2 H2 ρ2 s2 f2 t2 n2 => ?_, fun O2 σ2 H2 ρ2 s2 f2 t2 n2 => ?_, fun O2 σ2 H2 ρ2 s2 cls dd x f2 t2 a2 n2 => ?_⟩
  · exact q.nx O σ2 H2 _ none (f.backC ma mb f2) (.of t2.xt) n2
  · exact q.rt v H2 d none (r2.swap n2.1 fun b m => List.mem_append_right _ m) (f.keepC ma mb x2) t2.tab n2.2
  · exact q.bk O σ2 H2 _ none (f.backC ma mb f2) (.of t2.xt) n2
  · exact q.ct O σ2 H2 _ none (f.backC ma mb f2) (.of t2.xt) n2
  · obtain ⟨C, e1, e2, a3⟩ := a2
    refine q.xc O σ2 H2 _ none cls dd x (f.backC ma mb f2) (.of t2.xt) ⟨C, e1, e2, a3.imp id fun ⟨a, fs, v, e0, e3, e4, e5⟩ => ⟨a, fs, v, e0, e3, e4, e5.swap n2.1 fun b m => List.mem_append_right _ m⟩⟩ n2.2
theorem bk_streamC (i : Nat) {x f : Str} {px cp : Pos} {j : Nat} (hN : F.X.N.Nodup) (hi : F.X.N[i]? = some x) (hx : Loc F.X.env.scope x) (hl : i < ρ.length) (ha : Ea F ρ none (e :: es) ds none) (hr : Room j F.X.A) (R : RnC F.en j f ds ns xs) (hl0 : D.lones xs = true)
    (h : ∀ a b O H, Bk (F.strmC a b O H) sts (((ρ.set i .no).map gKeep).set i (.val .mut)) (some (.cel ns :: xs)) { nx := fun ρ2 _ => k.nx (ρ2.map gKeep) none, rt := fun d _ => d.lone = true ∧ k.rt d none, bk := fun ρ2 _ => k.bk (ρ2.map gKeep) none, ct := fun ρ2 _ => k.ct (ρ2.map gKeep) none, xc := fun x ρ2 _ => x.d.lone = true ∧ k.xc x (ρ2.map gKeep) none })
    (hg : Gl F.X f := by rfl) (hdb : (f == ("__debug__" : Str)) = false := by decide)
    (he : starEach (e :: es) F.X.env = (false, eval e F.X.env) :: starEach es F.X.env := by rfl) (hpl : (backTo cp (starEach es F.X.env)).any (·.1) = false := by rfl)
    (hs : swapsWith (.Call (.Name f p) (e :: es) [] cp) (some (.Name x px)) pos.line F.X.env = pure false := by rfl)
    (hf : F.X.fn x = true ∨ F.X.env.scope.names.lookup x = some .local := by first | exact .inl rfl | exact .inr rfl | assumption) :
    Bk F (.Assign [.Name x px] (.Call (.Name f p) (e :: es) [] cp) pos :: sts) ρ none k := by
  obtain ⟨fa, fd, ps, h1, h2, h3, h4⟩ := R.ok
  intro O σ H fm E q
  refine wb (pss_cons (ps_set hN hi hx (pe_call h4 hr hg h1 h2 h3 .nil pass0 pa_wa hdb he hpl) hs hf) pss_wb) (ha.2 O σ H fm _ fun vs H1 f1 x1 r1 => ?_)
  rw [List.append_nil]
  refine ⟨F.p, O ++ F.S0, r1, f1.trk, f1.st, fun a b ws H2 na nb hab ea eb r2 x2 t2 => ?_⟩
  have key : ∀ (j : Nat) (g : G), (ρ.set i .no)[j]? = some g → (j = i ∧ g = .no) ∨ (j ≠ i ∧ ρ[j]? = some g) := by
    intro j g hg
    by_cases e : i = j
    · subst e
      rw [List.getElem?_set_self hl] at hg
      exact .inl ⟨rfl, (Option.some.inj hg).symm⟩
    · rw [List.getElem?_set_ne e] at hg
      exact .inr ⟨fun z => e z.symm, hg⟩
  have hσ : i < σ.length := by
    obtain ⟨o, ho, _⟩ := f1.slot i _ (List.getElem?_eq_getElem hl)
    rcases Nat.lt_or_ge i σ.length with z | z
    · exact z
    · rw [List.getElem?_eq_none z] at ho; cases ho
  have own : ∀ (j : Nat) (w : Ow) (es : List D) (c : Addr), (ρ.set i .no)[j]? = some (.ow w es) → (σ.set i (some (.ref a)))[j]? = some (some (.ref c)) → ρ[j]? = some (.ow w es) ∧ σ[j]? = some (some (.ref c)) := fun j w es c hj hc => by
    rcases key j _ hj with ⟨_, z⟩ | ⟨hne, hj⟩
    · cases z
    · rw [List.getElem?_set_ne (Ne.symm hne)] at hc
      exact ⟨hj, hc⟩
  have xt : XT (O ++ F.S0) H1 H2 := x2.xt f1.st
  have mv : ∀ {v : V} {d : D}, Rp F.X.K F.p (O ++ F.S0) H1 v d → Rp F.X.K F.p (a :: b :: O ++ F.S0) H2 v d := fun r =>
    ((r.ext xt).to (S' := O ++ F.S0) fun c m => .inl m) |> fun _ => (((r.fresh nb).fresh na).ext ⟨fun c o n e t => x2.1 c o e (.inl rfl) t, x2.2⟩)
  have mvs : ∀ {v : List V} {d : List D}, Rps F.X.K F.p (O ++ F.S0) H1 v d → Rps F.X.K F.p (a :: b :: O ++ F.S0) H2 v d := fun r =>
    (((r.fresh nb).fresh na).ext ⟨fun c o n e t => x2.1 c o e (.inl rfl) t, x2.2⟩)
  have f3 : Fm F (a :: b :: O) (σ.set i (some (.ref a))) H2 (ρ.set i .no) none := by
    refine ⟨f1.ext.trans x2, fun j g hj => ?_, fun j w es c hj hc => ?_, fun j l w u es fs c hne h1 h2 h3 h4 => ?_, fun c m => ?_, fun c m => ?_, t2, (fun z => nomatch z), f1.kd⟩
    · rcases key j g hj with ⟨rfl, rfl⟩ | ⟨hne, hj⟩
      · exact ⟨_, List.getElem?_set_self hσ, trivial⟩
      · obtain ⟨o, ho, sl⟩ := f1.slot j g hj
        refine ⟨o, by rw [List.getElem?_set_ne (Ne.symm hne)]; exact ho, ?_⟩
        cases g with
        | no => trivial
        | val d =>
          obtain ⟨v, e, r⟩ := sl
          exact ⟨v, e, mv r⟩
        | ow w ds =>
          obtain ⟨c, us, e, m, hc, r, ft⟩ := sl
          exact ⟨c, us, e, List.mem_cons_of_mem _ (List.mem_cons_of_mem _ m), x2.1 c _ hc (.inl rfl) (w.nt us), mvs r, ft⟩
    · obtain ⟨h1, h2⟩ := own j w es c hj hc
      exact List.mem_cons_of_mem _ (List.mem_cons_of_mem _ (f1.own j w es c h1 h2))
    · obtain ⟨g1, g2⟩ := own j w es c h1 h3
      obtain ⟨g3, g4⟩ := own l u fs c h2 h4
      exact f1.dis j l w u es fs c hne g1 g3 g2 g4
    · rcases List.mem_cons.mp m with rfl | m
      · exact ⟨f1.ext.2 _ na, fun z => f1.fresh na (List.mem_append_right _ z)⟩
      · rcases List.mem_cons.mp m with rfl | m
        · exact ⟨f1.ext.2 _ nb, fun z => f1.fresh nb (List.mem_append_right _ z)⟩
        · exact f1.fre c m
    · rcases List.mem_cons.mp m with rfl | m
      · exact ⟨_, ea⟩
      · rcases List.mem_cons.mp m with rfl | m
        · exact ⟨_, eb⟩
        · obtain ⟨o, e⟩ := f1.trk c m
          cases e' : H2 c with
          | none => rw [x2.2 c e'] at e; cases e
          | some o' => exact ⟨o', rfl⟩
  refine f3.enterC List.mem_cons_self (List.mem_cons_of_mem _ List.mem_cons_self) (by rw [List.length_set]; exact hl) (List.getElem?_set_self hσ) ea eb hab r2 hl0 (h a b _ _) (q.to ⟨x1.xt.trans xt, fun c m => ?_⟩)
  rcases List.mem_cons.mp m with rfl | m
  · exact .inr (x1.2 _ na)
  · rcases List.mem_cons.mp m with rfl | m
    · exact .inr (x1.2 _ nb)
    · exact .inl m
end
theorem Df.rnC {E : En} {x : Str} {st : Stmt} {N ps : List Str} {k : Nat} {ds xs : List D} {ns : List Int} (T : Df E st x ps) (S : FnScope N ps (defScope st)) (hl : ds.length = ps.length)
    (body : ∀ (fa : Addr) (cdv : Value) (A : Around) (outer : List Env) (sh : Shared) (H0 : Hp) (EX : XK) (S0 : List Addr) (p : Pa), Room k (bodyF E N x st none fa cdv A outer sh H0 EX S0 p).X.A →
      BkC (bodyF E N x st none fa cdv A outer sh H0 EX S0 p) (defBody st) (gStart N ds) ns xs) : RnC E (k + 1) x ds ns xs := by
  obtain ⟨fa, fd, F, hm, hb⟩ := T.ok
  refine ⟨fa, fd, ps, hm, F.kp, hb, F.ok S (fun vs H Q EX h => ?_) fun cdv A outer sh H vs Q EX hr h => ?_⟩
  · obtain ⟨p, S, r, _⟩ := h
    rw [r.length, hl]
  · obtain ⟨p, S0, r, tr, t, q⟩ := h
    refine ⟨_, pss_wb, body fa cdv A outer sh H EX S0 p hr [] (L2.start N vs) H (fm_start (F := bodyF E N x st none fa cdv A outer sh H EX S0 p) r tr t rfl) _ fun a b ws H' na nb hab ea eb r1 x1 t1 => ?_⟩
    exact q a b ws H' na nb hab ea eb r1 x1 t1
end Gh
set_option Elab.async false
set_option linter.all false
set_option maxRecDepth 100000
/-! rows of items, plain: forms, levels, sizes -/
namespace Gh
open PySem PySem.Spec PyProof.Rows L2
abbrev Fo := Rat × Rat
abbrev fp (f : Fo) : D := fm f.1 f.2
def ev (f : Fo) (r : Rat) : Rat := f.1 + f.2 * r
def fadd (f g : Fo) : Fo := (f.1 + g.1, f.2 + g.2)
def fsub (f g : Fo) : Fo := (f.1 - g.1, f.2 - g.2)
def fscl (f : Fo) (q : Rat) : Fo := (f.1 * q, f.2 * q)
def hiD : Option Fo → D
  | none => .non
  | some f => fp f
/-- an item with forms -/
structure Itm where
  b : Fo
  g : Nat
  w : Nat
  lo : Fo
  hi : Option Fo
def itD (x : Itm) : D := .tup [fp x.b, .int x.g, .int x.w, fp x.lo, hiD x.hi]
section
variable {r : Rat} {f g : Fo} {q : Rat}
theorem ev_add : ev (fadd f g) r = ev f r + ev g r := by unfold ev fadd; grind
theorem ev_sub : ev (fsub f g) r = ev f r - ev g r := by unfold ev fsub; grind
theorem ev_scl : ev (fscl f q) r = ev f r * q := by unfold ev fscl; grind
theorem ev_zero : ev (0, 0) r = 0 := by unfold ev; grind
end
def capF (r : Rat) (f : Fo) : Option Fo → Fo
  | some m => if ev f r ≤ ev m r then f else m
  | none => f
def held (r : Rat) (f lo : Fo) (hi : Option Fo) : Fo := if ev lo r ≤ ev (capF r f hi) r then capF r f hi else lo
def stepI (x : Itm) (up : Bool) : Int := if up then (x.g : Int) else 0 - (x.w : Int)
def stepN (x : Itm) (up : Bool) : Nat := if up then x.g else x.w
def rawS (x : Itm) (l : Fo) (up : Bool) : Fo := fadd x.b (fscl l (stepI x up : Int))
def hsz (r : Rat) (l : Fo) (up : Bool) (x : Itm) : Fo := held r (rawS x l up) x.lo x.hi
def sumF (L : List Fo) : Fo := L.foldl fadd (0, 0)
def totF (r : Rat) (items : List Itm) (l : Fo) (up : Bool) : Fo := sumF (items.map (hsz r l up))
/-- how many of the first ones are at most l -/
def plc (r : Rat) (l : Fo) : List Fo → Nat
  | [] => 0
  | f :: fs => if ev f r ≤ ev l r then plc r l fs + 1 else 0
def insL (r : Rat) (found : List Fo) (l : Fo) : List Fo := if 0 < plc r l found then found.take (plc r l found) ++ [l] ++ found.drop (plc r l found) else found
def bnds (x : Itm) : List Fo := x.lo :: x.hi.toList
def farF (x : Itm) (up : Bool) (β : Fo) : Fo := if up then fsub β x.b else fsub x.b β
def turnF (x : Itm) (up : Bool) (β : Fo) : Fo := fscl (farF x up β) (1 / (stepN x up : Rat))
def turnsOf (x : Itm) (up : Bool) : List Fo := if 0 < stepN x up then (bnds x).map (turnF x up) else []
def turnsF (r : Rat) (items : List Itm) (up : Bool) : List Fo := (items.flatMap fun x => turnsOf x up).foldl (insL r) [(0, 0)]
def freeN (r : Rat) (l : Fo) (up : Bool) (x : Itm) : Nat :=
  if up then (if ev x.lo r ≤ ev (rawS x l up) r ∧ (∀ m, x.hi = some m → ¬ ev m r ≤ ev (rawS x l up) r) then x.g else 0)
  else (if ¬ ev (rawS x l up) r ≤ ev x.lo r ∧ (∀ m, x.hi = some m → ev (rawS x l up) r ≤ ev m r) then x.w else 0)
def stopF (r : Rat) (items : List Itm) (room : Fo) (up : Bool) (l : Fo) : Prop := if up then ev room r ≤ ev (totF r items l up) r else ev (totF r items l up) r ≤ ev room r
instance (r : Rat) (items : List Itm) (room : Fo) (up : Bool) (l : Fo) : Decidable (stopF r items room up l) := by unfold stopF; exact inferInstance
def hereF (r : Rat) (items : List Itm) (room : Fo) (up : Bool) : Fo → List Fo → Fo
  | cur, [] => cur
  | cur, l :: ls => if stopF r items room up l then cur else hereF r items room up l ls
def upF (r : Rat) (items : List Itm) (room : Fo) : Bool := decide (ev (totF r items (0, 0) true) r ≤ ev room r)
def wayI (up : Bool) : Int := if up then 1 else -1
def levO (r : Rat) (items : List Itm) (room : Fo) (up : Bool) (h : Fo) : List Fo × Fo :=
  if (items.map (freeN r h up)).sum = 0 then (items.map (hsz r h up), fscl h (wayI up : Int)) else
    (List.zipWith (fun s (st : Nat) => fadd s (fscl (fscl (fsub room (sumF (items.map (hsz r h up)))) (1 / ((items.map (freeN r h up)).sum : Rat))) (st : Rat))) (items.map (hsz r h up)) (items.map (freeN r h up)),
      fadd (fscl h (wayI up : Int)) (fscl (fsub room (sumF (items.map (hsz r h up)))) (1 / ((items.map (freeN r h up)).sum : Rat))))
def levH (r : Rat) (items : List Itm) (room : Fo) (up : Bool) : Fo := hereF r items room up ((turnsF r items up).headD (0, 0)) (turnsF r items up).tail
def levF (r : Rat) (items : List Itm) (room : Fo) : List Fo × Fo := levO r items room (upF r items room) (levH r items room (upF r items room))
/-! ### values -/
/-- x between bounds -/
def clv (lo : Rat) (hi : Option Rat) (x : Rat) : Rat := match hi with
  | some m => if lo ≤ (if x ≤ m then x else m) then (if x ≤ m then x else m) else lo
  | none => if lo ≤ x then x else lo
def hiV (r : Rat) (x : Itm) : Option Rat := x.hi.map (ev · r)
theorem ev_capF {r : Rat} {f : Fo} {hi : Option Fo} : ev (capF r f hi) r = match hi.map (ev · r) with
    | some m => if ev f r ≤ m then ev f r else m
    | none => ev f r := by
  cases hi with
  | none => rfl
  | some m =>
    show ev (if ev f r ≤ ev m r then f else m) r = if ev f r ≤ ev m r then ev f r else ev m r
    split <;> rfl
theorem ev_held {r : Rat} {f lo : Fo} {hi : Option Fo} : ev (held r f lo hi) r = clv (ev lo r) (hi.map (ev · r)) (ev f r) := by
  unfold held
  have e := ev_capF (r := r) (f := f) (hi := hi)
  generalize capF r f hi = c at e
  have : ev (if ev lo r ≤ ev c r then c else lo) r = if ev lo r ≤ ev c r then ev c r else ev lo r := by split <;> rfl
  rw [this, e]
  cases hi <;> rfl
theorem ev_raw {r : Rat} {x : Itm} {l : Fo} {up : Bool} : ev (rawS x l up) r = ev x.b r + ev l r * (stepI x up : Int) := by
  unfold rawS; rw [ev_add, ev_scl]
theorem ev_hsz {r : Rat} {x : Itm} {l : Fo} {up : Bool} : ev (hsz r l up x) r = clv (ev x.lo r) (hiV r x) (ev x.b r + ev l r * (stepI x up : Int)) := by
  unfold hsz hiV; rw [ev_held, ev_raw]
/-- the lower bound is at most the upper one -/
def ItmOk (r : Rat) (x : Itm) : Prop := ∀ m, x.hi = some m → ev x.lo r ≤ ev m r
theorem clv_up {lo x y d : Rat} {hi : Option Rat} (hl : ∀ m, hi = some m → lo ≤ m) (h : x ≤ y) (n1 : ¬ (x < lo ∧ lo < y)) (n2 : ∀ m, hi = some m → ¬ (x < m ∧ m < y)) :
    clv lo hi y = clv lo hi x + (if lo ≤ x ∧ (∀ m, hi = some m → ¬ m ≤ x) then y - x else 0) := by
  cases hi with
  | none => simp only [clv]; split <;> split <;> split <;> simp at * <;> grind
  | some m =>
    have a := hl m rfl
    have b := n2 m rfl
    have e : (∀ m', some m = some m' → ¬ m' ≤ x) ↔ ¬ m ≤ x := ⟨fun z => z m rfl, fun z m' e => by cases e; exact z⟩
    simp only [clv, e]
    grind
theorem clv_dn {lo x y d : Rat} {hi : Option Rat} (hl : ∀ m, hi = some m → lo ≤ m) (h : y ≤ x) (n1 : ¬ (lo < x ∧ y < lo)) (n2 : ∀ m, hi = some m → ¬ (m < x ∧ y < m)) :
    clv lo hi y = clv lo hi x - (if ¬ x ≤ lo ∧ (∀ m, hi = some m → x ≤ m) then x - y else 0) := by
  cases hi with
  | none => simp only [clv]; split <;> split <;> split <;> simp at * <;> grind
  | some m =>
    have a := hl m rfl
    have b := n2 m rfl
    have e : (∀ m', some m = some m' → x ≤ m') ↔ x ≤ m := ⟨fun z => z m rfl, fun z m' e => by cases e; exact z⟩
    simp only [clv, e]
    grind
end Gh
set_option Elab.async false
set_option linter.all false
set_option maxRecDepth 100000
set_option maxHeartbeats 4000000
namespace Law
open PySem PySem.Spec PyProof.Rows L2 Gh
abbrev t__wall : Stmt := top 0
abbrev t_is_list : Stmt := top 4
theorem sc_is_list : FnScope ["thing"] ["thing"] (defScope t_is_list) := ⟨rfl, rfl, rfl, by decide +kernel, rfl, by decide +kernel, by decide +kernel⟩
abbrev t_is_whole : Stmt := top 5
theorem sc_is_whole : FnScope ["thing"] ["thing"] (defScope t_is_whole) := ⟨rfl, rfl, rfl, by decide +kernel, rfl, by decide +kernel, by decide +kernel⟩
abbrev t_is_natural : Stmt := top 6
theorem sc_is_natural : FnScope ["thing"] ["thing"] (defScope t_is_natural) := ⟨rfl, rfl, rfl, by decide +kernel, rfl, by decide +kernel, by decide +kernel⟩
abbrev t_lowest : Stmt := top 7
theorem sc_lowest : FnScope ["top", "bottom", "one", "two"] ["top", "bottom"] (defScope t_lowest) := ⟨rfl, rfl, rfl, by decide +kernel, rfl, by decide +kernel, by decide +kernel⟩
abbrev t_is_frac : Stmt := top 8
theorem sc_is_frac : FnScope ["thing"] ["thing"] (defScope t_is_frac) := ⟨rfl, rfl, rfl, by decide +kernel, rfl, by decide +kernel, by decide +kernel⟩
abbrev t_frac_of : Stmt := top 9
theorem sc_frac_of : FnScope ["thing"] ["thing"] (defScope t_frac_of) := ⟨rfl, rfl, rfl, by decide +kernel, rfl, by decide +kernel, by decide +kernel⟩
abbrev t_is_width : Stmt := top 10
theorem sc_is_width : FnScope ["thing"] ["thing"] (defScope t_is_width) := ⟨rfl, rfl, rfl, by decide +kernel, rfl, by decide +kernel, by decide +kernel⟩
abbrev t_plus : Stmt := top 11
theorem sc_plus : FnScope ["one", "two"] ["one", "two"] (defScope t_plus) := ⟨rfl, rfl, rfl, by decide +kernel, rfl, by decide +kernel, by decide +kernel⟩
abbrev t_minus : Stmt := top 12
theorem sc_minus : FnScope ["one", "two"] ["one", "two"] (defScope t_minus) := ⟨rfl, rfl, rfl, by decide +kernel, rfl, by decide +kernel, by decide +kernel⟩
abbrev t_times : Stmt := top 13
theorem sc_times : FnScope ["one", "two"] ["one", "two"] (defScope t_times) := ⟨rfl, rfl, rfl, by decide +kernel, rfl, by decide +kernel, by decide +kernel⟩
abbrev t_over : Stmt := top 14
theorem sc_over : FnScope ["one", "two"] ["one", "two"] (defScope t_over) := ⟨rfl, rfl, rfl, by decide +kernel, rfl, by decide +kernel, by decide +kernel⟩
abbrev t_is_less : Stmt := top 15
theorem sc_is_less : FnScope ["one", "two"] ["one", "two"] (defScope t_is_less) := ⟨rfl, rfl, rfl, by decide +kernel, rfl, by decide +kernel, by decide +kernel⟩
abbrev t_is_upto : Stmt := top 16
theorem sc_is_upto : FnScope ["one", "two"] ["one", "two"] (defScope t_is_upto) := ⟨rfl, rfl, rfl, by decide +kernel, rfl, by decide +kernel, by decide +kernel⟩
abbrev t_flat_form : Stmt := top 25
theorem sc_flat_form : FnScope ["fraction"] ["fraction"] (defScope t_flat_form) := ⟨rfl, rfl, rfl, by decide +kernel, rfl, by decide +kernel, by decide +kernel⟩
abbrev t_plus_form : Stmt := top 26
theorem sc_plus_form : FnScope ["one", "other"] ["one", "other"] (defScope t_plus_form) := ⟨rfl, rfl, rfl, by decide +kernel, rfl, by decide +kernel, by decide +kernel⟩
abbrev t_minus_form : Stmt := top 27
theorem sc_minus_form : FnScope ["one", "other"] ["one", "other"] (defScope t_minus_form) := ⟨rfl, rfl, rfl, by decide +kernel, rfl, by decide +kernel, by decide +kernel⟩
abbrev t_scaled_form : Stmt := top 28
theorem sc_scaled_form : FnScope ["form", "share"] ["form", "share"] (defScope t_scaled_form) := ⟨rfl, rfl, rfl, by decide +kernel, rfl, by decide +kernel, by decide +kernel⟩
abbrev t_plain_ask : Stmt := top 29
theorem sc_plain_ask : FnScope ["one", "other"] ["one", "other"] (defScope t_plain_ask) := ⟨rfl, rfl, rfl, by decide +kernel, rfl, by decide +kernel, by decide +kernel⟩
abbrev t_worth_at : Stmt := top 30
theorem sc_worth_at : FnScope ["form", "width"] ["form", "width"] (defScope t_worth_at) := ⟨rfl, rfl, rfl, by decide +kernel, rfl, by decide +kernel, by decide +kernel⟩
abbrev t_sum_of_forms : Stmt := top 33
theorem sc_sum_of_forms : FnScope ["forms", "found", "form"] ["forms"] (defScope t_sum_of_forms) := ⟨rfl, rfl, rfl, by decide +kernel, rfl, by decide +kernel, by decide +kernel⟩
abbrev t_held_form : Stmt := top 34
theorem sc_held_form : FnScope ["form", "least", "most", "ask", "held"] ["form", "least", "most", "ask"] (defScope t_held_form) := ⟨rfl, rfl, rfl, by decide +kernel, rfl, by decide +kernel, by decide +kernel⟩
abbrev t_raw_size : Stmt := top 35
theorem sc_raw_size : FnScope ["item", "level", "way", "step"] ["item", "level", "way"] (defScope t_raw_size) := ⟨rfl, rfl, rfl, by decide +kernel, rfl, by decide +kernel, by decide +kernel⟩
abbrev t_held_size : Stmt := top 36
theorem sc_held_size : FnScope ["item", "level", "way", "ask"] ["item", "level", "way", "ask"] (defScope t_held_size) := ⟨rfl, rfl, rfl, by decide +kernel, rfl, by decide +kernel, by decide +kernel⟩
abbrev t_turning_levels : Stmt := top 37
theorem sc_turning_levels : FnScope ["items", "way", "ask", "found", "item", "step", "bound", "far", "level", "place"] ["items", "way", "ask"] (defScope t_turning_levels) := ⟨rfl, rfl, rfl, by decide +kernel, rfl, by decide +kernel, by decide +kernel⟩
abbrev t_total_at : Stmt := top 38
theorem sc_total_at : FnScope ["items", "level", "way", "ask", "item"] ["items", "level", "way", "ask"] (defScope t_total_at) := ⟨rfl, rfl, rfl, by decide +kernel, rfl, by decide +kernel, by decide +kernel⟩
abbrev t_free_step : Stmt := top 39
theorem sc_free_step : FnScope ["item", "level", "way", "ask", "raw", "least", "most"] ["item", "level", "way", "ask"] (defScope t_free_step) := ⟨rfl, rfl, rfl, by decide +kernel, rfl, by decide +kernel, by decide +kernel⟩
abbrev t_levelled : Stmt := top 40
theorem sc_levelled : FnScope ["items", "room", "ask", "way", "levels", "here", "level", "total", "sizes", "item", "steps", "rest", "share", "later", "size", "step"] ["items", "room", "ask"] (defScope t_levelled) := ⟨rfl, rfl, rfl, by decide +kernel, rfl, by decide +kernel, by decide +kernel⟩
abbrev t_row_sizes : Stmt := top 41
theorem sc_row_sizes : FnScope ["items", "room", "ask"] ["items", "room", "ask"] (defScope t_row_sizes) := ⟨rfl, rfl, rfl, by decide +kernel, rfl, by decide +kernel, by decide +kernel⟩
abbrev t_merged_pieces : Stmt := top 42
theorem sc_merged_pieces : FnScope ["pieces", "found", "low", "high", "forms"] ["pieces"] (defScope t_merged_pieces) := ⟨rfl, rfl, rfl, by decide +kernel, rfl, by decide +kernel, by decide +kernel⟩
abbrev t_pieces_between : Stmt := top 43
theorem sc_pieces_between : FnScope ["corners", "sizes_by", "found", "starts", "room", "place", "low", "high", "inner"] ["corners", "sizes_by"] (defScope t_pieces_between) := ⟨rfl, rfl, rfl, by decide +kernel, rfl, by decide +kernel, by decide +kernel⟩
abbrev t_sorted_rooms : Stmt := top 44
theorem sc_sorted_rooms : FnScope ["rooms", "found", "room", "place", "one"] ["rooms"] (defScope t_sorted_rooms) := ⟨rfl, rfl, rfl, by decide +kernel, rfl, by decide +kernel, by decide +kernel⟩
abbrev t_is_item : Stmt := top 45
theorem sc_is_item : FnScope ["thing", "number"] ["thing"] (defScope t_is_item) := ⟨rfl, rfl, rfl, by decide +kernel, rfl, by decide +kernel, by decide +kernel⟩
abbrev t_item_forms : Stmt := top 46
theorem sc_item_forms : FnScope ["items", "found", "base", "grow", "shrink", "least", "most", "top"] ["items"] (defScope t_item_forms) := ⟨rfl, rfl, rfl, by decide +kernel, rfl, by decide +kernel, by decide +kernel⟩
abbrev t__law_start : Stmt := top 49
theorem sc__law_start : FnScope ["_law_script", "_law_mix", "_law_cell"] ["_law_script"] (defScope t__law_start) := ⟨rfl, rfl, rfl, by decide +kernel, rfl, by decide +kernel, by decide +kernel⟩
abbrev t__law_draw : Stmt := top 50
theorem sc__law_draw : FnScope ["_law_stream", "_law_many", "_law_digit", "_law_mixed_here"] ["_law_stream", "_law_many"] (defScope t__law_draw) := ⟨rfl, rfl, rfl, by decide +kernel, rfl, by decide +kernel, by decide +kernel⟩
abbrev t__law_pick : Stmt := top 51
theorem sc__law_pick : FnScope ["_law_stream", "_law_things"] ["_law_stream", "_law_things"] (defScope t__law_pick) := ⟨rfl, rfl, rfl, by decide +kernel, rfl, by decide +kernel, by decide +kernel⟩
abbrev t__law_mixed : Stmt := top 52
theorem sc__law_mixed : FnScope ["_law_stream", "_law_things", "_law_left", "_law_found", "_law_k"] ["_law_stream", "_law_things"] (defScope t__law_mixed) := ⟨rfl, rfl, rfl, by decide +kernel, rfl, by decide +kernel, by decide +kernel⟩
abbrev t__law_same : Stmt := top 53
theorem sc__law_same : FnScope ["_law_found", "_law_due", "_law_x", "_law_y"] ["_law_found", "_law_due"] (defScope t__law_same) := ⟨rfl, rfl, rfl, by decide +kernel, rfl, by decide +kernel, by decide +kernel⟩
abbrev t__law_low : Stmt := top 54
theorem sc__law_low : FnScope ["_law_top", "_law_bottom", "_law_one", "_law_other"] ["_law_top", "_law_bottom"] (defScope t__law_low) := ⟨rfl, rfl, rfl, by decide +kernel, rfl, by decide +kernel, by decide +kernel⟩
abbrev t__law_plus : Stmt := top 55
theorem sc__law_plus : FnScope ["_law_one", "_law_other"] ["_law_one", "_law_other"] (defScope t__law_plus) := ⟨rfl, rfl, rfl, by decide +kernel, rfl, by decide +kernel, by decide +kernel⟩
abbrev t__law_minus : Stmt := top 56
theorem sc__law_minus : FnScope ["_law_one", "_law_other"] ["_law_one", "_law_other"] (defScope t__law_minus) := ⟨rfl, rfl, rfl, by decide +kernel, rfl, by decide +kernel, by decide +kernel⟩
abbrev t__law_times : Stmt := top 57
theorem sc__law_times : FnScope ["_law_one", "_law_other"] ["_law_one", "_law_other"] (defScope t__law_times) := ⟨rfl, rfl, rfl, by decide +kernel, rfl, by decide +kernel, by decide +kernel⟩
abbrev t__law_over : Stmt := top 58
theorem sc__law_over : FnScope ["_law_one", "_law_other"] ["_law_one", "_law_other"] (defScope t__law_over) := ⟨rfl, rfl, rfl, by decide +kernel, rfl, by decide +kernel, by decide +kernel⟩
abbrev t__law_is_less : Stmt := top 59
theorem sc__law_is_less : FnScope ["_law_one", "_law_other"] ["_law_one", "_law_other"] (defScope t__law_is_less) := ⟨rfl, rfl, rfl, by decide +kernel, rfl, by decide +kernel, by decide +kernel⟩
abbrev t__law_sum : Stmt := top 60
theorem sc__law_sum : FnScope ["_law_rows", "_law_found", "_law_one"] ["_law_rows"] (defScope t__law_sum) := ⟨rfl, rfl, rfl, by decide +kernel, rfl, by decide +kernel, by decide +kernel⟩
abbrev t__law_in_order : Stmt := top 61
theorem sc__law_in_order : FnScope ["_law_rows", "_law_found", "_law_one", "_law_at_here", "_law_other"] ["_law_rows"] (defScope t__law_in_order) := ⟨rfl, rfl, rfl, by decide +kernel, rfl, by decide +kernel, by decide +kernel⟩
abbrev t__law_item : Stmt := top 62
theorem sc__law_item : FnScope ["_law_stream", "_law_base", "_law_grow", "_law_shrink", "_law_least_here", "_law_most"] ["_law_stream"] (defScope t__law_item) := ⟨rfl, rfl, rfl, by decide +kernel, rfl, by decide +kernel, by decide +kernel⟩
abbrev t__law_items : Stmt := top 63
theorem sc__law_items : FnScope ["_law_stream", "_law_most", "_law_found", "_law_k"] ["_law_stream", "_law_most"] (defScope t__law_items) := ⟨rfl, rfl, rfl, by decide +kernel, rfl, by decide +kernel, by decide +kernel⟩
abbrev t__law_handed : Stmt := top 64
theorem sc__law_handed : FnScope ["_law_stream", "_law_items_here", "_law_found", "_law_base", "_law_grow", "_law_shrink", "_law_least_here", "_law_most", "_law_times_here", "_law_told"] ["_law_stream", "_law_items_here"] (defScope t__law_handed) := ⟨rfl, rfl, rfl, by decide +kernel, rfl, by decide +kernel, by decide +kernel⟩
abbrev t__law_clamped : Stmt := top 65
theorem sc__law_clamped : FnScope ["_law_item_here", "_law_size_here", "_law_low_here"] ["_law_item_here", "_law_size_here"] (defScope t__law_clamped) := ⟨rfl, rfl, rfl, by decide +kernel, rfl, by decide +kernel, by decide +kernel⟩
abbrev t__law_size : Stmt := top 66
theorem sc__law_size : FnScope ["_law_item_here", "_law_level_here", "_law_by"] ["_law_item_here", "_law_level_here"] (defScope t__law_size) := ⟨rfl, rfl, rfl, by decide +kernel, rfl, by decide +kernel, by decide +kernel⟩
abbrev t__law_least : Stmt := top 67
theorem sc__law_least : FnScope ["_law_item_here"] ["_law_item_here"] (defScope t__law_least) := ⟨rfl, rfl, rfl, by decide +kernel, rfl, by decide +kernel, by decide +kernel⟩
abbrev t__law_greatest : Stmt := top 68
theorem sc__law_greatest : FnScope ["_law_item_here"] ["_law_item_here"] (defScope t__law_greatest) := ⟨rfl, rfl, rfl, by decide +kernel, rfl, by decide +kernel, by decide +kernel⟩
abbrev t__law_turns : Stmt := top 69
theorem sc__law_turns : FnScope ["_law_items_here", "_law_found", "_law_item_here", "_law_bound", "_law_gap", "_law_by"] ["_law_items_here"] (defScope t__law_turns) := ⟨rfl, rfl, rfl, by decide +kernel, rfl, by decide +kernel, by decide +kernel⟩
abbrev t__law_total : Stmt := top 70
theorem sc__law_total : FnScope ["_law_items_here", "_law_level_here", "_law_item_here"] ["_law_items_here", "_law_level_here"] (defScope t__law_total) := ⟨rfl, rfl, rfl, by decide +kernel, rfl, by decide +kernel, by decide +kernel⟩
abbrev t__law_gaps : Stmt := top 71
theorem sc__law_gaps : FnScope ["_law_items_here", "_law_gap"] ["_law_items_here", "_law_gap"] (defScope t__law_gaps) := ⟨rfl, rfl, rfl, by decide +kernel, rfl, by decide +kernel, by decide +kernel⟩
abbrev t__law_level : Stmt := top 72
theorem sc__law_level : FnScope ["_law_items_here", "_law_left", "_law_turns_here", "_law_sums", "_law_level_here", "_law_at_here", "_law_step", "_law_rise", "_law_part"] ["_law_items_here", "_law_left"] (defScope t__law_level) := ⟨rfl, rfl, rfl, by decide +kernel, rfl, by decide +kernel, by decide +kernel⟩
abbrev t__law_sizes : Stmt := top 73
theorem sc__law_sizes : FnScope ["_law_items_here", "_law_gap", "_law_room", "_law_left", "_law_lows", "_law_highs", "_law_item_here", "_law_level_here"] ["_law_items_here", "_law_gap", "_law_room"] (defScope t__law_sizes) := ⟨rfl, rfl, rfl, by decide +kernel, rfl, by decide +kernel, by decide +kernel⟩
abbrev t__law_tuples : Stmt := top 74
theorem sc__law_tuples : FnScope ["_law_thing", "_law_part"] ["_law_thing"] (defScope t__law_tuples) := ⟨rfl, rfl, rfl, by decide +kernel, rfl, by decide +kernel, by decide +kernel⟩
abbrev t__law_pieces : Stmt := top 75
theorem sc__law_pieces : FnScope ["_law_items_here", "_law_gap", "_law_ends", "_law_item_here", "_law_level_here", "_law_highs", "_law_found", "_law_end", "_law_at_here", "_law_begin", "_law_last", "_law_one", "_law_other", "_law_forms", "_law_mine", "_law_theirs", "_law_slope", "_law_upto"] ["_law_items_here", "_law_gap"] (defScope t__law_pieces) := ⟨rfl, rfl, rfl, by decide +kernel, rfl, by decide +kernel, by decide +kernel⟩
abbrev t__law_at : Stmt := top 76
theorem sc__law_at : FnScope ["_law_form", "_law_room"] ["_law_form", "_law_room"] (defScope t__law_at) := ⟨rfl, rfl, rfl, by decide +kernel, rfl, by decide +kernel, by decide +kernel⟩
abbrev t__law_room_for : Stmt := top 77
theorem sc__law_room_for : FnScope ["_law_pieces_here", "_law_index", "_law_size_here", "_law_begin", "_law_upto", "_law_forms", "_law_form", "_law_room"] ["_law_pieces_here", "_law_index", "_law_size_here"] (defScope t__law_room_for) := ⟨rfl, rfl, rfl, by decide +kernel, rfl, by decide +kernel, by decide +kernel⟩
abbrev t_law : Stmt := top 78
theorem sc_law : FnScope ["_law_script", "_law_stream", "_law_turn", "_law_items_here", "_law_gap", "_law_row", "_law_due", "_law_told", "_law_index", "_law_sizes_here", "_law_size_here", "_law_handed_here", "_law_lows", "_law_highs", "_law_item_here", "_law_ends"] ["_law_script"] (defScope t_law) := ⟨rfl, rfl, rfl, by decide +kernel, rfl, by decide +kernel, by decide +kernel⟩
abbrev t_Row___init__ : Stmt := sub 47 0
theorem sc_Row___init__ : FnScope ["self", "items", "gap", "index", "item"] ["self", "items", "gap"] (defScope t_Row___init__) := ⟨rfl, rfl, rfl, by decide +kernel, rfl, by decide +kernel, by decide +kernel⟩
abbrev t_Row_all_gaps : Stmt := sub 47 3
theorem sc_Row_all_gaps : FnScope ["self"] ["self"] (defScope t_Row_all_gaps) := ⟨rfl, rfl, rfl, by decide +kernel, rfl, by decide +kernel, by decide +kernel⟩
abbrev t_Row_all_corners : Stmt := sub 47 10
theorem sc_Row_all_corners : FnScope ["self", "items", "found", "way", "level"] ["self"] (defScope t_Row_all_corners) := ⟨rfl, rfl, rfl, by decide +kernel, rfl, by decide +kernel, by decide +kernel⟩
abbrev t_Row_forms_about : Stmt := sub 47 11
theorem sc_Row_forms_about : FnScope ["self", "room", "inner"] ["self", "room"] (defScope t_Row_forms_about) := ⟨rfl, rfl, rfl, by decide +kernel, rfl, by decide +kernel, by decide +kernel⟩
abbrev t_Row_all_pieces : Stmt := sub 47 12
theorem sc_Row_all_pieces : FnScope ["self"] ["self"] (defScope t_Row_all_pieces) := ⟨rfl, rfl, rfl, by decide +kernel, rfl, by decide +kernel, by decide +kernel⟩
abbrev t_Row_room_for : Stmt := sub 47 13
theorem sc_Row_room_for : FnScope ["self", "index", "size", "low", "high", "forms", "form", "room"] ["self", "index", "size"] (defScope t_Row_room_for) := ⟨rfl, rfl, rfl, by decide +kernel, rfl, by decide +kernel, by decide +kernel⟩
abbrev t_Row_both_ends : Stmt := sub 47 14
theorem sc_Row_both_ends : FnScope ["self", "low", "high", "base", "grow", "shrink", "least", "most", "held"] ["self"] (defScope t_Row_both_ends) := ⟨rfl, rfl, rfl, by decide +kernel, rfl, by decide +kernel, by decide +kernel⟩
/-- what the top has left: each def -/
structure Tx (E : En) : Prop where
  bf : Bf E.mg
  d__wall : Df E t__wall "_wall" ["k"]
  d_is_list : Df E t_is_list "is_list" ["thing"]
  d_is_whole : Df E t_is_whole "is_whole" ["thing"]
  d_is_natural : Df E t_is_natural "is_natural" ["thing"]
  d_lowest : Df E t_lowest "lowest" ["top", "bottom"]
  d_is_frac : Df E t_is_frac "is_frac" ["thing"]
  d_frac_of : Df E t_frac_of "frac_of" ["thing"]
  d_is_width : Df E t_is_width "is_width" ["thing"]
  d_plus : Df E t_plus "plus" ["one", "two"]
  d_minus : Df E t_minus "minus" ["one", "two"]
  d_times : Df E t_times "times" ["one", "two"]
  d_over : Df E t_over "over" ["one", "two"]
  d_is_less : Df E t_is_less "is_less" ["one", "two"]
  d_is_upto : Df E t_is_upto "is_upto" ["one", "two"]
  d_flat_form : Df E t_flat_form "flat_form" ["fraction"]
  d_plus_form : Df E t_plus_form "plus_form" ["one", "other"]
  d_minus_form : Df E t_minus_form "minus_form" ["one", "other"]
  d_scaled_form : Df E t_scaled_form "scaled_form" ["form", "share"]
  d_plain_ask : Df E t_plain_ask "plain_ask" ["one", "other"]
  d_worth_at : Df E t_worth_at "worth_at" ["form", "width"]
  d_sum_of_forms : Df E t_sum_of_forms "sum_of_forms" ["forms"]
  d_held_form : Df E t_held_form "held_form" ["form", "least", "most", "ask"]
  d_raw_size : Df E t_raw_size "raw_size" ["item", "level", "way"]
  d_held_size : Df E t_held_size "held_size" ["item", "level", "way", "ask"]
  d_turning_levels : Df E t_turning_levels "turning_levels" ["items", "way", "ask"]
  d_total_at : Df E t_total_at "total_at" ["items", "level", "way", "ask"]
  d_free_step : Df E t_free_step "free_step" ["item", "level", "way", "ask"]
  d_levelled : Df E t_levelled "levelled" ["items", "room", "ask"]
  d_row_sizes : Df E t_row_sizes "row_sizes" ["items", "room", "ask"]
  d_merged_pieces : Df E t_merged_pieces "merged_pieces" ["pieces"]
  d_pieces_between : Df E t_pieces_between "pieces_between" ["corners", "sizes_by"]
  d_sorted_rooms : Df E t_sorted_rooms "sorted_rooms" ["rooms"]
  d_is_item : Df E t_is_item "is_item" ["thing"]
  d_item_forms : Df E t_item_forms "item_forms" ["items"]
  d__law_start : Df E t__law_start "_law_start" ["_law_script"]
  d__law_draw : Df E t__law_draw "_law_draw" ["_law_stream", "_law_many"]
  d__law_pick : Df E t__law_pick "_law_pick" ["_law_stream", "_law_things"]
  d__law_mixed : Df E t__law_mixed "_law_mixed" ["_law_stream", "_law_things"]
  d__law_same : Df E t__law_same "_law_same" ["_law_found", "_law_due"]
  d__law_low : Df E t__law_low "_law_low" ["_law_top", "_law_bottom"]
  d__law_plus : Df E t__law_plus "_law_plus" ["_law_one", "_law_other"]
  d__law_minus : Df E t__law_minus "_law_minus" ["_law_one", "_law_other"]
  d__law_times : Df E t__law_times "_law_times" ["_law_one", "_law_other"]
  d__law_over : Df E t__law_over "_law_over" ["_law_one", "_law_other"]
  d__law_is_less : Df E t__law_is_less "_law_is_less" ["_law_one", "_law_other"]
  d__law_sum : Df E t__law_sum "_law_sum" ["_law_rows"]
  d__law_in_order : Df E t__law_in_order "_law_in_order" ["_law_rows"]
  d__law_item : Df E t__law_item "_law_item" ["_law_stream"]
  d__law_items : Df E t__law_items "_law_items" ["_law_stream", "_law_most"]
  d__law_handed : Df E t__law_handed "_law_handed" ["_law_stream", "_law_items_here"]
  d__law_clamped : Df E t__law_clamped "_law_clamped" ["_law_item_here", "_law_size_here"]
  d__law_size : Df E t__law_size "_law_size" ["_law_item_here", "_law_level_here"]
  d__law_least : Df E t__law_least "_law_least" ["_law_item_here"]
  d__law_greatest : Df E t__law_greatest "_law_greatest" ["_law_item_here"]
  d__law_turns : Df E t__law_turns "_law_turns" ["_law_items_here"]
  d__law_total : Df E t__law_total "_law_total" ["_law_items_here", "_law_level_here"]
  d__law_gaps : Df E t__law_gaps "_law_gaps" ["_law_items_here", "_law_gap"]
  d__law_level : Df E t__law_level "_law_level" ["_law_items_here", "_law_left"]
  d__law_sizes : Df E t__law_sizes "_law_sizes" ["_law_items_here", "_law_gap", "_law_room"]
  d__law_tuples : Df E t__law_tuples "_law_tuples" ["_law_thing"]
  d__law_pieces : Df E t__law_pieces "_law_pieces" ["_law_items_here", "_law_gap"]
  d__law_at : Df E t__law_at "_law_at" ["_law_form", "_law_room"]
  d__law_room_for : Df E t__law_room_for "_law_room_for" ["_law_pieces_here", "_law_index", "_law_size_here"]
  d_law : Df E t_law "law" ["_law_script"]
end Law
set_option Elab.async false
set_option linter.all false
set_option maxRecDepth 100000
set_option maxHeartbeats 4000000
namespace Gh
open PySem PySem.Spec PyProof.Rows L2
section
variable {F : Fx} {ρ : List G} {s s1 s2 : Sx} {tg iter elt : Expr} {items : List D} {scope : Scope} {pos : Pos}
theorem Et.is {e : Expr} {x y : Bool} (h : Et F ρ s e x s1) (z : x = y) : Et F ρ s e y s1 := by rw [← z]; exact h
theorem Cp.is {op : CmpOp} {a b : Expr} {x y : Bool} (h : Cp F ρ s op a b x s1) (z : x = y) : Cp F ρ s op a b y s1 := by rw [← z]; exact h
/-- [elt for tg in iter], nothing drawn in the turns -/
theorem el_map (own : List (Str × Nat)) (f : D → D) (hc : F.X.calm = true) (hN : F.X.N.Nodup) (hi : Ei F ρ s tg iter items s1) (ok : BlkOk F.X.N F.X.env.scope scope own) (hl : items.length ≤ sizeLine)
    (h : ∀ (i : Nat) (d : D), items[i]? = some d → ∃ ρ2 js, (∀ c, Eg (F.blk scope c) tg d (gwipe ρ (own.map (·.2))) ρ2 js) ∧ (∀ j ∈ js, j ∈ own.map (·.2)) ∧ ∀ c, Ed (F.blk scope c) ρ2 s1 elt (f d) s1)
    (hs : ∀ x, foldedSetIterable iter F.X.env x = pure x := by intro _; rfl) : El F ρ s (.ListComp elt [⟨tg, iter, [], 0⟩] scope pos) (items.map f) s1 := by
  have z := el_comp (pos := pos) own hc hN (st := fun _ => s1) hi ok (Comp.map f hl h) hi.1 hs
  simp only [List.take_length] at z
  exact z
end
end Gh
namespace Gh
open PySem PySem.Spec PyProof.Rows L2
section
variable {F : Fx} {ρ : List G} {s s1 s2 : Sx} {tg iter elt t : Expr} {items : List D} {scope : Scope} {pos : Pos}
/-- [elt for tg in iter if t], nothing drawn in the turns -/
theorem el_filter (own : List (Str × Nat)) (f : D → D) (g : D → Bool) (hc : F.X.calm = true) (hN : F.X.N.Nodup) (hi : Ei F ρ s tg iter items s1) (ok : BlkOk F.X.N F.X.env.scope scope own) (hl : items.length ≤ sizeLine)
    (h : ∀ (i : Nat) (d : D), items[i]? = some d → ∃ ρ2 js, (∀ c, Eg (F.blk scope c) tg d (gwipe ρ (own.map (·.2))) ρ2 js) ∧ (∀ j ∈ js, j ∈ own.map (·.2)) ∧ (∀ c, Et (F.blk scope c) ρ2 s1 t (g d) s1) ∧ (g d = true → ∀ c, Ed (F.blk scope c) ρ2 s1 elt (f d) s1))
    (hs : ∀ x, foldedSetIterable iter F.X.env x = pure x := by intro _; rfl) : El F ρ s (.ListComp elt [⟨tg, iter, [t], 0⟩] scope pos) ((items.filter g).map f) s1 := by
  have z := el_comp (pos := pos) own hc hN (st := fun _ => s1) hi ok (Comp.filter f g hl h) hi.1 hs
  simp only [List.take_length] at z
  exact z
end
end Gh
namespace Law
open PySem PySem.Spec PyProof.Rows L2 Gh
variable {E : En} {s : Sx}
def isL : Kn → Bool := fun k => [Kn.list, .tuple].any (isK k)
def isW : Kn → Bool := fun k => isK k .int && !isK k .bool
theorem rn_is_list (T : Tx E) {x : D} {k : Kn} (hk : x.kind = some k) : Rn E 1 "is_list" [x] s (.bl (isL k)) s := by
  refine T.d_is_list.rn sc_is_list rfl rfl fun fa cdv A outer sh H0 EX S0 p hr => ?_
  conv => arg 2; whnf
  exact bk_cons (bs_ret (ed_isiT T.bf (ed_var 0 rfl (.inl rfl) rfl) hk (cns_cons (cn_list T.bf) (cns_cons (cn_tuple T.bf) cns_nil))) ⟨rfl, rfl⟩)
theorem rn_is_whole (T : Tx E) {x : D} {k : Kn} (hk : x.kind = some k) : Rn E 1 "is_whole" [x] s (.bl (isW k)) s := by
  refine T.d_is_whole.rn sc_is_whole rfl rfl fun fa cdv A outer sh H0 EX S0 p hr => ?_
  conv => arg 2; whnf
  exact bk_cons (bs_ret (ed_and (ed_isi T.bf (ed_var 0 rfl (.inl rfl) rfl) hk (cn_int T.bf)) fun _ => (ed_one (ed_not (ed_isi T.bf (ed_var 0 rfl (.inl rfl) rfl) hk (cn_bool T.bf))))) ⟨rfl, rfl⟩)
/-- the loop of Euclid, by the frames -/
theorem rn_lowestN (T : Tx E) {t : Int} {b : Nat} (hb : b ≠ 0) (hs : b < 2 ^ 8000) : Rn E 1 "lowest" [.int t, .int b] s (fr (mkRat t b)) s := by
  refine T.d_lowest.rn sc_lowest rfl rfl fun fa cdv A outer sh H0 EX S0 p hr => ?_
  conv => arg 2; whnf
  refine bk_cons (bs_par 2 3 rfl sc_lowest.nd rfl rfl (by decide) rfl rfl (ea_cons (ed_abs T.bf (ed_var 0 rfl (.inl rfl) rfl)) (ea_cons (ed_var 1 rfl (.inl rfl) rfl) ea_nil)) ?_)
  refine bk_cons (bs_while PassesOwn.never (fun ρ s' => s' = s ∧ ∃ x y : Nat, ρ = [.val (.int t), .val (.int b), .val (.int x), .val (.int y)] ∧ Nat.gcd x y = Nat.gcd t.natAbs b) (fun ρ _ => match ρ with | [_, _, _, .val (.int y)] => y.toNat | _ => 0) ⟨rfl, t.natAbs, b, rfl, rfl⟩ ?_)
  rintro ρ s' ⟨rfl, x, y, rfl, g⟩
  refine ⟨_, _, (cp_gt (ed_var 3 rfl (.inl rfl) rfl) ed_int).et, fun h => ?_, fun h => ?_⟩
  · have hy : (0 : Int) < y := of_decide_eq_true h
    refine bk_cons (bs_par 2 3 rfl sc_lowest.nd rfl rfl (by decide) rfl rfl (ea_cons (ed_var 3 rfl (.inl rfl) rfl) (ea_cons (ed_bin (ed_var 2 rfl (.inl rfl) rfl) (ed_var 3 rfl (.inl rfl) rfl) rfl hy) ea_nil)) (bk_nil ?_))
    refine ⟨⟨rfl, y, x % y, ?_, ?_⟩, ?_⟩
    · rfl
    · rw [← g]; exact (gcd_step x y (by omega)).symm
    · show ((x : Int) % (y : Int)).toNat < (y : Int).toNat
      have := Int.emod_lt_of_pos (x : Int) hy
      have := Int.emod_nonneg (x : Int) (by omega : (y : Int) ≠ 0)
      omega
  · have hy : y = 0 := by
      have h1 : ¬ ((0 : Int) < (y : Int)) := of_decide_eq_false h
      omega
    subst hy
    rw [Nat.gcd_zero_right] at g
    have hx : 0 < x := by
      rw [g]; exact Nat.gcd_pos_of_pos_right _ (by omega)
    have hx2 : x < 2 ^ 8000 := Nat.lt_of_le_of_lt (by rw [g]; exact Nat.gcd_le_right _ (by omega)) hs
    have hc : ∀ i : Int, CDivW i x := fun i => wide_div (by omega) (b := 8000) (by rw [Int.natAbs_natCast]; exact hx2) (by decide) (by decide)
    refine bk_cons (bs_ret (ed_tup (ea_cons (ed_bin (ed_var 0 rfl (.inl rfl) rfl) (ed_var 2 rfl (.inl rfl) rfl) rfl (hc t)) (ea_cons (ed_bin (ed_var 1 rfl (.inl rfl) rfl) (ed_var 2 rfl (.inl rfl) rfl) rfl (hc b)) ea_nil))) ⟨?_, rfl⟩)
    unfold fr
    rw [mk_num t b hb, mk_den t b hb, ← g]
theorem rn_lowest (T : Tx E) {t b : Int} (hb : 0 < b) (hs : b.natAbs < 2 ^ 8000) : Rn E 1 "lowest" [.int t, .int b] s (fr (mkRat t b.toNat)) s := by
  obtain ⟨n, rfl⟩ := Int.eq_ofNat_of_zero_le (Int.le_of_lt hb)
  exact rn_lowestN T (by omega) (by simpa using hs)
section
variable {a b : Rat}
theorem rn_plus (T : Tx E) (ha : Sz 3000 a) (hb : Sz 3000 b) : Rn E 2 "plus" [fr a, fr b] s (fr (a + b)) s := by
  refine T.d_plus.rn sc_plus rfl rfl fun fa cdv A outer sh H0 EX S0 p hr => ?_
  conv => arg 2; whnf
  refine bk_cons (bs_ret (ed_cl (ea_cons (ed_bin (ed_bin (ed_ix (ed_var 0 rfl (.inl rfl) rfl) ed_int rfl) (ed_ix (ed_var 1 rfl (.inl rfl) rfl) ed_int rfl) rfl (mulW ha.n hb.d)) (ed_bin (ed_ix (ed_var 1 rfl (.inl rfl) rfl) ed_int rfl) (ed_ix (ed_var 0 rfl (.inl rfl) rfl) ed_int rfl) rfl (mulW hb.n ha.d)) rfl trivial) (ea_cons (ed_bin (ed_ix (ed_var 0 rfl (.inl rfl) rfl) ed_int rfl) (ed_ix (ed_var 1 rfl (.inl rfl) rfl) ed_int rfl) rfl (mulW ha.d hb.d)) ea_nil)) (hr.mono (by decide)) (rn_lowest T (dd_pos a b) (dd_size ha hb))) ⟨?_, rfl⟩)
  rw [dd_nat, add_mk]
theorem rn_minus (T : Tx E) (ha : Sz 3000 a) (hb : Sz 3000 b) : Rn E 2 "minus" [fr a, fr b] s (fr (a - b)) s := by
  refine T.d_minus.rn sc_minus rfl rfl fun fa cdv A outer sh H0 EX S0 p hr => ?_
  conv => arg 2; whnf
  refine bk_cons (bs_ret (ed_cl (ea_cons (ed_bin (ed_bin (ed_ix (ed_var 0 rfl (.inl rfl) rfl) ed_int rfl) (ed_ix (ed_var 1 rfl (.inl rfl) rfl) ed_int rfl) rfl (mulW ha.n hb.d)) (ed_bin (ed_ix (ed_var 1 rfl (.inl rfl) rfl) ed_int rfl) (ed_ix (ed_var 0 rfl (.inl rfl) rfl) ed_int rfl) rfl (mulW hb.n ha.d)) rfl trivial) (ea_cons (ed_bin (ed_ix (ed_var 0 rfl (.inl rfl) rfl) ed_int rfl) (ed_ix (ed_var 1 rfl (.inl rfl) rfl) ed_int rfl) rfl (mulW ha.d hb.d)) ea_nil)) (hr.mono (by decide)) (rn_lowest T (dd_pos a b) (dd_size ha hb))) ⟨?_, rfl⟩)
  rw [dd_nat, sub_mk]
theorem rn_times (T : Tx E) (ha : Sz 3000 a) (hb : Sz 3000 b) : Rn E 2 "times" [fr a, fr b] s (fr (a * b)) s := by
  refine T.d_times.rn sc_times rfl rfl fun fa cdv A outer sh H0 EX S0 p hr => ?_
  conv => arg 2; whnf
  refine bk_cons (bs_ret (ed_cl (ea_cons (ed_bin (ed_ix (ed_var 0 rfl (.inl rfl) rfl) ed_int rfl) (ed_ix (ed_var 1 rfl (.inl rfl) rfl) ed_int rfl) rfl (mulW ha.n hb.n)) (ea_cons (ed_bin (ed_ix (ed_var 0 rfl (.inl rfl) rfl) ed_int rfl) (ed_ix (ed_var 1 rfl (.inl rfl) rfl) ed_int rfl) rfl (mulW ha.d hb.d)) ea_nil)) (hr.mono (by decide)) (rn_lowest T (dd_pos a b) (dd_size ha hb))) ⟨?_, rfl⟩)
  rw [dd_nat, mul_mk]
theorem rn_is_upto (T : Tx E) (ha : Sz 3000 a) (hb : Sz 3000 b) : Rn E 1 "is_upto" [fr a, fr b] s (.bl (decide (a ≤ b))) s := by
  refine T.d_is_upto.rn sc_is_upto rfl rfl fun fa cdv A outer sh H0 EX S0 p hr => ?_
  conv => arg 2; whnf
  refine bk_cons (bs_ret (Cp.ed (cp_le (ed_bin (ed_ix (ed_var 0 rfl (.inl rfl) rfl) ed_int rfl) (ed_ix (ed_var 1 rfl (.inl rfl) rfl) ed_int rfl) rfl (mulW ha.n hb.d)) (ed_bin (ed_ix (ed_var 1 rfl (.inl rfl) rfl) ed_int rfl) (ed_ix (ed_var 0 rfl (.inl rfl) rfl) ed_int rfl) rfl (mulW hb.n ha.d)))) ⟨?_, rfl⟩)
  exact congrArg D.bl (decide_eq_decide.mpr (Rat.le_iff a b).symm)
end
mutual
/-- plain data -/
def dat : D → Bool
  | .lst xs => dats xs
  | .tup xs => dats xs
  | .mut => false
  | .ref _ => false
  | .ty _ => false
  | .scr _ => false
  | .ins .. => false
  | .met .. => false
  | .dT .. => false
  | .lent _ => false
  | .clo .. => false
  | .dq _ => false
  | .cel _ => false
  | _ => true
def dats : List D → Bool
  | [] => true
  | x :: xs => dat x && dats xs
end
theorem dat_kind {x : D} (h : dat x = true) : ∃ k, x.kind = some k := by
  cases x <;> first | exact ⟨_, rfl⟩ | (unfold dat at h; cases h)
theorem dats_cons {x : D} {xs : List D} (h : dats (x :: xs) = true) : dat x = true ∧ dats xs = true := by
  unfold dats at h; exact Bool.and_eq_true_iff.mp h
theorem dats_of {xs : List D} (h : ∀ x ∈ xs, dat x = true) : dats xs = true := by
  induction xs with
  | nil => unfold dats; rfl
  | cons y ys ih => unfold dats; rw [h y List.mem_cons_self, ih fun x m => h x (List.mem_cons_of_mem _ m)]; rfl
/-- its items, if it is a list or tuple -/
def items : D → Option (List D)
  | .lst xs => some xs
  | .tup xs => some xs
  | _ => none
theorem items_or {x : D} {xs : List D} (h : items x = some xs) : x = .lst xs ∨ x = .tup xs := by
  cases x <;> first | (cases h; exact .inl rfl) | (cases h; exact .inr rfl) | cases h
theorem items_dat {x : D} {xs : List D} (h : items x = some xs) (d : dat x = true) : dats xs = true := by
  cases x <;> first | (cases h; unfold dat at d; exact d) | cases h
theorem items_size {x : D} {xs : List D} (h : items x = some xs) : x.size = some xs.length := by
  cases x <;> first | (cases h; rfl) | cases h
theorem items_at {x : D} {xs : List D} (h : items x = some xs) (i : Int) : x.at i = atI xs i := by
  cases x <;> first | (cases h; rfl) | cases h
theorem isL_items {x : D} {k : Kn} (hk : x.kind = some k) (hd : dat x = true) : isL k = (items x).isSome := by
  cases x <;> first | (cases hk; rfl) | (unfold dat at hd; cases hd)
theorem isW_iff {x : D} {k : Kn} (hk : x.kind = some k) : isW k = (match x with | .int _ => true | _ => false) := by
  cases x <;> first | (cases hk; rfl) | cases hk
/-- a pair of ints, the second above 0 -/
def isFrL : List D → Bool
  | [.int _, .int b] => decide (0 < b)
  | _ => false
theorem isFrL_len {xs : List D} (h : ¬ xs.length = 2) : isFrL xs = false := by
  unfold isFrL
  split
  · exact absurd rfl h
  · rfl
def isFr (x : D) : Bool := match items x with
  | some xs => isFrL xs
  | none => false
theorem eqC_int (i : Int) : (D.int i).eqC := ⟨by unfold D.pure; rfl, by simp [D.py, SeqAt.shaped, PyData.canLay0, PyData.depth]⟩
theorem eqC_bl (b : Bool) : (D.bl b).eqC := ⟨by unfold D.pure; rfl, by simp [D.py, SeqAt.shaped, PyData.canLay0, PyData.depth]⟩
theorem eqC_non : D.non.eqC := ⟨by unfold D.pure; rfl, by simp [D.py, SeqAt.shaped, PyData.canLay0, PyData.depth]⟩
theorem eqb_int (i j : Int) : (D.int i).eqb (.int j) = decide (i = j) := by
  simp [D.eqb, D.py, PyData.eqv]
  rw [Bool.eq_iff_iff]; simp
theorem rn_is_frac (T : Tx E) {x : D} (hx : dat x = true) : Rn E 3 "is_frac" [x] s (.bl (isFr x)) s := by
  obtain ⟨k, hk⟩ := dat_kind hx
  refine T.d_is_frac.rn sc_is_frac rfl rfl fun fa cdv A outer sh H0 EX S0 p hr => ?_
  conv => arg 2; whnf
  refine bk_cons ?_
  have h1 := isL_items hk hx
  cases e : items x with
  | none =>
    rw [e] at h1
    refine bs_ret (ed_andF (ed_cl (ea_cons (ed_var 0 rfl (.inl rfl) rfl) ea_nil) (hr.mono (by decide)) ((rn_is_list T hk).is (by rw [h1]; rfl)))) ⟨by unfold isFr; rw [e], rfl⟩
  | some xs =>
    rw [e] at h1
    have hd := items_dat e hx
    have R1 : Rn E 1 "is_list" [x] s (.bl true) s := (rn_is_list T hk).is (by rw [h1]; rfl)
    by_cases hl : xs.length = 2
    · match xs, hl with
      | [u, v], _ =>
        obtain ⟨d1, d2⟩ := dats_cons hd
        obtain ⟨d2, _⟩ := dats_cons d2
        obtain ⟨k1, hk1⟩ := dat_kind d1
        obtain ⟨k2, hk2⟩ := dat_kind d2
        have i0 : x.at 0 = some u := by rw [items_at e]; rfl
        have i1 : x.at 1 = some v := by rw [items_at e]; rfl
        have w1 := isW_iff hk1
        have w2 := isW_iff hk2
        refine bs_ret (ed_andT (ed_cl (ea_cons (ed_var 0 rfl (.inl rfl) rfl) ea_nil) (hr.mono (by decide)) R1) (ed_andT ((Cp.ed (cp_eq hr (ed_len T.bf (ed_var 0 rfl (.inl rfl) rfl) (items_size e)) ed_int (eqC_int _) (eqC_int _))).is (y := .bl true) (by rw [eqb_int]; rfl)) ?_)) ⟨rfl, rfl⟩
        cases u with
        | int i =>
          refine ed_andT (ed_cl (ea_cons (ed_ix (ed_var 0 rfl (.inl rfl) rfl) ed_int i0) ea_nil) (hr.mono (by decide)) ((rn_is_whole T hk1).is (by rw [w1]))) ?_
          cases v with
          | int j => exact (ed_andT (ed_cl (ea_cons (ed_ix (ed_var 0 rfl (.inl rfl) rfl) ed_int i1) ea_nil) (hr.mono (by decide)) ((rn_is_whole T hk2).is (by rw [w2]))) (ed_one (Cp.ed (cp_gt (ed_ix (ed_var 0 rfl (.inl rfl) rfl) ed_int i1) ed_int)))).is (by unfold isFr; rw [e]; rfl)
          | _ => exact (ed_andF (ed_cl (ea_cons (ed_ix (ed_var 0 rfl (.inl rfl) rfl) ed_int i1) ea_nil) (hr.mono (by decide)) ((rn_is_whole T hk2).is (by rw [w2])))).is (by unfold isFr; rw [e]; rfl)
        | _ => exact (ed_andF (ed_cl (ea_cons (ed_ix (ed_var 0 rfl (.inl rfl) rfl) ed_int i0) ea_nil) (hr.mono (by decide)) ((rn_is_whole T hk1).is (by rw [w1])))).is (by unfold isFr; rw [e]; rfl)
    · refine bs_ret (ed_andT (ed_cl (ea_cons (ed_var 0 rfl (.inl rfl) rfl) ea_nil) (hr.mono (by decide)) R1) (ed_andF ((Cp.ed (cp_eq hr (ed_len T.bf (ed_var 0 rfl (.inl rfl) rfl) (items_size e)) ed_int (eqC_int _) (eqC_int _))).is (y := .bl false) (by rw [eqb_int]; exact congrArg D.bl (decide_eq_false (by omega)))))) ⟨?_, rfl⟩
      unfold isFr
      rw [e]
      exact congrArg D.bl (isFrL_len hl).symm
/-- the rational of a pair that is a fraction -/
def frq (x : D) : Rat := match items x with
  | some [.int t, .int b] => mkRat t b.toNat
  | _ => 0
theorem isFr_items {x : D} (h : isFr x = true) : ∃ t b, items x = some [.int t, .int b] ∧ 0 < b := by
  unfold isFr at h
  cases e : items x with
  | none => rw [e] at h; cases h
  | some xs =>
    rw [e] at h
    match xs, h with
    | [.int t, .int b], h => exact ⟨t, b, rfl, of_decide_eq_true h⟩
theorem rn_frac_of (T : Tx E) {x : D} (hx : isFr x = true) (hs : ∀ t b, items x = some [.int t, .int b] → b.natAbs < 2 ^ 8000) : Rn E 2 "frac_of" [x] s (fr (frq x)) s := by
  obtain ⟨t, b, e, hb⟩ := isFr_items hx
  refine T.d_frac_of.rn sc_frac_of rfl rfl fun fa cdv A outer sh H0 EX S0 p hr => ?_
  conv => arg 2; whnf
  have i0 : x.at 0 = some (.int t) := by rw [items_at e]; rfl
  have i1 : x.at 1 = some (.int b) := by rw [items_at e]; rfl
  refine bk_cons (bs_ret (ed_cl (ea_cons (ed_ix (ed_var 0 rfl (.inl rfl) rfl) ed_int i0) (ea_cons (ed_ix (ed_var 0 rfl (.inl rfl) rfl) ed_int i1) ea_nil)) (hr.mono (by decide)) (rn_lowest T hb (hs t b e))) ⟨?_, rfl⟩)
  unfold frq; rw [e]
/-- a fraction from 0 on -/
def topGe : D → Bool := fun x => match items x with
  | some (.int t :: _) => decide (0 ≤ t)
  | _ => false
def isWd (x : D) : Bool := isFr x && topGe x
theorem rn_is_width (T : Tx E) {x : D} (hx : dat x = true) : Rn E 4 "is_width" [x] s (.bl (isWd x)) s := by
  refine T.d_is_width.rn sc_is_width rfl rfl fun fa cdv A outer sh H0 EX S0 p hr => ?_
  conv => arg 2; whnf
  refine bk_cons ?_
  cases h : isFr x with
  | true =>
    obtain ⟨t, b, e, hb⟩ := isFr_items h
    have i0 : x.at 0 = some (.int t) := by rw [items_at e]; rfl
    refine bs_ret (ed_andT (ed_cl (ea_cons (ed_var 0 rfl (.inl rfl) rfl) ea_nil) (hr.mono (by decide)) ((rn_is_frac T hx).is (by rw [h]))) (ed_one (Cp.ed (cp_ge (ed_ix (ed_var 0 rfl (.inl rfl) rfl) ed_int i0) ed_int)))) ⟨?_, rfl⟩
    unfold isWd topGe
    rw [h, e]; rfl
  | false =>
    exact bs_ret (ed_andF (ed_cl (ea_cons (ed_var 0 rfl (.inl rfl) rfl) ea_nil) (hr.mono (by decide)) ((rn_is_frac T hx).is (by rw [h])))) ⟨by unfold isWd; rw [h]; rfl, rfl⟩
section
variable {a b c d : Rat}
theorem rn_minus_form (T : Tx E) (ha : Sz 3000 a) (hb : Sz 3000 b) (hc : Sz 3000 c) (hd : Sz 3000 d) : Rn E 3 "minus_form" [fm a b, fm c d] s (fm (a - c) (b - d)) s := by
  refine T.d_minus_form.rn sc_minus_form rfl rfl fun fa cdv A outer sh H0 EX S0 p hr => ?_
  conv => arg 2; whnf
  exact bk_cons (bs_ret (ed_tup (ea_cons (ed_cl (ea_cons (ed_ix (ed_var 0 rfl (.inl rfl) rfl) ed_int rfl) (ea_cons (ed_ix (ed_var 1 rfl (.inl rfl) rfl) ed_int rfl) ea_nil)) (hr.mono (by decide)) (rn_minus T ha hc)) (ea_cons (ed_cl (ea_cons (ed_ix (ed_var 0 rfl (.inl rfl) rfl) ed_int rfl) (ea_cons (ed_ix (ed_var 1 rfl (.inl rfl) rfl) ed_int rfl) ea_nil)) (hr.mono (by decide)) (rn_minus T hb hd)) ea_nil))) ⟨rfl, rfl⟩)
end
theorem eqC_str {x : Str} (h : PyData.strOk x = true := by decide +kernel) : (D.str x).eqC := ⟨by unfold D.pure; rfl, by simp [D.py, SeqAt.shaped, PyData.canLay0, PyData.depth, h]⟩
theorem _root_.Gh.Sz.zero {n : Nat} (h : 0 < n := by decide) : Sz n 0 := ⟨by simpa using Nat.two_pow_pos n, by simpa using Nat.one_lt_two_pow (Nat.ne_of_gt h)⟩
end Law
set_option Elab.async false
set_option linter.all false
set_option maxRecDepth 100000
set_option maxHeartbeats 4000000
namespace Law
open PySem PySem.Spec PyProof.Rows L2 Gh
variable {E : En} {s : Sx}
section
variable {a b : Rat}
/-- the loop of Euclid, by the frames -/
theorem rn_llowN (T : Tx E) {t : Int} {b : Nat} (hb : b ≠ 0) (hs : b < 2 ^ 8000) : Rn E 1 "_law_low" [.int t, .int b] s (fr (mkRat t b)) s := by
  refine T.d__law_low.rn sc__law_low rfl rfl fun fa cdv A outer sh H0 EX S0 p hr => ?_
  conv => arg 2; whnf
  refine bk_cons (bs_par 2 3 rfl sc__law_low.nd rfl rfl (by decide) rfl rfl (ea_cons (ed_abs T.bf (ed_var 0 rfl (.inl rfl) rfl)) (ea_cons (ed_var 1 rfl (.inl rfl) rfl) ea_nil)) ?_)
  refine bk_cons (bs_while PassesOwn.never (fun ρ s' => s' = s ∧ ∃ x y : Nat, ρ = [.val (.int t), .val (.int b), .val (.int x), .val (.int y)] ∧ Nat.gcd x y = Nat.gcd t.natAbs b) (fun ρ _ => match ρ with | [_, _, _, .val (.int y)] => y.toNat | _ => 0) ⟨rfl, t.natAbs, b, rfl, rfl⟩ ?_)
  rintro ρ s' ⟨rfl, x, y, rfl, g⟩
  refine ⟨_, _, (cp_gt (ed_var 3 rfl (.inl rfl) rfl) ed_int).et, fun h => ?_, fun h => ?_⟩
  · have hy : (0 : Int) < y := of_decide_eq_true h
    refine bk_cons (bs_par 2 3 rfl sc__law_low.nd rfl rfl (by decide) rfl rfl (ea_cons (ed_var 3 rfl (.inl rfl) rfl) (ea_cons (ed_bin (ed_var 2 rfl (.inl rfl) rfl) (ed_var 3 rfl (.inl rfl) rfl) rfl hy) ea_nil)) (bk_nil ?_))
    refine ⟨⟨rfl, y, x % y, ?_, ?_⟩, ?_⟩
    · rfl
    · rw [← g]; exact (gcd_step x y (by omega)).symm
    · show ((x : Int) % (y : Int)).toNat < (y : Int).toNat
      have := Int.emod_lt_of_pos (x : Int) hy
      have := Int.emod_nonneg (x : Int) (by omega : (y : Int) ≠ 0)
      omega
  · have hy : y = 0 := by
      have h1 : ¬ ((0 : Int) < (y : Int)) := of_decide_eq_false h
      omega
    subst hy
    rw [Nat.gcd_zero_right] at g
    have hx : 0 < x := by
      rw [g]; exact Nat.gcd_pos_of_pos_right _ (by omega)
    have hx2 : x < 2 ^ 8000 := Nat.lt_of_le_of_lt (by rw [g]; exact Nat.gcd_le_right _ (by omega)) hs
    have hc : ∀ i : Int, CDivW i x := fun i => wide_div (by omega) (b := 8000) (by rw [Int.natAbs_natCast]; exact hx2) (by decide) (by decide)
    refine bk_cons (bs_ret (ed_tup (ea_cons (ed_bin (ed_var 0 rfl (.inl rfl) rfl) (ed_var 2 rfl (.inl rfl) rfl) rfl (hc t)) (ea_cons (ed_bin (ed_var 1 rfl (.inl rfl) rfl) (ed_var 2 rfl (.inl rfl) rfl) rfl (hc b)) ea_nil))) ⟨?_, rfl⟩)
    unfold fr
    rw [mk_num t b hb, mk_den t b hb, ← g]
theorem rn_llow (T : Tx E) {t b : Int} (hb : 0 < b) (hs : b.natAbs < 2 ^ 8000) : Rn E 1 "_law_low" [.int t, .int b] s (fr (mkRat t b.toNat)) s := by
  obtain ⟨n, rfl⟩ := Int.eq_ofNat_of_zero_le (Int.le_of_lt hb)
  exact rn_llowN T (by omega) (by simpa using hs)
theorem rn_lplus (T : Tx E) (ha : Sz 3000 a) (hb : Sz 3000 b) : Rn E 2 "_law_plus" [fr a, fr b] s (fr (a + b)) s := by
  refine T.d__law_plus.rn sc__law_plus rfl rfl fun fa cdv A outer sh H0 EX S0 p hr => ?_
  conv => arg 2; whnf
  refine bk_cons (bs_ret (ed_cl (ea_cons (ed_bin (ed_bin (ed_ix (ed_var 0 rfl (.inl rfl) rfl) ed_int rfl) (ed_ix (ed_var 1 rfl (.inl rfl) rfl) ed_int rfl) rfl (mulW ha.n hb.d)) (ed_bin (ed_ix (ed_var 1 rfl (.inl rfl) rfl) ed_int rfl) (ed_ix (ed_var 0 rfl (.inl rfl) rfl) ed_int rfl) rfl (mulW hb.n ha.d)) rfl trivial) (ea_cons (ed_bin (ed_ix (ed_var 0 rfl (.inl rfl) rfl) ed_int rfl) (ed_ix (ed_var 1 rfl (.inl rfl) rfl) ed_int rfl) rfl (mulW ha.d hb.d)) ea_nil)) (hr.mono (by decide)) (rn_llow T (dd_pos a b) (dd_size ha hb))) ⟨?_, rfl⟩)
  rw [dd_nat, add_mk]
theorem rn_lminus (T : Tx E) (ha : Sz 3000 a) (hb : Sz 3000 b) : Rn E 2 "_law_minus" [fr a, fr b] s (fr (a - b)) s := by
  refine T.d__law_minus.rn sc__law_minus rfl rfl fun fa cdv A outer sh H0 EX S0 p hr => ?_
  conv => arg 2; whnf
  refine bk_cons (bs_ret (ed_cl (ea_cons (ed_bin (ed_bin (ed_ix (ed_var 0 rfl (.inl rfl) rfl) ed_int rfl) (ed_ix (ed_var 1 rfl (.inl rfl) rfl) ed_int rfl) rfl (mulW ha.n hb.d)) (ed_bin (ed_ix (ed_var 1 rfl (.inl rfl) rfl) ed_int rfl) (ed_ix (ed_var 0 rfl (.inl rfl) rfl) ed_int rfl) rfl (mulW hb.n ha.d)) rfl trivial) (ea_cons (ed_bin (ed_ix (ed_var 0 rfl (.inl rfl) rfl) ed_int rfl) (ed_ix (ed_var 1 rfl (.inl rfl) rfl) ed_int rfl) rfl (mulW ha.d hb.d)) ea_nil)) (hr.mono (by decide)) (rn_llow T (dd_pos a b) (dd_size ha hb))) ⟨?_, rfl⟩)
  rw [dd_nat, sub_mk]
theorem rn_ltimes (T : Tx E) (ha : Sz 3000 a) (hb : Sz 3000 b) : Rn E 2 "_law_times" [fr a, fr b] s (fr (a * b)) s := by
  refine T.d__law_times.rn sc__law_times rfl rfl fun fa cdv A outer sh H0 EX S0 p hr => ?_
  conv => arg 2; whnf
  refine bk_cons (bs_ret (ed_cl (ea_cons (ed_bin (ed_ix (ed_var 0 rfl (.inl rfl) rfl) ed_int rfl) (ed_ix (ed_var 1 rfl (.inl rfl) rfl) ed_int rfl) rfl (mulW ha.n hb.n)) (ea_cons (ed_bin (ed_ix (ed_var 0 rfl (.inl rfl) rfl) ed_int rfl) (ed_ix (ed_var 1 rfl (.inl rfl) rfl) ed_int rfl) rfl (mulW ha.d hb.d)) ea_nil)) (hr.mono (by decide)) (rn_llow T (dd_pos a b) (dd_size ha hb))) ⟨?_, rfl⟩)
  rw [dd_nat, mul_mk]
theorem rn_lless (T : Tx E) (ha : Sz 3000 a) (hb : Sz 3000 b) : Rn E 1 "_law_is_less" [fr a, fr b] s (.bl (decide (a < b))) s := by
  refine T.d__law_is_less.rn sc__law_is_less rfl rfl fun fa cdv A outer sh H0 EX S0 p hr => ?_
  conv => arg 2; whnf
  refine bk_cons (bs_ret (Cp.ed (cp_lt (ed_bin (ed_ix (ed_var 0 rfl (.inl rfl) rfl) ed_int rfl) (ed_ix (ed_var 1 rfl (.inl rfl) rfl) ed_int rfl) rfl (mulW ha.n hb.d)) (ed_bin (ed_ix (ed_var 1 rfl (.inl rfl) rfl) ed_int rfl) (ed_ix (ed_var 0 rfl (.inl rfl) rfl) ed_int rfl) rfl (mulW hb.n ha.d)))) ⟨?_, rfl⟩)
  exact congrArg D.bl (decide_eq_decide.mpr (Rat.lt_iff a b).symm)
end
end Law
set_option Elab.async false
set_option linter.all false
set_option maxRecDepth 100000
set_option maxHeartbeats 4000000
namespace Law
open PySem PySem.Spec PyProof.Rows L2 Gh
variable {E : En} {s : Sx}
open Classical in
/-- step by step -/
theorem trace {α : Type} {R : α → α → Prop} {G : Nat → α → Prop} {N : Nat} (x0 : α) (h0 : G 0 x0) (hs : ∀ i x, i < N → G i x → ∃ y, R x y ∧ G (i + 1) y) :
    ∃ tr : Nat → α, tr 0 = x0 ∧ (∀ i, i ≤ N → G i (tr i)) ∧ ∀ i, i < N → R (tr i) (tr (i + 1)) := by
  let nx : Nat → α → α := fun i x => if h : i < N ∧ G i x then Classical.choose (hs i x h.1 h.2) else x
  have hn : ∀ i x, i < N → G i x → R x (nx i x) ∧ G (i + 1) (nx i x) := fun i x h1 h2 => by
    have e : nx i x = Classical.choose (hs i x h1 h2) := dif_pos ⟨h1, h2⟩
    rw [e]
    exact Classical.choose_spec (hs i x h1 h2)
  let tr : Nat → α := fun n => Nat.rec x0 (fun i x => nx i x) n
  have hg : ∀ i, i ≤ N → G i (tr i) := fun i => by
    induction i with
    | zero => exact fun _ => h0
    | succ i ih => exact fun h => (hn i (tr i) (by omega) (ih (by omega))).2
  exact ⟨tr, rfl, hg, fun i h => (hn i (tr i) h (hg i (by omega))).1⟩
theorem mulS {a b : Int} (ha : a.natAbs < 2 ^ 100) (hb : b.natAbs < 2 ^ 100) : CMulW a b := wide_mul ha hb (by decide) (by decide) (by decide)
/-- the stream: the cells left, a mix, how many were drawn (at most n), the cell that is read -/
def stD (ns : List Int) (z m : Nat) (c : Nat) : List D := [.cel ns, .int z, .int m, .int c]
def St (n : Nat) (s : Sx) : Prop := ∃ (ns : List Int) (z m c : Nat), s = some (stD ns z m c) ∧ (∀ x ∈ ns, 0 ≤ x) ∧ z < 2 ^ 31 ∧ m ≤ n
theorem St.mono {m n : Nat} (h : St m s) (l : m ≤ n) : St n s := by
  obtain ⟨ns, z, k, c, e, h1, h2, h3⟩ := h
  exact ⟨ns, z, k, c, e, h1, h2, Nat.le_trans h3 l⟩
theorem St.some {n : Nat} (h : St n s) : s.isSome = true := by
  obtain ⟨ns, z, k, c, e, _⟩ := h
  rw [e]; rfl
theorem lones_st (z m : Nat) (c : Nat) : D.lones [.int z, .int m, .int c] = true := by simp [D.lones, D.lone]
theorem rn_draw (T : Tx E) {n many : Nat} (h : St n s) (hn : n < 2 ^ 40) (hm : 0 < many) (hm2 : many < 2 ^ 60) : ∃ (d : Nat) (s' : Sx), d < many ∧ St (n + 1) s' ∧ Rn E 1 "_law_draw" [.mut, .int many] s (.int d) s' := by
  obtain ⟨ns, z, m, c, rfl, hns, hz, hmn⟩ := h
  obtain ⟨ms, c', hms, hp⟩ : ∃ (ms : List Int) (c' : Nat), (∀ x ∈ ms, 0 ≤ x) ∧ ((c ≠ 0 ∧ ms = ns ∧ c' = c) ∨ (c = 0 ∧ ns = [] ∧ ms = [] ∧ c' = 0) ∨ (c = 0 ∧ ns = (c' : Int) :: ms)) := by
    by_cases hc : c = 0
    · match ns, hns with
      | [], _ => exact ⟨[], 0, (fun _ m => nomatch m), .inr (.inl ⟨hc, rfl, rfl, rfl⟩)⟩
      | x :: xs, hns =>
        have hx := hns x List.mem_cons_self
        exact ⟨xs, x.toNat, fun y m => hns y (List.mem_cons_of_mem _ m), .inr (.inr ⟨hc, by rw [Int.toNat_of_nonneg hx]⟩)⟩
    · exact ⟨ns, c, hns, .inl ⟨hc, rfl, rfl⟩⟩
  by_cases hc : 0 < c'
  · refine ⟨c' % many, some (stD ms z (m + 1) (c' / many)), Nat.mod_lt _ hm, ⟨_, _, _, _, rfl, hms, hz, by omega⟩, ?_⟩
    refine T.d__law_draw.rn sc__law_draw rfl rfl fun fa cdv A outer sh H0 EX S0 p hr => ?_
    conv => arg 2; whnf
    refine bk_cons (bs_stM 0 (n := .int ((m + 1 : Nat) : Int)) rfl (.inl rfl) rfl (Ed.is (ed_bin (ed_ixM (d := .int ((m : Int))) (ed_var 0 rfl (.inl rfl) rfl) ed_int rfl) ed_int rfl trivial) (congrArg D.int (by omega))) ed_int rfl ?_)
    show Bk _ _ ([.val .mut, .val (.int many), .no, .no] : List G) (some (stD ns z (m + 1) c)) _
    refine bk_via (fun ρ' s' => ρ' = [.val .mut, .val (.int many), .no, .no] ∧ s' = some (stD ms z (m + 1) c')) ?pre ?_
    case pre =>
      have ceq : ∀ {F : Fx} {e : Expr}, True := trivial
      rcases hp with ⟨h1, rfl, rfl⟩ | ⟨h1, rfl, rfl, hh⟩ | ⟨h1, rfl⟩
      · exact bs_ifF (Ew.et ((ew_and (k := false) (l := false) (Cp.et (Cp.is (cp_eq hr (ed_ixM (d := .int (c' : Int)) (ed_var 0 rfl (.inl rfl) rfl) ed_int rfl) ed_int (eqC_int _) (eqC_int _)) (by rw [eqb_int]; exact decide_eq_false (by omega)))) fun z => nomatch z))) (bk_nil ⟨rfl, rfl⟩)
      · subst h1
        exact bs_ifF (Ew.et ((ew_and (k := true) (l := false) (Cp.et (Cp.is (cp_eq hr (ed_ixM (d := .int ((0 : Nat) : Int)) (ed_var 0 rfl (.inl rfl) rfl) ed_int rfl) ed_int (eqC_int _) (eqC_int _)) (by rw [eqb_int]; rfl))) fun _ => ew_and1 (Cp.et (cp_neNilC (ns := []) hr (ed_ixM (d := .cel []) (ed_var 0 rfl (.inl rfl) rfl) ed_int rfl) (El.ev (el_lst ea_nil)) List.mem_cons_self))))) (bk_nil ⟨rfl, by rw [hh]⟩)
      · subst h1
        refine bs_ifT (Ew.et ((ew_and (k := true) (l := true) (Cp.et (Cp.is (cp_eq hr (ed_ixM (d := .int ((0 : Nat) : Int)) (ed_var 0 rfl (.inl rfl) rfl) ed_int rfl) ed_int (eqC_int _) (eqC_int _)) (by rw [eqb_int]; rfl))) fun _ => ew_and1 (Cp.et (cp_neNilC (ns := (c' : Int) :: ms) hr (ed_ixM (d := .cel ((c' : Int) :: ms)) (ed_var 0 rfl (.inl rfl) rfl) ed_int rfl) (El.ev (el_lst ea_nil)) List.mem_cons_self))))) ?_
        exact bk_cons (bs_stM 0 rfl (.inl rfl) rfl (ed_popC (lones_st z (m + 1) 0) (ed_ixM (d := .cel ((c' : Int) :: ms)) (ed_var 0 rfl (.inl rfl) rfl) ed_int rfl) ed_int) ed_int rfl (bk_nil ⟨rfl, rfl⟩))
    rintro ρ' s' ⟨rfl, rfl⟩
    refine bk_cons (bs_ifT (Cp.et ((cp_gt (ed_ixM (d := .int (c' : Int)) (ed_var 0 rfl (.inl rfl) rfl) ed_int rfl) ed_int).is (decide_eq_true (by omega)))) ?_)
    refine bk_cons (bs_set 2 sc__law_draw.nd rfl (.inl rfl) (ed_bin (ed_intI T.bf (ed_ixM (d := .int (c' : Int)) (ed_var 0 rfl (.inl rfl) rfl) ed_int rfl)) (ed_var 1 rfl (.inl rfl) rfl) rfl (by show (0 : Int) < many; omega)) ?_)
    refine bk_cons (bs_stM 0 rfl (.inl rfl) rfl (ed_bin (ed_ixM (d := .int (c' : Int)) (ed_var 0 rfl (.inl rfl) rfl) ed_int rfl) (ed_var 1 rfl (.inl rfl) rfl) rfl (wide_div (i := (c' : Int)) (b := 60) (by omega) (by omega) (by decide) (by decide))) ed_int rfl ?_)
    exact bk_cons (bs_ret (ed_var 2 rfl (.inl rfl) rfl) ⟨rfl, rfl⟩)
  · have hc0 : c' = 0 := by omega
    subst hc0
    have h7 : (0 : Int) ≤ ((z : Int) + 7919 * ((m + 1 : Nat) : Int) + 104729) ^ 5 % 2147483647 := Int.emod_nonneg _ (by decide)
    have h8 : ((z : Int) + 7919 * ((m + 1 : Nat) : Int) + 104729) ^ 5 % 2147483647 < 2147483647 := Int.emod_lt_of_pos _ (by decide)
    generalize hw : ((z : Int) + 7919 * ((m + 1 : Nat) : Int) + 104729) ^ 5 % 2147483647 = w at h7 h8
    have h9 : (0 : Int) ≤ (w * 48271 + 30011 * ((m + 1 : Nat) : Int) + 29) ^ 3 % 1000000007 / 2 % many := Int.emod_nonneg _ (by omega)
    have h10 : (w * 48271 + 30011 * ((m + 1 : Nat) : Int) + 29) ^ 3 % 1000000007 / 2 % many < many := Int.emod_lt_of_pos _ (by omega)
    have h11 : (0 : Int) ≤ (w * 48271 + 30011 * ((m + 1 : Nat) : Int) + 29) ^ 3 % 1000000007 := Int.emod_nonneg _ (by decide)
    have h12 : (w * 48271 + 30011 * ((m + 1 : Nat) : Int) + 29) ^ 3 % 1000000007 < 1000000007 := Int.emod_lt_of_pos _ (by decide)
    refine ⟨((w * 48271 + 30011 * ((m + 1 : Nat) : Int) + 29) ^ 3 % 1000000007 / 2 % many).toNat, some (stD ms z (m + 1) 0), by omega, ⟨_, _, _, _, rfl, hms, hz, by omega⟩, ?_⟩
    refine T.d__law_draw.rn sc__law_draw rfl rfl fun fa cdv A outer sh H0 EX S0 p hr => ?_
    conv => arg 2; whnf
    refine bk_cons (bs_stM 0 (n := .int ((m + 1 : Nat) : Int)) rfl (.inl rfl) rfl (Ed.is (ed_bin (ed_ixM (d := .int ((m : Int))) (ed_var 0 rfl (.inl rfl) rfl) ed_int rfl) ed_int rfl trivial) (congrArg D.int (by omega))) ed_int rfl ?_)
    show Bk _ _ ([.val .mut, .val (.int many), .no, .no] : List G) (some (stD ns z (m + 1) c)) _
    refine bk_via (fun ρ' s' => ρ' = [.val .mut, .val (.int many), .no, .no] ∧ s' = some (stD ms z (m + 1) 0)) ?pre ?_
    case pre =>
      have ceq : ∀ {F : Fx} {e : Expr}, True := trivial
      rcases hp with ⟨h1, rfl, rfl⟩ | ⟨h1, rfl, rfl, hh⟩ | ⟨h1, rfl⟩
      · exact bs_ifF (Ew.et ((ew_and (k := false) (l := false) (Cp.et (Cp.is (cp_eq hr (ed_ixM (d := .int ((0 : Nat) : Int)) (ed_var 0 rfl (.inl rfl) rfl) ed_int rfl) ed_int (eqC_int _) (eqC_int _)) (by rw [eqb_int]; exact decide_eq_false (by omega)))) fun z => nomatch z))) (bk_nil ⟨rfl, rfl⟩)
      · subst h1
        exact bs_ifF (Ew.et ((ew_and (k := true) (l := false) (Cp.et (Cp.is (cp_eq hr (ed_ixM (d := .int ((0 : Nat) : Int)) (ed_var 0 rfl (.inl rfl) rfl) ed_int rfl) ed_int (eqC_int _) (eqC_int _)) (by rw [eqb_int]; rfl))) fun _ => ew_and1 (Cp.et (cp_neNilC (ns := []) hr (ed_ixM (d := .cel []) (ed_var 0 rfl (.inl rfl) rfl) ed_int rfl) (El.ev (el_lst ea_nil)) List.mem_cons_self))))) (bk_nil ⟨rfl, rfl⟩)
      · subst h1
        refine bs_ifT (Ew.et ((ew_and (k := true) (l := true) (Cp.et (Cp.is (cp_eq hr (ed_ixM (d := .int ((0 : Nat) : Int)) (ed_var 0 rfl (.inl rfl) rfl) ed_int rfl) ed_int (eqC_int _) (eqC_int _)) (by rw [eqb_int]; rfl))) fun _ => ew_and1 (Cp.et (cp_neNilC (ns := ((0 : Nat) : Int) :: ms) hr (ed_ixM (d := .cel (((0 : Nat) : Int) :: ms)) (ed_var 0 rfl (.inl rfl) rfl) ed_int rfl) (El.ev (el_lst ea_nil)) List.mem_cons_self))))) ?_
        exact bk_cons (bs_stM 0 rfl (.inl rfl) rfl (ed_popC (lones_st z (m + 1) 0) (ed_ixM (d := .cel (((0 : Nat) : Int) :: ms)) (ed_var 0 rfl (.inl rfl) rfl) ed_int rfl) ed_int) ed_int rfl (bk_nil ⟨rfl, rfl⟩))
    rintro ρ' s' ⟨rfl, rfl⟩
    refine bk_cons (bs_ifF (Cp.et ((cp_gt (ed_ixM (d := .int ((0 : Nat) : Int)) (ed_var 0 rfl (.inl rfl) rfl) ed_int rfl) ed_int).is (decide_eq_false (by omega)))) (bk_nil ?_))
    refine bk_cons (bs_set 3 (d := .int w) sc__law_draw.nd rfl (.inl rfl) (Ed.is (ed_bin (ed_pow (j := 5) ⟨by decide, by decide, ?b5⟩ (ed_intI T.bf (ed_bin (ed_bin (ed_ixM (d := .int ((z : Int))) (ed_var 0 rfl (.inl rfl) rfl) ed_int rfl) (ed_bin ed_int (ed_ixM (d := .int (((m + 1 : Nat) : Int))) (ed_var 0 rfl (.inl rfl) rfl) ed_int rfl) rfl (mulS (by decide) (by omega))) rfl trivial) ed_int rfl trivial)) ed_int) ed_int rfl (by show (0 : Int) < 2147483647; decide)) (congrArg D.int hw)) ?_)
    case b5 =>
      have : (0 : Int) ≤ (z : Int) + 7919 * ((m + 1 : Nat) : Int) + 104729 := by omega
      omega
    refine bk_cons (bs_ret (Ed.is (ed_bin (ed_bin (ed_bin (ed_pow (j := 3) ⟨by decide, by decide, ?b3⟩ (ed_intI T.bf (ed_bin (ed_bin (ed_bin (ed_var (d := .int w) 3 rfl (.inl rfl) rfl) ed_int rfl (mulS (by omega) (by decide))) (ed_bin ed_int (ed_ixM (d := .int (((m + 1 : Nat) : Int))) (ed_var 0 rfl (.inl rfl) rfl) ed_int rfl) rfl (mulS (by decide) (by omega))) rfl trivial) ed_int rfl trivial)) ed_int) ed_int rfl (by show (0 : Int) < 1000000007; decide)) ed_int rfl (wide_div (i := (w * 48271 + 30011 * ((m + 1 : Nat) : Int) + 29) ^ 3 % 1000000007) (b := 60) (by decide) (by decide) (by decide) (by decide))) (ed_var 1 rfl (.inl rfl) rfl) rfl (by show (0 : Int) < many; omega)) (congrArg D.int (Int.toNat_of_nonneg h9).symm)) ⟨rfl, rfl⟩)
    case b3 =>
      have : (0 : Int) ≤ w * 48271 + 30011 * ((m + 1 : Nat) : Int) + 29 := by omega
      omega
/-- one of a list -/
theorem rn_pick (T : Tx E) {n : Nat} {xs : List D} (h : St n s) (hn : n < 2 ^ 40) (hx : xs ≠ []) (hx2 : xs.length < 2 ^ 60) : ∃ (d : D) (s' : Sx), d ∈ xs ∧ St (n + 1) s' ∧ Rn E 2 "_law_pick" [.mut, .lst xs] s d s' := by
  obtain ⟨i, s', hi, h', R⟩ := rn_draw T h hn (many := xs.length) (List.length_pos_iff.mpr hx) hx2
  refine ⟨xs[i], s', List.getElem_mem hi, h', ?_⟩
  have kd : s.isSome = s'.isSome := by rw [h.some, h'.some]
  refine T.d__law_pick.rn sc__law_pick kd rfl fun fa cdv A outer sh H0 EX S0 p hr => ?_
  conv => arg 2; whnf
  refine bk_cons (bs_ret (ed_ix (ed_var 1 rfl (.inl rfl) rfl) (ed_cl (ea_cons (ed_var 0 rfl (.inl rfl) rfl) (ea_cons (ed_len T.bf (ed_var 1 rfl (.inl rfl) rfl) rfl) ea_nil)) (hr.mono (by decide)) R) ?_) ⟨rfl, rfl⟩)
  show atI xs (i : Int) = some xs[i]
  unfold atI ixN
  simp [hi]
theorem rn_pickM (T : Tx E) {α : Type} {n : Nat} (f : α → D) (ls : List α) (h : St n s) (hn : n < 2 ^ 40) (hx : ls ≠ []) (hx2 : ls.length < 2 ^ 60) : ∃ (l : α) (s' : Sx), l ∈ ls ∧ St (n + 1) s' ∧ Rn E 2 "_law_pick" [.mut, .lst (ls.map f)] s (f l) s' := by
  obtain ⟨d, s', m, h', R⟩ := rn_pick T h hn (xs := ls.map f) (by simpa using hx) (by simpa using hx2)
  obtain ⟨l, ml, rfl⟩ := List.mem_map.mp m
  exact ⟨l, s', ml, h', R⟩
/-- the stream of a script -/
theorem rn_start (T : Tx E) {ns : List Int} (hl : ns.length < 2 ^ 20) : ∃ (ms : List Int) (z : Nat), (∀ x ∈ ms, 0 ≤ x) ∧ z < 2 ^ 31 ∧ RnC E 1 "_law_start" [.scr ns] ms [.int z, .int ((0 : Nat) : Int), .int ((0 : Nat) : Int)] := by
  let fold : Nat → Int := fun i => (ns.take i).foldl (fun v o => (v * 31 + o + 7) % 2147483629) 17
  have hf : ∀ i, 0 ≤ fold i ∧ fold i < 2 ^ 31 := fun i => by
    suffices ∀ (l : List Int) (v : Int), 0 ≤ v ∧ v < 2 ^ 31 → 0 ≤ (l.foldl (fun v o => (v * 31 + o + 7) % 2147483629) v) ∧ (l.foldl (fun v o => (v * 31 + o + 7) % 2147483629) v) < 2 ^ 31 from this _ _ (by decide)
    intro l
    induction l with
    | nil => exact fun v h => h
    | cons o l ih =>
      intro v _
      refine ih _ ?_
      have h1 := Int.emod_lt_of_pos (v * 31 + o + 7) (show (0 : Int) < 2147483629 by decide)
      have h2 := Int.emod_nonneg (v * 31 + o + 7) (show (2147483629 : Int) ≠ 0 by decide)
      exact ⟨h2, Int.lt_trans h1 (by decide)⟩
  have hfl := hf ns.length
  refine ⟨ns.filter fun x => decide (10 ^ 18 ≤ x), (fold ns.length).toNat, fun x m => ?_, by omega, ?_⟩
  · have := of_decide_eq_true (List.mem_filter.mp m).2
    omega
  refine T.d__law_start.rnC sc__law_start rfl fun fa cdv A outer sh H0 EX S0 p hr => ?_
  conv => arg 2; whnf
  refine bkc_cons (bs_set 1 (d := .int (fold 0)) sc__law_start.nd rfl (.inl rfl) ed_int ⟨rfl, ?_⟩)
  refine bkc_cons (bs_for PassesOwn.never rfl (ei_scr (ed_var 0 rfl (.inl rfl) rfl)) (fun i ρ s' => s' = none ∧ ∃ g, ρ = [.val (.scr ns), .val (.int (fold i)), g]) ⟨rfl, _, rfl⟩ ?_ ?_)
  · rintro i d ρ' s' hi ⟨rfl, g, rfl⟩
    rw [List.getElem?_map] at hi
    cases e : ns[i]? with
    | none => rw [e] at hi; cases hi
    | some o =>
      rw [e] at hi; cases hi
      have h1 := hf i
      refine ⟨_, _, eg_name 2 sc__law_start.nd rfl (.inl rfl), bk_cons (bs_set 1 sc__law_start.nd rfl (.inl rfl) (ed_bin (ed_intI T.bf (ed_bin (ed_bin (ed_bin (ed_var (d := .int (fold i)) 1 rfl (.inl rfl) rfl) ed_int rfl (mulS (by omega) (by decide))) (ed_var (d := .int o) 2 rfl (.inl rfl) rfl) rfl trivial) ed_int rfl trivial)) ed_int rfl (by show (0 : Int) < 2147483629; decide)) (bk_nil ⟨rfl, .val (.int o), ?_⟩))⟩
      have e2 : fold (i + 1) = (fold i * 31 + o + 7) % 2147483629 := by
        show (ns.take (i + 1)).foldl _ _ = _
        rw [List.take_add_one, e]
        simp [fold]
      rw [e2]; rfl
  · rintro ρ' s' ⟨rfl, g, rfl⟩
    rw [List.length_map]
    refine ⟨rfl, bkc_ret (El.is (el_filter [("_law_cell", 2)] id (fun d => match d with | .int x => decide (10 ^ 18 ≤ x) | _ => false) rfl sc__law_start.nd (ei_scr (ed_var (d := .scr ns) 0 rfl (.inl rfl) rfl)) (blkOk_by rfl) (by rw [List.length_map]; exact Nat.le_trans (Nat.le_of_lt hl) (by decide)) fun i d hi => ?_) ?_) (ea_cons (Ed.is (ed_var (d := .int (fold ns.length)) 1 rfl (.inl rfl) rfl) (congrArg D.int (Int.toNat_of_nonneg hfl.1).symm)) (ea_cons ed_int (ea_cons ed_int ea_nil)))⟩
    · rw [List.getElem?_map] at hi
      cases e : ns[i]? with
      | none => rw [e] at hi; cases hi
      | some o =>
        rw [e] at hi; cases hi
        exact ⟨_, _, fun c => eg_name 2 sc__law_start.nd rfl (.inl rfl), by decide, fun c => Cp.et (cp_ge (ed_var (d := .int o) 2 rfl (.inl rfl) rfl) (ed_pow (i := 10) (j := 18) ⟨by decide, by decide, by decide⟩ ed_int ed_int)), fun _ c => ed_var (d := .int o) 2 rfl (.inl rfl) rfl⟩
    · rw [List.map_id, List.filter_map]; rfl
end Law
set_option Elab.async false
set_option linter.all false
set_option maxRecDepth 100000
/-! what levelled tells -/
namespace Gh
open PySem PySem.Spec PyProof.Rows L2
theorem foldl_fadd {r : Rat} : ∀ (L : List Fo) (a : Fo), ev (L.foldl fadd a) r = ev a r + (L.map (ev · r)).sum
  | [], a => by simp; grind
  | f :: L, a => by
    rw [List.foldl_cons, foldl_fadd L, ev_add, List.map_cons, List.sum_cons]; grind
theorem ev_sumF {r : Rat} (L : List Fo) : ev (sumF L) r = (L.map (ev · r)).sum := by
  unfold sumF; rw [foldl_fadd, ev_zero]; grind
/-- the size at a level's value -/
def pvl (r : Rat) (x : Itm) (up : Bool) (μ : Rat) : Rat := clv (ev x.lo r) (hiV r x) (ev x.b r + μ * (stepI x up : Int))
theorem ev_hsz' {r : Rat} {x : Itm} {l : Fo} {up : Bool} : ev (hsz r l up x) r = pvl r x up (ev l r) := ev_hsz
theorem ev_totF {r : Rat} {items : List Itm} {l : Fo} {up : Bool} : ev (totF r items l up) r = (items.map fun x => pvl r x up (ev l r)).sum := by
  unfold totF; rw [ev_sumF, List.map_map]
  congr 1
  exact List.map_congr_left fun x _ => ev_hsz'
/-! sorted levels -/
def Asc (r : Rat) (L : List Fo) : Prop := L.Pairwise fun f g => ev f r ≤ ev g r
theorem plc_le {r : Rat} {l : Fo} : ∀ L : List Fo, plc r l L ≤ L.length
  | [] => Nat.le_refl 0
  | f :: fs => by
    unfold plc
    split
    · exact Nat.succ_le_succ (plc_le fs)
    · exact Nat.zero_le _
theorem plc_take {r : Rat} {l : Fo} : ∀ (L : List Fo), ∀ f ∈ L.take (plc r l L), ev f r ≤ ev l r
  | [], f, m => by simp at m
  | g :: gs, f, m => by
    unfold plc at m
    split at m
    · rename_i h
      rw [List.take_succ_cons] at m
      rcases List.mem_cons.mp m with rfl | m
      · exact h
      · exact plc_take gs f m
    · simp at m
theorem plc_drop {r : Rat} {l : Fo} : ∀ (L : List Fo), Asc r L → ∀ f ∈ L.drop (plc r l L), ev l r < ev f r
  | [], _, f, m => by simp at m
  | g :: gs, a, f, m => by
    unfold plc at m
    obtain ⟨a1, a2⟩ := List.pairwise_cons.mp a
    split at m
    · rw [List.drop_succ_cons] at m
      exact plc_drop gs a2 f m
    · rename_i h
      rw [List.drop_zero] at m
      rcases List.mem_cons.mp m with rfl | m
      · grind
      · have := a1 f m
        grind
theorem insL_asc {r : Rat} {l : Fo} {L : List Fo} (a : Asc r L) : Asc r (insL r L l) := by
  unfold insL
  split
  · have t := plc_take (r := r) (l := l) L
    have d := plc_drop (r := r) (l := l) L a
    have aa : Asc r (L.take (plc r l L) ++ L.drop (plc r l L)) := by rw [List.take_append_drop]; exact a
    obtain ⟨p1, p2, p3⟩ := List.pairwise_append.mp aa
    unfold Asc
    rw [List.append_assoc]
    refine List.pairwise_append.mpr ⟨p1, List.pairwise_cons.mpr ⟨fun f m => ?_, p2⟩, fun f m g m' => ?_⟩
    · have := d f m; grind
    · rcases List.mem_cons.mp m' with rfl | m'
      · exact t f m
      · exact p3 f m g m'
  · exact a
theorem insL_of {r : Rat} {l f : Fo} {L : List Fo} (m : f ∈ insL r L l) : f ∈ L ∨ f = l := by
  unfold insL at m
  split at m
  · rcases List.mem_append.mp m with m | m
    · rcases List.mem_append.mp m with m | m
      · exact .inl (List.mem_of_mem_take m)
      · exact .inr (List.mem_singleton.mp m)
    · exact .inl (List.mem_of_mem_drop m)
  · exact .inl m
theorem insL_head {r : Rat} {l f : Fo} {t : List Fo} : ∃ t', insL r (f :: t) l = f :: t' ∧ (ev f r ≤ ev l r → l ∈ insL r (f :: t) l) := by
  unfold insL
  by_cases h : ev f r ≤ ev l r
  · have e : plc r l (f :: t) = plc r l t + 1 := by show (if _ then _ else _) = _; rw [if_pos h]
    rw [e, if_pos (by omega)]
    exact ⟨_, by rw [List.take_succ_cons, List.cons_append, List.cons_append], fun _ => List.mem_append_left _ (List.mem_append_right _ (List.mem_singleton.mpr rfl))⟩
  · have e : plc r l (f :: t) = 0 := by show (if _ then _ else _) = _; rw [if_neg h]
    rw [e, if_neg (by omega)]
    exact ⟨t, rfl, fun z => absurd z h⟩
theorem fold_insL {r : Rat} : ∀ (ls : List Fo) (t : List Fo), Asc r ((0, 0) :: t) → ∃ t', ls.foldl (insL r) ((0, 0) :: t) = (0, 0) :: t' ∧ Asc r ((0, 0) :: t') ∧ (∀ f ∈ t, f ∈ t') ∧ (∀ l ∈ ls, 0 ≤ ev l r → l ∈ (0, 0) :: t') ∧ ∀ f ∈ t', f = (0, 0) ∨ f ∈ t ∨ f ∈ ls
  | [], t, a => ⟨t, rfl, a, fun _ m => m, (fun _ m => nomatch m), fun _ m => .inr (.inl m)⟩
  | l :: ls, t, a => by
    obtain ⟨t1, e1, m1⟩ := insL_head (r := r) (l := l) (f := (0, 0)) (t := t)
    have a1 : Asc r ((0, 0) :: t1) := by rw [← e1]; exact insL_asc a
    obtain ⟨t2, e2, a2, s2, m2, k2⟩ := fold_insL ls t1 a1
    have sub : ∀ f ∈ t, f ∈ t1 := fun f m => by
      -- t = tail, the head is put first
      unfold insL at e1
      split at e1
      · rename_i hp
        have hq := plc_le (r := r) (l := l) ((0, 0) :: t)
        obtain ⟨n, hn⟩ : ∃ n, plc r l ((0, 0) :: t) = n + 1 := ⟨plc r l ((0, 0) :: t) - 1, by omega⟩
        rw [hn, List.take_succ_cons, List.drop_succ_cons, List.cons_append, List.cons_append] at e1
        injection e1 with _ e1
        rw [← e1]
        rw [← List.take_append_drop n t] at m
        rcases List.mem_append.mp m with m | m
        · exact List.mem_append_left _ (List.mem_append_left _ m)
        · exact List.mem_append_right _ m
      · injection e1 with _ e1
        rw [← e1]; exact m
    refine ⟨t2, by rw [List.foldl_cons, e1, e2], a2, fun f m => s2 f (sub f m), fun g m h0 => ?_, fun f m => ?_⟩
    · rcases List.mem_cons.mp m with rfl | m
      · have := m1 (by rw [ev_zero]; exact h0)
        rw [e1] at this
        rcases List.mem_cons.mp this with z | m
        · rw [z]; exact List.mem_cons_self
        · exact List.mem_cons_of_mem _ (s2 _ m)
      · exact m2 g m h0
    · rcases k2 f m with z | m | m
      · exact .inl z
      · have : f ∈ insL r ((0, 0) :: t) l := by rw [e1]; exact List.mem_cons_of_mem _ m
        rcases insL_of this with m | rfl
        · rcases List.mem_cons.mp m with z | m
          · exact .inl z
          · exact .inr (.inl m)
        · exact .inr (.inr List.mem_cons_self)
      · exact .inr (.inr (List.mem_cons_of_mem _ m))
theorem turns_spec (r : Rat) (items : List Itm) (up : Bool) : ∃ t, turnsF r items up = (0, 0) :: t ∧ Asc r ((0, 0) :: t) ∧ (∀ x ∈ items, ∀ l ∈ turnsOf x up, 0 ≤ ev l r → l ∈ (0, 0) :: t) ∧ ∀ f ∈ t, f = (0, 0) ∨ ∃ x ∈ items, f ∈ turnsOf x up := by
  obtain ⟨t, e, a, _, m, k⟩ := fold_insL (r := r) (items.flatMap fun x => turnsOf x up) [] (List.pairwise_cons.mpr ⟨(fun _ m => nomatch m), .nil⟩)
  refine ⟨t, e, a, fun x mx l ml h => m l (List.mem_flatMap.mpr ⟨x, mx, ml⟩) h, fun f mf => ?_⟩
  rcases k f mf with z | z | z
  · exact .inl z
  · cases z
  · exact .inr (List.mem_flatMap.mp z)
theorem here_spec {r : Rat} {items : List Itm} {room : Fo} {up : Bool} : ∀ (ls : List Fo) (cur : Fo), ∃ pre post, cur :: ls = pre ++ hereF r items room up cur ls :: post ∧ (∀ l, post.head? = some l → stopF r items room up l) ∧ (hereF r items room up cur ls = cur ∨ ¬ stopF r items room up (hereF r items room up cur ls))
  | [], cur => ⟨[], [], rfl, (fun _ h => nomatch h), .inl rfl⟩
  | l :: ls, cur => by
    unfold hereF
    split
    · rename_i h
      exact ⟨[], l :: ls, rfl, fun m e => by cases e; exact h, .inl rfl⟩
    · rename_i h
      obtain ⟨pre, post, e1, e2, e3⟩ := here_spec (r := r) (items := items) (room := room) (up := up) ls l
      refine ⟨cur :: pre, post, by rw [List.cons_append, ← e1], e2, .inr ?_⟩
      rcases e3 with z | z
      · rw [z]; exact h
      · exact z
end Gh
set_option Elab.async false
set_option linter.all false
set_option maxRecDepth 100000
/-! levelled: sizes at one level -/
namespace Gh
open PySem PySem.Spec PyProof.Rows L2
theorem inv_mul {n : Nat} (h : 0 < n) : (1 / (n : Rat)) * (n : Rat) = 1 := by
  have : (n : Rat) ≠ 0 := by
    intro z
    have : n = 0 := by exact_mod_cast z
    omega
  grind
theorem nat_nonneg (n : Nat) : (0 : Rat) ≤ (n : Rat) := by exact_mod_cast Nat.zero_le n
theorem nat_pos {n : Nat} (h : 0 < n) : (0 : Rat) < (n : Rat) := by exact_mod_cast h
theorem stepI_up (x : Itm) : ((stepI x true : Int) : Rat) = (x.g : Rat) := by
  show (((x.g : Nat) : Int) : Rat) = _
  exact Rat.intCast_natCast _
theorem stepI_dn (x : Itm) : ((stepI x false : Int) : Rat) = -(x.w : Rat) := by
  show ((0 - ((x.w : Nat) : Int) : Int) : Rat) = _
  rw [Rat.intCast_sub, Rat.intCast_natCast]
  grind
/-- a level's product against another one's -/
theorem lt_mul {h t g : Rat} (hg : 0 < g) : h < t ↔ h * g < t * g := by
  constructor
  · intro z; exact Rat.mul_lt_mul_of_pos_right z hg
  · intro z
    refine Decidable.byContradiction fun n => ?_
    have := Rat.mul_le_mul_of_nonneg_right (Rat.not_lt.mp n) (Rat.le_of_lt hg)
    grind
/-- from a level to a later one, no bound met between -/
theorem pv_lin {r : Rat} {x : Itm} {up : Bool} {l : Fo} {μ : Rat} (ok : ItmOk r x) (hm : ev l r ≤ μ) (nt : ∀ t ∈ turnsOf x up, ¬ (ev l r < ev t r ∧ ev t r < μ)) :
    pvl r x up μ = pvl r x up (ev l r) + (μ - ev l r) * (if up then (freeN r l up x : Rat) else -(freeN r l up x : Rat)) := by
  have hl : ∀ m, hiV r x = some m → ev x.lo r ≤ m := fun m e => by
    unfold hiV at e
    cases e2 : x.hi with
    | none => rw [e2] at e; cases e
    | some f => rw [e2] at e; cases e; exact ok f e2
  generalize hh : ev l r = h at hm nt
  cases up with
  | true =>
    have g0 := nat_nonneg x.g
    have key : ∀ β ∈ bnds x, ¬ (ev x.b r + h * x.g < ev β r ∧ ev β r < ev x.b r + μ * x.g) := fun β mβ z => by
      have gp : 0 < x.g := by
        rcases Nat.eq_zero_or_pos x.g with e | e
        · rw [e] at z; simp at z; grind
        · exact e
      have gq := nat_pos gp
      refine nt (turnF x true β) ?_ ?_
      · unfold turnsOf
        rw [if_pos (show 0 < stepN x true from gp)]
        exact List.mem_map.mpr ⟨β, mβ, rfl⟩
      · have e : ev (turnF x true β) r * (x.g : Rat) = ev β r - ev x.b r := by
          unfold turnF farF
          rw [ev_scl, if_pos rfl, ev_sub]
          have := inv_mul gp
          show (ev β r - ev x.b r) * (1 / (x.g : Rat)) * (x.g : Rat) = _
          rw [Rat.mul_assoc, this, Rat.mul_one]
        constructor
        · rw [lt_mul gq, e]; grind
        · rw [lt_mul gq, e]; grind
    have le : ev x.b r + h * x.g ≤ ev x.b r + μ * x.g := by
      have := Rat.mul_le_mul_of_nonneg_right hm g0
      grind
    have c := clv_up (d := 0) (lo := ev x.lo r) (hi := hiV r x) (x := ev x.b r + h * x.g) (y := ev x.b r + μ * x.g) hl le (key x.lo List.mem_cons_self) (fun m e => by
      unfold hiV at e
      cases e2 : x.hi with
      | none => rw [e2] at e; cases e
      | some f =>
        rw [e2] at e; cases e
        exact key f (by unfold bnds; rw [e2]; exact List.mem_cons_of_mem _ (List.mem_singleton.mpr rfl)))
    show clv _ _ _ = clv _ _ _ + _
    rw [stepI_up, c]
    have fe : (freeN r l true x : Rat) = if ev x.lo r ≤ ev x.b r + h * x.g ∧ (∀ m, hiV r x = some m → ¬ m ≤ ev x.b r + h * x.g) then (x.g : Rat) else 0 := by
      unfold freeN
      rw [if_pos rfl, ev_raw, hh, stepI_up]
      have eq : (∀ m, x.hi = some m → ¬ ev m r ≤ ev x.b r + h * x.g) ↔ (∀ m, hiV r x = some m → ¬ m ≤ ev x.b r + h * x.g) := by
        unfold hiV
        cases x.hi with
        | none => exact ⟨(fun _ m e => nomatch e), (fun _ m e => nomatch e)⟩
        | some f => exact ⟨fun z m e => by cases e; exact z f rfl, fun z m e => by cases e; exact z _ rfl⟩
      simp only [eq]
      split
      · rfl
      · rfl
    rw [if_pos rfl, fe]
    by_cases hc : ev x.lo r ≤ ev x.b r + h * x.g ∧ (∀ m, hiV r x = some m → ¬ m ≤ ev x.b r + h * x.g)
    · rw [if_pos hc, if_pos hc]; grind
    · rw [if_neg hc, if_neg hc]; grind
  | false =>
    have g0 := nat_nonneg x.w
    have key : ∀ β ∈ bnds x, ¬ (ev β r < ev x.b r + h * -(x.w : Rat) ∧ ev x.b r + μ * -(x.w : Rat) < ev β r) := fun β mβ z => by
      have gp : 0 < x.w := by
        rcases Nat.eq_zero_or_pos x.w with e | e
        · rw [e] at z; simp at z; grind
        · exact e
      have gq := nat_pos gp
      refine nt (turnF x false β) ?_ ?_
      · unfold turnsOf
        rw [if_pos (show 0 < stepN x false from gp)]
        exact List.mem_map.mpr ⟨β, mβ, rfl⟩
      · have e : ev (turnF x false β) r * (x.w : Rat) = ev x.b r - ev β r := by
          unfold turnF farF
          rw [ev_scl, if_neg (by decide), ev_sub]
          have := inv_mul gp
          show (ev x.b r - ev β r) * (1 / (x.w : Rat)) * (x.w : Rat) = _
          rw [Rat.mul_assoc, this, Rat.mul_one]
        constructor
        · rw [lt_mul gq, e]; grind
        · rw [lt_mul gq, e]; grind
    have le : ev x.b r + μ * -(x.w : Rat) ≤ ev x.b r + h * -(x.w : Rat) := by
      have := Rat.mul_le_mul_of_nonneg_right hm g0
      grind
    have c := clv_dn (d := 0) (lo := ev x.lo r) (hi := hiV r x) (x := ev x.b r + h * -(x.w : Rat)) (y := ev x.b r + μ * -(x.w : Rat)) hl le (key x.lo List.mem_cons_self) (fun m e => by
      unfold hiV at e
      cases e2 : x.hi with
      | none => rw [e2] at e; cases e
      | some f =>
        rw [e2] at e; cases e
        exact key f (by unfold bnds; rw [e2]; exact List.mem_cons_of_mem _ (List.mem_singleton.mpr rfl)))
    show clv _ _ _ = clv _ _ _ + _
    rw [stepI_dn, c]
    have fe : (freeN r l false x : Rat) = if ¬ ev x.b r + h * -(x.w : Rat) ≤ ev x.lo r ∧ (∀ m, hiV r x = some m → ev x.b r + h * -(x.w : Rat) ≤ m) then (x.w : Rat) else 0 := by
      unfold freeN
      rw [if_neg (by decide), ev_raw, hh, stepI_dn]
      have eq : (∀ m, x.hi = some m → ev x.b r + h * -(x.w : Rat) ≤ ev m r) ↔ (∀ m, hiV r x = some m → ev x.b r + h * -(x.w : Rat) ≤ m) := by
        unfold hiV
        cases x.hi with
        | none => exact ⟨(fun _ m e => nomatch e), (fun _ m e => nomatch e)⟩
        | some f => exact ⟨fun z m e => by cases e; exact z f rfl, fun z m e => by cases e; exact z _ rfl⟩
      simp only [eq]
      split
      · rfl
      · rfl
    rw [if_neg (show ¬ (false = true) by decide), fe]
    by_cases hc : ¬ ev x.b r + h * -(x.w : Rat) ≤ ev x.lo r ∧ (∀ m, hiV r x = some m → ev x.b r + h * -(x.w : Rat) ≤ m)
    · rw [if_pos hc, if_pos hc]; grind
    · rw [if_neg hc, if_neg hc]; grind
def sgn (up : Bool) : Rat := if up then 1 else -1
theorem sum_lin {r : Rat} {up : Bool} {l : Fo} {μ : Rat} : ∀ (items : List Itm), (∀ x ∈ items, ItmOk r x) → ev l r ≤ μ → (∀ x ∈ items, ∀ t ∈ turnsOf x up, ¬ (ev l r < ev t r ∧ ev t r < μ)) →
    (items.map fun x => pvl r x up μ).sum = (items.map fun x => pvl r x up (ev l r)).sum + (μ - ev l r) * (sgn up * ((items.map (freeN r l up)).sum : Nat))
  | [], _, _, _ => by
    simp only [List.map_nil, List.sum_nil]
    show (0 : Rat) = 0 + (μ - ev l r) * (sgn up * ((0 : Nat) : Rat))
    have : ((0 : Nat) : Rat) = 0 := rfl
    rw [this]; grind
  | x :: items, ok, hm, nt => by
    have ih := sum_lin items (fun y m => ok y (List.mem_cons_of_mem _ m)) hm (fun y m => nt y (List.mem_cons_of_mem _ m))
    have p := pv_lin (ok x List.mem_cons_self) hm (nt x List.mem_cons_self)
    simp only [List.map_cons, List.sum_cons]
    rw [ih, p, Rat.natCast_add]
    unfold sgn
    cases up <;> simp <;> grind
end Gh
set_option Elab.async false
set_option linter.all false
set_option maxRecDepth 100000
/-! levelled: all sizes stand at one level -/
namespace Gh
open PySem PySem.Spec PyProof.Rows L2
theorem sgn_way (up : Bool) : ((wayI up : Int) : Rat) = sgn up := by cases up <;> rfl
theorem natCast_zero' : ((0 : Nat) : Rat) = 0 := rfl
structure Lev (r : Rat) (items : List Itm) (room : Fo) (out : List Fo × Fo) : Prop where
  ex : ∃ μ : Rat, 0 ≤ μ ∧ out.1.map (ev · r) = items.map (fun x => pvl r x (upF r items room) μ) ∧ ev out.2 r = μ * sgn (upF r items room) ∧
    ((out.1.map (ev · r)).sum = ev room r ∨ (∀ ν, μ ≤ ν → ∀ x ∈ items, pvl r x (upF r items room) ν = pvl r x (upF r items room) μ) ∧ (if upF r items room = true then (out.1.map (ev · r)).sum ≤ ev room r else ev room r ≤ (out.1.map (ev · r)).sum))
theorem mem_le_sum : ∀ {L : List Nat} {n : Nat}, n ∈ L → n ≤ L.sum
  | a :: L, n, m => by
    rw [List.sum_cons]
    rcases List.mem_cons.mp m with rfl | m
    · omega
    · have := mem_le_sum m
      omega
theorem free_zero {r : Rat} {up : Bool} {l : Fo} {items : List Itm} (h : (items.map (freeN r l up)).sum = 0) : ∀ x ∈ items, freeN r l up x = 0 := by
  intro x m
  have := mem_le_sum (List.mem_map.mpr ⟨x, m, rfl⟩ : freeN r l up x ∈ items.map (freeN r l up))
  omega
theorem lev_spec {r : Rat} {items : List Itm} {room : Fo} (ok : ∀ x ∈ items, ItmOk r x) : Lev r items room (levF r items room) := by
  obtain ⟨t, et, asc, all, _⟩ := turns_spec r items (upF r items room)
  obtain ⟨pre, post, eh, hs, hn⟩ := here_spec (r := r) (items := items) (room := room) (up := upF r items room) t (0, 0)
  have hlev : levF r items room = levO r items room (upF r items room) (hereF r items room (upF r items room) (0, 0) t) := by
    unfold levF levH
    rw [et]; rfl
  rw [hlev]
  generalize hup : upF r items room = up at *
  generalize hh : hereF r items room up (0, 0) t = h at *
  -- the level is from 0 on
  have h0 : 0 ≤ ev h r := by
    rw [eh] at asc
    cases pre with
    | nil =>
      rw [List.nil_append] at eh
      injection eh with e1 e2
      rw [← e1, ev_zero]; exact Rat.le_refl
    | cons p pre =>
      rw [List.cons_append] at eh asc
      injection eh with e1 e2
      have := (List.pairwise_cons.mp asc).1 h (List.mem_append_right _ List.mem_cons_self)
      rw [← e1, ev_zero] at this
      exact this
  -- no bound is met between it and the next one
  have gap : ∀ μ, (∀ l, post.head? = some l → μ ≤ ev l r) → ∀ x ∈ items, ∀ l ∈ turnsOf x up, ¬ (ev h r < ev l r ∧ ev l r < μ) := fun μ hμ x mx l ml z => by
    have hl0 : 0 ≤ ev l r := Rat.le_of_lt (by grind)
    have m := all x mx l ml hl0
    rw [eh] at m asc
    obtain ⟨a1, a2, a3⟩ := List.pairwise_append.mp asc
    rcases List.mem_append.mp m with m | m
    · have := a3 l m h List.mem_cons_self
      grind
    · rcases List.mem_cons.mp m with rfl | m
      · grind
      · cases post with
        | nil => cases m
        | cons q post =>
          have hq := hμ q rfl
          rcases List.mem_cons.mp m with rfl | m
          · grind
          · have := (List.pairwise_cons.mp (List.pairwise_cons.mp a2).2).1 l m
            grind
  -- what is told at it is on this side of the room
  have side : if up = true then ev (totF r items h up) r ≤ ev room r else ev room r ≤ ev (totF r items h up) r := by
    rcases hn with z | z
    · rw [z]
      cases up with
      | true =>
        rw [if_pos rfl]
        exact of_decide_eq_true hup
      | false =>
        rw [if_neg (by decide)]
        have := of_decide_eq_false hup
        have e : ev (totF r items (0, 0) true) r = ev (totF r items (0, 0) false) r := by
          rw [ev_totF, ev_totF]
          congr 1
          refine List.map_congr_left fun x _ => ?_
          unfold pvl
          rw [ev_zero]
          congr 1
          grind
        rw [← e]
        exact Rat.le_of_lt (Rat.not_le.mp this)
    · unfold stopF at z
      cases up with
      | true =>
        rw [if_pos rfl] at z ⊢
        exact Rat.le_of_lt (Rat.not_le.mp z)
      | false =>
        rw [if_neg (by decide)] at z ⊢
        exact Rat.le_of_lt (Rat.not_le.mp z)
  rw [ev_totF] at side
  have szv : (items.map (hsz r h up)).map (ev · r) = items.map fun x => pvl r x up (ev h r) := by
    rw [List.map_map]
    exact List.map_congr_left fun x _ => ev_hsz'
  by_cases hst : (items.map (freeN r h up)).sum = 0
  · have fz := free_zero hst
    have still : ∀ ν, ev h r ≤ ν → (∀ l, post.head? = some l → ν ≤ ev l r) → ∀ x ∈ items, pvl r x up ν = pvl r x up (ev h r) := fun ν hν hp x mx => by
      rw [pv_lin (ok x mx) hν (gap ν hp x mx), fz x mx, natCast_zero']
      cases up <;> simp <;> grind
    unfold levO
    rw [if_pos hst]
    refine ⟨⟨ev h r, h0, ?_, ?_, ?_⟩⟩
    · rw [hup]; exact szv
    · rw [hup, ev_scl, sgn_way]
    · rw [hup, szv]
      cases hp : post with
      | nil =>
        right
        refine ⟨fun ν hν x mx => still ν hν (by rw [hp]; exact fun _ e => nomatch e) x mx, ?_⟩
        cases up with
        | true => rw [if_pos rfl] at side ⊢; exact side
        | false => rw [if_neg (by decide)] at side ⊢; exact side
      | cons q post' =>
        left
        have st := hs q (by rw [hp]; rfl)
        have hq : ev h r ≤ ev q r := by
          rw [eh, hp] at asc
          exact (List.pairwise_cons.mp (List.pairwise_append.mp asc).2.1).1 q List.mem_cons_self
        have e : (items.map fun x => pvl r x up (ev q r)) = items.map fun x => pvl r x up (ev h r) := List.map_congr_left fun x mx => still (ev q r) hq (by rw [hp]; intro l e; cases e; exact Rat.le_refl) x mx
        unfold stopF at st
        rw [ev_totF, e] at st
        cases up with
        | true =>
          rw [if_pos rfl] at side st
          exact Rat.le_antisymm side st
        | false =>
          rw [if_neg (by decide)] at side st
          exact Rat.le_antisymm st side
  · unfold levO
    rw [if_neg hst]
    generalize hN : (items.map (freeN r h up)).sum = N at hst
    have Np : 0 < N := Nat.pos_of_ne_zero hst
    have Nq := nat_pos Np
    have sv : ev (sumF (items.map (hsz r h up))) r = (items.map fun x => pvl r x up (ev h r)).sum := by rw [ev_sumF, szv]
    generalize hshare : fscl (fsub room (sumF (items.map (hsz r h up)))) (1 / (N : Rat)) = share
    have es : ev share r * (N : Rat) = ev room r - (items.map fun x => pvl r x up (ev h r)).sum := by
      rw [← hshare, ev_scl, ev_sub, sv, Rat.mul_assoc, inv_mul Np, Rat.mul_one]
    -- the level behind
    have hμ : ev h r ≤ ev h r + ev share r * sgn up := by
      suffices 0 ≤ ev share r * sgn up by grind
      refine Decidable.byContradiction fun n => ?_
      have := Rat.mul_lt_mul_of_pos_right (Rat.not_le.mp n) Nq
      cases up with
      | true => rw [if_pos rfl] at side; unfold sgn at this; simp at this; grind
      | false => rw [if_neg (by decide)] at side; unfold sgn at this; simp at this; grind
    have hnext : ∀ l, post.head? = some l → ev h r + ev share r * sgn up ≤ ev l r := fun l el => by
      have st := hs l el
      have hq : ev h r ≤ ev l r := by
        cases hp : post with
        | nil => rw [hp] at el; cases el
        | cons q post' =>
          rw [hp] at el; cases el
          rw [eh, hp] at asc
          exact (List.pairwise_cons.mp (List.pairwise_append.mp asc).2.1).1 l List.mem_cons_self
      have sl := sum_lin items ok hq (gap (ev l r) fun l' e => by rw [el] at e; cases e; exact Rat.le_refl)
      unfold stopF at st
      rw [ev_totF, sl, hN] at st
      refine Decidable.byContradiction fun n => ?_
      have := Rat.mul_lt_mul_of_pos_right (Rat.not_le.mp n) Nq
      cases up with
      | true => rw [if_pos rfl] at st; unfold sgn at this st; simp at this st; grind
      | false => rw [if_neg (by decide)] at st; unfold sgn at this st; simp at this st; grind
    have lin : ∀ x ∈ items, pvl r x up (ev h r + ev share r * sgn up) = pvl r x up (ev h r) + ev share r * (freeN r h up x : Rat) := fun x mx => by
      rw [pv_lin (ok x mx) hμ (gap _ hnext x mx)]
      cases up with
      | true => unfold sgn; simp; grind
      | false => unfold sgn; simp; grind
    have zw : (List.zipWith (fun s (st : Nat) => fadd s (fscl share (st : Rat))) (items.map (hsz r h up)) (items.map (freeN r h up))).map (ev · r) = items.map fun x => pvl r x up (ev h r + ev share r * sgn up) := by
      rw [List.zipWith_map, List.map_zipWith, List.zipWith_self]
      refine List.map_congr_left fun x mx => ?_
      show ev (fadd (hsz r h up x) (fscl share (freeN r h up x : Rat))) r = _
      rw [ev_add, ev_scl, ev_hsz', lin x mx]
    refine ⟨⟨ev h r + ev share r * sgn up, by grind, ?_, ?_, ?_⟩⟩
    · rw [hup]; exact zw
    · rw [hup, ev_add, ev_scl, sgn_way]
      cases up <;> unfold sgn <;> simp <;> grind
    · left
      rw [zw]
      have sl := sum_lin items ok hμ (gap _ hnext)
      rw [sl, hN]
      cases up with
      | true => unfold sgn; simp; grind
      | false => unfold sgn; simp; grind
end Gh
set_option Elab.async false
set_option linter.all false
set_option maxRecDepth 100000
set_option maxHeartbeats 4000000
/-! (a if c else b) as a test -/
namespace Gh
open PySem PySem.Spec PyProof.Rows L2
section
variable {F : Fx} {ρ : List G} {s s1 s2 : Sx} {a b c : Expr} {pos : Pos}
theorem et_ifT {x : Bool} (hc : Et F ρ s c true s1) (ha : Et F ρ s1 a x s2) : Et F ρ s (.IfExp c a b pos) x s2 :=
  ⟨hc.1.trans ha.1, fun O σ H f Q q pins sh I => isTrue_IfExp (thn (hc.2 O σ H f (fun k H1 => k = true ∧ Fm F O σ H1 ρ s1 ∧ XE F H H1) (fun H1 f1 x1 => ⟨rfl, f1, x1⟩) pins sh I) fun k sh1 hk => by
    obtain ⟨H1, I1, rfl, f1, x1⟩ := hk
    exact ha.2 O σ H1 f1 Q (fun H2 f2 x2 => q H2 f2 (x1.trans x2)) pins sh1 I1)⟩
theorem et_ifF {x : Bool} (hc : Et F ρ s c false s1) (hb : Et F ρ s1 b x s2) : Et F ρ s (.IfExp c a b pos) x s2 :=
  ⟨hc.1.trans hb.1, fun O σ H f Q q pins sh I => isTrue_IfExp (thn (hc.2 O σ H f (fun k H1 => k = false ∧ Fm F O σ H1 ρ s1 ∧ XE F H H1) (fun H1 f1 x1 => ⟨rfl, f1, x1⟩) pins sh I) fun k sh1 hk => by
    obtain ⟨H1, I1, rfl, f1, x1⟩ := hk
    exact hb.2 O σ H1 f1 Q (fun H2 f2 x2 => q H2 f2 (x1.trans x2)) pins sh1 I1)⟩
/-- *a among written things, a list or tuple -/
theorem ea_starS {q : Pos} {x : D} {xs ds : List D} {es : List Expr} (ha : Ed F ρ s a x s1) (hx : x = .lst xs ∨ x = .tup xs) (hr : Ea F ρ s1 es ds s2) (hs : starEach (.Starred a q :: es) F.X.env = (true, eval a F.X.env) :: starEach es F.X.env := by rfl) : Ea F ρ s (.Starred a q :: es) (xs ++ ds) s2 :=
  ⟨ha.1.trans hr.1, fun O σ H f Q k => wa (StX.pa_star pe_we pa_wa hs) (ha.2 O σ H f _ fun v H1 f1 x1 r1 => by
    rcases hx with rfl | rfl
    · cases r1 with
      | lst m h1 h2 => exact ⟨_, _, rfl, .inr (.inl (.inl h1)), hr.2 O σ H1 f1 _ fun vs H2 f2 x2 r2 => k _ _ f2 (x1.trans x2) ((h2.ext x2.xt).append r2)⟩
    · cases r1 with
      | tup h1 h2 => exact ⟨_, _, rfl, .inl h1.sq, hr.2 O σ H1 f1 _ fun vs H2 f2 x2 r2 => k _ _ f2 (x1.trans x2) ((h2.ext x2.xt).append r2)⟩)⟩
end
end Gh
set_option Elab.async false
set_option linter.all false
set_option maxRecDepth 100000
set_option maxHeartbeats 4000000
namespace Law
open PySem PySem.Spec PyProof.Rows L2 Gh
variable {E : En} {s : Sx}
/-- the top: defs and constants -/
structure Tc (E : En) : Prop extends Tx E where
  c_ZERO : Cst E "ZERO" (fr 0)
  c_ONE : Cst E "ONE" (fr 1)
  c_NOTHING : Cst E "NOTHING" (fp (0, 0))
def Zf (n : Nat) (f : Fo) : Prop := Sz n f.1 ∧ Sz n f.2
theorem Zf.mono {m n : Nat} {f : Fo} (h : Zf m f) (l : m ≤ n) : Zf n f := ⟨h.1.mono l, h.2.mono l⟩
theorem Zf.zero {n : Nat} (h : 0 < n := by decide) : Zf n (0, 0) := ⟨.zero h, .zero h⟩
theorem Zf.add {m n : Nat} {f g : Fo} (h : Zf m f) (k : Zf n g) : Zf (m + n + 1) (fadd f g) := ⟨h.1.add k.1, h.2.add k.2⟩
theorem Zf.sub {m n : Nat} {f g : Fo} (h : Zf m f) (k : Zf n g) : Zf (m + n + 1) (fsub f g) := ⟨h.1.sub k.1, h.2.sub k.2⟩
theorem Zf.scl {m n : Nat} {f : Fo} {q : Rat} (h : Zf m f) (k : Sz n q) : Zf (m + n) (fscl f q) := ⟨h.1.mul k, h.2.mul k⟩
theorem fr_int (i : Int) : fr (i : Rat) = .tup [.int i, .int 1] := by
  unfold fr
  rw [Rat.num_intCast, Rat.den_intCast]; rfl
theorem fr_nat (i : Nat) : fr (i : Rat) = .tup [.int i, .int 1] := by
  rw [← Rat.intCast_natCast]; exact fr_int _
theorem fr_inv {n : Nat} (h : 0 < n) : fr (1 / (n : Rat)) = .tup [.int 1, .int n] := by
  have e : (1 / (n : Rat)) = mkRat 1 n := by rw [Rat.mkRat_eq_div]; rfl
  unfold fr
  rw [e, mk_num _ _ (by omega), mk_den _ _ (by omega)]
  simp
theorem sz_inv {n : Nat} {m : Nat} (h : 0 < n) (h2 : n < 2 ^ m) : Sz m (1 / (n : Rat)) := by
  have e : (1 / (n : Rat)) = mkRat 1 n := by rw [Rat.mkRat_eq_div]; rfl
  rw [e]
  exact Sz.mk (by show 1 < 2 ^ m; omega) h2 (by omega)
theorem sz_int {i : Int} {m : Nat} (h : i.natAbs < 2 ^ m) (h2 : 0 < m := by decide) : Sz m (i : Rat) := by
  refine ⟨by rw [Rat.num_intCast]; exact h, by rw [Rat.den_intCast]; exact Nat.one_lt_two_pow (by omega)⟩
theorem sz_nat {i : Nat} {m : Nat} (h : i < 2 ^ m) (h2 : 0 < m := by decide) : Sz m (i : Rat) := by
  rw [← Rat.intCast_natCast]; exact sz_int (by simpa using h) h2
theorem rn_nat (T : Tx E) (i : Nat) : Rn E 2 "is_natural" [.int i] s (.bl true) s := by
  refine T.d_is_natural.rn sc_is_natural rfl rfl fun fa cdv A outer sh H0 EX S0 p hr => ?_
  conv => arg 2; whnf
  exact bk_cons (bs_ret (ed_andT (ed_cl (ea_cons (ed_var (d := .int i) 0 rfl (.inl rfl) rfl) ea_nil) (hr.mono (by decide)) ((rn_is_whole T (k := .int) rfl).is rfl)) (ed_one (Ed.is (Cp.ed (cp_ge (ed_var (d := .int i) 0 rfl (.inl rfl) rfl) ed_int)) (congrArg D.bl (decide_eq_true (by omega)))))) ⟨rfl, rfl⟩)
theorem rn_flat_form (T : Tc E) (q : Rat) : Rn E 1 "flat_form" [fr q] s (fp (q, 0)) s := by
  refine T.d_flat_form.rn sc_flat_form rfl rfl fun fa cdv A outer sh H0 EX S0 p hr => ?_
  conv => arg 2; whnf
  exact bk_cons (bs_ret (ed_tup (ea_cons (ed_var 0 rfl (.inl rfl) rfl) (ea_cons (ed_cst T.c_ZERO) ea_nil))) ⟨rfl, rfl⟩)
theorem rn_plus_form (T : Tc E) {f g : Fo} (hf : Zf 3000 f) (hg : Zf 3000 g) : Rn E 3 "plus_form" [fp f, fp g] s (fp (fadd f g)) s := by
  refine T.d_plus_form.rn sc_plus_form rfl rfl fun fa cdv A outer sh H0 EX S0 p hr => ?_
  conv => arg 2; whnf
  exact bk_cons (bs_ret (ed_tup (ea_cons (ed_cl (ea_cons (ed_ix (ed_var 0 rfl (.inl rfl) rfl) ed_int rfl) (ea_cons (ed_ix (ed_var 1 rfl (.inl rfl) rfl) ed_int rfl) ea_nil)) (hr.mono (by decide)) (rn_plus T.toTx hf.1 hg.1)) (ea_cons (ed_cl (ea_cons (ed_ix (ed_var 0 rfl (.inl rfl) rfl) ed_int rfl) (ea_cons (ed_ix (ed_var 1 rfl (.inl rfl) rfl) ed_int rfl) ea_nil)) (hr.mono (by decide)) (rn_plus T.toTx hf.2 hg.2)) ea_nil))) ⟨rfl, rfl⟩)
theorem rn_sub_form (T : Tc E) {f g : Fo} (hf : Zf 3000 f) (hg : Zf 3000 g) : Rn E 3 "minus_form" [fp f, fp g] s (fp (fsub f g)) s := rn_minus_form T.toTx hf.1 hf.2 hg.1 hg.2
theorem rn_scaled_form (T : Tc E) {f : Fo} {q : Rat} {d : D} (hd : d = fr q) (hf : Zf 3000 f) (hq : Sz 3000 q) : Rn E 3 "scaled_form" [fp f, d] s (fp (fscl f q)) s := by
  subst hd
  refine T.d_scaled_form.rn sc_scaled_form rfl rfl fun fa cdv A outer sh H0 EX S0 p hr => ?_
  conv => arg 2; whnf
  exact bk_cons (bs_ret (ed_tup (ea_cons (ed_cl (ea_cons (ed_ix (ed_var 0 rfl (.inl rfl) rfl) ed_int rfl) (ea_cons (ed_var 1 rfl (.inl rfl) rfl) ea_nil)) (hr.mono (by decide)) (rn_times T.toTx hf.1 hq)) (ea_cons (ed_cl (ea_cons (ed_ix (ed_var 0 rfl (.inl rfl) rfl) ed_int rfl) (ea_cons (ed_var 1 rfl (.inl rfl) rfl) ea_nil)) (hr.mono (by decide)) (rn_times T.toTx hf.2 hq)) ea_nil))) ⟨rfl, rfl⟩)
/-- a function that asks whether one form is at most another one, at r; of forms of few bits -/
structure Ask (E : En) (g : D) (r : Rat) (n : Nat) (s : Sx) : Prop where
  run : ∀ (f h : Fo), Zf n f → Zf n h → RnV E 4 g [fp f, fp h] s (.bl (decide (ev f r ≤ ev h r))) s
theorem rn_plain_ask (T : Tc E) {f g : Fo} (hf : Zf 3000 f) (hg : Zf 3000 g) : Rn E 2 "plain_ask" [fp f, fp g] s (.bl (decide (f.1 ≤ g.1))) s := by
  refine T.d_plain_ask.rn sc_plain_ask rfl rfl fun fa cdv A outer sh H0 EX S0 p hr => ?_
  conv => arg 2; whnf
  exact bk_cons (bs_ret (ed_cl (ea_cons (ed_ix (ed_var 0 rfl (.inl rfl) rfl) ed_int rfl) (ea_cons (ed_ix (ed_var 1 rfl (.inl rfl) rfl) ed_int rfl) ea_nil)) (hr.mono (by decide)) (rn_is_upto T.toTx hf.1 hg.1)) ⟨rfl, rfl⟩)
theorem ev_flat (f : Fo) : ev f 0 = f.1 := by unfold ev; grind
theorem ask_plain (T : Tc E) : ∃ fa, E.mg "plain_ask" = some (.ref fa) ∧ ∀ s, Ask E (.ref fa) 0 1500 s := by
  obtain ⟨fa, fd, F, hm, hb⟩ := T.d_plain_ask.ok
  refine ⟨fa, hm, fun s => ⟨fun f h hf hh => ?_⟩⟩
  have R := (rn_plain_ask (s := s) T (hf.mono (by decide)) (hh.mono (by decide))).v hm
  refine (R.mono (by decide)).is ?_
  rw [ev_flat, ev_flat]
theorem zf_cap {n : Nat} {r : Rat} {f : Fo} {hi : Option Fo} (zf : Zf n f) (zh : ∀ m, hi = some m → Zf n m) : Zf n (capF r f hi) := by
  cases hi with
  | none => exact zf
  | some m =>
    show Zf n (if ev f r ≤ ev m r then f else m)
    split
    · exact zf
    · exact zh m rfl
theorem zf_held {n : Nat} {r : Rat} {f lo : Fo} {hi : Option Fo} (zf : Zf n f) (zl : Zf n lo) (zh : ∀ m, hi = some m → Zf n m) : Zf n (held r f lo hi) := by
  unfold held
  split
  · exact zf_cap zf zh
  · exact zl
theorem rn_held_form (T : Tc E) {n : Nat} {g : D} {r : Rat} (A : Ask E g r n s) {f lo : Fo} {hi : Option Fo} (zf : Zf n f) (zl : Zf n lo) (zh : ∀ m, hi = some m → Zf n m) : Rn E 5 "held_form" [fp f, fp lo, hiD hi, g] s (fp (held r f lo hi)) s := by
  refine T.d_held_form.rn sc_held_form rfl rfl fun fa cdv A' outer sh H0 EX S0 p hr => ?_
  conv => arg 2; whnf
  refine bk_cons (bs_set (d := fp (capF r f hi)) (s1 := s) 4 sc_held_form.nd rfl (.inl rfl) ?_ ?_)
  · cases hi with
    | none => exact ed_ifF (Ew.et (ew_andF (Cp.et ((cp_notN (ed_var (d := .non) 2 rfl (.inl rfl) rfl)).is rfl)))) (ed_var (d := fp f) 0 rfl (.inl rfl) rfl)
    | some m =>
      by_cases h : ev f r ≤ ev m r
      · refine Ed.is (ed_ifF (Ew.et (ew_andT (Cp.et ((cp_notN (ed_var (d := fp m) 2 rfl (.inl rfl) rfl)).is rfl)) (ew_and1 (et_not (k := true) (et_val ((ed_clV 3 rfl (.inl rfl) rfl (ea_cons (ed_var (d := fp f) 0 rfl (.inl rfl) rfl) (ea_cons (ed_var (d := fp m) 2 rfl (.inl rfl) rfl) ea_nil)) (hr.mono (by decide)) (A.run f m zf (zh m rfl))).is (congrArg D.bl (decide_eq_true h)))))))) (ed_var (d := fp f) 0 rfl (.inl rfl) rfl)) ?_
        show _ = fp (if _ then _ else _)
        rw [if_pos h]
      · refine Ed.is (ed_ifT (Ew.et (ew_andT (Cp.et ((cp_notN (ed_var (d := fp m) 2 rfl (.inl rfl) rfl)).is rfl)) (ew_and1 (et_not (k := false) (et_val ((ed_clV 3 rfl (.inl rfl) rfl (ea_cons (ed_var (d := fp f) 0 rfl (.inl rfl) rfl) (ea_cons (ed_var (d := fp m) 2 rfl (.inl rfl) rfl) ea_nil)) (hr.mono (by decide)) (A.run f m zf (zh m rfl))).is (congrArg D.bl (decide_eq_false h)))))))) (ed_var (d := fp m) 2 rfl (.inl rfl) rfl)) ?_
        show _ = fp (if _ then _ else _)
        rw [if_neg h]
  · refine bk_cons (bs_ret (Ed.is (ed_if (et_val (ed_clV 3 rfl (.inl rfl) rfl (ea_cons (ed_var (d := fp lo) 1 rfl (.inl rfl) rfl) (ea_cons (ed_var (d := fp (capF r f hi)) 4 rfl (.inl rfl) rfl) ea_nil)) (hr.mono (by decide)) (A.run lo (capF r f hi) zl (zf_cap zf zh)))) (fun _ => (ed_var (d := fp (capF r f hi)) 4 rfl (.inl rfl) rfl)) (fun _ => (ed_var (d := fp lo) 1 rfl (.inl rfl) rfl))) ?_) ⟨rfl, rfl⟩)
    unfold held
    by_cases h : ev lo r ≤ ev (capF r f hi) r
    · rw [decide_eq_true h, if_pos h]; rfl
    · rw [decide_eq_false h, if_neg h]; rfl
end Law
set_option Elab.async false
set_option linter.all false
set_option maxRecDepth 100000
set_option maxHeartbeats 800000
namespace Law
open PySem PySem.Spec PyProof.Rows L2 Gh
variable {E : En} {s : Sx}
/-- few bits, bounds in order -/
structure Zi (x : Itm) : Prop where
  b : Zf 30 x.b
  lo : Zf 30 x.lo
  hi : ∀ m, x.hi = some m → Zf 30 m
  g : x.g < 2 ^ 10
  w : x.w < 2 ^ 10
theorem Zi.step {x : Itm} (z : Zi x) (up : Bool) : Sz 10 ((stepI x up : Int) : Rat) := by
  refine sz_int ?_
  have h1 := z.g
  have h2 := z.w
  cases up with
  | true => show ((x.g : Int)).natAbs < 2 ^ 10; omega
  | false => show (0 - (x.w : Int)).natAbs < 2 ^ 10; omega
theorem Zi.raw {x : Itm} (z : Zi x) {n : Nat} {l : Fo} (zl : Zf n l) (up : Bool) : Zf (n + 41) (rawS x l up) := (z.b.add (zl.scl (z.step up))).mono (by omega)
theorem Zi.hsz {x : Itm} (z : Zi x) {n : Nat} {r : Rat} {l : Fo} (zl : Zf n l) (up : Bool) : Zf (n + 41) (hsz r l up x) := zf_held (z.raw zl up) (z.lo.mono (by omega)) fun m e => (z.hi m e).mono (by omega)
theorem way_pos (up : Bool) : decide ((0 : Int) < wayI up) = up := by cases up <;> rfl
theorem rn_raw_size (T : Tc E) {x : Itm} {l : Fo} {up : Bool} (z : Zi x) (zl : Zf 1400 l) : Rn E 4 "raw_size" [itD x, fp l, .int (wayI up)] s (fp (rawS x l up)) s := by
  refine T.d_raw_size.rn sc_raw_size rfl rfl fun fa cdv A' outer sh H0 EX S0 p hr => ?_
  conv => arg 2; whnf
  refine bk_cons (bs_set (d := .int (stepI x up)) (s1 := s) 3 sc_raw_size.nd rfl (.inl rfl) ?_ ?_)
  · refine Ed.is (ed_if (Cp.et (Cp.is (cp_gt (ed_var (d := .int (wayI up)) 2 rfl (.inl rfl) rfl) ed_int) (way_pos up))) (fun _ => (ed_ix (d := .int x.g) (ed_var (d := itD x) 0 rfl (.inl rfl) rfl) ed_int rfl)) (fun _ => (ed_bin ed_int (ed_ix (d := .int x.w) (ed_var (d := itD x) 0 rfl (.inl rfl) rfl) ed_int rfl) rfl trivial))) ?_
    cases up <;> rfl
  · exact bk_cons (bs_ret (ed_cl (ea_cons (ed_ix (d := fp x.b) (ed_var (d := itD x) 0 rfl (.inl rfl) rfl) ed_int rfl) (ea_cons (ed_cl (ea_cons (ed_var (d := fp l) 1 rfl (.inl rfl) rfl) (ea_cons (ed_tup (ea_cons (ed_var (d := .int (stepI x up)) 3 rfl (.inl rfl) rfl) (ea_cons ed_int ea_nil))) ea_nil)) (hr.mono (by decide)) (rn_scaled_form T (fr_int (stepI x up)).symm (zl.mono (by decide)) ((z.step up).mono (by decide)))) ea_nil)) (hr.mono (by decide)) (rn_plus_form T (z.b.mono (by decide)) ((zl.scl (z.step up)).mono (by decide)))) ⟨rfl, rfl⟩)
theorem rn_held_size (T : Tc E) {g : D} {r : Rat} (A : Ask E g r 1500 s) {x : Itm} {l : Fo} {up : Bool} (z : Zi x) (zl : Zf 1400 l) : Rn E 6 "held_size" [itD x, fp l, .int (wayI up), g] s (fp (hsz r l up x)) s := by
  refine T.d_held_size.rn sc_held_size rfl rfl fun fa cdv A' outer sh H0 EX S0 p hr => ?_
  conv => arg 2; whnf
  exact bk_cons (bs_ret (ed_cl (ea_cons (ed_cl (ea_cons (ed_var (d := itD x) 0 rfl (.inl rfl) rfl) (ea_cons (ed_var (d := fp l) 1 rfl (.inl rfl) rfl) (ea_cons (ed_var (d := .int (wayI up)) 2 rfl (.inl rfl) rfl) ea_nil))) (hr.mono (by decide)) (rn_raw_size T z zl)) (ea_cons (ed_ix (d := fp x.lo) (ed_var (d := itD x) 0 rfl (.inl rfl) rfl) ed_int rfl) (ea_cons (ed_ix (d := hiD x.hi) (ed_var (d := itD x) 0 rfl (.inl rfl) rfl) ed_int rfl) (ea_cons (ed_var (d := g) 3 rfl (.inl rfl) rfl) ea_nil)))) (hr.mono (by decide)) (rn_held_form T A ((z.raw zl up).mono (by decide)) (z.lo.mono (by decide)) fun m e => (z.hi m e).mono (by decide))) ⟨rfl, rfl⟩)
/-- sums of the first ones -/
theorem zf_foldl {n : Nat} : ∀ (L : List Fo) (a : Fo) (k : Nat), (∀ f ∈ L, Zf n f) → Zf k a → Zf (k + L.length * (n + 1)) (L.foldl fadd a)
  | [], a, k, _, ha => by simpa using ha
  | f :: L, a, k, h, ha => by
    rw [List.foldl_cons]
    refine (zf_foldl L (fadd a f) (k + n + 1) (fun g m => h g (List.mem_cons_of_mem _ m)) (ha.add (h f List.mem_cons_self))).mono ?_
    rw [List.length_cons, Nat.succ_mul]; omega
theorem zf_sumF {n : Nat} {L : List Fo} (h : ∀ f ∈ L, Zf n f) : Zf (1 + L.length * (n + 1)) (sumF L) := zf_foldl L (0, 0) 1 h .zero
theorem rn_sum_of_forms (T : Tc E) {n : Nat} {L : List Fo} (h : ∀ f ∈ L, Zf n f) (hl : 1 + L.length * (n + 1) ≤ 3000) (hn : n ≤ 3000) : Rn E 4 "sum_of_forms" [.lst (L.map fp)] s (fp (sumF L)) s := by
  refine T.d_sum_of_forms.rn sc_sum_of_forms rfl rfl fun fa cdv A' outer sh H0 EX S0 p hr => ?_
  conv => arg 2; whnf
  refine bk_cons (bs_set 1 sc_sum_of_forms.nd rfl (.inl rfl) (ed_cst T.c_NOTHING) ?_)
  refine bk_cons (bs_for PassesOwn.never rfl (ei_seq (ed_var (d := .lst (L.map fp)) 0 rfl (.inl rfl) rfl) (.inl rfl)) (fun i ρ s' => s' = s ∧ ∃ g, ρ = [.val (.lst (L.map fp)), .val (fp (sumF (L.take i))), g]) ⟨rfl, _, rfl⟩ ?_ ?_)
  · rintro i d ρ' s' hi ⟨rfl, g, rfl⟩
    rw [List.getElem?_map] at hi
    cases e : L[i]? with
    | none => rw [e] at hi; cases hi
    | some f =>
      rw [e] at hi; cases hi
      have hlt : i < L.length := (List.getElem?_eq_some_iff.mp e).1
      have zt : Zf 3000 (sumF (L.take i)) := (zf_sumF fun g m => h g (List.mem_of_mem_take m)).mono (by
        rw [List.length_take, Nat.min_eq_left (by omega)]
        have := Nat.mul_le_mul_right (n + 1) (show i ≤ L.length by omega)
        omega)
      refine ⟨_, _, eg_name 2 sc_sum_of_forms.nd rfl (.inl rfl), bk_cons (bs_set (d := fp (sumF (L.take (i + 1)))) (s1 := s') 1 sc_sum_of_forms.nd rfl (.inl rfl) (Ed.is (ed_cl (ea_cons (ed_var (d := fp (sumF (L.take i))) 1 rfl (.inl rfl) rfl) (ea_cons (ed_var (d := fp f) 2 rfl (.inl rfl) rfl) ea_nil)) (hr.mono (by decide)) (rn_plus_form T zt ((h f (List.mem_of_getElem? e)).mono hn))) ?_) (bk_nil ⟨rfl, .val (fp f), rfl⟩))⟩
      congr 1
      unfold sumF
      rw [List.take_add_one, e, List.foldl_append]; rfl
  · rintro ρ' s' ⟨rfl, g, rfl⟩
    have e : L.take (L.map fp).length = L := by rw [List.length_map, List.take_length]
    rw [e]
    exact bk_cons (bs_ret (ed_var 1 rfl (.inl rfl) rfl) ⟨rfl, rfl⟩)
theorem rn_total_at (T : Tc E) {n : Nat} {g : D} {r : Rat} (A : Ask E g r 1500 s) {items : List Itm} {l : Fo} {up : Bool} (z : ∀ x ∈ items, Zi x) (zl : Zf n l) (hn : n ≤ 200) (hl : items.length ≤ 10) : Rn E 7 "total_at" [.lst (items.map itD), fp l, .int (wayI up), g] s (fp (totF r items l up)) s := by
  refine T.d_total_at.rn sc_total_at rfl rfl fun fa cdv A' outer sh H0 EX S0 p hr => ?_
  conv => arg 2; whnf
  have zs : ∀ f ∈ items.map (hsz r l up), Zf 241 f := fun f m => by
    obtain ⟨x, mx, rfl⟩ := List.mem_map.mp m
    exact ((z x mx).hsz zl up).mono (by omega)
  refine bk_cons (bs_ret (ed_cl (ea_cons (El.ed (El.is (el_mapM [("item", 4)] itD (fun x : Itm => fp (hsz r l up x)) (xs := items) rfl sc_total_at.nd (ei_seq (ed_var 0 rfl (.inl rfl) rfl) (.inl rfl)) (blkOk_by rfl) (Nat.le_trans hl (by decide)) (fun x mx => ⟨_, _, fun b => eg_name 4 sc_total_at.nd rfl (.inl rfl), by decide, fun b => ed_cl (ea_cons (ed_var 4 rfl (.inl rfl) rfl) (ea_cons (ed_var 1 rfl (.inr (.inl rfl)) rfl) (ea_cons (ed_var 2 rfl (.inr (.inl rfl)) rfl) (ea_cons (ed_var 3 rfl (.inr (.inl rfl)) rfl) ea_nil)))) (hr.mono (by decide)) (rn_held_size T A (z x mx) (zl.mono (by omega)))⟩)) (ys := (items.map (hsz r l up)).map fp) (by rw [List.map_map]; rfl))) ea_nil) (hr.mono (by decide)) (rn_sum_of_forms T zs (by rw [List.length_map]; omega) (by decide))) ⟨rfl, rfl⟩)
end Law
set_option Elab.async false
set_option linter.all false
set_option maxRecDepth 100000
set_option maxHeartbeats 800000
namespace Law
open PySem PySem.Spec PyProof.Rows L2 Gh
variable {E : En} {s : Sx}
theorem rn_free_step (T : Tc E) {g : D} {r : Rat} (A : Ask E g r 1500 s) {x : Itm} {l : Fo} {up : Bool} (z : Zi x) (zl : Zf 1400 l) : Rn E 5 "free_step" [itD x, fp l, .int (wayI up), g] s (.int (freeN r l up x : Nat)) s := by
  have zr : Zf 1500 (rawS x l up) := (z.raw zl up).mono (by decide)
  have zlo : Zf 1500 x.lo := z.lo.mono (by decide)
  refine T.d_free_step.rn sc_free_step rfl rfl fun fa cdv A' outer sh H0 EX S0 p hr => ?_
  conv => arg 2; whnf
  cases eh : x.hi with
  | none =>
    refine bk_cons (bs_par3 4 5 6 rfl sc_free_step.nd rfl rfl rfl (by decide) (by decide) (by decide) rfl rfl rfl ((ea_cons (ed_cl (ea_cons (ed_var (d := itD x) 0 rfl (.inl rfl) rfl) (ea_cons (ed_var (d := fp l) 1 rfl (.inl rfl) rfl) (ea_cons (ed_var (d := .int (wayI up)) 2 rfl (.inl rfl) rfl) ea_nil))) (hr.mono (by decide)) (rn_raw_size T z zl)) (ea_cons (ed_ix (d := fp x.lo) (ed_var (d := itD x) 0 rfl (.inl rfl) rfl) ed_int rfl) (ea_cons (Ed.is (y := .non) (ed_ix (d := hiD x.hi) (ed_var (d := itD x) 0 rfl (.inl rfl) rfl) ed_int rfl) (by rw [eh]; rfl)) ea_nil)))) ?_)
    show Bk _ _ ([.val (itD x), .val (fp l), .val (.int (wayI up)), .val g, .val (fp (rawS x l up)), .val (fp x.lo), .val (.non)] : List G) s _
    cases up with
    | true =>
      refine bk_cons (bs_ifT (Cp.et (Cp.is (cp_gt (ed_var (d := .int (wayI true)) 2 rfl (.inl rfl) rfl) ed_int) rfl)) (bk_cons (bs_ret (d := .int (freeN r l true x : Nat)) ?_ ⟨rfl, rfl⟩)))
      unfold freeN
      rw [if_pos rfl]
      by_cases h1 : ev x.lo r ≤ ev (rawS x l true) r
      · have R1 := (A.run x.lo (rawS x l true) zlo zr).is (congrArg D.bl (decide_eq_true h1))
        rw [if_pos ⟨h1, fun m e => by rw [eh] at e; cases e⟩]
        exact ed_ifT (Ew.et (ew_andT (et_val (ed_clV 3 rfl (.inl rfl) rfl (ea_cons (ed_var (d := fp x.lo) 5 rfl (.inl rfl) rfl) (ea_cons (ed_var (d := fp (rawS x l true)) 4 rfl (.inl rfl) rfl) ea_nil)) (hr.mono (by decide)) R1)) (ew_and1 (Ew.et (ew_orT (Cp.et ((cp_isN (ed_var (d := .non) 6 rfl (.inl rfl) rfl)).is rfl))))))) (ed_ix (d := .int x.g) (ed_var (d := itD x) 0 rfl (.inl rfl) rfl) ed_int rfl)
      · rw [if_neg fun zz => h1 zz.1]
        exact ed_ifF (Ew.et (ew_andF (et_val ((ed_clV 3 rfl (.inl rfl) rfl (ea_cons (ed_var (d := fp x.lo) 5 rfl (.inl rfl) rfl) (ea_cons (ed_var (d := fp (rawS x l true)) 4 rfl (.inl rfl) rfl) ea_nil)) (hr.mono (by decide)) (A.run x.lo (rawS x l true) zlo zr)).is (congrArg D.bl (decide_eq_false h1)))))) ed_int
    | false =>
      refine bk_cons (bs_ifF (Cp.et (Cp.is (cp_gt (ed_var (d := .int (wayI false)) 2 rfl (.inl rfl) rfl) ed_int) rfl)) (bk_nil (bk_cons (bs_ret (d := .int (freeN r l false x : Nat)) ?_ ⟨rfl, rfl⟩))))
      unfold freeN
      rw [if_neg (show ¬ (false = true) by decide)]
      by_cases h1 : ev (rawS x l false) r ≤ ev x.lo r
      · rw [if_neg fun zz => zz.1 h1]
        exact ed_ifF (Ew.et (ew_andF (et_not (k := true) (et_val ((ed_clV 3 rfl (.inl rfl) rfl (ea_cons (ed_var (d := fp (rawS x l false)) 4 rfl (.inl rfl) rfl) (ea_cons (ed_var (d := fp x.lo) 5 rfl (.inl rfl) rfl) ea_nil)) (hr.mono (by decide)) (A.run (rawS x l false) x.lo zr zlo)).is (congrArg D.bl (decide_eq_true h1))))))) ed_int
      · have R1 := (A.run (rawS x l false) x.lo zr zlo).is (congrArg D.bl (decide_eq_false h1))
        rw [if_pos ⟨h1, fun m e => by rw [eh] at e; cases e⟩]
        exact ed_ifT (Ew.et (ew_andT (et_not (k := false) (et_val (ed_clV 3 rfl (.inl rfl) rfl (ea_cons (ed_var (d := fp (rawS x l false)) 4 rfl (.inl rfl) rfl) (ea_cons (ed_var (d := fp x.lo) 5 rfl (.inl rfl) rfl) ea_nil)) (hr.mono (by decide)) R1))) (ew_and1 (Ew.et (ew_orT (Cp.et ((cp_isN (ed_var (d := .non) 6 rfl (.inl rfl) rfl)).is rfl))))))) (ed_ix (d := .int x.w) (ed_var (d := itD x) 0 rfl (.inl rfl) rfl) ed_int rfl)
  | some m =>
    have zm := (z.hi m eh).mono (n := 1500) (by decide)
    refine bk_cons (bs_par3 4 5 6 rfl sc_free_step.nd rfl rfl rfl (by decide) (by decide) (by decide) rfl rfl rfl ((ea_cons (ed_cl (ea_cons (ed_var (d := itD x) 0 rfl (.inl rfl) rfl) (ea_cons (ed_var (d := fp l) 1 rfl (.inl rfl) rfl) (ea_cons (ed_var (d := .int (wayI up)) 2 rfl (.inl rfl) rfl) ea_nil))) (hr.mono (by decide)) (rn_raw_size T z zl)) (ea_cons (ed_ix (d := fp x.lo) (ed_var (d := itD x) 0 rfl (.inl rfl) rfl) ed_int rfl) (ea_cons (Ed.is (y := fp m) (ed_ix (d := hiD x.hi) (ed_var (d := itD x) 0 rfl (.inl rfl) rfl) ed_int rfl) (by rw [eh]; rfl)) ea_nil)))) ?_)
    show Bk _ _ ([.val (itD x), .val (fp l), .val (.int (wayI up)), .val g, .val (fp (rawS x l up)), .val (fp x.lo), .val (fp m)] : List G) s _
    cases up with
    | true =>
      refine bk_cons (bs_ifT (Cp.et (Cp.is (cp_gt (ed_var (d := .int (wayI true)) 2 rfl (.inl rfl) rfl) ed_int) rfl)) (bk_cons (bs_ret (d := .int (freeN r l true x : Nat)) ?_ ⟨rfl, rfl⟩)))
      unfold freeN
      rw [if_pos rfl]
      by_cases h1 : ev x.lo r ≤ ev (rawS x l true) r
      · have R1 := (A.run x.lo (rawS x l true) zlo zr).is (congrArg D.bl (decide_eq_true h1))
        by_cases h2 : ev m r ≤ ev (rawS x l true) r
        · rw [if_neg fun zz => zz.2 m eh h2]
          exact ed_ifF (Ew.et (ew_andT (et_val (ed_clV 3 rfl (.inl rfl) rfl (ea_cons (ed_var (d := fp x.lo) 5 rfl (.inl rfl) rfl) (ea_cons (ed_var (d := fp (rawS x l true)) 4 rfl (.inl rfl) rfl) ea_nil)) (hr.mono (by decide)) R1)) (ew_and1 (Ew.et (ew_orF (Cp.et ((cp_isN (ed_var (d := fp m) 6 rfl (.inl rfl) rfl)).is rfl)) (ew_or1 (et_not (k := true) (et_val ((ed_clV 3 rfl (.inl rfl) rfl (ea_cons (ed_var (d := fp m) 6 rfl (.inl rfl) rfl) (ea_cons (ed_var (d := fp (rawS x l true)) 4 rfl (.inl rfl) rfl) ea_nil)) (hr.mono (by decide)) (A.run m (rawS x l true) zm zr)).is (congrArg D.bl (decide_eq_true h2))))))))))) ed_int
        · rw [if_pos ⟨h1, fun m2 e => by rw [eh] at e; cases e; exact h2⟩]
          exact ed_ifT (Ew.et (ew_andT (et_val (ed_clV 3 rfl (.inl rfl) rfl (ea_cons (ed_var (d := fp x.lo) 5 rfl (.inl rfl) rfl) (ea_cons (ed_var (d := fp (rawS x l true)) 4 rfl (.inl rfl) rfl) ea_nil)) (hr.mono (by decide)) R1)) (ew_and1 (Ew.et (ew_orF (Cp.et ((cp_isN (ed_var (d := fp m) 6 rfl (.inl rfl) rfl)).is rfl)) (ew_or1 (et_not (k := false) (et_val ((ed_clV 3 rfl (.inl rfl) rfl (ea_cons (ed_var (d := fp m) 6 rfl (.inl rfl) rfl) (ea_cons (ed_var (d := fp (rawS x l true)) 4 rfl (.inl rfl) rfl) ea_nil)) (hr.mono (by decide)) (A.run m (rawS x l true) zm zr)).is (congrArg D.bl (decide_eq_false h2))))))))))) (ed_ix (d := .int x.g) (ed_var (d := itD x) 0 rfl (.inl rfl) rfl) ed_int rfl)
      · rw [if_neg fun zz => h1 zz.1]
        exact ed_ifF (Ew.et (ew_andF (et_val ((ed_clV 3 rfl (.inl rfl) rfl (ea_cons (ed_var (d := fp x.lo) 5 rfl (.inl rfl) rfl) (ea_cons (ed_var (d := fp (rawS x l true)) 4 rfl (.inl rfl) rfl) ea_nil)) (hr.mono (by decide)) (A.run x.lo (rawS x l true) zlo zr)).is (congrArg D.bl (decide_eq_false h1)))))) ed_int
    | false =>
      refine bk_cons (bs_ifF (Cp.et (Cp.is (cp_gt (ed_var (d := .int (wayI false)) 2 rfl (.inl rfl) rfl) ed_int) rfl)) (bk_nil (bk_cons (bs_ret (d := .int (freeN r l false x : Nat)) ?_ ⟨rfl, rfl⟩))))
      unfold freeN
      rw [if_neg (show ¬ (false = true) by decide)]
      by_cases h1 : ev (rawS x l false) r ≤ ev x.lo r
      · rw [if_neg fun zz => zz.1 h1]
        exact ed_ifF (Ew.et (ew_andF (et_not (k := true) (et_val ((ed_clV 3 rfl (.inl rfl) rfl (ea_cons (ed_var (d := fp (rawS x l false)) 4 rfl (.inl rfl) rfl) (ea_cons (ed_var (d := fp x.lo) 5 rfl (.inl rfl) rfl) ea_nil)) (hr.mono (by decide)) (A.run (rawS x l false) x.lo zr zlo)).is (congrArg D.bl (decide_eq_true h1))))))) ed_int
      · have R1 := (A.run (rawS x l false) x.lo zr zlo).is (congrArg D.bl (decide_eq_false h1))
        by_cases h2 : ev (rawS x l false) r ≤ ev m r
        · rw [if_pos ⟨h1, fun m2 e => by rw [eh] at e; cases e; exact h2⟩]
          exact ed_ifT (Ew.et (ew_andT (et_not (k := false) (et_val (ed_clV 3 rfl (.inl rfl) rfl (ea_cons (ed_var (d := fp (rawS x l false)) 4 rfl (.inl rfl) rfl) (ea_cons (ed_var (d := fp x.lo) 5 rfl (.inl rfl) rfl) ea_nil)) (hr.mono (by decide)) R1))) (ew_and1 (Ew.et (ew_orF (Cp.et ((cp_isN (ed_var (d := fp m) 6 rfl (.inl rfl) rfl)).is rfl)) (ew_or1 (et_val ((ed_clV 3 rfl (.inl rfl) rfl (ea_cons (ed_var (d := fp (rawS x l false)) 4 rfl (.inl rfl) rfl) (ea_cons (ed_var (d := fp m) 6 rfl (.inl rfl) rfl) ea_nil)) (hr.mono (by decide)) (A.run (rawS x l false) m zr zm)).is (congrArg D.bl (decide_eq_true h2)))))))))) (ed_ix (d := .int x.w) (ed_var (d := itD x) 0 rfl (.inl rfl) rfl) ed_int rfl)
        · rw [if_neg fun zz => h2 (zz.2 m eh)]
          exact ed_ifF (Ew.et (ew_andT (et_not (k := false) (et_val (ed_clV 3 rfl (.inl rfl) rfl (ea_cons (ed_var (d := fp (rawS x l false)) 4 rfl (.inl rfl) rfl) (ea_cons (ed_var (d := fp x.lo) 5 rfl (.inl rfl) rfl) ea_nil)) (hr.mono (by decide)) R1))) (ew_and1 (Ew.et (ew_orF (Cp.et ((cp_isN (ed_var (d := fp m) 6 rfl (.inl rfl) rfl)).is rfl)) (ew_or1 (et_val ((ed_clV 3 rfl (.inl rfl) rfl (ea_cons (ed_var (d := fp (rawS x l false)) 4 rfl (.inl rfl) rfl) (ea_cons (ed_var (d := fp m) 6 rfl (.inl rfl) rfl) ea_nil)) (hr.mono (by decide)) (A.run (rawS x l false) m zr zm)).is (congrArg D.bl (decide_eq_false h2)))))))))) ed_int
end Law
set_option Elab.async false
set_option linter.all false
set_option maxRecDepth 100000
set_option maxHeartbeats 800000
namespace Law
open PySem PySem.Spec PyProof.Rows L2 Gh
variable {E : En} {s : Sx}
theorem Zi.bnd {x : Itm} (z : Zi x) {β : Fo} (m : β ∈ bnds x) : Zf 30 β := by
  unfold bnds at m
  rcases List.mem_cons.mp m with rfl | m
  · exact z.lo
  · cases e : x.hi with
    | none => rw [e] at m; cases m
    | some h => rw [e] at m; rw [List.mem_singleton.mp m]; exact z.hi h e
theorem Zi.far {x : Itm} (z : Zi x) {β : Fo} (m : Zf 30 β) (up : Bool) : Zf 61 (farF x up β) := by
  cases up with
  | true => exact m.sub z.b
  | false => exact z.b.sub m
theorem Zi.stp {x : Itm} (z : Zi x) (up : Bool) : stepN x up < 2 ^ 10 := by
  cases up with
  | true => exact z.g
  | false => exact z.w
theorem Zi.turn {x : Itm} (z : Zi x) {β : Fo} (m : Zf 30 β) {up : Bool} (h : 0 < stepN x up) : Zf 72 (turnF x up β) := ((z.far m up).scl (sz_inv (m := 10) h (z.stp up))).mono (by decide)
theorem Zi.turns {x : Itm} (z : Zi x) (up : Bool) : ∀ l ∈ turnsOf x up, Zf 72 l := fun l m => by
  unfold turnsOf at m
  split at m
  · rename_i h
    obtain ⟨β, mβ, rfl⟩ := List.mem_map.mp m
    exact z.turn (z.bnd mβ) h
  · cases m
theorem zf_insL {n : Nat} {r : Rat} {L : List Fo} {l : Fo} (h : ∀ f ∈ L, Zf n f) (hl : Zf n l) : ∀ f ∈ insL r L l, Zf n f := fun f m => by
  rcases insL_of m with m | rfl
  · exact h f m
  · exact hl
theorem insL_len {r : Rat} {L : List Fo} {l : Fo} : (insL r L l).length ≤ L.length + 1 := by
  unfold insL
  split
  · have := plc_le (r := r) (l := l) L
    simp only [List.length_append, List.length_take, List.length_drop, List.length_singleton]
    omega
  · omega
/-- how the loop goes: below the place all are at most l -/
theorem plc_step {r : Rat} {l : Fo} : ∀ (L : List Fo) (p : Nat), p ≤ plc r l L → (p < plc r l L ↔ ∃ f, L[p]? = some f ∧ ev f r ≤ ev l r)
  | [], p, h => by
    have : p = 0 := by simpa [plc] using h
    subst this
    simp [plc]
  | f :: fs, p, h => by
    unfold plc at h ⊢
    by_cases hf : ev f r ≤ ev l r
    · rw [if_pos hf] at h ⊢
      cases p with
      | zero => simp [hf]
      | succ p =>
        have := plc_step (r := r) (l := l) fs p (by omega)
        simp only [List.getElem?_cons_succ]
        rw [← this]; omega
    · rw [if_neg hf] at h ⊢
      have : p = 0 := by omega
      subst this
      simp [hf]
def tFold (r : Rat) (F : List Fo) (ls : List Fo) : List Fo := ls.foldl (insL r) F
/-- the first j turns of an item -/
def tj (x : Itm) (up : Bool) (j : Nat) : List Fo := ((bnds x).map (turnF x up)).take j
theorem tj_two (x : Itm) (up : Bool) : tj x up 2 = (bnds x).map (turnF x up) := by
  unfold tj
  refine List.take_of_length_le ?_
  rw [List.length_map]
  unfold bnds
  cases x.hi <;> simp
theorem tj_next {x : Itm} {up : Bool} {j : Nat} {d : D} (z : Zi x) (h : [fp x.lo, hiD x.hi][j]? = some d) : (d = .non ∧ tj x up (j + 1) = tj x up j) ∨ ∃ β, d = fp β ∧ Zf 30 β ∧ tj x up (j + 1) = tj x up j ++ [turnF x up β] := by
  match j, h with
  | 0, h =>
    cases h
    exact .inr ⟨x.lo, rfl, z.lo, rfl⟩
  | 1, h =>
    simp at h
    subst h
    unfold tj bnds
    cases e : x.hi with
    | none => exact .inl ⟨rfl, rfl⟩
    | some m => exact .inr ⟨m, rfl, z.hi m e, rfl⟩
theorem zf_fold {n : Nat} {r : Rat} : ∀ (ls F : List Fo), (∀ f ∈ F, Zf n f) → (∀ f ∈ ls, Zf n f) → ∀ f ∈ tFold r F ls, Zf n f
  | [], F, h, _ => h
  | l :: ls, F, h, k => zf_fold ls (insL r F l) (zf_insL h (k l List.mem_cons_self)) fun f m => k f (List.mem_cons_of_mem _ m)
theorem tFold_len {r : Rat} : ∀ (ls F : List Fo), (tFold r F ls).length ≤ F.length + ls.length
  | [], F => Nat.le_refl _
  | l :: ls, F => by
    have h1 := tFold_len (r := r) ls (insL r F l)
    have h2 := insL_len (r := r) (L := F) (l := l)
    show (tFold r (insL r F l) ls).length ≤ F.length + (ls.length + 1)
    omega
theorem tFold_app {r : Rat} (F a b : List Fo) : tFold r F (a ++ b) = tFold r (tFold r F a) b := List.foldl_append ..
theorem bnds_len (x : Itm) : (bnds x).length ≤ 2 := by
  unfold bnds
  cases x.hi <;> simp
theorem turnsOf_len (x : Itm) (up : Bool) : (turnsOf x up).length ≤ 2 := by
  unfold turnsOf
  split
  · rw [List.length_map]; exact bnds_len x
  · exact Nat.zero_le _
theorem fm_len {α β : Type} {f : α → List β} {n : Nat} : ∀ (L : List α), (∀ x ∈ L, (f x).length ≤ n) → (L.flatMap f).length ≤ n * L.length
  | [], _ => by simp
  | a :: L, h => by
    have h1 := fm_len L fun x m => h x (List.mem_cons_of_mem _ m)
    have h2 := h a List.mem_cons_self
    rw [List.flatMap_cons, List.length_append, List.length_cons, Nat.mul_succ]
    omega
theorem rn_turning_levels (T : Tc E) {g : D} {r : Rat} (A : Ask E g r 1500 s) {items : List Itm} {up : Bool} (z : ∀ x ∈ items, Zi x) (hl : items.length ≤ 10) : Rn E 5 "turning_levels" [.lst (items.map itD), .int (wayI up), g] s (.lst ((turnsF r items up).map fp)) s := by
  refine T.d_turning_levels.rn sc_turning_levels rfl rfl fun fa cdv A' outer sh H0 EX S0 p hr => ?_
  conv => arg 2; whnf
  have nd := sc_turning_levels.nd
  let fd : Nat → List Fo := fun i => tFold r [(0, 0)] ((items.take i).flatMap fun x => turnsOf x up)
  have zfd : ∀ i, ∀ f ∈ fd i, Zf 72 f := fun i => zf_fold _ _ (fun f m => by rw [List.mem_singleton.mp m]; exact .zero) fun f m => by
    obtain ⟨x, mx, ml⟩ := List.mem_flatMap.mp m
    exact (z x (List.mem_of_mem_take mx)).turns up f ml
  have lfd : ∀ i, (fd i).length ≤ 21 := fun i => by
    have h1 := tFold_len (r := r) ((items.take i).flatMap fun x => turnsOf x up) [(0, 0)]
    have h2 := fm_len (n := 2) (f := fun x => turnsOf x up) (items.take i) fun x _ => turnsOf_len x up
    have h3 : (items.take i).length ≤ items.length := by rw [List.length_take]; omega
    rw [List.length_singleton] at h1
    have : (fd i).length ≤ 1 + ((items.take i).flatMap fun x => turnsOf x up).length := h1
    omega
  have fds : ∀ i x, items[i]? = some x → fd (i + 1) = tFold r (fd i) (turnsOf x up) := fun i x e => by
    show tFold r _ _ = _
    rw [List.take_add_one, e, List.flatMap_append, tFold_app]
    simp [fd]
  refine bk_cons (bs_set (d := .lst ((fd 0).map fp)) (s1 := s) 3 nd rfl (.inl rfl) (El.ed (El.is (el_lst (ea_cons (ed_cst T.c_NOTHING) ea_nil)) rfl)) ?_)
  show Bk _ _ ([.val (.lst (items.map itD)), .val (.int (wayI up)), .val g, .val (.lst ((fd 0).map fp)), .no, .no, .no, .no, .no, .no] : List G) s _
  refine bk_cons (bs_for PassesOwn.never rfl (ei_seq (ed_var (d := .lst (items.map itD)) 0 rfl (.inl rfl) rfl) (.inl rfl)) (fun i ρ s' => s' = s ∧ ∃ g4 g5 g6 g7 g8 g9, ρ = [.val (.lst (items.map itD)), .val (.int (wayI up)), .val g, .val (.lst ((fd i).map fp)), g4, g5, g6, g7, g8, g9]) ⟨rfl, _, _, _, _, _, _, rfl⟩ ?_ ?_)
  · rintro i d ρ' s' hi ⟨rfl, g4, g5, g6, g7, g8, g9, rfl⟩
    rw [List.getElem?_map] at hi
    cases e : items[i]? with
    | none => rw [e] at hi; cases hi
    | some x =>
    rw [e] at hi; cases hi
    have zx := z x (List.mem_of_getElem? e)
    refine ⟨_, _, eg_name 4 nd rfl (.inl rfl), ?_⟩
    show Bk _ _ ([.val (.lst (items.map itD)), .val (.int (wayI up)), .val g, .val (.lst ((fd i).map fp)), .val (itD x), g5, g6, g7, g8, g9] : List G) s' _
    refine bk_cons (bs_set (d := .int (stepN x up)) (s1 := s') 5 nd rfl (.inl rfl) (Ed.is (ed_if (Cp.et (Cp.is (cp_gt (ed_var (d := .int (wayI up)) 1 rfl (.inl rfl) rfl) ed_int) (way_pos up))) (fun _ => (ed_ix (d := .int x.g) (ed_var (d := itD x) 4 rfl (.inl rfl) rfl) ed_int rfl)) (fun _ => (ed_ix (d := .int x.w) (ed_var (d := itD x) 4 rfl (.inl rfl) rfl) ed_int rfl))) (by cases up <;> rfl)) ?_)
    show Bk _ _ ([.val (.lst (items.map itD)), .val (.int (wayI up)), .val g, .val (.lst ((fd i).map fp)), .val (itD x), .val (.int (stepN x up)), g6, g7, g8, g9] : List G) s' _
    by_cases hs : 0 < stepN x up
    · have tt : turnsOf x up = (bnds x).map (turnF x up) := by unfold turnsOf; rw [if_pos hs]
      let fj : Nat → List Fo := fun j => tFold r (fd i) (tj x up j)
      have zfj : ∀ j, ∀ f ∈ fj j, Zf 72 f := fun j => zf_fold _ _ (zfd i) fun f m => zx.turns up f (by rw [tt]; exact List.mem_of_mem_take m)
      have lfj : ∀ j, (fj j).length ≤ 23 := fun j => by
        have h1 := tFold_len (r := r) (tj x up j) (fd i)
        have h2 := lfd i
        have h3 : (tj x up j).length ≤ 2 := by
          unfold tj
          rw [List.length_take, List.length_map]
          have := bnds_len x
          omega
        show (tFold r (fd i) (tj x up j)).length ≤ 23
        omega
      refine bk_cons (bs_for (items := [fp x.lo, hiD x.hi]) (s1 := s') PassesOwn.never rfl (ei_seq (x := .tup [fp x.lo, hiD x.hi]) (ed_ifT (Cp.et (Cp.is (cp_gt (ed_var (d := .int (stepN x up)) 5 rfl (.inl rfl) rfl) ed_int) (decide_eq_true (by omega)))) (Ed.is (ed_sliceT (ed_var (d := itD x) 4 rfl (.inl rfl) rfl) (.some ed_int) .none) rfl)) (.inr rfl)) (fun j ρ s2 => s2 = s' ∧ ∃ g6 g7 g8 g9, ρ = [.val (.lst (items.map itD)), .val (.int (wayI up)), .val g, .val (.lst ((fj j).map fp)), .val (itD x), .val (.int (stepN x up)), g6, g7, g8, g9]) ⟨rfl, _, _, _, _, rfl⟩ ?_ ?_)
      · rintro j d ρ' s2 hj ⟨rfl, g6, g7, g8, g9, rfl⟩
        refine ⟨_, _, eg_name 6 nd rfl (.inl rfl), ?_⟩
        rcases tj_next (up := up) zx hj with ⟨rfl, ej⟩ | ⟨β, rfl, zβ, ej⟩
        · show Bk _ _ ([.val (.lst (items.map itD)), .val (.int (wayI up)), .val g, .val (.lst ((fj j).map fp)), .val (itD x), .val (.int (stepN x up)), .val .non, g7, g8, g9] : List G) s2 _
          refine bk_cons (bs_ifF (Cp.et ((cp_notN (ed_var (d := .non) 6 rfl (.inl rfl) rfl)).is rfl)) (bk_nil (bk_nil ⟨rfl, .val .non, g7, g8, g9, ?_⟩)))
          have eq : fj (j + 1) = fj j := by
            show tFold r (fd i) (tj x up (j + 1)) = tFold r (fd i) (tj x up j)
            rw [ej]
          rw [eq]
        · generalize hL : fj j = L
          have zL : ∀ f ∈ L, Zf 72 f := by rw [← hL]; exact zfj j
          have lL : L.length ≤ 23 := by rw [← hL]; exact lfj j
          have zt : Zf 72 (turnF x up β) := zx.turn zβ hs
          have eq : fj (j + 1) = insL r L (turnF x up β) := by
            show tFold r (fd i) (tj x up (j + 1)) = _
            rw [ej, tFold_app, ← hL]; rfl
          rw [eq]
          show Bk _ _ ([.val (.lst (items.map itD)), .val (.int (wayI up)), .val g, .val (.lst (L.map fp)), .val (itD x), .val (.int (stepN x up)), .val (fp β), g7, g8, g9] : List G) s2 _
          refine bk_cons (bs_ifT (Cp.et ((cp_notN (ed_var (d := fp β) 6 rfl (.inl rfl) rfl)).is rfl)) ?_)
          refine bk_cons (bs_set (d := fp (farF x up β)) (s1 := s2) 7 nd rfl (.inl rfl) (Ed.is (ed_if (Cp.et (Cp.is (cp_gt (ed_var (d := .int (wayI up)) 1 rfl (.inl rfl) rfl) ed_int) (way_pos up))) (fun _ => (ed_cl (ea_cons (ed_var (d := fp β) 6 rfl (.inl rfl) rfl) (ea_cons (ed_ix (d := fp x.b) (ed_var (d := itD x) 4 rfl (.inl rfl) rfl) ed_int rfl) ea_nil)) (hr.mono (by decide)) (rn_sub_form T (zβ.mono (by decide)) (zx.b.mono (by decide))))) (fun _ => (ed_cl (ea_cons (ed_ix (d := fp x.b) (ed_var (d := itD x) 4 rfl (.inl rfl) rfl) ed_int rfl) (ea_cons (ed_var (d := fp β) 6 rfl (.inl rfl) rfl) ea_nil)) (hr.mono (by decide)) (rn_sub_form T (zx.b.mono (by decide)) (zβ.mono (by decide)))))) (by cases up <;> rfl)) ?_)
          show Bk _ _ ([.val (.lst (items.map itD)), .val (.int (wayI up)), .val g, .val (.lst (L.map fp)), .val (itD x), .val (.int (stepN x up)), .val (fp β), .val (fp (farF x up β)), g8, g9] : List G) s2 _
          refine bk_cons (bs_par 8 9 rfl nd rfl rfl (by decide) rfl rfl (ea_cons (ed_cl (ea_cons (ed_var (d := fp (farF x up β)) 7 rfl (.inl rfl) rfl) (ea_cons (ed_tup (ea_cons ed_int (ea_cons (ed_var (d := .int (stepN x up)) 5 rfl (.inl rfl) rfl) ea_nil))) ea_nil)) (hr.mono (by decide)) (rn_scaled_form T (fr_inv hs).symm ((zx.far zβ up).mono (by decide)) ((sz_inv (m := 10) hs (zx.stp up)).mono (by decide)))) (ea_cons ed_int ea_nil)) ?_)
          show Bk _ _ ([.val (.lst (items.map itD)), .val (.int (wayI up)), .val g, .val (.lst (L.map fp)), .val (itD x), .val (.int (stepN x up)), .val (fp β), .val (fp (farF x up β)), .val (fp (turnF x up β)), .val (.int ((0 : Nat) : Int))] : List G) s2 _
          generalize turnF x up β = l at zt eq
          refine bk_cons (bs_while PassesOwn.never (fun ρ s3 => s3 = s2 ∧ ∃ q : Nat, q ≤ plc r l L ∧ ρ = [.val (.lst (items.map itD)), .val (.int (wayI up)), .val g, .val (.lst (L.map fp)), .val (itD x), .val (.int (stepN x up)), .val (fp β), .val (fp (farF x up β)), .val (fp l), .val (.int q)]) (fun ρ _ => match ρ with | [_, _, _, _, _, _, _, _, _, .val (.int q)] => plc r l L - q.toNat | _ => 0) ⟨rfl, 0, Nat.zero_le _, rfl⟩ ?_)
          rintro ρ' s3 ⟨rfl, q, hq, rfl⟩
          have lp := plc_le (r := r) (l := l) L
          refine ⟨decide (q < plc r l L), s3, ?_, fun h => ?_, fun h => ?_⟩
          · by_cases hlt : q < L.length
            · have eL : L[q]? = some L[q] := List.getElem?_eq_getElem hlt
              have R := A.run L[q] l ((zL _ (List.getElem_mem hlt)).mono (by decide)) (zt.mono (by decide))
              refine Et.is (Ew.et (ew_andT (Cp.et (Cp.is (cp_lt (ed_var (d := .int q) 9 rfl (.inl rfl) rfl) (ed_len T.bf (ed_var (d := .lst (L.map fp)) 3 rfl (.inl rfl) rfl) rfl)) (decide_eq_true (by rw [List.length_map]; omega)))) (ew_and1 (et_val (ed_clV 2 rfl (.inl rfl) rfl (ea_cons (ed_ix (d := fp L[q]) (ed_var (d := .lst (L.map fp)) 3 rfl (.inl rfl) rfl) (ed_var (d := .int q) 9 rfl (.inl rfl) rfl) ?_) (ea_cons (ed_var (d := fp l) 8 rfl (.inl rfl) rfl) ea_nil)) (hr.mono (by decide)) R))))) ?_
              · show atI (L.map fp) (q : Int) = _
                unfold atI ixN
                simp [hlt]
              · have := plc_step (r := r) (l := l) L q hq
                refine decide_eq_decide.mpr ?_
                rw [this]
                exact ⟨fun h => ⟨_, eL, h⟩, fun ⟨f, e, h⟩ => by rw [eL] at e; cases e; exact h⟩
            · refine Et.is (Ew.et (ew_andF (Cp.et (Cp.is (cp_lt (ed_var (d := .int q) 9 rfl (.inl rfl) rfl) (ed_len T.bf (ed_var (d := .lst (L.map fp)) 3 rfl (.inl rfl) rfl) rfl)) (decide_eq_false (by rw [List.length_map]; omega)))))) ?_
              exact (decide_eq_false (by omega)).symm
          · have h := of_decide_eq_true h
            refine bk_cons (bs_set (d := .int ((q + 1 : Nat) : Int)) 9 nd rfl (.inl rfl) (Ed.is (ed_bin (ed_var (d := .int q) 9 rfl (.inl rfl) rfl) ed_int rfl trivial) rfl) (bk_nil ⟨⟨rfl, q + 1, h, rfl⟩, ?_⟩))
            show plc r l L - ((q + 1 : Nat) : Int).toNat < plc r l L - ((q : Nat) : Int).toNat
            omega
          · have h := of_decide_eq_false h
            have eq2 : q = plc r l L := by omega
            refine bk_cons (bs_set (d := .lst ((insL r L l).map fp)) (s1 := s3) 3 nd rfl (.inl rfl) ?_ (bk_nil (bk_nil ⟨rfl, _, _, _, _, rfl⟩)))
            by_cases h0 : 0 < q
            · refine Ed.is (ed_ifT (Cp.et (Cp.is (cp_gt (ed_var (d := .int q) 9 rfl (.inl rfl) rfl) ed_int) (decide_eq_true (by omega)))) (El.ed (el_cat ?_ (El.ed (el_cat ?_ (El.ed (el_slice (ed_var (d := .lst (L.map fp)) 3 rfl (.inl rfl) rfl) .none (.some (ed_var (d := .int q) 9 rfl (.inl rfl) rfl)))) (El.ed (el_lst (ea_cons (ed_var (d := fp l) 8 rfl (.inl rfl) rfl) ea_nil))))) (El.ed (el_slice (ed_var (d := .lst (L.map fp)) 3 rfl (.inl rfl) rfl) (.some (ed_var (d := .int q) 9 rfl (.inl rfl) rfl)) .none))))) ?_
              · rw [cutD_take, cutD_drop]
                simp only [List.length_append, List.length_take, List.length_drop, List.length_map, List.length_cons, List.length_nil]
                exact Nat.le_trans (show _ ≤ 100 by omega) (by decide)
              · rw [cutD_take]
                simp only [List.length_take, List.length_map, List.length_cons, List.length_nil]
                exact Nat.le_trans (show _ ≤ 100 by omega) (by decide)
              · rw [cutD_take, cutD_drop]
                unfold insL
                rw [← eq2, if_pos h0, List.map_append, List.map_append, List.map_take, List.map_drop]; rfl
            · refine Ed.is (ed_ifF (Cp.et (Cp.is (cp_gt (ed_var (d := .int q) 9 rfl (.inl rfl) rfl) ed_int) (decide_eq_false (by omega)))) (ed_var (d := .lst (L.map fp)) 3 rfl (.inl rfl) rfl)) ?_
              unfold insL
              rw [← eq2, if_neg h0]
      · rintro ρ' s2 ⟨rfl, g6, g7, g8, g9, rfl⟩
        refine bk_nil ⟨rfl, .val (itD x), .val (.int (stepN x up)), g6, g7, g8, g9, ?_⟩
        rw [fds i x e, tt, ← tj_two]; rfl
    · have tt : turnsOf x up = [] := by unfold turnsOf; rw [if_neg hs]
      refine bk_cons (bs_for (items := []) (s1 := s') PassesOwn.never rfl (ei_seq (x := .tup []) (ed_ifF (Cp.et (Cp.is (cp_gt (ed_var (d := .int (stepN x up)) 5 rfl (.inl rfl) rfl) ed_int) (decide_eq_false (by omega)))) (ed_tup ea_nil)) (.inr rfl)) (fun j ρ s2 => s2 = s' ∧ ∃ g6 g7 g8 g9, ρ = [.val (.lst (items.map itD)), .val (.int (wayI up)), .val g, .val (.lst ((fd i).map fp)), .val (itD x), .val (.int (stepN x up)), g6, g7, g8, g9]) ⟨rfl, _, _, _, _, rfl⟩ (fun j d ρ' s2 hj => by simp at hj) ?_)
      rintro ρ' s2 ⟨rfl, g6, g7, g8, g9, rfl⟩
      refine bk_nil ⟨rfl, .val (itD x), .val (.int (stepN x up)), g6, g7, g8, g9, ?_⟩
      rw [fds i x e, tt]; rfl
  · rintro ρ' s' ⟨rfl, g4, g5, g6, g7, g8, g9, rfl⟩
    refine bk_cons (bs_ret (ed_var 3 rfl (.inl rfl) rfl) ⟨?_, rfl⟩)
    show D.lst ((tFold r [(0, 0)] ((items.take (items.map itD).length).flatMap fun x => turnsOf x up)).map fp) = _
    rw [List.length_map, List.take_length]; rfl
end Law
set_option Elab.async false
set_option linter.all false
set_option maxRecDepth 100000
set_option maxHeartbeats 800000
namespace Law
open PySem PySem.Spec PyProof.Rows L2 Gh
variable {E : En} {s : Sx}
theorem zipD_same {α : Type} (f g : α → D) : ∀ L : List α, zipD (L.map f) (L.map g) = L.map fun x => .tup [f x, g x]
  | [] => rfl
  | x :: L => by
    have := zipD_same f g L
    unfold zipD at this ⊢
    rw [List.map_cons, List.map_cons, List.zipWith_cons_cons, this]; rfl
theorem zf_tot {n : Nat} {r : Rat} {items : List Itm} {l : Fo} {up : Bool} (z : ∀ x ∈ items, Zi x) (zl : Zf n l) (hn : n ≤ 100) (hl : items.length ≤ 10) : Zf 1430 (totF r items l up) := by
  have h : ∀ f ∈ items.map (hsz r l up), Zf 141 f := fun f m => by
    obtain ⟨x, mx, rfl⟩ := List.mem_map.mp m
    exact ((z x mx).hsz zl up).mono (by omega)
  exact (zf_sumF h).mono (by rw [List.length_map]; omega)
theorem freeN_lt {r : Rat} {l : Fo} {up : Bool} {x : Itm} (z : Zi x) : freeN r l up x < 2 ^ 10 := by
  have h1 := z.g
  have h2 := z.w
  unfold freeN
  split
  · split
    · exact h1
    · omega
  · split
    · exact h2
    · omega
theorem sum_lt : ∀ (L : List Nat) (k : Nat), (∀ n ∈ L, n ≤ k) → L.sum ≤ k * L.length
  | [], k, _ => by simp
  | a :: L, k, h => by
    have h1 := sum_lt L k fun n m => h n (List.mem_cons_of_mem _ m)
    have h2 := h a List.mem_cons_self
    rw [List.sum_cons, List.length_cons, Nat.mul_succ]; omega
theorem sum_int (L : List Nat) : (L.map fun n : Nat => (n : Int)).sum = (L.sum : Int) := by
  induction L with
  | nil => rfl
  | cons a L ih => rw [List.map_cons, List.sum_cons, ih, List.sum_cons, Int.natCast_add]
theorem rn_levelled (T : Tc E) {g : D} {r : Rat} (A : Ask E g r 1500 s) {items : List Itm} {room : Fo} (z : ∀ x ∈ items, Zi x) (hl : items.length ≤ 10) (zr : Zf 1200 room) : Rn E 8 "levelled" [.lst (items.map itD), fp room, g] s (.tup [.lst ((levF r items room).1.map fp), fp (levF r items room).2]) s := by
  obtain ⟨t, et, _, _, mt⟩ := turns_spec r items (upF r items room)
  have zt : ∀ f ∈ ((0, 0) : Fo) :: t, Zf 72 f := fun f m => by
    rcases List.mem_cons.mp m with rfl | m
    · exact .zero
    · rcases mt f m with rfl | ⟨x, mx, ml⟩
      · exact .zero
      · exact (z x mx).turns _ f ml
  have lt : t.length ≤ 20 := by
    have h1 := tFold_len (r := r) (items.flatMap fun x => turnsOf x (upF r items room)) [(0, 0)]
    have h2 := fm_len (n := 2) (f := fun x => turnsOf x (upF r items room)) items fun x _ => turnsOf_len x _
    have h3 : tFold r [(0, 0)] (items.flatMap fun x => turnsOf x (upF r items room)) = (0, 0) :: t := et
    rw [h3] at h1
    simp only [List.length_cons, List.length_nil] at h1
    omega
  have eH : levH r items room (upF r items room) = hereF r items room (upF r items room) (0, 0) t := by unfold levH; rw [et]; rfl
  have zr' : Zf 1500 room := zr.mono (by decide)
  unfold levF
  rw [eH]
  have z0 : Zf 1430 (totF r items (0, 0) true) := zf_tot (n := 1) z .zero (by decide) hl
  refine T.d_levelled.rn sc_levelled rfl rfl fun fa cdv A' outer sh H0 EX S0 p hr => ?_
  conv => arg 2; whnf
  have nd := sc_levelled.nd
  show Bk _ _ ([.val (.lst (items.map itD)), .val (fp room), .val g, .no, .no, .no, .no, .no, .no, .no, .no, .no, .no, .no, .no, .no] : List G) s _
  refine bk_cons (bs_set (d := .int (wayI (upF r items room))) (s1 := s) 3 nd rfl (.inr rfl) (Ed.is (ed_if (et_val (ed_clV 2 rfl (.inr (.inl rfl)) rfl (ea_cons (ed_cl (ea_cons (ed_var (d := .lst (items.map itD)) 0 rfl (.inl rfl) rfl) (ea_cons (ed_cst T.c_NOTHING) (ea_cons ed_int (ea_cons (ed_var (d := g) 2 rfl (.inr (.inl rfl)) rfl) ea_nil)))) (hr.mono (by decide)) (rn_total_at (up := true) T A z (n := 1) .zero (by decide) hl)) (ea_cons (ed_var (d := fp room) 1 rfl (.inl rfl) rfl) ea_nil)) (hr.mono (by decide)) (A.run _ room (z0.mono (by decide)) zr'))) (fun _ => ed_int) (fun _ => (ed_neg ed_int))) ?_) ?_)
  · unfold upF
    cases decide (ev (totF r items (0, 0) true) r ≤ ev room r) <;> rfl
  generalize upF r items room = up at *
  refine bk_cons (bs_set (d := .lst (((0, 0) :: t).map fp)) (s1 := s) 4 nd rfl (.inl rfl) (Ed.is (ed_cl (ea_cons (ed_var (d := .lst (items.map itD)) 0 rfl (.inl rfl) rfl) (ea_cons (ed_var (d := .int (wayI up)) 3 rfl (.inr (.inl rfl)) rfl) (ea_cons (ed_var (d := g) 2 rfl (.inr (.inl rfl)) rfl) ea_nil))) (hr.mono (by decide)) (rn_turning_levels (up := up) T A z hl)) (by rw [et])) ?_)
  refine bk_cons (bs_set (d := fp (0, 0)) (s1 := s) 5 nd rfl (.inr rfl) (ed_ix (d := fp (0, 0)) (ed_var (d := .lst (((0, 0) :: t).map fp)) 4 rfl (.inl rfl) rfl) ed_int (by show atI _ _ = _; simp [atI, ixN])) ?_)
  show Bk _ _ ([.val (.lst (items.map itD)), .val (fp room), .val g, .val (.int (wayI up)), .val (.lst (((0, 0) :: t).map fp)), .val (fp (0, 0)), .no, .no, .no, .no, .no, .no, .no, .no, .no, .no] : List G) s _
  generalize hH : hereF r items room up (0, 0) t = H
  have mH : H ∈ ((0, 0) : Fo) :: t := by
    obtain ⟨pre, post, e, _, _⟩ := here_spec (r := r) (items := items) (room := room) (up := up) t (0, 0)
    rw [e, hH]
    exact List.mem_append_right _ List.mem_cons_self
  have zH := zt H mH
  refine bk_via (fun ρ' s' => s' = s ∧ ∃ g6 g7, ρ' = [.val (.lst (items.map itD)), .val (fp room), .val g, .val (.int (wayI up)), .val (.lst (((0, 0) :: t).map fp)), .val (fp H), g6, g7, .no, .no, .no, .no, .no, .no, .no, .no]) ?lp ?_
  case lp =>
    refine bs_for (items := t.map fp) (s1 := s) PassesOwn.never rfl (ei_seq (x := .lst (t.map fp)) (Ed.is (El.ed (el_slice (ed_var (d := .lst (((0, 0) :: t).map fp)) 4 rfl (.inl rfl) rfl) (.some (ed_int (i := 1))) .none)) (by rw [show (1 : Int) = ((1 : Nat) : Int) from rfl, cutD_drop]; rfl)) (.inl rfl)) (fun i ρ s' => s' = s ∧ ∃ cur g6 g7, hereF r items room up cur (t.drop i) = H ∧ Zf 72 cur ∧ ρ = [.val (.lst (items.map itD)), .val (fp room), .val g, .val (.int (wayI up)), .val (.lst (((0, 0) :: t).map fp)), .val (fp cur), g6, g7, .no, .no, .no, .no, .no, .no, .no, .no]) ⟨rfl, (0, 0), _, _, hH, .zero, rfl⟩ ?_ ?_
    · rintro i d ρ' s' hi ⟨rfl, cur, g6, g7, hc, zc, rfl⟩
      rw [List.getElem?_map] at hi
      cases e : t[i]? with
      | none => rw [e] at hi; cases hi
      | some l =>
      rw [e] at hi; cases hi
      have zl := zt l (List.mem_cons_of_mem _ (List.mem_of_getElem? e))
      have zT : Zf 1500 (totF r items l up) := (zf_tot (n := 72) z zl (by decide) hl).mono (by decide)
      have dr : t.drop i = l :: t.drop (i + 1) := by
        obtain ⟨h1, h2⟩ := List.getElem?_eq_some_iff.mp e
        rw [← h2]; exact List.drop_eq_getElem_cons h1
      rw [dr] at hc
      refine ⟨_, _, eg_name 6 nd rfl (.inl rfl), ?_⟩
      refine bk_cons (bs_set (d := fp (totF r items l up)) (s1 := s') 7 nd rfl (.inl rfl) (ed_cl (ea_cons (ed_var (d := .lst (items.map itD)) 0 rfl (.inl rfl) rfl) (ea_cons (ed_var (d := fp l) 6 rfl (.inl rfl) rfl) (ea_cons (ed_var (d := .int (wayI up)) 3 rfl (.inr (.inl rfl)) rfl) (ea_cons (ed_var (d := g) 2 rfl (.inr (.inl rfl)) rfl) ea_nil)))) (hr.mono (by decide)) (rn_total_at (up := up) T A z (n := 72) zl (by decide) hl)) ?_)
      show Bk _ _ ([.val (.lst (items.map itD)), .val (fp room), .val g, .val (.int (wayI up)), .val (.lst (((0, 0) :: t).map fp)), .val (fp cur), .val (fp l), .val (fp (totF r items l up)), .no, .no, .no, .no, .no, .no, .no, .no] : List G) s' _
      refine bk_cons (bs_if (t := decide (stopF r items room up l)) (s1 := s') ?_ (fun h => ?_) (fun h => ?_))
      · cases up with
        | true => exact Et.is (et_ifT (Cp.et (Cp.is (cp_gt (ed_var (d := .int (wayI true)) 3 rfl (.inr (.inl rfl)) rfl) ed_int) (way_pos true))) (et_val (ed_clV 2 rfl (.inr (.inl rfl)) rfl (ea_cons (ed_var (d := fp room) 1 rfl (.inl rfl) rfl) (ea_cons (ed_var (d := fp (totF r items l true)) 7 rfl (.inl rfl) rfl) ea_nil)) (hr.mono (by decide)) (A.run room _ zr' zT)))) rfl
        | false => exact Et.is (et_ifF (Cp.et (Cp.is (cp_gt (ed_var (d := .int (wayI false)) 3 rfl (.inr (.inl rfl)) rfl) ed_int) (way_pos false))) (et_val (ed_clV 2 rfl (.inr (.inl rfl)) rfl (ea_cons (ed_var (d := fp (totF r items l false)) 7 rfl (.inl rfl) rfl) (ea_cons (ed_var (d := fp room) 1 rfl (.inl rfl) rfl) ea_nil)) (hr.mono (by decide)) (A.run _ room zT zr')))) rfl
      · have h := of_decide_eq_true h
        have e2 : cur = H := by
          unfold hereF at hc
          rw [if_pos h] at hc
          exact hc
        exact bk_cons (bs_break ⟨rfl, _, _, by rw [e2]⟩)
      · have h := of_decide_eq_false h
        have e2 : hereF r items room up l (t.drop (i + 1)) = H := by
          unfold hereF at hc
          rw [if_neg h] at hc
          exact hc
        exact bk_nil (bk_cons (bs_set (d := fp l) (s1 := s') 5 nd rfl (.inr rfl) (ed_var (d := fp l) 6 rfl (.inl rfl) rfl) (bk_nil ⟨rfl, l, _, _, e2, zl, rfl⟩)))
    · rintro ρ' s' ⟨rfl, cur, g6, g7, hc, zc, rfl⟩
      rw [List.length_map, List.drop_length] at hc
      have e2 : cur = H := hc
      exact ⟨rfl, g6, g7, by rw [e2]⟩
  rintro ρ' s' ⟨rfl, g6, g7, rfl⟩
  refine bk_setM 8 [("item", 9)] itD (fun x : Itm => fp (hsz r H up x)) (xs := items) rfl nd rfl rfl rfl rfl (ei_seq (ed_var (d := .lst (items.map itD)) 0 rfl (.inl rfl) rfl) (.inl rfl)) (blkOk_by rfl) (Nat.le_trans hl (by decide)) (fun x mx => ⟨_, _, fun b => eg_name 9 nd rfl (.inl rfl), by decide, fun b => ed_cl (ea_cons (ed_var (d := itD x) 9 rfl (.inl rfl) rfl) (ea_cons (ed_var (d := fp H) 5 rfl (.inr (.inl rfl)) rfl) (ea_cons (ed_var (d := .int (wayI up)) 3 rfl (.inr (.inl rfl)) rfl) (ea_cons (ed_var (d := g) 2 rfl (.inr (.inl rfl)) rfl) ea_nil)))) (hr.mono (by decide)) (rn_held_size T A (z x mx) (zH.mono (by decide)))⟩) ?_
  refine bk_setM 10 [("item", 9)] itD (fun x : Itm => .int (freeN r H up x : Nat)) (xs := items) rfl nd rfl rfl rfl rfl (ei_seq (ed_var (d := .lst (items.map itD)) 0 rfl (.inl rfl) rfl) (.inl rfl)) (blkOk_by rfl) (Nat.le_trans hl (by decide)) (fun x mx => ⟨_, _, fun b => eg_name 9 nd rfl (.inl rfl), by decide, fun b => ed_cl (ea_cons (ed_var (d := itD x) 9 rfl (.inl rfl) rfl) (ea_cons (ed_var (d := fp H) 5 rfl (.inr (.inl rfl)) rfl) (ea_cons (ed_var (d := .int (wayI up)) 3 rfl (.inr (.inl rfl)) rfl) (ea_cons (ed_var (d := g) 2 rfl (.inr (.inl rfl)) rfl) ea_nil)))) (hr.mono (by decide)) (rn_free_step T A (z x mx) (zH.mono (by decide)))⟩) ?_
  show Bk _ _ ([.val (.lst (items.map itD)), .val (fp room), .val g, .val (.int (wayI up)), .val (.lst (((0, 0) :: t).map fp)), .val (fp H), g6, g7, .val (.lst (items.map fun x => fp (hsz r H up x))), .no, .val (.lst (items.map fun x => .int (freeN r H up x : Nat))), .no, .no, .no, .no, .no] : List G) s' _
  have es : (items.map fun x => D.int (freeN r H up x : Nat)) = ((items.map (freeN r H up)).map fun n : Nat => (n : Int)).map D.int := by rw [List.map_map, List.map_map]; rfl
  have el : (items.map fun x => fp (hsz r H up x)) = (items.map (hsz r H up)).map fp := by rw [List.map_map]; rfl
  have zw : Sz 10 ((wayI up : Int) : Rat) := sz_int (by cases up <;> decide)
  have zs : ∀ f ∈ items.map (hsz r H up), Zf 113 f := fun f m => by
    obtain ⟨x, mx, rfl⟩ := List.mem_map.mp m
    exact (z x mx).hsz zH up
  have R1 := rn_scaled_form (s := s') T (fr_int (wayI up)).symm (zH.mono (by decide : 72 ≤ 3000)) (zw.mono (by decide))
  have hlN : (items.map (freeN r H up)).sum < 2 ^ 14 := by
    have := sum_lt (items.map (freeN r H up)) (2 ^ 10) fun n m => by
      obtain ⟨x, mx, rfl⟩ := List.mem_map.mp m
      exact Nat.le_of_lt (freeN_lt (z x mx))
    rw [List.length_map] at this
    omega
  by_cases hN : (items.map (freeN r H up)).sum = 0
  · unfold levO
    rw [if_pos hN]
    refine bk_cons (bs_ifT (Cp.et (Cp.is (cp_eq hr (ed_sum T.bf rfl (Ed.is (ed_var (d := .lst (items.map fun x => .int (freeN r H up x : Nat))) 10 rfl (.inl rfl) rfl) (congrArg D.lst es))) ed_int (eqC_int _) (eqC_int _)) (by rw [eqb_int, sum_int, hN]; rfl))) (bk_cons (bs_ret (ed_tup (ea_cons (ed_var (d := .lst (items.map fun x => fp (hsz r H up x))) 8 rfl (.inl rfl) rfl) (ea_cons (ed_cl (ea_cons (ed_var (d := fp H) 5 rfl (.inr (.inl rfl)) rfl) (ea_cons (ed_tup (ea_cons (ed_var (d := .int (wayI up)) 3 rfl (.inr (.inl rfl)) rfl) (ea_cons ed_int ea_nil))) ea_nil)) (hr.mono (by decide)) R1) ea_nil))) ⟨?_, rfl⟩)))
    rw [el]
  · unfold levO
    rw [if_neg hN]
    generalize hM : (items.map (freeN r H up)).sum = N at hN hlN
    have hN0 : 0 < N := by omega
    have zsum : Zf 1141 (sumF (items.map (hsz r H up))) := (zf_sumF zs).mono (by rw [List.length_map]; omega)
    have zrest : Zf 2342 (fsub room (sumF (items.map (hsz r H up)))) := zr.sub zsum
    have zinv : Sz 14 (1 / (N : Rat)) := sz_inv hN0 hlN
    generalize hS : fsub room (sumF (items.map (hsz r H up))) = rest at zrest
    have zsh : Zf 2356 (fscl rest (1 / (N : Rat))) := zrest.scl zinv
    refine bk_cons (bs_ifF (Cp.et (Cp.is (cp_eq hr (ed_sum T.bf rfl (Ed.is (ed_var (d := .lst (items.map fun x => .int (freeN r H up x : Nat))) 10 rfl (.inl rfl) rfl) (congrArg D.lst es))) ed_int (eqC_int _) (eqC_int _)) (by rw [eqb_int, sum_int, hM]; exact decide_eq_false (by omega)))) (bk_nil ?_))
    refine bk_cons (bs_set (d := fp rest) (s1 := s') 11 nd rfl (.inl rfl) (Ed.is (ed_cl (ea_cons (ed_var (d := fp room) 1 rfl (.inl rfl) rfl) (ea_cons (ed_cl (ea_cons (Ed.is (ed_var (d := .lst (items.map fun x => fp (hsz r H up x))) 8 rfl (.inl rfl) rfl) (congrArg D.lst el)) ea_nil) (hr.mono (by decide)) (rn_sum_of_forms T zs (by rw [List.length_map]; omega) (by decide))) ea_nil)) (hr.mono (by decide)) (rn_sub_form T (zr'.mono (by decide)) (zsum.mono (by decide)))) (by rw [hS])) ?_)
    refine bk_cons (bs_set (d := fp (fscl rest (1 / (N : Rat)))) (s1 := s') 12 nd rfl (.inr rfl) (ed_cl (ea_cons (ed_var (d := fp rest) 11 rfl (.inl rfl) rfl) (ea_cons (ed_tup (ea_cons ed_int (ea_cons (Ed.is (y := .int (N : Nat)) (ed_sum T.bf rfl (Ed.is (ed_var (d := .lst (items.map fun x => .int (freeN r H up x : Nat))) 10 rfl (.inl rfl) rfl) (congrArg D.lst es))) (by rw [sum_int, hM])) ea_nil))) ea_nil)) (hr.mono (by decide)) (rn_scaled_form T (fr_inv hN0).symm (zrest.mono (by decide)) (zinv.mono (by decide)))) ?_)
    generalize fscl rest (1 / (N : Rat)) = share at zsh
    show Bk _ _ ([.val (.lst (items.map itD)), .val (fp room), .val g, .val (.int (wayI up)), .val (.lst (((0, 0) :: t).map fp)), .val (fp H), g6, g7, .val (.lst (items.map fun x => fp (hsz r H up x))), .no, .val (.lst (items.map fun x => .int (freeN r H up x : Nat))), .val (fp rest), .val (fp share), .no, .no, .no] : List G) s' _
    have hz : zipD (items.map fun x => fp (hsz r H up x)) (items.map fun x => D.int (freeN r H up x : Nat)) = items.map fun x => .tup [fp (hsz r H up x), .int (freeN r H up x : Nat)] := zipD_same _ _ _
    refine bk_setM 13 [("size", 14), ("step", 15)] (fun x : Itm => .tup [fp (hsz r H up x), .int (freeN r H up x : Nat)]) (fun x : Itm => fp (fadd (hsz r H up x) (fscl share ((freeN r H up x : Nat) : Rat)))) (xs := items) rfl nd rfl rfl rfl rfl (by rw [← hz]; exact ei_zip T.bf (ed_var (d := .lst (items.map fun x => fp (hsz r H up x))) 8 rfl (.inl rfl) rfl) (ed_var (d := .lst (items.map fun x => D.int (freeN r H up x : Nat))) 10 rfl (.inl rfl) rfl)) (blkOk_by rfl) (Nat.le_trans hl (by decide)) (fun x mx => ⟨_, _, fun b => eg_tup rfl (egs_cons (eg_name 14 nd rfl (.inl rfl)) (egs_cons (eg_name 15 nd rfl (.inl rfl)) egs_nil)), by decide, fun b => ?_⟩) ?_
    · have zst : Sz 10 ((freeN r H up x : Nat) : Rat) := sz_nat (freeN_lt (z x mx))
      exact ed_cl (ea_cons (ed_var (d := fp (hsz r H up x)) 14 rfl (.inl rfl) rfl) (ea_cons (ed_cl (ea_cons (ed_var (d := fp share) 12 rfl (.inr (.inl rfl)) rfl) (ea_cons (ed_tup (ea_cons (ed_var (d := .int (freeN r H up x : Nat)) 15 rfl (.inl rfl) rfl) (ea_cons ed_int ea_nil))) ea_nil)) (hr.mono (by decide)) (rn_scaled_form T (fr_nat _).symm (zsh.mono (by decide)) (zst.mono (by decide)))) ea_nil)) (hr.mono (by decide)) (rn_plus_form T ((zs _ (List.mem_map.mpr ⟨x, mx, rfl⟩)).mono (by decide)) ((zsh.scl zst).mono (by decide)))
    · show Bk _ _ ([.val (.lst (items.map itD)), .val (fp room), .val g, .val (.int (wayI up)), .val (.lst (((0, 0) :: t).map fp)), .val (fp H), g6, g7, .val (.lst (items.map fun x => fp (hsz r H up x))), .no, .val (.lst (items.map fun x => .int (freeN r H up x : Nat))), .val (fp rest), .val (fp share), .val (.lst (items.map fun x => fp (fadd (hsz r H up x) (fscl share ((freeN r H up x : Nat) : Rat))))), .no, .no] : List G) s' _
      refine bk_cons (bs_ret (ed_tup (ea_cons (ed_var (d := .lst (items.map fun x => fp (fadd (hsz r H up x) (fscl share ((freeN r H up x : Nat) : Rat))))) 13 rfl (.inl rfl) rfl) (ea_cons (ed_cl (ea_cons (ed_cl (ea_cons (ed_var (d := fp H) 5 rfl (.inr (.inl rfl)) rfl) (ea_cons (ed_tup (ea_cons (ed_var (d := .int (wayI up)) 3 rfl (.inr (.inl rfl)) rfl) (ea_cons ed_int ea_nil))) ea_nil)) (hr.mono (by decide)) R1) (ea_cons (ed_var (d := fp share) 12 rfl (.inr (.inl rfl)) rfl) ea_nil)) (hr.mono (by decide)) (rn_plus_form T ((zH.scl zw).mono (by decide)) (zsh.mono (by decide)))) ea_nil))) ⟨?_, rfl⟩)
      have e3 : (items.map fun x => fp (fadd (hsz r H up x) (fscl share ((freeN r H up x : Nat) : Rat)))) = (List.zipWith (fun s (st : Nat) => fadd s (fscl share (st : Rat))) (items.map (hsz r H up)) (items.map (freeN r H up))).map fp := by
        rw [List.zipWith_map, List.zipWith_self, List.map_map]; rfl
      rw [e3]
theorem rn_row_sizes (T : Tc E) {g : D} {r : Rat} (A : Ask E g r 1500 s) {items : List Itm} {room : Fo} (z : ∀ x ∈ items, Zi x) (hl : items.length ≤ 10) (zr : Zf 1200 room) : Rn E 9 "row_sizes" [.lst (items.map itD), fp room, g] s (.lst ((levF r items room).1.map fp)) s := by
  refine T.d_row_sizes.rn sc_row_sizes rfl rfl fun fa cdv A' outer sh H0 EX S0 p hr => ?_
  conv => arg 2; whnf
  exact bk_cons (bs_ret (ed_ix (ed_cl (ea_cons (ed_var 0 rfl (.inl rfl) rfl) (ea_cons (ed_var 1 rfl (.inl rfl) rfl) (ea_cons (ed_var 2 rfl (.inl rfl) rfl) ea_nil))) (hr.mono (by decide)) (rn_levelled T A z hl zr)) ed_int rfl) ⟨rfl, rfl⟩)
end Law
set_option Elab.async false
set_option linter.all false
set_option maxRecDepth 100000
set_option maxHeartbeats 800000
namespace Law
open PySem PySem.Spec PyProof.Rows L2 Gh
variable {E : En} {s : Sx}
def hiN : Option Nat → D
  | none => .non
  | some m => .int m
/-- an item: base, grow, shrink, least, most -/
structure LI where
  b : Rat
  g : Nat
  w : Nat
  lo : Nat
  hi : Option Nat
def liD (x : LI) : D := .tup [fr x.b, .int x.g, .int x.w, .int x.lo, hiN x.hi]
def hiQ : Option Nat → Option Fo
  | none => none
  | some m => some (((m : Nat) : Rat), 0)
def LI.it (x : LI) : Itm := ⟨(x.b, 0), x.g, x.w, (((x.lo : Nat) : Rat), 0), hiQ x.hi⟩
structure LOk (x : LI) : Prop where
  b : Sz 20 x.b
  b0 : 0 ≤ x.b
  g : x.g < 2 ^ 10
  w : x.w < 2 ^ 10
  lo : x.lo < 2 ^ 20
  hi : ∀ m, x.hi = some m → x.lo ≤ m ∧ m < 2 ^ 20
theorem sz_zero {n : Nat} (h : 0 < n := by decide) : Sz n 0 := .zero h
theorem LOk.zi {x : LI} (h : LOk x) : Zi x.it where
  b := ⟨h.b.mono (by decide), .zero⟩
  lo := ⟨(sz_nat (m := 20) h.lo).mono (by decide), .zero⟩
  hi := fun m e => by
    have e' : hiQ x.hi = some m := e
    cases e2 : x.hi with
    | none => rw [e2] at e'; cases e'
    | some k => rw [e2] at e'; cases e'; exact ⟨(sz_nat (m := 20) (h.hi k e2).2).mono (by decide), .zero⟩
  g := h.g
  w := h.w
theorem LOk.ok {x : LI} (h : LOk x) {r : Rat} : ItmOk r x.it := fun m e => by
  have e' : hiQ x.hi = some m := e
  cases e2 : x.hi with
  | none => rw [e2] at e'; cases e'
  | some k =>
    rw [e2] at e'; cases e'
    have := (h.hi k e2).1
    show (x.lo : Rat) + 0 * r ≤ (k : Rat) + 0 * r
    have h2 : ((x.lo : Nat) : Rat) ≤ ((k : Nat) : Rat) := by exact_mod_cast this
    grind
/-- a thing handed for an item -/
structure Hd (y : D) (x : LI) : Prop where
  it : ∃ bd, items y = some [bd, .int x.g, .int x.w, .int x.lo, hiN x.hi] ∧ dat bd = true ∧ isFr bd = true ∧ topGe bd = true ∧ frq bd = x.b ∧ ∀ t b, items bd = some [.int t, .int b] → b.natAbs < 2 ^ 100
  d : dat y = true
theorem rn_isL (T : Tx E) {x : D} {xs : List D} (h : items x = some xs) (hd : dat x = true) : Rn E 1 "is_list" [x] s (.bl true) s := by
  obtain ⟨k, hk⟩ := dat_kind hd
  exact (rn_is_list T hk).is (by rw [isL_items hk hd, h]; rfl)
theorem rn_is_item (T : Tc E) {y : D} {x : LI} (h : Hd y x) (ok : LOk x) : Rn E 5 "is_item" [y] s (.bl true) s := by
  obtain ⟨bd, hi, hb1, hb2, hb3, _, _⟩ := h.it
  have hw : isWd bd = true := by unfold isWd; rw [hb2, hb3]; rfl
  have a0 : y.at 0 = some bd := by rw [items_at hi]; rfl
  have a3 : y.at 3 = some (.int x.lo) := by rw [items_at hi]; rfl
  have a4 : y.at 4 = some (hiN x.hi) := by rw [items_at hi]; rfl
  refine T.d_is_item.rn sc_is_item rfl rfl fun fa cdv A' outer sh H0 EX S0 p hr => ?_
  conv => arg 2; whnf
  have nd := sc_is_item.nd
  refine bk_cons (bs_ifF (Ew.et (ew_orF (et_not (k := true) (et_val (ed_cl (ea_cons (ed_var (d := y) 0 rfl (.inl rfl) rfl) ea_nil) (hr.mono (by decide)) (rn_isL T.toTx hi h.d)))) (ew_orF (Cp.et (Cp.is (y := false) (cp_ne hr (ed_len T.bf (ed_var (d := y) 0 rfl (.inl rfl) rfl) (items_size hi)) ed_int (eqC_int _) (eqC_int _)) (by rw [eqb_int]; rfl))) (ew_or1 (et_not (k := true) (et_val (ed_cl (ea_cons (ed_ix (ed_var (d := y) 0 rfl (.inl rfl) rfl) ed_int a0) ea_nil) (hr.mono (by decide)) ((rn_is_width T.toTx hb1).is (by rw [hw]))))))))) (bk_nil ?_))
  have three : ∀ {F : Fx} {ρ : List G}, True := trivial
  refine bk_cons (bs_ifF (et_not (k := true) (et_val (Ed.is (ed_all (s1 := s) (bs := [x.g, x.w, x.lo].map fun _ => true) T.bf rfl (Ed.is (El.ed (el_mapM (s1 := s) [("number", 1)] (fun n : Nat => D.int n) (fun _ : Nat => D.bl true) (xs := [x.g, x.w, x.lo]) rfl nd ?sl (blkOk_by rfl) (Nat.le_of_ble_eq_true rfl) (fun n mn => ⟨_, _, fun b => eg_name 1 nd rfl (.inl rfl), by decide, fun b => ed_cl (ea_cons (ed_var (d := .int n) 1 rfl (.inl rfl) rfl) ea_nil) (hr.mono (by decide)) (rn_nat T.toTx n)⟩))) rfl)) rfl))) (bk_nil ?_))
  case sl =>
    rcases items_or hi with rfl | rfl
    · exact ei_seq (x := .lst [.int x.g, .int x.w, .int x.lo]) (Ed.is (El.ed (el_slice (ed_var 0 rfl (.inl rfl) rfl) (.some (ed_int (i := 1))) (.some (ed_int (i := 4))))) rfl) (.inl rfl)
    · exact ei_seq (x := .tup [.int x.g, .int x.w, .int x.lo]) (Ed.is (ed_sliceT (ed_var 0 rfl (.inl rfl) rfl) (.some (ed_int (i := 1))) (.some (ed_int (i := 4)))) rfl) (.inr rfl)
  cases eh : x.hi with
  | none => exact bk_cons (bs_ret (ed_orT (Ed.is (Cp.ed ((cp_isN (ed_ix (d := hiN x.hi) (ed_var (d := y) 0 rfl (.inl rfl) rfl) ed_int a4)))) (by rw [eh]; rfl))) ⟨rfl, rfl⟩)
  | some m =>
    have := (ok.hi m eh).1
    refine bk_cons (bs_ret (ed_orF (Ed.is (Cp.ed ((cp_isN (ed_ix (d := hiN x.hi) (ed_var (d := y) 0 rfl (.inl rfl) rfl) ed_int a4)))) (by rw [eh]; rfl)) (ed_one (ed_andT (ed_cl (ea_cons (Ed.is (y := .int m) (ed_ix (d := hiN x.hi) (ed_var (d := y) 0 rfl (.inl rfl) rfl) ed_int a4) (by rw [eh]; rfl)) ea_nil) (hr.mono (by decide)) (rn_nat T.toTx m)) (ed_one (Ed.is (Cp.ed (cp_ge (Ed.is (y := .int m) (ed_ix (d := hiN x.hi) (ed_var (d := y) 0 rfl (.inl rfl) rfl) ed_int a4) (by rw [eh]; rfl)) (ed_ix (d := .int x.lo) (ed_var (d := y) 0 rfl (.inl rfl) rfl) ed_int a3))) (congrArg D.bl (decide_eq_true (by omega)))))))) ⟨rfl, rfl⟩)
theorem rn_item_forms (T : Tc E) {L : List LI} (hl : L.length ≤ 100) : Rn E 2 "item_forms" [.lst (L.map liD)] s (.lst ((L.map LI.it).map itD)) s := by
  refine T.d_item_forms.rn sc_item_forms rfl rfl fun fa cdv A' outer sh H0 EX S0 p hr => ?_
  conv => arg 2; whnf
  have nd := sc_item_forms.nd
  refine bk_cons (bs_setOwn 1 nd rfl (.inl rfl) (el_lst ea_nil) ?_)
  refine bk_cons (bs_for (s1 := s) PassesOwn.never rfl (ei_seq (ed_var (d := .lst (L.map liD)) 0 rfl (.inl rfl) rfl) (.inl rfl)) (fun i ρ s' => s' = s ∧ ∃ g2 g3 g4 g5 g6 g7, ρ = [.val (.lst (L.map liD)), .own (((L.take i).map LI.it).map itD), g2, g3, g4, g5, g6, g7]) ⟨rfl, _, _, _, _, _, _, rfl⟩ ?_ ?_)
  · rintro i d ρ' s' hi ⟨rfl, g2, g3, g4, g5, g6, g7, rfl⟩
    rw [List.getElem?_map] at hi
    cases e : L[i]? with
    | none => rw [e] at hi; cases hi
    | some x =>
    rw [e] at hi; cases hi
    have hlt : i < L.length := (List.getElem?_eq_some_iff.mp e).1
    refine ⟨_, _, eg_tup rfl (egs_cons (eg_name 2 nd rfl (.inl rfl)) (egs_cons (eg_name 3 nd rfl (.inl rfl)) (egs_cons (eg_name 4 nd rfl (.inl rfl)) (egs_cons (eg_name 5 nd rfl (.inl rfl)) (egs_cons (eg_name 6 nd rfl (.inl rfl)) egs_nil))))), ?_⟩
    show Bk _ _ ([.val (.lst (L.map liD)), .own (((L.take i).map LI.it).map itD), .val (fr x.b), .val (.int x.g), .val (.int x.w), .val (.int x.lo), .val (hiN x.hi), g7] : List G) s' _
    refine bk_cons (bs_set (d := hiD x.it.hi) (s1 := s') 7 nd rfl (.inl rfl) ?_ ?_)
    · cases eh : x.hi with
      | none =>
        refine Ed.is (ed_ifT (Cp.et (Cp.is (cp_isN (ed_var (d := hiN x.hi) 6 rfl (.inl rfl) (by rw [eh]; rfl))) (by rw [eh]; rfl))) ed_non) ?_
        show _ = hiD (hiQ x.hi)
        rw [eh]; rfl
      | some m =>
        refine Ed.is (ed_ifF (Cp.et (Cp.is (cp_isN (ed_var (d := hiN x.hi) 6 rfl (.inl rfl) (by rw [eh]; rfl))) (by rw [eh]; rfl))) (ed_cl (ea_cons (Ed.is (y := fr (m : Rat)) (ed_tup (ea_cons (ed_var (d := .int m) 6 rfl (.inl rfl) rfl) (ea_cons ed_int ea_nil))) (fr_nat m).symm) ea_nil) (hr.mono (by decide)) (rn_flat_form T (m : Rat)))) ?_
        show _ = hiD (hiQ x.hi)
        rw [eh]; rfl
    · show Bk _ _ ([.val (.lst (L.map liD)), .own (((L.take i).map LI.it).map itD), .val (fr x.b), .val (.int x.g), .val (.int x.w), .val (.int x.lo), .val (hiN x.hi), .val (hiD x.it.hi)] : List G) s' _
      refine bk_cons (bs_append 1 (d := itD x.it) rfl (.inl rfl) rfl (ed_tup (ea_cons (ed_cl (ea_cons (ed_var (d := fr x.b) 2 rfl (.inl rfl) rfl) ea_nil) (hr.mono (by decide)) (rn_flat_form T x.b)) (ea_cons (ed_var (d := .int x.g) 3 rfl (.inl rfl) rfl) (ea_cons (ed_var (d := .int x.w) 4 rfl (.inl rfl) rfl) (ea_cons (ed_cl (ea_cons (Ed.is (y := fr (x.lo : Rat)) (ed_tup (ea_cons (ed_var (d := .int x.lo) 5 rfl (.inl rfl) rfl) (ea_cons ed_int ea_nil))) (fr_nat x.lo).symm) ea_nil) (hr.mono (by decide)) (rn_flat_form T (x.lo : Rat))) (ea_cons (ed_var (d := hiD x.it.hi) 7 rfl (.inl rfl) rfl) ea_nil)))))) ?_ (bk_nil ⟨rfl, .val (fr x.b), .val (.int x.g), .val (.int x.w), .val (.int x.lo), .val (hiN x.hi), .val (hiD x.it.hi), ?_⟩))
      · rw [List.length_map, List.length_map, List.length_take]
        exact Nat.lt_of_le_of_lt (show _ ≤ 100 by omega) (by decide)
      · rw [List.take_add_one, e, List.map_append, List.map_append]; rfl
  · rintro ρ' s' ⟨rfl, g2, g3, g4, g5, g6, g7, rfl⟩
    refine bk_freeze 1 rfl (bk_cons (bs_ret (ed_var 1 rfl (.inl rfl) rfl) ⟨?_, rfl⟩))
    rw [List.length_map, List.take_length]
end Law
set_option Elab.async false
set_option linter.all false
set_option maxRecDepth 100000
set_option maxHeartbeats 800000
namespace Law
open PySem PySem.Spec PyProof.Rows L2 Gh
variable {E : En} {s : Sx} {K : Addr} {g : Str → Addr}
/-- the class Row -/
structure Ro (E : En) (K : Addr) (g : Str → Addr) : Prop where
  mg : E.mg "Row" = some (.ref K)
  cls : Cls E.K K
  n_items : NoAttr E.K K "own_items"
  n_gap : NoAttr E.K K "gap_width"
  mkr : Mk E.K K (g "__init__")
  m_gaps : Meth E.K K "all_gaps" (g "all_gaps")
  m_corners : Meth E.K K "all_corners" (g "all_corners")
  m_forms : Meth E.K K "forms_about" (g "forms_about")
  m_pieces : Meth E.K K "all_pieces" (g "all_pieces")
  m_room : Meth E.K K "room_for" (g "room_for")
  m_ends : Meth E.K K "both_ends" (g "both_ends")
  d_init : Dm E t_Row___init__ (g "__init__") "__init__" "Row.__init__" ["self", "items", "gap"]
  d_gaps : Dm E t_Row_all_gaps (g "all_gaps") "all_gaps" "Row.all_gaps" ["self"]
  d_corners : Dm E t_Row_all_corners (g "all_corners") "all_corners" "Row.all_corners" ["self"]
  d_room : Dm E t_Row_room_for (g "room_for") "room_for" "Row.room_for" ["self", "index", "size"]
  d_ends : Dm E t_Row_both_ends (g "both_ends") "both_ends" "Row.both_ends" ["self"]
def ksR : List Str := ["own_items", "gap_width"]
def dsR (L : List LI) (n : Nat) : List D := [.lst (L.map liD), .int n]
/-- things handed for items, one by one -/
structure Hds (ys : List D) (L : List LI) : Prop where
  len : ys.length = L.length
  all : ∀ (i : Nat) (y : D) (x : LI), ys[i]? = some y → L[i]? = some x → Hd y x
theorem Hds.at_ {ys : List D} {L : List LI} (h : Hds ys L) (i : Nat) {y : D} (e : ys[i]? = some y) : ∃ x, L[i]? = some x ∧ Hd y x := by
  have hlt := (List.getElem?_eq_some_iff.mp e).1
  have e2 : L[i]? = some (L[i]'(by rw [← h.len]; exact hlt)) := List.getElem?_eq_getElem _
  exact ⟨_, e2, h.all i y _ e e2⟩
def toLi (y : D) : D := match items y with
  | some (b :: xs) => .tup (fr (frq b) :: xs)
  | _ => .non
theorem toLi_eq {y b : D} {xs : List D} (h : items y = some (b :: xs)) : toLi y = .tup (fr (frq b) :: xs) := by
  unfold toLi
  rw [h]
theorem Hds.map {ys : List D} {L : List LI} (h : Hds ys L) : ys.map toLi = L.map liD := by
  refine List.ext_getElem? fun i => ?_
  rw [List.getElem?_map, List.getElem?_map]
  by_cases hi : i < ys.length
  · obtain ⟨x, hx, q⟩ := h.at_ i (List.getElem?_eq_getElem hi)
    rw [List.getElem?_eq_getElem hi, hx]
    obtain ⟨bd, h1, _, _, _, h2, _⟩ := q.it
    show some (toLi ys[i]) = some (liD x)
    rw [toLi_eq h1, h2]; rfl
  · rw [List.getElem?_eq_none (by omega), List.getElem?_eq_none (by rw [← h.len]; omega)]; rfl
theorem rn_init (T : Tc E) (B : Ro E K g) {L : List LI} {n : Nat} {y : D} {ys : List D} (h0 : L ≠ []) (hl : L.length ≤ 100) (ok : ∀ x ∈ L, LOk x) (hy : items y = some ys) (hd : dat y = true) (hh : Hds ys L) :
    RnI E 6 "Row" K [y, .int n] s ksR (dsR L n) s := by
  refine Dm.init B.mg B.mkr B.d_init sc_Row___init__ rfl rfl fun cdv A outer sh H0 EX S0 p x dx hr => ?_
  conv => arg 2; whnf
  have nd := sc_Row___init__.nd
  show Bk _ _ ([.ow (.ins x K dx []) [], .val y, .val (.int n), .no, .no] : List G) s _
  have hlen : 0 < ys.length := by
    rw [hh.len]
    exact List.length_pos_iff.mpr h0
  refine bk_cons (bs_ifF (Ew.et (ew_orF (et_not (k := true) (et_val (ed_cl (ea_cons (ed_var 1 rfl (.inl rfl) rfl) ea_nil) (hr.mono (by decide)) (rn_isL T.toTx hy hd)))) (ew_or1 (Cp.et (Cp.is (y := false) (cp_eq hr (ed_len T.bf (ed_var (d := y) 1 rfl (.inl rfl) rfl) (items_size hy)) ed_int (eqC_int _) (eqC_int _)) (by rw [eqb_int]; exact decide_eq_false (by omega))))))) (bk_nil ?_))
  refine bk_cons (bs_for PassesOwn.never rfl (items := enumD ys) (s1 := s) (ei_enumA T.bf (ed_var 1 rfl (.inl rfl) rfl) (items_or hy)) (fun i ρ s' => s' = s ∧ ∃ g3 g4, ρ = [.ow (.ins x K dx []) [], .val y, .val (.int n), g3, g4]) ⟨rfl, _, _, rfl⟩ ?t ?d)
  case t =>
    rintro i d ρ s' hi ⟨rfl, g3, g4, rfl⟩
    obtain ⟨z, hz, rfl⟩ : ∃ z, ys[i]? = some z ∧ d = .tup [.int i, z] := by
      cases e : ys[i]? with
      | none =>
        have : (enumD ys).length ≤ i := by rw [enumD_length]; exact List.getElem?_eq_none_iff.mp e
        rw [List.getElem?_eq_none this] at hi; cases hi
      | some x => rw [enumD_get e] at hi; cases hi; exact ⟨x, rfl, rfl⟩
    obtain ⟨c, hc', q⟩ := hh.at_ i hz
    have mc := List.mem_of_getElem? hc'
    exact ⟨_, _, eg_tup rfl (egs_cons (eg_name 3 nd rfl (.inl rfl)) (egs_cons (eg_name 4 nd rfl (.inl rfl)) egs_nil)), bk_cons (bs_ifF (et_not (k := true) (et_val (ed_cl (ea_cons (ed_var (d := z) 4 rfl (.inl rfl) rfl) ea_nil) (hr.mono (by decide)) (rn_is_item T q (ok c mc))))) (bk_nil (bk_nil ⟨rfl, _, _, rfl⟩)))⟩
  case d =>
    rintro ρ s' ⟨rfl, g3, g4, rfl⟩
    refine bk_cons (bs_ifF (et_not (k := true) (et_val (ed_cl (ea_cons (ed_var (d := .int n) 2 rfl (.inl rfl) rfl) ea_nil) (hr.mono (by decide)) (rn_nat T.toTx n)))) (bk_nil ?_))
    refine bk_cons (bs_fld 0 B.cls B.n_items rfl (.inl rfl) (d := .lst (L.map liD)) (s1 := s') (Ed.is (El.ed (el_map (s1 := s') [("item", 4)] toLi rfl nd (ei_seq (ed_var (d := y) 1 rfl (.inl rfl) rfl) (items_or hy)) (blkOk_by rfl) (by rw [hh.len]; exact Nat.le_trans hl (by decide)) fun i d hi => ?_)) (congrArg D.lst hh.map)) rfl (by decide) ?_ (by decide))
    · obtain ⟨c, hc', q⟩ := hh.at_ i hi
      obtain ⟨bd, h1, h2, h3, h4, h5, h6⟩ := q.it
      have a0 : d.at 0 = some bd := by rw [items_at h1]; rfl
      have et : toLi d = .tup (fr c.b :: [.int c.g, .int c.w, .int c.lo, hiN c.hi]) := by rw [toLi_eq h1, h5]
      refine ⟨_, _, fun b => eg_name 4 nd rfl (.inl rfl), by decide, fun b => ?_⟩
      rw [et]
      have R := rn_frac_of (s := s') T.toTx h3 fun t b e => Nat.lt_of_lt_of_le (h6 t b e) (Nat.pow_le_pow_right (by decide) (by decide))
      rw [h5] at R
      rcases items_or h1 with rfl | rfl
      · exact ed_tup (ea_cons (ed_cl (ea_cons (ed_ix (ed_var 4 rfl (.inl rfl) rfl) ed_int a0) ea_nil) (hr.mono (by decide)) R) (ea_starS (x := .lst [.int c.g, .int c.w, .int c.lo, hiN c.hi]) (Ed.is (El.ed (el_slice (ed_var 4 rfl (.inl rfl) rfl) (.some (ed_int (i := 1))) .none)) rfl) (.inl rfl) ea_nil))
      · exact ed_tup (ea_cons (ed_cl (ea_cons (ed_ix (ed_var 4 rfl (.inl rfl) rfl) ed_int a0) ea_nil) (hr.mono (by decide)) R) (ea_starS (x := .tup [.int c.g, .int c.w, .int c.lo, hiN c.hi]) (Ed.is (ed_sliceT (ed_var 4 rfl (.inl rfl) rfl) (.some (ed_int (i := 1))) .none) rfl) (.inr rfl) ea_nil))
    · exact bk_cons (bs_fld 0 B.cls B.n_gap rfl (.inl rfl) (d := .int n) (s1 := s') (ed_var (d := .int n) 2 rfl (.inl rfl) rfl) rfl (by decide) (bk_nil ⟨rfl, rfl⟩) (by decide))
def gapsQ (L : List LI) (n : Nat) : Int := (n : Int) * ((L.length : Int) - 1)
abbrev rowD (K : Addr) (L : List LI) (n : Nat) : D := .ins K ksR (dsR L n)
theorem rn_all_gaps (T : Tc E) (B : Ro E K g) {L : List LI} {n : Nat} (hl : L.length ≤ 100) (hn : n < 2 ^ 20) : RnA E 2 (g "all_gaps") [rowD K L n] s (fr ((gapsQ L n : Int) : Rat)) s := by
  refine B.d_gaps.rn sc_Row_all_gaps rfl rfl fun cdv A outer sh H0 EX S0 p hr => ?_
  conv => arg 2; whnf
  refine bk_cons (bs_ret (Ed.is (ed_tup (ea_cons (ed_bin (ed_fld (d := .int n) B.cls B.n_gap (ed_var (d := rowD K L n) 0 rfl (.inl rfl) rfl) rfl) (ed_bin (ed_len T.bf (ed_fld (d := .lst (L.map liD)) B.cls B.n_items (ed_var (d := rowD K L n) 0 rfl (.inl rfl) rfl) rfl) rfl) ed_int rfl trivial) rfl (mulS (by omega) (by rw [List.length_map]; omega))) (ea_cons ed_int ea_nil))) ?_) ⟨rfl, rfl⟩)
  rw [fr_int, List.length_map]; rfl
def szs (L : List LI) (inner : Rat) : List Rat := (levF 0 (L.map LI.it) (inner, 0)).1.map (·.1)
end Law
set_option Elab.async false
set_option linter.all false
set_option maxRecDepth 100000
/-! fractions over one bottom -/
namespace Gh
open PySem PySem.Spec PyProof.Rows L2
def Qn (N M : Nat) (q : Rat) : Prop := ∃ z : Int, q * (N : Rat) = (z : Rat) ∧ z.natAbs ≤ M
theorem Qn.mono {N M M' : Nat} {q : Rat} (h : Qn N M q) (l : M ≤ M') : Qn N M' q := by
  obtain ⟨z, e, b⟩ := h
  exact ⟨z, e, Nat.le_trans b l⟩
theorem Qn.add {N M M' : Nat} {a b : Rat} (h : Qn N M a) (k : Qn N M' b) : Qn N (M + M') (a + b) := by
  obtain ⟨z, e, bz⟩ := h
  obtain ⟨w, f, bw⟩ := k
  refine ⟨z + w, ?_, by omega⟩
  rw [Rat.intCast_add]; grind
theorem Qn.neg {N M : Nat} {a : Rat} (h : Qn N M a) : Qn N M (-a) := by
  obtain ⟨z, e, bz⟩ := h
  refine ⟨-z, ?_, by omega⟩
  rw [Rat.intCast_neg]; grind
theorem Qn.sub {N M M' : Nat} {a b : Rat} (h : Qn N M a) (k : Qn N M' b) : Qn N (M + M') (a - b) := by
  rw [Rat.sub_eq_add_neg]; exact h.add k.neg
theorem Qn.mul {N N' M M' : Nat} {a b : Rat} (h : Qn N M a) (k : Qn N' M' b) : Qn (N * N') (M * M') (a * b) := by
  obtain ⟨z, e, bz⟩ := h
  obtain ⟨w, f, bw⟩ := k
  refine ⟨z * w, ?_, by rw [Int.natAbs_mul]; exact Nat.mul_le_mul bz bw⟩
  rw [Rat.intCast_mul, Rat.natCast_mul]; grind
theorem Qn.up {N M : Nat} {q : Rat} (h : Qn N M q) (k : Nat) : Qn (N * k) (M * k) q := by
  obtain ⟨z, e, b⟩ := h
  refine ⟨z * k, ?_, by rw [Int.natAbs_mul, Int.natAbs_natCast]; exact Nat.mul_le_mul b (Nat.le_refl _)⟩
  rw [Rat.natCast_mul, Rat.intCast_mul, Rat.intCast_natCast, ← Rat.mul_assoc, e]
theorem Qn.int (i : Int) : Qn 1 i.natAbs (i : Rat) := ⟨i, by
  have : ((1 : Nat) : Rat) = 1 := rfl
  rw [this, Rat.mul_one], Nat.le_refl _⟩
theorem Qn.nat (n : Nat) : Qn 1 n (n : Rat) := by
  have := Qn.int (n : Int)
  rw [Rat.intCast_natCast] at this
  simpa using this
theorem Qn.zero {N : Nat} : Qn N 0 0 := ⟨0, by rw [Rat.zero_mul]; rfl, Nat.le_refl _⟩
theorem Qn.div {N M s : Nat} {q : Rat} (h : Qn N M q) (hs : 0 < s) : Qn (N * s) M (q * (1 / (s : Rat))) := by
  obtain ⟨z, e, b⟩ := h
  refine ⟨z, ?_, b⟩
  have := inv_mul hs
  rw [Rat.natCast_mul]
  have : q * (1 / (s : Rat)) * ((N : Rat) * (s : Rat)) = (q * (N : Rat)) * ((1 / (s : Rat)) * (s : Rat)) := by grind
  rw [this, e, inv_mul hs, Rat.mul_one]
theorem Qn.sz {N M n : Nat} {q : Rat} (h : Qn N M q) (h0 : 0 < N) (h1 : N < 2 ^ n) (h2 : M < 2 ^ n) : Sz n q := by
  obtain ⟨z, e, b⟩ := h
  have nz : (N : Rat) ≠ 0 := fun z => by
    have : N = 0 := by exact_mod_cast z
    omega
  have : q = mkRat z N := by
    rw [Rat.mkRat_eq_div]
    grind
  rw [this]
  exact Sz.mk (by omega) h1 (by omega)
theorem Qn.mk {t : Int} {b k : Nat} (hb : 0 < b) : Qn (b * k) (t.natAbs * k) (mkRat t b) := by
  refine ⟨t * k, ?_, by rw [Int.natAbs_mul, Int.natAbs_natCast]; exact Nat.le_refl _⟩
  have nz : (b : Rat) ≠ 0 := fun z => by
    have : b = 0 := by exact_mod_cast z
    omega
  rw [Rat.mkRat_eq_div, Rat.natCast_mul, Rat.intCast_mul, Rat.intCast_natCast]
  grind
/-! sums -/
def lsum (qs : List Rat) : Rat := qs.foldl (· + ·) 0
theorem foldl_add : ∀ (qs : List Rat) (a : Rat), qs.foldl (· + ·) a = a + lsum qs
  | [], a => by unfold lsum; simp; grind
  | q :: qs, a => by
    have h1 := foldl_add qs (a + q)
    have h2 := foldl_add qs (0 + q)
    unfold lsum
    rw [List.foldl_cons, List.foldl_cons, h1, h2]
    grind
theorem lsum_cons (q : Rat) (qs : List Rat) : lsum (q :: qs) = q + lsum qs := by
  have := foldl_add qs (0 + q)
  unfold lsum at *
  rw [List.foldl_cons, this]
  grind
theorem lsum_nil : lsum [] = 0 := rfl
theorem lsum_eq : ∀ qs : List Rat, lsum qs = qs.sum
  | [] => rfl
  | q :: qs => by rw [lsum_cons, List.sum_cons, lsum_eq qs]
theorem Qn.sum {N M : Nat} : ∀ {qs : List Rat}, (∀ q ∈ qs, Qn N M q) → Qn N (M * qs.length) (lsum qs)
  | [], _ => by rw [lsum_nil]; exact .zero
  | q :: qs, h => by
    rw [lsum_cons]
    refine ((h q List.mem_cons_self).add (Qn.sum fun p m => h p (List.mem_cons_of_mem _ m))).mono ?_
    rw [List.length_cons, Nat.mul_succ]; omega
theorem lsum_le : ∀ {as bs : List Rat}, as.length = bs.length → (∀ (i : Nat) (a b : Rat), as[i]? = some a → bs[i]? = some b → a ≤ b) → lsum as ≤ lsum bs
  | [], [], _, _ => Rat.le_refl
  | a :: as, b :: bs, l, h => by
    rw [lsum_cons, lsum_cons]
    have h1 := h 0 a b rfl rfl
    have h2 := lsum_le (as := as) (bs := bs) (by simpa using l) fun i x y e f => h (i + 1) x y (by simpa using e) (by simpa using f)
    grind
  | [], _ :: _, l, _ => by simp at l
  | _ :: _, [], l, _ => by simp at l
/-- equal sums of lists of which one is below: equal lists -/
theorem lsum_eq_of_le : ∀ {as bs : List Rat}, as.length = bs.length → (∀ (i : Nat) (a b : Rat), as[i]? = some a → bs[i]? = some b → a ≤ b) → lsum bs ≤ lsum as → as = bs
  | [], [], _, _, _ => rfl
  | a :: as, b :: bs, l, h, e => by
    rw [lsum_cons, lsum_cons] at e
    have h1 := h 0 a b rfl rfl
    have hr : ∀ (i : Nat) (x y : Rat), as[i]? = some x → bs[i]? = some y → x ≤ y := fun i x y e f => h (i + 1) x y (by simpa using e) (by simpa using f)
    have h2 := lsum_le (as := as) (bs := bs) (by simpa using l) hr
    have e1 : a = b := by grind
    have e2 := lsum_eq_of_le (as := as) (bs := bs) (by simpa using l) hr (by grind)
    rw [e1, e2]
  | [], _ :: _, l, _, _ => by simp at l
  | _ :: _, [], l, _, _ => by simp at l
end Gh
set_option Elab.async false
set_option linter.all false
set_option maxRecDepth 100000
set_option maxHeartbeats 800000
/-! plain: the law's sizes, and what costs least -/
namespace Law
open PySem PySem.Spec PyProof.Rows L2 Gh
def hiR (x : LI) : Option Rat := x.hi.map fun m : Nat => (m : Rat)
def lcl (lo : Rat) (hi : Option Rat) (x : Rat) : Rat := match hi with
  | some m => if m < (if x < lo then lo else x) then m else (if x < lo then lo else x)
  | none => if x < lo then lo else x
theorem lcl_eq {lo x : Rat} {hi : Option Rat} (h : ∀ m, hi = some m → lo ≤ m) : lcl lo hi x = clv lo hi x := by
  cases hi with
  | none => simp only [lcl, clv]; split <;> split <;> grind
  | some m =>
    have := h m rfl
    simp only [lcl, clv]
    grind
def lclamp (x : LI) (q : Rat) : Rat := lcl (x.lo : Rat) (hiR x) q
def lsize (l : Rat) (x : LI) : Rat := lclamp x (x.b + l * (if l < 0 then (x.w : Rat) else (x.g : Rat)))
theorem LOk.hr {x : LI} (h : LOk x) : ∀ m, hiR x = some m → (x.lo : Rat) ≤ m := fun m e => by
  unfold hiR at e
  cases e2 : x.hi with
  | none => rw [e2] at e; cases e
  | some k =>
    rw [e2] at e; cases e
    show ((x.lo : Nat) : Rat) ≤ ((k : Nat) : Rat)
    exact_mod_cast (h.hi k e2).1
/-- what counts: grow, or shrink -/
def wtN (w2 : Bool) (x : LI) : Nat := if w2 then x.w else x.g
def cv (x : LI) (q : Rat) : Rat := clv (x.lo : Rat) (hiR x) q
theorem pv_it {x : LI} {up : Bool} {μ : Rat} : pvl 0 x.it up μ = cv x (x.b + μ * (if up then (x.g : Rat) else -(x.w : Rat))) := by
  unfold pvl cv
  have e1 : ev x.it.lo 0 = (x.lo : Rat) := ev_flat _
  have e2 : ev x.it.b 0 = x.b := ev_flat _
  have e3 : hiV 0 x.it = hiR x := by
    unfold hiV hiR
    show (hiQ x.hi).map _ = _
    cases x.hi with
    | none => rfl
    | some m =>
      show some (ev (((m : Nat) : Rat), 0) 0) = some _
      rw [ev_flat]
  rw [e1, e2, e3]
  congr 1
  cases up with
  | true => rw [stepI_up]; rfl
  | false => rw [stepI_dn]; rfl
theorem clv_mono {lo x y : Rat} {hi : Option Rat} (hl : ∀ m, hi = some m → lo ≤ m) (h : x ≤ y) : clv lo hi x ≤ clv lo hi y := by
  cases hi with
  | none => simp only [clv]; grind
  | some m =>
    have := hl m rfl
    simp only [clv]; grind
/-- the sizes of a row in a room stand at one level of the way that counts -/
theorem szs_level {L : List LI} {inner : Rat} (ok : ∀ x ∈ L, LOk x) : ∃ v : Rat,
    szs L inner = L.map fun x => cv x (x.b + v * (wtN (decide (lsum (szs L inner) < lsum (L.map (lsize 0)))) x : Rat)) := by
  obtain ⟨μ, h0, e1, _, _⟩ := (lev_spec (r := 0) (items := L.map LI.it) (room := (inner, 0)) fun x m => by
    obtain ⟨x, mx, rfl⟩ := List.mem_map.mp m
    exact (ok x mx).ok).ex
  generalize upF 0 (L.map LI.it) (inner, 0) = up at e1
  have es : szs L inner = L.map fun x => pvl 0 x.it up μ := by
    unfold szs
    have : (fun f : Fo => f.1) = (fun f : Fo => ev f 0) := by
      funext f; exact (ev_flat f).symm
    rw [this, e1, List.map_map]; rfl
  have em : L.map (lsize 0) = L.map fun x => cv x x.b := List.map_congr_left fun x mx => by
    unfold lsize lclamp
    rw [lcl_eq (ok x mx).hr]
    unfold cv
    congr 1
    grind
  rw [em]
  have g0 : ∀ x : LI, (0 : Rat) ≤ (x.g : Rat) := fun x => nat_nonneg _
  have w0 : ∀ x : LI, (0 : Rat) ≤ (x.w : Rat) := fun x => nat_nonneg _
  by_cases hw : lsum (szs L inner) < lsum (L.map fun x => cv x x.b)
  · rw [decide_eq_true hw]
    cases up with
    | true =>
      exfalso
      have := lsum_le (as := L.map fun x => cv x x.b) (bs := szs L inner) (by rw [es, List.length_map, List.length_map]) fun i a b ha hb => by
        rw [es] at hb
        rw [List.getElem?_map] at ha hb
        cases e : L[i]? with
        | none => rw [e] at ha; cases ha
        | some x =>
          rw [e] at ha hb
          cases ha; cases hb
          show cv x x.b ≤ pvl 0 x.it true μ
          rw [pv_it]
          refine clv_mono (ok x (List.mem_of_getElem? e)).hr ?_
          have := Rat.mul_nonneg h0 (g0 x)
          simp only [if_true]
          grind
      grind
    | false =>
      refine ⟨-μ, ?_⟩
      rw [es]
      refine List.map_congr_left fun x _ => ?_
      rw [pv_it]
      unfold wtN
      simp only [Bool.false_eq_true, if_false, if_true]
      congr 1
      grind
  · rw [decide_eq_false hw]
    cases up with
    | true =>
      refine ⟨μ, ?_⟩
      rw [es]
      refine List.map_congr_left fun x _ => ?_
      rw [pv_it]; rfl
    | false =>
      refine ⟨0, ?_⟩
      have := lsum_eq_of_le (as := szs L inner) (bs := L.map fun x => cv x x.b) (by rw [es, List.length_map, List.length_map]) (fun i a b ha hb => by
        rw [es] at ha
        rw [List.getElem?_map] at ha hb
        cases e : L[i]? with
        | none => rw [e] at ha; cases ha
        | some x =>
          rw [e] at ha hb
          cases ha; cases hb
          show pvl 0 x.it false μ ≤ cv x x.b
          rw [pv_it]
          refine clv_mono (ok x (List.mem_of_getElem? e)).hr ?_
          have := Rat.mul_nonneg h0 (w0 x)
          simp only [Bool.false_eq_true, if_false]
          grind) (by grind)
      rw [this]
      refine List.map_congr_left fun x _ => ?_
      congr 1
      grind
end Law
set_option Elab.async false
set_option linter.all false
set_option maxRecDepth 100000
set_option maxHeartbeats 800000
/-! the law's small defs -/
namespace Law
open PySem PySem.Spec PyProof.Rows L2 Gh
variable {E : En} {s : Sx}
theorem inv_num {n : Nat} (h : 0 < n) : (1 / (n : Rat)).num = 1 ∧ (1 / (n : Rat)).den = n := by
  have e : (1 / (n : Rat)) = mkRat 1 n := by rw [Rat.mkRat_eq_div]; rfl
  have h1 := mk_num 1 n (by omega)
  have h2 := mk_den 1 n (by omega)
  rw [← e] at h1 h2
  simp at h1 h2
  exact ⟨h1, by omega⟩
theorem rn_lover (T : Tc E) {a : Rat} {n : Nat} (ha : Sz 1000 a) (h0 : 0 < n) (hn : n < 2 ^ 20) : Rn E 2 "_law_over" [fr a, .tup [.int n, .int 1]] s (fr (a * (1 / (n : Rat)))) s := by
  obtain ⟨e1, e2⟩ := inv_num h0
  have em := mul_mk a (1 / (n : Rat))
  rw [e1, e2, Int.mul_one] at em
  have hp : (0 : Int) < (a.den : Int) * n := Int.mul_pos (den_pos a) (by omega)
  refine T.d__law_over.rn sc__law_over rfl rfl fun fa cdv A outer sh H0 EX S0 p hr => ?_
  conv => arg 2; whnf
  have R := rn_llow (s := s) (t := a.num * 1) (b := (a.den : Int) * n) T.toTx hp (by
    rw [Int.natAbs_mul]
    exact Nat.lt_of_lt_of_le (two_pow_mul (show ((a.den : Int)).natAbs < 2 ^ 1000 by simpa using ha.2) (show ((n : Int)).natAbs < 2 ^ 20 by omega)) (Nat.pow_le_pow_right (by decide) (by decide)))
  refine bk_cons (bs_ret (ed_cl (ea_cons (ed_bin (ed_ix (d := .int a.num) (ed_var (d := fr a) 0 rfl (.inl rfl) rfl) ed_int rfl) (ed_ix (d := .int 1) (ed_var (d := .tup [.int n, .int 1]) 1 rfl (.inl rfl) rfl) ed_int rfl) rfl (mulW (ha.mono (by decide)).n (by decide))) (ea_cons (ed_bin (ed_ix (d := .int a.den) (ed_var (d := fr a) 0 rfl (.inl rfl) rfl) ed_int rfl) (ed_ix (d := .int n) (ed_var (d := .tup [.int n, .int 1]) 1 rfl (.inl rfl) rfl) ed_int rfl) rfl (mulW (ha.mono (by decide)).d (Nat.lt_of_lt_of_le (show ((n : Int)).natAbs < 2 ^ 20 by omega) (Nat.pow_le_pow_right (by decide) (by decide))))) ea_nil)) (hr.mono (by decide)) R) ⟨?_, rfl⟩)
  rw [← em, Int.mul_one]
  congr 2
theorem rn_lsum (T : Tc E) {qs : List Rat} (h1 : ∀ i, Sz 3000 (lsum (qs.take i))) (h2 : ∀ q ∈ qs, Sz 3000 q) : Rn E 3 "_law_sum" [.lst (qs.map fr)] s (fr (lsum qs)) s := by
  refine T.d__law_sum.rn sc__law_sum rfl rfl fun fa cdv A outer sh H0 EX S0 p hr => ?_
  conv => arg 2; whnf
  have nd := sc__law_sum.nd
  refine bk_cons (bs_set (d := fr (lsum (qs.take 0))) (s1 := s) 1 nd rfl (.inl rfl) (ed_tup (ea_cons ed_int (ea_cons ed_int ea_nil))) ?_)
  refine bk_cons (bs_for (s1 := s) PassesOwn.never rfl (ei_seq (ed_var (d := .lst (qs.map fr)) 0 rfl (.inl rfl) rfl) (.inl rfl)) (fun i ρ s' => s' = s ∧ ∃ g, ρ = [.val (.lst (qs.map fr)), .val (fr (lsum (qs.take i))), g]) ⟨rfl, _, rfl⟩ ?_ ?_)
  · rintro i d ρ' s' hi ⟨rfl, g, rfl⟩
    rw [List.getElem?_map] at hi
    cases e : qs[i]? with
    | none => rw [e] at hi; cases hi
    | some q =>
      rw [e] at hi; cases hi
      have e2 : lsum (qs.take (i + 1)) = lsum (qs.take i) + q := by
        rw [List.take_add_one, e]
        unfold lsum
        rw [List.foldl_append]; rfl
      refine ⟨_, _, eg_name 2 nd rfl (.inl rfl), bk_cons (bs_set (d := fr (lsum (qs.take (i + 1)))) (s1 := s') 1 nd rfl (.inl rfl) (Ed.is (ed_cl (ea_cons (ed_var (d := fr (lsum (qs.take i))) 1 rfl (.inl rfl) rfl) (ea_cons (ed_var (d := fr q) 2 rfl (.inl rfl) rfl) ea_nil)) (hr.mono (by decide)) (rn_lplus T.toTx (h1 i) (h2 q (List.mem_of_getElem? e)))) (by rw [e2])) (bk_nil ⟨rfl, .val (fr q), rfl⟩))⟩
  · rintro ρ' s' ⟨rfl, g, rfl⟩
    refine bk_cons (bs_ret (ed_var 1 rfl (.inl rfl) rfl) ⟨?_, rfl⟩)
    rw [List.length_map, List.take_length]
/-- unlike fractions, ascending -/
def insQ (F : List Rat) (q : Rat) : List Rat := if ((F.drop (F.filter fun p => decide (p < q)).length).take 1).any (fun p => decide (p = q)) then F else F.take (F.filter fun p => decide (p < q)).length ++ [q] ++ F.drop (F.filter fun p => decide (p < q)).length
def inOrd (qs : List Rat) : List Rat := qs.foldl insQ []
theorem insQ_of {F : List Rat} {p q : Rat} (m : p ∈ insQ F q) : p ∈ F ∨ p = q := by
  unfold insQ at m
  split at m
  · exact .inl m
  · rcases List.mem_append.mp m with m | m
    · rcases List.mem_append.mp m with m | m
      · exact .inl (List.mem_of_mem_take m)
      · exact .inr (List.mem_singleton.mp m)
    · exact .inl (List.mem_of_mem_drop m)
theorem insQ_len {F : List Rat} {q : Rat} : (insQ F q).length ≤ F.length + 1 := by
  unfold insQ
  split
  · omega
  · simp only [List.length_append, List.length_take, List.length_drop, List.length_singleton]; omega
theorem inOrd_go : ∀ (qs F : List Rat), (∀ p ∈ qs.foldl insQ F, p ∈ F ∨ p ∈ qs) ∧ (qs.foldl insQ F).length ≤ F.length + qs.length
  | [], F => ⟨fun p m => .inl m, Nat.le_refl _⟩
  | q :: qs, F => by
    obtain ⟨h1, h2⟩ := inOrd_go qs (insQ F q)
    have h3 := insQ_len (F := F) (q := q)
    refine ⟨fun p m => ?_, ?_⟩
    · rcases h1 p m with m | m
      · rcases insQ_of m with m | rfl
        · exact .inl m
        · exact .inr List.mem_cons_self
      · exact .inr (List.mem_cons_of_mem _ m)
    · rw [List.foldl_cons, List.length_cons]; omega
theorem inOrd_mem {qs : List Rat} : ∀ p ∈ inOrd qs, p ∈ qs := fun p m => ((inOrd_go qs []).1 p m).resolve_left (by simp)
theorem inOrd_len {qs : List Rat} : (inOrd qs).length ≤ qs.length := by
  have := (inOrd_go qs []).2
  unfold inOrd
  simpa using this
theorem any_frs (qs : List Rat) (q : Rat) : ((qs.map fr).any fun y => y.eqb (fr q)) = qs.any fun p => decide (p = q) := by
  induction qs with
  | nil => rfl
  | cons p qs ih => rw [List.map_cons, List.any_cons, List.any_cons, ih, fr_eqb]
theorem eqC_frs (qs : List Rat) : (D.lst (qs.map fr)).eqC := ((eqD.frs qs).lst).eqC
theorem cut_one {α : Type} (xs : List α) (n : Nat) (h : n ≤ xs.length) : Gh.cutD xs (some (n : Int)) (some ((n : Int) + 1)) = (xs.drop n).take 1 := by
  unfold Gh.cutD
  have e1 : HT.sIx xs.length 0 (some (n : Int)) = n := by rw [HT.sIx_nat, Nat.min_eq_left h]
  have e2 : HT.sIx xs.length xs.length (some ((n : Int) + 1)) = min (n + 1) xs.length := by
    rw [show ((n : Int) + 1) = ((n + 1 : Nat) : Int) from rfl, HT.sIx_nat]
  rw [e1, e2]
  by_cases hn : n + 1 ≤ xs.length
  · rw [Nat.min_eq_left hn, Nat.add_sub_cancel_left]
  · rw [Nat.min_eq_right (by omega), show xs.length - n = 0 by omega, List.drop_of_length_le (by omega)]
    simp
theorem rn_in_order (T : Tc E) {qs : List Rat} (h : ∀ q ∈ qs, Sz 3000 q) (hl : qs.length ≤ 1000) : Rn E 3 "_law_in_order" [.lst (qs.map fr)] s (.lst ((inOrd qs).map fr)) s := by
  have go := fun i => inOrd_go (qs.take i) []
  refine T.d__law_in_order.rn sc__law_in_order rfl rfl fun fa cdv A outer sh H0 EX S0 p hr => ?_
  conv => arg 2; whnf
  have nd := sc__law_in_order.nd
  refine bk_cons (bs_set (d := .lst ((inOrd (qs.take 0)).map fr)) (s1 := s) 1 nd rfl (.inl rfl) (El.ed (el_lst ea_nil)) ?_)
  refine bk_cons (bs_for (s1 := s) PassesOwn.never rfl (ei_seq (ed_var (d := .lst (qs.map fr)) 0 rfl (.inl rfl) rfl) (.inl rfl)) (fun i ρ s' => s' = s ∧ ∃ g2 g3, ρ = [.val (.lst (qs.map fr)), .val (.lst ((inOrd (qs.take i)).map fr)), g2, g3, .no]) ⟨rfl, _, _, rfl⟩ ?_ ?_)
  · rintro i d ρ' s' hi ⟨rfl, g2, g3, rfl⟩
    rw [List.getElem?_map] at hi
    cases e : qs[i]? with
    | none => rw [e] at hi; cases hi
    | some q =>
    rw [e] at hi; cases hi
    have zq := h q (List.mem_of_getElem? e)
    have e2 : inOrd (qs.take (i + 1)) = insQ (inOrd (qs.take i)) q := by
      unfold inOrd
      rw [List.take_add_one, e, List.foldl_append]; rfl
    have lt : (inOrd (qs.take i)).length ≤ 1000 := by
      have h1 : (inOrd (qs.take i)).length ≤ _ := inOrd_len
      rw [List.length_take] at h1; omega
    have zF : ∀ p ∈ inOrd (qs.take i), Sz 3000 p := fun p m => h p (List.mem_of_mem_take (inOrd_mem p m))
    rw [e2]
    generalize inOrd (qs.take i) = F at lt zF
    refine ⟨_, _, eg_name 2 nd rfl (.inr rfl), ?_⟩
    have hat : (F.filter fun p => decide (p < q)).length ≤ F.length := List.length_filter_le _ _
    generalize hn : (F.filter fun p => decide (p < q)).length = n at hat
    show Bk _ _ ([.val (.lst (qs.map fr)), .val (.lst (F.map fr)), .val (fr q), g3, .no] : List G) s' _
    refine bk_cons (bs_set (d := .int n) (s1 := s') 3 nd rfl (.inl rfl) (Ed.is (ed_len T.bf (El.ed (el_filterM (s1 := s') [("_law_other", 4)] fr fr (fun p : Rat => decide (p < q)) (xs := F) rfl nd (ei_seq (ed_var (d := .lst (F.map fr)) 1 rfl (.inl rfl) rfl) (.inl rfl)) (blkOk_by rfl) (Nat.le_trans lt (by decide)) (fun p mp => ⟨_, _, fun b => eg_name 4 nd rfl (.inl rfl), by decide, fun b => et_val (ed_cl (ea_cons (ed_var (d := fr p) 4 rfl (.inl rfl) rfl) (ea_cons (ed_var (d := fr q) 2 rfl (.inr (.inl rfl)) rfl) ea_nil)) (hr.mono (by decide)) (rn_lless T.toTx (zF p mp) zq)), fun _ b => ed_var (d := fr p) 4 rfl (.inl rfl) rfl⟩))) rfl) (by rw [List.length_map, hn])) ?_)
    show Bk _ _ ([.val (.lst (qs.map fr)), .val (.lst (F.map fr)), .val (fr q), .val (.int n), .no] : List G) s' _
    have hcut : Gh.cutD (F.map fr) (some (n : Int)) (some ((n : Int) + 1)) = ((F.drop n).take 1).map fr := by
      rw [cut_one _ _ (by rw [List.length_map]; exact hat), List.map_take, List.map_drop]
    refine bk_cons (bs_if (t := !(((F.drop n).take 1).any fun p => decide (p = q))) (s1 := s') (Cp.et (Cp.is (cp_notInV hr (ed_var (d := fr q) 2 rfl (.inr (.inl rfl)) rfl) (El.ev (El.is (el_slice (ed_var (d := .lst (F.map fr)) 1 rfl (.inl rfl) rfl) (.some (ed_var (d := .int n) 3 rfl (.inl rfl) rfl)) (.some (ed_bin (ed_var (d := .int n) 3 rfl (.inl rfl) rfl) ed_int rfl trivial))) hcut)) (fr_eqC q) (eqC_frs _)) (by rw [any_frs]))) (fun hb => ?_) (fun hb => ?_))
    · have hb' : (((F.drop n).take 1).any fun p => decide (p = q)) = false := by simpa using hb
      refine bk_cons (bs_set (d := .lst ((insQ F q).map fr)) (s1 := s') 1 nd rfl (.inl rfl) (El.ed (El.is (el_cat ?_ (El.ed (el_cat ?_ (El.ed (el_slice (ed_var (d := .lst (F.map fr)) 1 rfl (.inl rfl) rfl) .none (.some (ed_var (d := .int n) 3 rfl (.inl rfl) rfl)))) (El.ed (el_lst (ea_cons (ed_var (d := fr q) 2 rfl (.inr (.inl rfl)) rfl) ea_nil))))) (El.ed (el_slice (ed_var (d := .lst (F.map fr)) 1 rfl (.inl rfl) rfl) (.some (ed_var (d := .int n) 3 rfl (.inl rfl) rfl)) .none))) ?_)) (bk_nil (bk_nil ⟨rfl, _, _, rfl⟩)))
      · rw [cutD_take, cutD_drop]
        simp only [List.length_append, List.length_take, List.length_drop, List.length_map, List.length_cons, List.length_nil]
        exact Nat.le_trans (show _ ≤ 3000 by omega) (by decide)
      · rw [cutD_take]
        simp only [List.length_take, List.length_map, List.length_cons, List.length_nil]
        exact Nat.le_trans (show _ ≤ 3000 by omega) (by decide)
      · rw [cutD_take, cutD_drop]
        unfold insQ
        rw [hn, hb', if_neg (by decide), List.map_append, List.map_append, List.map_take, List.map_drop]; rfl
    · have hb' : (((F.drop n).take 1).any fun p => decide (p = q)) = true := by simpa using hb
      refine bk_nil (bk_nil ⟨rfl, .val (fr q), .val (.int n), ?_⟩)
      unfold insQ
      rw [hn, hb', if_pos rfl]
  · rintro ρ' s' ⟨rfl, g2, g3, rfl⟩
    refine bk_cons (bs_ret (ed_var 1 rfl (.inl rfl) rfl) ⟨?_, rfl⟩)
    rw [List.length_map, List.take_length]
theorem sz_hi {x : LI} (ok : LOk x) {m : Nat} (h : x.hi = some m) : Sz 20 (m : Rat) := sz_nat (ok.hi m h).2
theorem rn_clamped (T : Tc E) {x : LI} {q : Rat} (ok : LOk x) (hq : Sz 3000 q) : Rn E 2 "_law_clamped" [liD x, fr q] s (fr (lclamp x q)) s := by
  have z1 : Sz 3000 (x.lo : Rat) := (sz_nat (m := 20) ok.lo).mono (by decide)
  have z2 : Sz 3000 (if q < (x.lo : Rat) then (x.lo : Rat) else q) := by split <;> assumption
  refine T.d__law_clamped.rn sc__law_clamped rfl rfl fun fa cdv A outer sh H0 EX S0 p hr => ?_
  conv => arg 2; whnf
  have nd := sc__law_clamped.nd
  refine bk_cons (bs_set (d := fr (if q < (x.lo : Rat) then (x.lo : Rat) else q)) (s1 := s) 2 nd rfl (.inl rfl) (Ed.is (ed_if (et_val (ed_cl (ea_cons (ed_var (d := fr q) 1 rfl (.inl rfl) rfl) (ea_cons (Ed.is (y := fr (x.lo : Rat)) (ed_tup (ea_cons (ed_ix (d := .int x.lo) (ed_var (d := liD x) 0 rfl (.inl rfl) rfl) ed_int rfl) (ea_cons ed_int ea_nil))) (fr_nat _).symm) ea_nil)) (hr.mono (by decide)) (rn_lless T.toTx hq z1))) (fun _ => (Ed.is (y := fr (x.lo : Rat)) (ed_tup (ea_cons (ed_ix (d := .int x.lo) (ed_var (d := liD x) 0 rfl (.inl rfl) rfl) ed_int rfl) (ea_cons ed_int ea_nil))) (fr_nat _).symm)) (fun _ => (ed_var (d := fr q) 1 rfl (.inl rfl) rfl))) ?_) ?_)
  · by_cases h : q < (x.lo : Rat)
    · rw [decide_eq_true h, if_pos h]; rfl
    · rw [decide_eq_false h, if_neg h]; rfl
  · unfold lclamp lcl hiR
    generalize (if q < (x.lo : Rat) then (x.lo : Rat) else q) = l at z2
    show Bk _ _ ([.val (liD x), .val (fr q), .val (fr l)] : List G) s _
    cases e : x.hi with
    | none => exact bk_cons (bs_ret (ed_ifF (Ew.et (ew_andF (Cp.et (Cp.is (cp_notN (ed_ix (d := hiN x.hi) (ed_var (d := liD x) 0 rfl (.inl rfl) rfl) ed_int rfl)) (by rw [e]; rfl))))) (ed_var (d := fr l) 2 rfl (.inl rfl) rfl)) ⟨rfl, rfl⟩)
    | some m =>
      have zm : Sz 3000 (m : Rat) := (sz_hi ok e).mono (by decide)
      show Bk _ _ _ _ { nx := _, rt := fun r t => r = fr (if (m : Rat) < l then (m : Rat) else l) ∧ t = s }
      by_cases h : (m : Rat) < l
      · rw [if_pos h]
        exact bk_cons (bs_ret (ed_ifT (Ew.et (ew_andT (Cp.et (Cp.is (cp_notN (ed_ix (d := hiN x.hi) (ed_var (d := liD x) 0 rfl (.inl rfl) rfl) ed_int rfl)) (by rw [e]; rfl))) (ew_and1 (et_val ((ed_cl (ea_cons (Ed.is (y := fr (m : Rat)) (ed_tup (ea_cons (Ed.is (y := .int m) (ed_ix (d := hiN x.hi) (ed_var (d := liD x) 0 rfl (.inl rfl) rfl) ed_int rfl) (by rw [e]; rfl)) (ea_cons ed_int ea_nil))) (fr_nat _).symm) (ea_cons (ed_var (d := fr l) 2 rfl (.inl rfl) rfl) ea_nil)) (hr.mono (by decide)) (rn_lless T.toTx zm z2)).is (congrArg D.bl (decide_eq_true h))))))) (Ed.is (y := fr (m : Rat)) (ed_tup (ea_cons (Ed.is (y := .int m) (ed_ix (d := hiN x.hi) (ed_var (d := liD x) 0 rfl (.inl rfl) rfl) ed_int rfl) (by rw [e]; rfl)) (ea_cons ed_int ea_nil))) (fr_nat _).symm)) ⟨rfl, rfl⟩)
      · rw [if_neg h]
        exact bk_cons (bs_ret (ed_ifF (Ew.et (ew_andT (Cp.et (Cp.is (cp_notN (ed_ix (d := hiN x.hi) (ed_var (d := liD x) 0 rfl (.inl rfl) rfl) ed_int rfl)) (by rw [e]; rfl))) (ew_and1 (et_val ((ed_cl (ea_cons (Ed.is (y := fr (m : Rat)) (ed_tup (ea_cons (Ed.is (y := .int m) (ed_ix (d := hiN x.hi) (ed_var (d := liD x) 0 rfl (.inl rfl) rfl) ed_int rfl) (by rw [e]; rfl)) (ea_cons ed_int ea_nil))) (fr_nat _).symm) (ea_cons (ed_var (d := fr l) 2 rfl (.inl rfl) rfl) ea_nil)) (hr.mono (by decide)) (rn_lless T.toTx zm z2)).is (congrArg D.bl (decide_eq_false h))))))) (ed_var (d := fr l) 2 rfl (.inl rfl) rfl)) ⟨rfl, rfl⟩)
theorem num_neg {q : Rat} : q.num < 0 ↔ q < 0 := by
  have := Rat.num_nonneg (q := q)
  constructor
  · intro h
    refine Rat.not_le.mp fun z => ?_
    have := this.mpr z
    omega
  · intro h
    have : ¬ 0 ≤ q.num := fun z => by
      have := this.mp z
      grind
    omega
def byN (x : LI) (l : Rat) : Nat := if l < 0 then x.w else x.g
theorem lsize_by (x : LI) (l : Rat) : lsize l x = lclamp x (x.b + l * (byN x l : Rat)) := by
  unfold lsize byN
  split <;> rfl
theorem byN_lt {x : LI} (ok : LOk x) (l : Rat) : byN x l < 2 ^ 10 := by
  unfold byN
  split
  · exact ok.w
  · exact ok.g
theorem ed_by {F : Fx} {ρ : List G} {a b c : Expr} {pos : Pos} {x : LI} {l : Rat} (hc : Et F ρ s c (decide (l < 0)) s) (ha : Ed F ρ s a (.int x.w) s) (hb : Ed F ρ s b (.int x.g) s) : Ed F ρ s (.IfExp c a b pos) (.int (byN x l)) s := by
  refine Ed.is (ed_if hc (fun _ => ha) (fun _ => hb)) ?_
  unfold byN
  by_cases h : l < 0
  · rw [decide_eq_true h, if_pos h]; rfl
  · rw [decide_eq_false h, if_neg h]; rfl
theorem rn_size (T : Tc E) {x : LI} {l : Rat} (ok : LOk x) (hq : Sz 2000 l) : Rn E 3 "_law_size" [liD x, fr l] s (fr (lsize l x)) s := by
  have zb : Sz 10 (byN x l : Rat) := sz_nat (byN_lt ok l)
  refine T.d__law_size.rn sc__law_size rfl rfl fun fa cdv A outer sh H0 EX S0 p hr => ?_
  conv => arg 2; whnf
  have nd := sc__law_size.nd
  refine bk_cons (bs_set (d := .int (byN x l)) (s1 := s) 2 nd rfl (.inl rfl) (ed_by (Cp.et (Cp.is (cp_lt (ed_ix (d := .int l.num) (ed_var (d := fr l) 1 rfl (.inl rfl) rfl) ed_int rfl) ed_int) (decide_eq_decide.mpr num_neg))) (ed_ix (d := .int x.w) (ed_var (d := liD x) 0 rfl (.inl rfl) rfl) ed_int rfl) (ed_ix (d := .int x.g) (ed_var (d := liD x) 0 rfl (.inl rfl) rfl) ed_int rfl)) ?_)
  rw [lsize_by]
  exact bk_cons (bs_ret (ed_cl (ea_cons (ed_var (d := liD x) 0 rfl (.inl rfl) rfl) (ea_cons (ed_cl (ea_cons (ed_ix (d := fr x.b) (ed_var (d := liD x) 0 rfl (.inl rfl) rfl) ed_int rfl) (ea_cons (ed_cl (ea_cons (ed_var (d := fr l) 1 rfl (.inl rfl) rfl) (ea_cons (Ed.is (y := fr (byN x l : Rat)) (ed_tup (ea_cons (ed_var (d := .int (byN x l)) 2 rfl (.inl rfl) rfl) (ea_cons ed_int ea_nil))) (fr_nat _).symm) ea_nil)) (hr.mono (by decide)) (rn_ltimes T.toTx (hq.mono (by decide)) (zb.mono (by decide)))) ea_nil)) (hr.mono (by decide)) (rn_lplus T.toTx (ok.b.mono (by decide)) ((hq.mul zb).mono (by decide)))) ea_nil)) (hr.mono (by decide)) (rn_clamped T ok ((ok.b.add (hq.mul zb)).mono (by decide)))) ⟨rfl, rfl⟩)
theorem rn_total (T : Tc E) {L : List LI} {l : Rat} (ok : ∀ x ∈ L, LOk x) (hq : Sz 1000 l) (hl : L.length ≤ 20) (h1 : ∀ i, Sz 3000 (lsum ((L.map (lsize l)).take i))) (h2 : ∀ q ∈ L.map (lsize l), Sz 3000 q) : Rn E 4 "_law_total" [.lst (L.map liD), fr l] s (fr (lsum (L.map (lsize l)))) s := by
  refine T.d__law_total.rn sc__law_total rfl rfl fun fa cdv A outer sh H0 EX S0 p hr => ?_
  conv => arg 2; whnf
  exact bk_cons (bs_ret (ed_cl (ea_cons (El.ed (El.is (el_mapM (s1 := s) [("_law_item_here", 2)] liD (fun x : LI => fr (lsize l x)) (xs := L) rfl sc__law_total.nd (ei_seq (ed_var 0 rfl (.inl rfl) rfl) (.inl rfl)) (blkOk_by rfl) (Nat.le_trans hl (by decide)) (fun x mx => ⟨_, _, fun b => eg_name 2 sc__law_total.nd rfl (.inl rfl), by decide, fun b => ed_cl (ea_cons (ed_var (d := liD x) 2 rfl (.inl rfl) rfl) (ea_cons (ed_var (d := fr l) 1 rfl (.inr (.inl rfl)) rfl) ea_nil)) (hr.mono (by decide)) (rn_size T (ok x mx) (hq.mono (by decide)))⟩)) (ys := (L.map (lsize l)).map fr) (by rw [List.map_map]; rfl))) ea_nil) (hr.mono (by decide)) (rn_lsum T h1 h2)) ⟨rfl, rfl⟩)
theorem rn_lgaps (T : Tc E) {L : List LI} {n : Nat} (hl : L.length ≤ 100) (hn : n < 2 ^ 20) : Rn E 1 "_law_gaps" [.lst (L.map liD), .int n] s (fr ((gapsQ L n : Int) : Rat)) s := by
  refine T.d__law_gaps.rn sc__law_gaps rfl rfl fun fa cdv A outer sh H0 EX S0 p hr => ?_
  conv => arg 2; whnf
  refine bk_cons (bs_ret (Ed.is (ed_tup (ea_cons (ed_bin (ed_var (d := .int n) 1 rfl (.inl rfl) rfl) (ed_bin (ed_len T.bf (ed_var (d := .lst (L.map liD)) 0 rfl (.inl rfl) rfl) rfl) ed_int rfl trivial) rfl (mulS (by omega) (by rw [List.length_map]; omega))) (ea_cons ed_int ea_nil))) ?_) ⟨rfl, rfl⟩)
  rw [fr_int, List.length_map]; rfl
end Law
set_option Elab.async false
set_option linter.all false
set_option maxRecDepth 100000
/-! comprehensions whose turns draw -/
namespace Gh
open PySem PySem.Spec PyProof.Rows L2
variable {F : Fx} {ρ : List G} {s s1 s2 : Sx} {a b e tg elt iter : Expr} {pos p : Pos} {scope : Scope} {k : GE}
theorem sl1000 {n : Nat} (h : n ≤ 1000) : n ≤ sizeLine := Nat.le_trans h (by decide)
theorem Comp.seq {vs : List Nat} {items outs : List D} {st : Nat → Sx} (hl : outs.length = items.length) (hz : outs.length ≤ sizeLine)
    (h : ∀ i d o, items[i]? = some d → outs[i]? = some o → ∃ ρ2 js, (∀ c, Eg (F.blk scope c) tg d (gwipe ρ vs) ρ2 js) ∧ (∀ j ∈ js, j ∈ vs) ∧ ∀ c, Ed (F.blk scope c) ρ2 (st i) elt o (st (i + 1))) :
    Comp F ρ scope vs tg [] elt items (fun i => outs.take i) st := by
  refine ⟨rfl, fun i hi => Nat.le_trans (by rw [List.length_take]; exact Nat.min_le_right _ _) hz, fun i d hd => ?_⟩
  have hi : i < outs.length := by rw [hl]; exact (List.getElem?_eq_some_iff.mp hd).1
  have ho : outs[i]? = some outs[i] := List.getElem?_eq_getElem hi
  obtain ⟨ρ2, js, h1, h2, h3⟩ := h i d _ hd ho
  refine ⟨ρ2, js, h1, h2, true, st i, fun c => .inl ⟨rfl, rfl, rfl⟩, fun _ => ⟨_, h3, ?_⟩, fun z => by cases z⟩
  show outs.take (i + 1) = outs.take i ++ [outs[i]]
  rw [List.take_succ, ho]; rfl
theorem el_seqN {items outs : List D} {st : Nat → Sx} (own : List (Str × Nat)) (n : Nat) (hc : F.X.calm = true) (hN : F.X.N.Nodup) (hn : items.length = n) (hl : outs.length = n) (hz : n ≤ 1000) (kd : s.isSome = (st n).isSome)
    (hi : Ei F ρ s tg iter items (st 0)) (ok : BlkOk F.X.N F.X.env.scope scope own)
    (h : ∀ i d o, items[i]? = some d → outs[i]? = some o → ∃ ρ2 js, (∀ c, Eg (F.blk scope c) tg d (gwipe ρ (own.map (·.2))) ρ2 js) ∧ (∀ j ∈ js, j ∈ own.map (·.2)) ∧ ∀ c, Ed (F.blk scope c) ρ2 (st i) elt o (st (i + 1)))
    (hs : ∀ x, foldedSetIterable iter F.X.env x = pure x := by intro _; rfl) : El F ρ s (.ListComp elt [⟨tg, iter, [], 0⟩] scope pos) outs (st n) := by
  subst hn
  have z := el_comp (pos := pos) own hc hN hi ok (Comp.seq hl (by rw [hl]; exact sl1000 hz) h) kd hs
  have e : outs.take items.length = outs := List.take_of_length_le (by rw [hl]; exact Nat.le_refl _)
  rw [e] at z
  exact z
/-- x = [elt for tg in iter], each turn may draw; x a name of the def alone -/
theorem bk_seqN (i : Nat) {y : Str} {py spos : Pos} {sts : List Stmt} {items outs : List D} {st : Nat → Sx} (own : List (Str × Nat)) (n : Nat) (hc : F.X.calm = true) (hN : F.X.N.Nodup) (hy : F.X.N[i]? = some y) (hyl : F.X.env.scope.names.lookup y = some .local)
    (hsw : swapsWith (.ListComp elt [⟨tg, iter, [], 0⟩] scope pos) (some (.Name y py)) spos.line F.X.env = pure true) (hil : (ρ[i]?).isSome = true) (hn : items.length = n) (hl : outs.length = n) (hz : n ≤ 1000)
    (hi : Ei F ρ s tg iter items (st 0)) (ok : BlkOk F.X.N F.X.env.scope scope own)
    (h : ∀ i d o, items[i]? = some d → outs[i]? = some o → ∃ ρ2 js, (∀ c, Eg (F.blk scope c) tg d (gwipe ρ (own.map (·.2))) ρ2 js) ∧ (∀ j ∈ js, j ∈ own.map (·.2)) ∧ ∀ c, Ed (F.blk scope c) ρ2 (st i) elt o (st (i + 1)))
    (hk : Bk F sts (ρ.set i (.val (.lst outs))) (st n) k) (hs : ∀ x, foldedSetIterable iter F.X.env x = pure x := by intro _; rfl) :
    Bk F (.Assign [.Name y py] (.ListComp elt [⟨tg, iter, [], 0⟩] scope pos) spos :: sts) ρ s k := by
  subst hn
  refine bk_cons (bs_setLc i own hc hN hy hyl hsw hi ok (Comp.seq hl (by rw [hl]; exact sl1000 hz) h) ?_ hs)
  show Bk F sts (ρ.set i (.own (outs.take items.length))) (st items.length) k
  rw [List.take_of_length_le (by rw [hl]; exact Nat.le_refl _)]
  refine bk_freeze i (List.getElem?_set_self (by simpa using hil)) ?_
  rw [List.set_set]
  exact hk
theorem atI_n {α : Type} {xs : List α} {i : Nat} {a : α} (h : xs[i]? = some a) : atI xs (i : Int) = some a := by
  have hl := (List.getElem?_eq_some_iff.mp h).1
  have he := (List.getElem?_eq_some_iff.mp h).2
  unfold atI ixN
  simp [hl, he]
theorem cons_erase_perm {α : Type} : ∀ (l : List α) (i : Nat) (h : i < l.length), (l[i] :: l.eraseIdx i).Perm l
  | a :: l, 0, h => .refl _
  | a :: l, i + 1, h => by
    have h' : i < l.length := by simpa using h
    show (l[i] :: a :: l.eraseIdx i).Perm (a :: l)
    exact (List.Perm.swap a l[i] _).trans ((cons_erase_perm l i h').cons a)
theorem map_erase {α β : Type} (f : α → β) : ∀ (l : List α) (j : Nat), (l.map f).eraseIdx j = (l.eraseIdx j).map f
  | [], _ => rfl
  | _ :: _, 0 => rfl
  | a :: l, j + 1 => by
    show f a :: (l.map f).eraseIdx j = f a :: (l.eraseIdx j).map f
    rw [map_erase f l j]
end Gh
set_option Elab.async false
set_option linter.all false
set_option maxRecDepth 100000
set_option maxHeartbeats 1000000
namespace Law
open PySem PySem.Spec PyProof.Rows L2 Gh
variable {E : En} {s : Sx}
theorem rn_same_int (T : Tx E) (i : Int) : Rn E 1 "_law_same" [.int i, .int i] s (.bl true) s := by
  refine T.d__law_same.rn sc__law_same rfl rfl fun fa cdv A outer sh H0 EX S0 p hr => ?_
  conv => arg 2; whnf
  refine bk_cons (bs_ifF (et_val ((ed_isiT T.bf (ed_var 1 rfl (.inl rfl) rfl) rfl (cns_cons (cn_list T.bf) (cns_cons (cn_tuple T.bf) cns_nil))).is rfl)) (bk_nil ?_))
  refine bk_cons (bs_ifF (et_val ((ed_isi T.bf (ed_var 1 rfl (.inl rfl) rfl) rfl (cn_dict T.bf)).is rfl)) (bk_nil ?_))
  refine bk_cons (bs_ifT (et_val ((ed_isi T.bf (ed_var 1 rfl (.inl rfl) rfl) rfl (cn_int T.bf)).is rfl)) (bk_cons ?_))
  exact bs_ret (ed_andT ((ed_isi T.bf (ed_var 0 rfl (.inl rfl) rfl) rfl (cn_int T.bf)).is rfl) (ed_andT ((Cp.ed (cp_eq hr (ed_isi T.bf (ed_var 0 rfl (.inl rfl) rfl) rfl (cn_bool T.bf)) (ed_isi T.bf (ed_var 1 rfl (.inl rfl) rfl) rfl (cn_bool T.bf)) (eqC_bl _) (eqC_bl _))).is (by simp [D.eqb, D.py, PyData.eqv])) (ed_one ((Cp.ed (cp_eq hr (ed_var 0 rfl (.inl rfl) rfl) (ed_var 1 rfl (.inl rfl) rfl) (eqC_int _) (eqC_int _))).is (by rw [eqb_int, decide_eq_true rfl]))))) ⟨rfl, rfl⟩
theorem rn_same_non (T : Tx E) : Rn E 1 "_law_same" [.non, .non] s (.bl true) s := by
  refine T.d__law_same.rn sc__law_same rfl rfl fun fa cdv A outer sh H0 EX S0 p hr => ?_
  conv => arg 2; whnf
  refine bk_cons (bs_ifF (et_val ((ed_isiT T.bf (ed_var 1 rfl (.inl rfl) rfl) rfl (cns_cons (cn_list T.bf) (cns_cons (cn_tuple T.bf) cns_nil))).is rfl)) (bk_nil ?_))
  refine bk_cons (bs_ifF (et_val ((ed_isi T.bf (ed_var 1 rfl (.inl rfl) rfl) rfl (cn_dict T.bf)).is rfl)) (bk_nil ?_))
  refine bk_cons (bs_ifF (et_val ((ed_isi T.bf (ed_var 1 rfl (.inl rfl) rfl) rfl (cn_int T.bf)).is rfl)) (bk_nil (bk_cons ?_)))
  exact bs_ret (ed_andT (Ed.is (ed_not ((ed_isiT T.bf (ed_var 0 rfl (.inl rfl) rfl) rfl (cns_cons (cn_int T.bf) (cns_cons (cn_list T.bf) (cns_cons (cn_tuple T.bf) (cns_cons (cn_dict T.bf) cns_nil))))).is rfl)) rfl) (ed_one ((Cp.ed (cp_eq hr (ed_var 0 rfl (.inl rfl) rfl) (ed_var 1 rfl (.inl rfl) rfl) eqC_non eqC_non)).is (by simp [D.eqb, D.py, PyData.eqv])))) ⟨rfl, rfl⟩
theorem rn_same_str (T : Tx E) {x : Str} (h : PyData.strOk x = true) : Rn E 1 "_law_same" [.str x, .str x] s (.bl true) s := by
  refine T.d__law_same.rn sc__law_same rfl rfl fun fa cdv A outer sh H0 EX S0 p hr => ?_
  conv => arg 2; whnf
  refine bk_cons (bs_ifF (et_val ((ed_isiT T.bf (ed_var (d := .str x) 1 rfl (.inl rfl) rfl) rfl (cns_cons (cn_list T.bf) (cns_cons (cn_tuple T.bf) cns_nil))).is rfl)) (bk_nil ?_))
  refine bk_cons (bs_ifF (et_val ((ed_isi T.bf (ed_var (d := .str x) 1 rfl (.inl rfl) rfl) rfl (cn_dict T.bf)).is rfl)) (bk_nil ?_))
  refine bk_cons (bs_ifF (et_val ((ed_isi T.bf (ed_var (d := .str x) 1 rfl (.inl rfl) rfl) rfl (cn_int T.bf)).is rfl)) (bk_nil (bk_cons ?_)))
  exact bs_ret (ed_andT (Ed.is (ed_not ((ed_isiT T.bf (ed_var (d := .str x) 0 rfl (.inl rfl) rfl) rfl (cns_cons (cn_int T.bf) (cns_cons (cn_list T.bf) (cns_cons (cn_tuple T.bf) (cns_cons (cn_dict T.bf) cns_nil))))).is rfl)) rfl) (ed_one ((Cp.ed (cp_eq hr (ed_var (d := .str x) 0 rfl (.inl rfl) rfl) (ed_var (d := .str x) 1 rfl (.inl rfl) rfl) (eqC_str h) (eqC_str h))).is (by simp [D.eqb, D.py, PyData.eqv])))) ⟨rfl, rfl⟩
theorem zip_self {xs : List D} {i : Nat} {d : D} (h : (zipD xs xs)[i]? = some d) : ∃ y ∈ xs, d = .tup [y, y] := by
  unfold zipD at h
  rw [List.getElem?_zipWith] at h
  cases e : xs[i]? with
  | none => rw [e] at h; cases h
  | some y => rw [e] at h; cases h; exact ⟨y, List.mem_of_getElem? e, rfl⟩
theorem rn_same_tup (T : Tx E) {k : Nat} {xs : List D} (hl : xs.length ≤ 1000) (h : ∀ x ∈ xs, ∀ s, Rn E (k + 1) "_law_same" [x, x] s (.bl true) s) : Rn E (k + 2) "_law_same" [.tup xs, .tup xs] s (.bl true) s := by
  have hz : (zipD xs xs).length = xs.length := by simp [zipD]
  refine T.d__law_same.rn sc__law_same rfl rfl fun fa cdv A outer sh H0 EX S0 p hr => ?_
  conv => arg 2; whnf
  refine bk_cons (bs_ifT (et_val ((ed_isiT T.bf (ed_var 1 rfl (.inl rfl) rfl) rfl (cns_cons (cn_list T.bf) (cns_cons (cn_tuple T.bf) cns_nil))).is rfl)) (bk_cons ?_))
  refine bs_ifF (Ew.et (ew_orF (Cp.et ((cp_ne hr (ed_isi T.bf (ed_var 0 rfl (.inl rfl) rfl) rfl (cn_list T.bf)) (ed_isi T.bf (ed_var 1 rfl (.inl rfl) rfl) rfl (cn_list T.bf)) (eqC_bl _) (eqC_bl _)).is (by simp [D.eqb, D.py, PyData.eqv]))) (ew_or1 (Cp.et ((cp_ne hr (ed_isi T.bf (ed_var 0 rfl (.inl rfl) rfl) rfl (cn_tuple T.bf)) (ed_isi T.bf (ed_var 1 rfl (.inl rfl) rfl) rfl (cn_tuple T.bf)) (eqC_bl _) (eqC_bl _)).is (by simp [D.eqb, D.py, PyData.eqv])))))) (bk_nil (bk_cons ?_))
  refine bs_ret (ed_andT ((Cp.ed (cp_eq hr (ed_len T.bf (ed_var 0 rfl (.inl rfl) rfl) rfl) (ed_len T.bf (ed_var 1 rfl (.inl rfl) rfl) rfl) (eqC_int _) (eqC_int _))).is (by rw [eqb_int, decide_eq_true rfl])) (ed_one (Ed.is (ed_all T.bf rfl (bs := List.replicate xs.length true) (Ed.is (El.ed (el_map [("_law_x", 2), ("_law_y", 3)] (fun _ => .bl true) rfl sc__law_same.nd (ei_zipM T.bf (ed_var 0 rfl (.inl rfl) rfl) (.inr rfl) (ed_var 1 rfl (.inl rfl) rfl) (.inr rfl)) (blkOk_by rfl) (by rw [hz]; exact Nat.le_trans hl (by decide)) (fun i d hi => ?_))) ?_)) ?_))) ⟨rfl, rfl⟩
  · obtain ⟨y, m, rfl⟩ := zip_self hi
    exact ⟨_, _, fun c => eg_tup rfl (egs_cons (eg_name 2 sc__law_same.nd rfl (.inl rfl)) (egs_cons (eg_name 3 sc__law_same.nd rfl (.inl rfl)) egs_nil)), by decide, fun c => ed_cl (ea_cons (ed_var 2 rfl (.inl rfl) rfl) (ea_cons (ed_var 3 rfl (.inl rfl) rfl) ea_nil)) hr (h y m _)⟩
  · rw [List.map_const', List.map_replicate, hz]
  · rw [List.all_replicate]; simp
theorem rn_same_lst (T : Tx E) {k : Nat} {xs : List D} (hl : xs.length ≤ 1000) (h : ∀ x ∈ xs, ∀ s, Rn E (k + 1) "_law_same" [x, x] s (.bl true) s) : Rn E (k + 2) "_law_same" [.lst xs, .lst xs] s (.bl true) s := by
  have hz : (zipD xs xs).length = xs.length := by simp [zipD]
  refine T.d__law_same.rn sc__law_same rfl rfl fun fa cdv A outer sh H0 EX S0 p hr => ?_
  conv => arg 2; whnf
  refine bk_cons (bs_ifT (et_val ((ed_isiT T.bf (ed_var 1 rfl (.inl rfl) rfl) rfl (cns_cons (cn_list T.bf) (cns_cons (cn_tuple T.bf) cns_nil))).is rfl)) (bk_cons ?_))
  refine bs_ifF (Ew.et (ew_orF (Cp.et ((cp_ne hr (ed_isi T.bf (ed_var 0 rfl (.inl rfl) rfl) rfl (cn_list T.bf)) (ed_isi T.bf (ed_var 1 rfl (.inl rfl) rfl) rfl (cn_list T.bf)) (eqC_bl _) (eqC_bl _)).is (by simp [D.eqb, D.py, PyData.eqv]))) (ew_or1 (Cp.et ((cp_ne hr (ed_isi T.bf (ed_var 0 rfl (.inl rfl) rfl) rfl (cn_tuple T.bf)) (ed_isi T.bf (ed_var 1 rfl (.inl rfl) rfl) rfl (cn_tuple T.bf)) (eqC_bl _) (eqC_bl _)).is (by simp [D.eqb, D.py, PyData.eqv])))))) (bk_nil (bk_cons ?_))
  refine bs_ret (ed_andT ((Cp.ed (cp_eq hr (ed_len T.bf (ed_var 0 rfl (.inl rfl) rfl) rfl) (ed_len T.bf (ed_var 1 rfl (.inl rfl) rfl) rfl) (eqC_int _) (eqC_int _))).is (by rw [eqb_int, decide_eq_true rfl])) (ed_one (Ed.is (ed_all T.bf rfl (bs := List.replicate xs.length true) (Ed.is (El.ed (el_map [("_law_x", 2), ("_law_y", 3)] (fun _ => .bl true) rfl sc__law_same.nd (ei_zipM T.bf (ed_var 0 rfl (.inl rfl) rfl) (.inl rfl) (ed_var 1 rfl (.inl rfl) rfl) (.inl rfl)) (blkOk_by rfl) (by rw [hz]; exact Nat.le_trans hl (by decide)) (fun i d hi => ?_))) ?_)) ?_))) ⟨rfl, rfl⟩
  · obtain ⟨y, m, rfl⟩ := zip_self hi
    exact ⟨_, _, fun c => eg_tup rfl (egs_cons (eg_name 2 sc__law_same.nd rfl (.inl rfl)) (egs_cons (eg_name 3 sc__law_same.nd rfl (.inl rfl)) egs_nil)), by decide, fun c => ed_cl (ea_cons (ed_var 2 rfl (.inl rfl) rfl) (ea_cons (ed_var 3 rfl (.inl rfl) rfl) ea_nil)) hr (h y m _)⟩
  · rw [List.map_const', List.map_replicate, hz]
  · rw [List.all_replicate]; simp
/-- data of ints, None, lists and tuples of these -/
inductive Sm : Nat → D → Prop
  | int {n : Nat} (i : Int) : Sm n (.int i)
  | non {n : Nat} : Sm n .non
  | str {n : Nat} {x : Str} : PyData.strOk x = true → Sm n (.str x)
  | lst {n : Nat} {xs : List D} : xs.length ≤ 1000 → (∀ x ∈ xs, Sm n x) → Sm (n + 1) (.lst xs)
  | tup {n : Nat} {xs : List D} : xs.length ≤ 1000 → (∀ x ∈ xs, Sm n x) → Sm (n + 1) (.tup xs)
theorem rn_same (T : Tx E) : ∀ {n : Nat} {x : D}, Sm n x → ∀ s : Sx, Rn E (n + 1) "_law_same" [x, x] s (.bl true) s
  | _, _, .int i, s => (rn_same_int T i).mono (by omega)
  | _, _, .non, s => (rn_same_non T).mono (by omega)
  | _, _, .str h, s => (rn_same_str T h).mono (by omega)
  | _, _, .lst hl h, s => rn_same_lst T hl fun x m s => rn_same T (h x m) s
  | _, _, .tup hl h, s => rn_same_tup T hl fun x m s => rn_same T (h x m) s
theorem sm_fr (q : Rat) : Sm 1 (fr q) := .tup (by show 2 ≤ 1000; decide) fun x m => by
  rcases List.mem_cons.mp m with rfl | m
  · exact .int _
  · rw [List.mem_singleton.mp m]; exact .int _
/-- many draws, one behind another -/
theorem steps {α : Type} {B : Nat} {R : Sx → α → Sx → Prop} {Q : α → Prop} {q : Nat} (one : ∀ (n : Nat) (s : Sx), St n s → n < B → ∃ (u : α) (s' : Sx), Q u ∧ St (n + q) s' ∧ R s u s') : ∀ (m n : Nat) (s : Sx), St n s → n + q * m < B → ∃ (us : List α) (st : Nat → Sx), us.length = m ∧ (∀ u ∈ us, Q u) ∧ st 0 = s ∧ St (n + q * m) (st m) ∧ ∀ (i : Nat) (u : α), us[i]? = some u → R (st i) u (st (i + 1))
  | 0, n, s, h, _ => ⟨[], fun _ => s, rfl, fun u m => (nomatch m), rfl, h, fun i u e => by simp at e⟩
  | m + 1, n, s, h, hn => by
    have em : q * (m + 1) = q * m + q := Nat.mul_succ q m
    obtain ⟨u, s1, hq, h1, r⟩ := one n s h (by omega)
    obtain ⟨us, st, hl, hu, e0, h2, Rs⟩ := steps one m (n + q) s1 h1 (by omega)
    refine ⟨u :: us, fun i => match i with | 0 => s | i + 1 => st i, by simp [hl], fun v mv => ?_, rfl, ?_, fun i v e => ?_⟩
    · rcases List.mem_cons.mp mv with rfl | mv
      · exact hq
      · exact hu v mv
    · show St (n + q * (m + 1)) (st m)
      exact h2.mono (by omega)
    · match i, e with
      | 0, e =>
        simp at e; subst e
        show R s u (st 0)
        rw [e0]; exact r
      | i + 1, e => exact Rs i v (by simpa using e)
end Law
set_option Elab.async false
set_option linter.all false
set_option maxRecDepth 100000
set_option maxHeartbeats 800000
/-! plain: fractions over one bottom -/
namespace Gh
theorem Qn.ups {N K M : Nat} {q : Rat} (h : Qn N M q) (d : N ∣ K) (h0 : 0 < N) : Qn K (M * (K / N)) q := by
  obtain ⟨k, rfl⟩ := d
  rw [Nat.mul_div_cancel_left k h0]
  exact h.up k
theorem Qn.inv {n K : Nat} (h : 0 < n) (d : n ∣ K) : Qn K K (1 / (n : Rat)) := by
  obtain ⟨k, rfl⟩ := d
  refine ⟨(k : Nat), ?_, ?_⟩
  · have := inv_mul h
    rw [Rat.natCast_mul, ← Rat.mul_assoc, this, Rat.one_mul, Rat.intCast_natCast]
  · rw [Int.natAbs_natCast]
    exact Nat.le_mul_of_pos_left k h
end Gh
namespace Law
open PySem PySem.Spec PyProof.Rows L2 Gh
variable {E : En} {s : Sx}
/-- what is drawn for an item -/
structure Lq (x : LI) : Prop where
  ok : LOk x
  b : Qn 42 1050 x.b
  g : x.g = 0 ∨ x.g ∣ 9900
  w : x.w = 0 ∨ x.w ∣ 9900
  lo : x.lo < 100
  hi : ∀ m, x.hi = some m → m < 200
theorem dvd_le9900 {n : Nat} (h : n = 0 ∨ n ∣ 9900) : n ≤ 9900 := h.elim (fun z => by omega) fun d => Nat.le_of_dvd (by decide) d
theorem Lq.by_ {x : LI} (h : Lq x) (l : Rat) : byN x l = 0 ∨ byN x l ∣ 9900 := by
  unfold byN
  split
  · exact h.w
  · exact h.g
theorem Lq.b' {x : LI} (h : Lq x) : Qn 415800 10395000 x.b := h.b.ups (K := 415800) (by decide) (by decide)
theorem qn_nat {n m : Nat} (h : n < m) : Qn 415800 (415800 * m) (n : Rat) := (((Qn.nat n).ups (K := 415800) (by decide) (by decide))).mono (by omega)
theorem Lq.lo' {x : LI} (h : Lq x) : Qn 415800 (2 ^ 28) (x.lo : Rat) := (qn_nat h.lo).mono (by decide)
theorem Lq.hi' {x : LI} (h : Lq x) {m : Nat} (e : x.hi = some m) : Qn 415800 (2 ^ 28) (m : Rat) := (qn_nat (h.hi m e)).mono (by decide)
/-- the level at which an item meets a bound -/
theorem Lq.turn {x : LI} (h : Lq x) {m n : Nat} (hm : m < 200) (h0 : 0 < n) (hd : n ∣ 9900) : Qn 415800 (2 ^ 27) (((m : Rat) - x.b) * (1 / (n : Rat))) := by
  have h1 : Qn 42 (8400 + 1050) ((m : Rat) - x.b) := (((Qn.nat m).ups (K := 42) (by decide) (by decide)).mono (by omega)).sub h.b
  exact (h1.mul (Qn.inv h0 hd)).mono (by decide)
theorem lclamp_qn {x : LI} (h : Lq x) {q : Rat} (hq : Qn 415800 (2 ^ 41) q) : Qn 415800 (2 ^ 41) (lclamp x q) := by
  have z2 : Qn 415800 (2 ^ 41) (if q < (x.lo : Rat) then (x.lo : Rat) else q) := by
    split
    · exact h.lo'.mono (by decide)
    · exact hq
  unfold lclamp lcl hiR
  generalize (if q < (x.lo : Rat) then (x.lo : Rat) else q) = l at z2
  cases e : x.hi with
  | none => exact z2
  | some m =>
    show Qn 415800 (2 ^ 41) (if (m : Rat) < l then (m : Rat) else l)
    split
    · exact (h.hi' e).mono (by decide)
    · exact z2
theorem raw_qn {x : LI} (h : Lq x) {l : Rat} {n : Int} (hl : Qn 415800 (2 ^ 27) l) (hn : n.natAbs ≤ 9900) : Qn 415800 (2 ^ 41) (x.b + l * (n : Rat)) := by
  have h1 := hl.mul (Qn.int n)
  exact (h.b'.add (h1.mono (Nat.mul_le_mul_left _ hn))).mono (by decide)
theorem lsize_qn {x : LI} (h : Lq x) {l : Rat} (hl : Qn 415800 (2 ^ 27) l) : Qn 415800 (2 ^ 41) (lsize l x) := by
  rw [lsize_by]
  refine lclamp_qn h ?_
  have := raw_qn h (n := (byN x l : Int)) hl (by simpa using dvd_le9900 (h.by_ l))
  rw [Rat.intCast_natCast] at this
  exact this
theorem tot_qn {L : List LI} (h : ∀ x ∈ L, Lq x) (hl : L.length ≤ 8) {l : Rat} (hq : Qn 415800 (2 ^ 27) l) : Qn 415800 (2 ^ 44) (lsum (L.map (lsize l))) := by
  refine (Qn.sum fun q m => ?_).mono (M := 2 ^ 41 * (L.map (lsize l)).length) ?_
  · obtain ⟨x, mx, rfl⟩ := List.mem_map.mp m
    exact lsize_qn (h x mx) hq
  · rw [List.length_map]
    calc 2 ^ 41 * L.length ≤ 2 ^ 41 * 8 := Nat.mul_le_mul_left _ hl
      _ = 2 ^ 44 := by decide
/-! the program's sizes -/
theorem hsz_qn {x : LI} (h : Lq x) {f : Fo} {up : Bool} (hf : Qn 415800 (2 ^ 27) f.1) : Qn 415800 (2 ^ 41) (hsz 0 f up x.it).1 := by
  have hs : (stepI x.it up).natAbs ≤ 9900 := by
    cases up with
    | true =>
      show ((x.g : Int)).natAbs ≤ 9900
      have := dvd_le9900 h.g; omega
    | false =>
      show (0 - (x.w : Int)).natAbs ≤ 9900
      have := dvd_le9900 h.w; omega
  have hr : Qn 415800 (2 ^ 41) (rawS x.it f up).1 := raw_qn h hf hs
  have hc : Qn 415800 (2 ^ 41) (capF 0 (rawS x.it f up) x.it.hi).1 := by
    cases e : x.it.hi with
    | none => exact hr
    | some m =>
      show Qn 415800 (2 ^ 41) (if ev (rawS x.it f up) 0 ≤ ev m 0 then rawS x.it f up else m).1
      split
      · exact hr
      · have e' : hiQ x.hi = some m := e
        cases e2 : x.hi with
        | none => rw [e2] at e'; cases e'
        | some k => rw [e2] at e'; cases e'; exact (h.hi' e2).mono (by decide)
  unfold hsz held
  split
  · exact hc
  · exact h.lo'.mono (by decide)
theorem sumF_fst (L : List Fo) : (sumF L).1 = lsum (L.map (·.1)) := by
  suffices ∀ (L : List Fo) (a : Fo), (L.foldl fadd a).1 = a.1 + lsum (L.map (·.1)) by
    have := this L (0, 0)
    rw [show sumF L = L.foldl fadd (0, 0) from rfl, this]
    show (0 : Rat) + _ = _
    grind
  intro L
  induction L with
  | nil => intro a; show a.1 = a.1 + lsum []; rw [lsum_nil]; grind
  | cons f L ih =>
    intro a
    rw [List.foldl_cons, ih, List.map_cons, lsum_cons]
    show a.1 + f.1 + _ = _
    grind
theorem turns_qn {x : LI} (h : Lq x) {up : Bool} : ∀ f ∈ turnsOf x.it up, Qn 415800 (2 ^ 27) f.1 := fun f m => by
  unfold turnsOf at m
  split at m
  · rename_i h0
    obtain ⟨β, mβ, rfl⟩ := List.mem_map.mp m
    have hβ : ∃ k : Nat, k < 200 ∧ β.1 = (k : Rat) := by
      unfold bnds at mβ
      rcases List.mem_cons.mp mβ with rfl | mβ
      · exact ⟨x.lo, by have := h.lo; omega, rfl⟩
      · cases e : x.hi with
        | none =>
          have : x.it.hi = none := by show hiQ x.hi = none; rw [e]; rfl
          rw [this] at mβ; cases mβ
        | some k =>
          have : x.it.hi = some (((k : Nat) : Rat), 0) := by show hiQ x.hi = _; rw [e]; rfl
          rw [this] at mβ
          rw [List.mem_singleton.mp mβ]
          exact ⟨k, h.hi k e, rfl⟩
    obtain ⟨k, hk, eβ⟩ := hβ
    cases up with
    | true =>
      have hd : x.g ∣ 9900 := h.g.resolve_left (by have : 0 < x.g := h0; omega)
      show Qn 415800 (2 ^ 27) ((β.1 - x.b) * (1 / (x.g : Rat)))
      rw [eβ]
      exact h.turn hk h0 hd
    | false =>
      have hd : x.w ∣ 9900 := h.w.resolve_left (by have : 0 < x.w := h0; omega)
      show Qn 415800 (2 ^ 27) ((x.b - β.1) * (1 / (x.w : Rat)))
      rw [eβ]
      have := (h.turn hk h0 hd).neg
      have e : (x.b - (k : Rat)) * (1 / (x.w : Rat)) = -(((k : Rat) - x.b) * (1 / (x.w : Rat))) := by grind
      rw [e]; exact this
  · cases m
theorem free_le {x : LI} (h : Lq x) {f : Fo} {up : Bool} : freeN 0 f up x.it ≤ 9900 := by
  have h1 := dvd_le9900 h.g
  have h2 := dvd_le9900 h.w
  unfold freeN
  split
  · split
    · exact h1
    · omega
  · split
    · exact h2
    · omega
/-- all sizes of a row in a room over one bottom -/
theorem szs_qn {L : List LI} {inner : Rat} (h : ∀ x ∈ L, Lq x) (hl : L.length ≤ 8) (hi : Qn 415800 (2 ^ 46) inner) : ∃ S : Nat, 0 < S ∧ S ≤ 79200 ∧ ∀ q ∈ szs L inner, Qn (415800 * S) (2 ^ 61) q := by
  obtain ⟨t, et, _, _, mt⟩ := turns_spec 0 (L.map LI.it) (upF 0 (L.map LI.it) (inner, 0))
  have zt : ∀ f ∈ ((0, 0) : Fo) :: t, Qn 415800 (2 ^ 27) f.1 := fun f m => by
    rcases List.mem_cons.mp m with rfl | m
    · exact (Qn.zero (N := 415800)).mono (Nat.zero_le _)
    · rcases mt f m with rfl | ⟨x, mx, ml⟩
      · exact (Qn.zero (N := 415800)).mono (Nat.zero_le _)
      · obtain ⟨y, my, rfl⟩ := List.mem_map.mp mx
        exact turns_qn (h y my) f ml
  have zH : Qn 415800 (2 ^ 27) (levH 0 (L.map LI.it) (inner, 0) (upF 0 (L.map LI.it) (inner, 0))).1 := by
    unfold levH
    rw [et]
    show Qn 415800 (2 ^ 27) (hereF 0 (L.map LI.it) (inner, 0) (upF 0 (L.map LI.it) (inner, 0)) (0, 0) t).1
    obtain ⟨pre, post, e, _, _⟩ := here_spec (r := 0) (items := L.map LI.it) (room := (inner, 0)) (up := upF 0 (L.map LI.it) (inner, 0)) t (0, 0)
    exact zt _ (by rw [e]; exact List.mem_append_right _ List.mem_cons_self)
  unfold szs levF
  generalize levH 0 (L.map LI.it) (inner, 0) (upF 0 (L.map LI.it) (inner, 0)) = H at zH
  generalize upF 0 (L.map LI.it) (inner, 0) = up
  have zs : ∀ f ∈ (L.map LI.it).map (hsz 0 H up), Qn 415800 (2 ^ 41) f.1 := fun f m => by
    obtain ⟨x, mx, rfl⟩ := List.mem_map.mp m
    obtain ⟨y, my, rfl⟩ := List.mem_map.mp mx
    exact hsz_qn (h y my) zH
  unfold levO
  by_cases hN : ((L.map LI.it).map (freeN 0 H up)).sum = 0
  · rw [if_pos hN]
    refine ⟨1, by decide, by decide, fun q m => ?_⟩
    obtain ⟨f, mf, rfl⟩ := List.mem_map.mp m
    exact (zs f mf).mono (by decide)
  · rw [if_neg hN]
    have hS : ((L.map LI.it).map (freeN 0 H up)).sum ≤ 79200 := by
      have := sum_lt ((L.map LI.it).map (freeN 0 H up)) 9900 fun n m => by
        obtain ⟨x, mx, rfl⟩ := List.mem_map.mp m
        obtain ⟨y, my, rfl⟩ := List.mem_map.mp mx
        exact free_le (h y my)
      rw [List.length_map, List.length_map] at this
      omega
    refine ⟨((L.map LI.it).map (freeN 0 H up)).sum, by omega, hS, fun q m => ?_⟩
    generalize ((L.map LI.it).map (freeN 0 H up)).sum = S at hN hS m
    obtain ⟨f, mf, rfl⟩ := List.mem_map.mp m
    obtain ⟨i, hi2⟩ := List.getElem?_of_mem mf
    rw [List.getElem?_zipWith] at hi2
    cases e1 : ((L.map LI.it).map (hsz 0 H up))[i]? with
    | none => rw [e1] at hi2; cases hi2
    | some g =>
      cases e2 : ((L.map LI.it).map (freeN 0 H up))[i]? with
      | none => rw [e1, e2] at hi2; cases hi2
      | some st =>
        rw [e1, e2] at hi2
        cases hi2
        have hg := zs g (List.mem_of_getElem? e1)
        have hst : st ≤ 9900 := by
          obtain ⟨x, mx, rfl⟩ := List.mem_map.mp (List.mem_of_getElem? e2)
          obtain ⟨y, my, rfl⟩ := List.mem_map.mp mx
          exact free_le (h y my)
        have hsum : Qn 415800 (2 ^ 44) (sumF ((L.map LI.it).map (hsz 0 H up))).1 := by
          rw [sumF_fst]
          refine (Qn.sum (M := 2 ^ 41) fun q m => ?_).mono ?_
          · obtain ⟨f, mf, rfl⟩ := List.mem_map.mp m
            exact zs f mf
          · rw [List.length_map, List.length_map, List.length_map]
            calc 2 ^ 41 * L.length ≤ 2 ^ 41 * 8 := Nat.mul_le_mul_left _ hl
              _ = 2 ^ 44 := by decide
        show Qn (415800 * S) (2 ^ 61) (g.1 + (inner - (sumF ((L.map LI.it).map (hsz 0 H up))).1) * (1 / (S : Rat)) * (st : Rat))
        have h1 := ((hi.sub hsum).div (s := S) (by omega)).mul (Qn.nat st)
        rw [Nat.mul_one] at h1
        refine ((hg.up S).add h1).mono ?_
        calc 2 ^ 41 * S + (2 ^ 46 + 2 ^ 44) * st ≤ 2 ^ 41 * 79200 + (2 ^ 46 + 2 ^ 44) * 9900 := Nat.add_le_add (Nat.mul_le_mul_left _ hS) (Nat.mul_le_mul_left _ hst)
          _ ≤ 2 ^ 61 := by decide
end Law
set_option Elab.async false
set_option linter.all false
set_option maxRecDepth 100000
set_option maxHeartbeats 4000000
namespace Law
open PySem PySem.Spec PyProof.Rows L2 Gh
variable {E : En} {s : Sx}
theorem rn_mixed (T : Tx E) {α : Type} (φ : α → D) {n : Nat} {xs : List α} (h : St n s) (hn : n + xs.length < 2 ^ 40) (hl : xs.length ≤ 1000) : ∃ (ys : List α) (s' : Sx), ys.Perm xs ∧ St (n + xs.length) s' ∧ Rn E 2 "_law_mixed" [.mut, .lst (xs.map φ)] s (.lst (ys.map φ)) s' := by
  obtain ⟨tr, t0, tg, ts⟩ := trace (α := List α × List α × Sx) (N := xs.length) (R := fun x y => ∃ (d : Nat) (v : α), Rn E 1 "_law_draw" [.mut, .int x.1.length] x.2.2 (.int d) y.2.2 ∧ x.1[d]? = some v ∧ y.1 = x.1.eraseIdx d ∧ y.2.1 = x.2.1 ++ [v])
    (G := fun i x => x.2.1.length = i ∧ x.1.length + i = xs.length ∧ (x.2.1 ++ x.1).Perm xs ∧ St (n + i) x.2.2) (xs, [], s) ⟨rfl, by simp, .refl _, h⟩ (by
      rintro i ⟨r, f, s1⟩ hi ⟨h1, h2, h3, h5⟩
      dsimp only at h1 h2 h3 h5
      obtain ⟨d, s2, hd, hs2, R⟩ := rn_draw T h5 (by omega) (many := r.length) (by omega) (by omega)
      refine ⟨(r.eraseIdx d, f ++ [r[d]], s2), ⟨d, r[d], R, List.getElem?_eq_getElem hd, rfl, rfl⟩, by simp [h1], ?_, ?_, hs2⟩
      · rw [List.length_eraseIdx_of_lt hd]; omega
      · show ((f ++ [r[d]]) ++ r.eraseIdx d).Perm xs
        rw [List.append_assoc]
        exact ((cons_erase_perm _ d hd).append_left _).trans h3)
  obtain ⟨g1, g2, g3, g5⟩ := tg xs.length (Nat.le_refl _)
  refine ⟨(tr xs.length).2.1, (tr xs.length).2.2, by
    have e := List.length_eq_zero_iff.mp (show (tr xs.length).1.length = 0 by omega)
    rw [e, List.append_nil] at g3
    exact g3, g5, ?_⟩
  have kd : ∀ i, i ≤ xs.length → (tr i).2.2.isSome = true := fun i hi => (tg i hi).2.2.2.some
  have hz : ∀ i, i ≤ xs.length → ((tr i).1.map φ).length ≤ sizeLine ∧ ((tr i).2.1.map φ).length ≤ sizeLine := fun i hi => by
    have := tg i hi
    have : 1001 ≤ sizeLine := by decide
    rw [List.length_map, List.length_map]
    omega
  refine T.d__law_mixed.rn sc__law_mixed (by rw [h.some, kd _ (Nat.le_refl _)]) rfl fun fa cdv A outer sh H0 EX S0 p hr => ?_
  conv => arg 2; whnf
  have nd := sc__law_mixed.nd
  refine bk_cons (bs_parOO 2 3 rfl nd rfl rfl (by decide) rfl rfl (el_listOf T.bf (ed_var 1 rfl (.inl rfl) rfl) (.inl rfl)) (el_lst ea_nil) ?_)
  have hlen : (rangeD 0 ((xs.map φ).length : Int).toNat).length = xs.length := by rw [rangeD_length, Int.toNat_natCast, List.length_map]
  refine bk_cons (bs_for (s1 := s) (items := rangeD 0 ((xs.map φ).length : Int).toNat) PassesOwn.never rfl (ei_range1 (j := ((xs.map φ).length : Nat)) T.bf (ed_lenV T.bf (ev_own 2 rfl (.inl rfl) rfl)) (by rw [List.length_map]; omega) (by rw [List.length_map]; omega)) (fun i ρ s' => i ≤ xs.length ∧ s' = (tr i).2.2 ∧ ∃ g, ρ = [.val .mut, .val (.lst (xs.map φ)), .own ((tr i).1.map φ), .own ((tr i).2.1.map φ), g]) ⟨Nat.zero_le _, by rw [t0], _, by rw [t0]; rfl⟩ ?_ ?_)
  · rintro i d ρ' s' hi ⟨_, rfl, g, rfl⟩
    have hlt : i < xs.length := by rw [← hlen]; exact (List.getElem?_eq_some_iff.mp hi).1
    obtain ⟨d', v, R, r1, r2, r3⟩ := ts i hlt
    have r1' : ((tr i).1.map φ)[d']? = some (φ v) := by rw [List.getElem?_map, r1]; rfl
    refine ⟨_, _, eg_name 4 nd rfl (.inl rfl), bk_cons (bs_appendM 3 rfl (.inl rfl) rfl (em_pop 2 rfl (.inl rfl) rfl (ed_cl (ea_cons (ed_var 0 rfl (.inl rfl) rfl) (ea_cons (Ed.is (ed_lenV T.bf (ev_own 2 rfl (.inl rfl) rfl)) (by rw [List.length_map])) ea_nil)) (hr.mono (by decide)) R) r1' (hz i (by omega)).1) rfl (by have := (hz (i + 1) hlt).2; rw [r3, List.map_append, List.length_append] at this; exact this) (bk_nil ⟨hlt, rfl, .val d, ?_⟩))⟩
    rw [r2, r3, ← map_erase, List.map_append]; rfl
  · rintro ρ' s' ⟨_, rfl, g, rfl⟩
    rw [hlen]
    exact bk_freeze 3 rfl (bk_cons (bs_ret (ed_var 3 rfl (.inl rfl) rfl) ⟨rfl, rfl⟩))
end Law
set_option Elab.async false
set_option linter.all false
set_option maxRecDepth 100000
set_option maxHeartbeats 2000000
/-! what is drawn: items, rows as they are handed -/
namespace Law
open PySem PySem.Spec PyProof.Rows L2 Gh
variable {E : En} {s : Sx}
theorem small_w {n k : Nat} (h : n < 2 ^ 20) (hk : 20 ≤ k := by decide) : ((n : Int)).natAbs < 2 ^ k := by
  rw [Int.natAbs_natCast]
  exact Nat.lt_of_lt_of_le h (Nat.pow_le_pow_right (by decide) hk)
/-- a drawn base -/
theorem base_ok {d p : Nat} (hd : d < 25) (hp : 0 < p) (hp7 : p ≤ 7) (h42 : p ∣ 42) : Sz 20 (mkRat d p) ∧ 0 ≤ mkRat (d : Int) p ∧ Qn 42 1008 (mkRat d p) ∧ ∃ f : Nat, (mkRat (d : Int) p).num / ((mkRat (d : Int) p).den : Int) = f ∧ f ≤ 24 := by
  have hn : (mkRat (d : Int) p).num = (d : Int) / (Nat.gcd (d : Int).natAbs p : Int) := mk_num _ _ (by omega)
  have hg : (0 : Int) < (Nat.gcd (d : Int).natAbs p : Int) := by
    have := Nat.gcd_pos_of_pos_right (d : Int).natAbs hp
    omega
  have n0 : 0 ≤ (mkRat (d : Int) p).num := by rw [hn]; exact Int.ediv_nonneg (by omega) (Int.le_of_lt hg)
  have n1 : (mkRat (d : Int) p).num ≤ d := by rw [hn]; exact Int.ediv_le_self _ (by omega)
  have d0 := den_pos (mkRat (d : Int) p)
  refine ⟨Sz.mk (by omega) (by omega) (by omega), Rat.num_nonneg.mp n0, ?_, ((mkRat (d : Int) p).num / ((mkRat (d : Int) p).den : Int)).toNat, ?_, ?_⟩
  · have h := Qn.mk (t := (d : Int)) (b := p) (k := 42 / p) hp
    rw [Nat.mul_div_cancel' h42] at h
    refine h.mono ?_
    rw [Int.natAbs_natCast]
    calc d * (42 / p) ≤ 24 * 42 := Nat.mul_le_mul (by omega) (Nat.div_le_self _ _)
      _ = 1008 := by decide
  · have := Int.ediv_nonneg n0 (Int.le_of_lt d0)
    omega
  · have := Int.ediv_le_self ((mkRat (d : Int) p).den : Int) n0
    omega
/-- a drawn item -/
structure Ld (x : LI) : Prop extends Lq x where
  gs : x.g ∈ [0, 1, 1, 2, 3, 100]
  ws : x.w ∈ [0, 1, 1, 2, 5]
  b8 : Qn 42 1008 x.b
theorem rn_item (T : Tc E) {n : Nat} (h : St n s) (hn : n < 2 ^ 39) : ∃ (x : LI) (s' : Sx), Ld x ∧ St (n + 8) s' ∧ Rn E 3 "_law_item" [.mut] s (liD x) s' := by
  obtain ⟨d1, s1, hd1, h1, R1⟩ := rn_draw T.toTx h (by omega) (many := 25) (by decide) (by decide)
  obtain ⟨p, s2, mp, h2, R2⟩ := rn_pickM T.toTx (fun k : Nat => D.int k) [1, 1, 1, 2, 3, 7] h1 (by omega) (by simp) (by decide)
  have hp : 0 < p ∧ p ≤ 7 ∧ p ∣ 42 := by
    simp only [List.mem_cons, List.not_mem_nil, or_false] at mp
    rcases mp with rfl | rfl | rfl | rfl | rfl | rfl <;> decide
  have R3 := rn_llow (s := s2) (t := (d1 : Int)) (b := (p : Int)) T.toTx (by omega) (small_w (by omega))
  obtain ⟨zb, b0, qb, f, hf, f24⟩ := base_ok hd1 hp.1 hp.2.1 hp.2.2
  rw [Int.toNat_natCast] at R3
  generalize mkRat (d1 : Int) p = b at R3 zb b0 qb hf
  obtain ⟨g, s3, mg, h3, R4⟩ := rn_pickM T.toTx (fun k : Nat => D.int k) [0, 1, 1, 2, 3, 100] h2 (by omega) (by simp) (by decide)
  have hg : g ≤ 100 ∧ (g = 0 ∨ g ∣ 9900) := by
    simp only [List.mem_cons, List.not_mem_nil, or_false] at mg
    rcases mg with rfl | rfl | rfl | rfl | rfl | rfl <;> decide
  obtain ⟨w, s4, mw, h4, R5⟩ := rn_pickM T.toTx (fun k : Nat => D.int k) [0, 1, 1, 2, 5] h3 (by omega) (by simp) (by decide)
  have hw : w ≤ 5 ∧ (w = 0 ∨ w ∣ 9900) := by
    simp only [List.mem_cons, List.not_mem_nil, or_false] at mw
    rcases mw with rfl | rfl | rfl | rfl | rfl <;> decide
  obtain ⟨d2, s5, hd2, h5, R6⟩ := rn_draw T.toTx h4 (by omega) (many := 12) (by decide) (by decide)
  obtain ⟨lo, s6, ml, h6, R7⟩ := rn_pickM T.toTx (fun k : Nat => D.int k) [0, 0, d2, f, 2 + f] h5 (by omega) (by simp) (by show 5 < 2 ^ 60; decide)
  have hlo : lo ≤ 26 := by
    simp only [List.mem_cons, List.not_mem_nil, or_false] at ml
    omega
  obtain ⟨d3, s7, hd3, h7, R8⟩ := rn_draw T.toTx h6 (by omega) (many := 20) (by decide) (by decide)
  obtain ⟨hi, s8, mh, h8, R9⟩ := rn_pickM T.toTx hiN [none, none, some (lo + d3), some lo, some (1 + max lo f)] h7 (by omega) (by simp) (by show 5 < 2 ^ 60; decide)
  have hhi : ∀ m, hi = some m → lo ≤ m ∧ m < 200 := fun m e => by
    subst e
    simp only [List.mem_cons, List.not_mem_nil, or_false, Option.some.injEq, reduceCtorEq, false_or] at mh
    omega
  refine ⟨⟨b, g, w, lo, hi⟩, s8, ⟨⟨⟨zb, b0, by show g < 2 ^ 10; omega, by show w < 2 ^ 10; omega, by show lo < 2 ^ 20; omega, fun m e => ⟨(hhi m e).1, by have := (hhi m e).2; omega⟩⟩, qb.mono (by decide), hg.2, hw.2, by show lo < 100; omega, fun m e => (hhi m e).2⟩, mg, mw, qb⟩, h8, ?_⟩
  refine T.d__law_item.rn sc__law_item (by rw [h.some, h8.some]) rfl fun fa cdv A outer sh H0 EX S0 p' hr => ?_
  conv => arg 2; whnf
  have nd := sc__law_item.nd
  refine bk_cons (bs_set (d := fr b) (s1 := s2) 1 nd rfl (.inl rfl) (ed_cl (ea_cons (ed_cl (ea_cons (ed_var 0 rfl (.inl rfl) rfl) (ea_cons ed_int ea_nil)) (hr.mono (by decide)) R1) (ea_cons (ed_cl (ea_cons (ed_var 0 rfl (.inl rfl) rfl) (ea_cons (El.ed (el_lst (ea_cons ed_int (ea_cons ed_int (ea_cons ed_int (ea_cons ed_int (ea_cons ed_int (ea_cons ed_int ea_nil)))))))) ea_nil)) (hr.mono (by decide)) R2) ea_nil)) (hr.mono (by decide)) R3) ?_)
  show Bk _ _ ([.val .mut, .val (fr b), .no, .no, .no, .no] : List G) s2 _
  refine bk_cons (bs_par 2 3 (d1 := .int g) (d2 := .int w) (s1 := s4) rfl nd rfl rfl (by decide) rfl rfl (ea_cons (ed_cl (ea_cons (ed_var 0 rfl (.inl rfl) rfl) (ea_cons (El.ed (el_lst (ea_cons ed_int (ea_cons ed_int (ea_cons ed_int (ea_cons ed_int (ea_cons ed_int (ea_cons ed_int ea_nil)))))))) ea_nil)) (hr.mono (by decide)) R4) (ea_cons (ed_cl (ea_cons (ed_var 0 rfl (.inl rfl) rfl) (ea_cons (El.ed (el_lst (ea_cons ed_int (ea_cons ed_int (ea_cons ed_int (ea_cons ed_int (ea_cons ed_int ea_nil))))))) ea_nil)) (hr.mono (by decide)) R5) ea_nil)) ?_)
  show Bk _ _ ([.val .mut, .val (fr b), .val (.int g), .val (.int w), .no, .no] : List G) s4 _
  have b60 : b.num / (b.den : Int) = (f : Int) := hf
  have db : (b.den : Int) < 2 ^ 20 := by exact_mod_cast zb.2
  have efl : ∀ {F : Fx} {s : Sx} {po : Pos} {e : Expr}, True := trivial
  refine bk_cons (bs_set (d := .int lo) (s1 := s6) 4 nd rfl (.inl rfl) (ed_cl (ea_cons (ed_var 0 rfl (.inl rfl) rfl) (ea_cons (El.ed (el_lst (ea_cons ed_int (ea_cons ed_int (ea_cons (ed_cl (ea_cons (ed_var 0 rfl (.inl rfl) rfl) (ea_cons ed_int ea_nil)) (hr.mono (by decide)) R6) (ea_cons (Ed.is (ed_bin (ed_ix (d := .int b.num) (ed_var (d := fr b) 1 rfl (.inl rfl) rfl) ed_int rfl) (ed_ix (d := .int b.den) (ed_var (d := fr b) 1 rfl (.inl rfl) rfl) ed_int rfl) rfl ?dv) (congrArg D.int b60)) (ea_cons (Ed.is (y := .int ((2 + f : Nat) : Int)) (ed_bin ed_int (Ed.is (ed_bin (ed_ix (d := .int b.num) (ed_var (d := fr b) 1 rfl (.inl rfl) rfl) ed_int rfl) (ed_ix (d := .int b.den) (ed_var (d := fr b) 1 rfl (.inl rfl) rfl) ed_int rfl) rfl ?dv2) (congrArg D.int b60)) rfl trivial) (congrArg D.int (by omega))) ea_nil))))))) ea_nil)) (hr.mono (by decide)) R7) ?_)
  case dv => exact wide_div (i := b.num) (b := 60) (den_pos b) (by omega) (by decide) (by decide)
  case dv2 => exact wide_div (i := b.num) (b := 60) (den_pos b) (by omega) (by decide) (by decide)
  show Bk _ _ ([.val .mut, .val (fr b), .val (.int g), .val (.int w), .val (.int lo), .no] : List G) s6 _
  refine bk_cons (bs_set (d := hiN hi) (s1 := s8) 5 nd rfl (.inl rfl) (ed_cl (ea_cons (ed_var 0 rfl (.inl rfl) rfl) (ea_cons (El.ed (el_lst (ea_cons ed_non (ea_cons ed_non (ea_cons (Ed.is (y := hiN (some (lo + d3))) (ed_bin (ed_var (d := .int lo) 4 rfl (.inl rfl) rfl) (ed_cl (ea_cons (ed_var 0 rfl (.inl rfl) rfl) (ea_cons ed_int ea_nil)) (hr.mono (by decide)) R8) rfl trivial) (congrArg D.int (by omega))) (ea_cons (ed_var (d := .int lo) 4 rfl (.inl rfl) rfl) (ea_cons (Ed.is (y := hiN (some (1 + max lo f))) (ed_bin ed_int (ed_max2 T.bf rfl (ed_var (d := .int lo) 4 rfl (.inl rfl) rfl) (Ed.is (ed_bin (ed_ix (d := .int b.num) (ed_var (d := fr b) 1 rfl (.inl rfl) rfl) ed_int rfl) (ed_ix (d := .int b.den) (ed_var (d := fr b) 1 rfl (.inl rfl) rfl) ed_int rfl) rfl ?dv3) (congrArg D.int b60))) rfl trivial) (congrArg D.int (by omega))) ea_nil))))))) ea_nil)) (hr.mono (by decide)) R9) ?_)
  case dv3 => exact wide_div (i := b.num) (b := 60) (den_pos b) (by omega) (by decide) (by decide)
  exact bk_cons (bs_ret (ed_tup (ea_cons (ed_var 1 rfl (.inl rfl) rfl) (ea_cons (ed_var 2 rfl (.inl rfl) rfl) (ea_cons (ed_var 3 rfl (.inl rfl) rfl) (ea_cons (ed_var 4 rfl (.inl rfl) rfl) (ea_cons (ed_var 5 rfl (.inl rfl) rfl) ea_nil)))))) ⟨rfl, rfl⟩)
theorem rn_items (T : Tc E) {n m : Nat} (h : St n s) (hn : n < 2 ^ 38) (hm : 0 < m) (hm2 : m ≤ 8) : ∃ (L : List LI) (s' : Sx), L ≠ [] ∧ L.length ≤ m ∧ (∀ x ∈ L, Ld x) ∧ St (n + 100) s' ∧ Rn E 4 "_law_items" [.mut, .int m] s (.lst (L.map liD)) s' := by
  obtain ⟨c0, s1, hc, h1, R1⟩ := rn_draw T.toTx h (by omega) (many := m) hm (by omega)
  obtain ⟨L, st, hL, hQ, e0, h2, RS⟩ := steps (B := 2 ^ 39) (q := 8) (Q := Ld) (R := fun s x s' => Rn E 3 "_law_item" [.mut] s (liD x) s') (fun n s h hn => rn_item T h hn) (1 + c0) (n + 1) s1 h1 (by omega)
  subst e0
  have e1 : (1 + (c0 : Int)).toNat = 1 + c0 := by omega
  have lr : (rangeD 0 (1 + (c0 : Int)).toNat).length = 1 + c0 := by rw [rangeD_length, e1]
  have hne : L ≠ [] := fun z => by rw [z] at hL; simp at hL; omega
  have nd := sc__law_items.nd
  obtain ⟨k, s', h3, hk, RK⟩ : ∃ (k : Bool) (s' : Sx), St (n + 100) s' ∧ (k = true → 1 + c0 < m) ∧ (if 1 + c0 < m then ∃ d : Nat, k = decide (d = 0) ∧ Rn E 1 "_law_draw" [.mut, .int 4] (st (1 + c0)) (.int d) s' else k = false ∧ s' = st (1 + c0)) := by
    by_cases hlt : 1 + c0 < m
    · obtain ⟨d, s', hd, h', R⟩ := rn_draw T.toTx h2 (by omega) (many := 4) (by decide) (by decide)
      exact ⟨decide (d = 0), s', h'.mono (by omega), fun _ => hlt, by rw [if_pos hlt]; exact ⟨d, rfl, R⟩⟩
    · exact ⟨false, st (1 + c0), h2.mono (by omega), (fun z => (by cases z)), by rw [if_neg hlt]; exact ⟨rfl, rfl⟩⟩
  refine ⟨L ++ (if k = true then L.take 1 else []), s', by simp [hne], ?_, ?_, h3, ?_⟩
  · rw [List.length_append]
    cases k with
    | false => show L.length + 0 ≤ m; omega
    | true =>
      have := hk rfl
      show L.length + (L.take 1).length ≤ m
      rw [List.length_take]; omega
  · intro x mx
    rcases List.mem_append.mp mx with mx | mx
    · exact hQ x mx
    · split at mx
      · exact hQ x (List.mem_of_mem_take mx)
      · cases mx
  refine T.d__law_items.rn sc__law_items (by rw [h.some, h3.some]) rfl fun fa cdv A outer sh H0 EX S0 p hr => ?_
  conv => arg 2; whnf
  refine bk_seqN 2 (items := rangeD 0 (1 + (c0 : Int)).toNat) (outs := L.map liD) (st := st) [("_law_k", 3)] (1 + c0) rfl nd rfl rfl rfl rfl lr (by rw [List.length_map, hL]) (by omega) (ei_range1 (j := 1 + (c0 : Int)) T.bf (ed_bin ed_int (ed_cl (ea_cons (ed_var 0 rfl (.inr (.inl rfl)) rfl) (ea_cons (ed_var (d := .int m) 1 rfl (.inl rfl) rfl) ea_nil)) (hr.mono (by decide)) R1) rfl trivial) (by omega) (by omega)) (blkOk_by rfl) (fun i d o hd ho => ⟨_, _, fun c => eg_name 3 nd rfl (.inl rfl), by decide, fun c => ?_⟩) ?_
  · rw [List.getElem?_map] at ho
    cases e : L[i]? with
    | none => rw [e] at ho; cases ho
    | some x =>
      rw [e] at ho; cases ho
      exact ed_cl (ea_cons (ed_var 0 rfl (.inr (.inl rfl)) rfl) ea_nil) (hr.mono (by decide)) (RS i x e)
  · show Bk _ _ ([.val .mut, .val (.int m), .val (.lst (L.map liD)), .no] : List G) (st (1 + c0)) _
    have hcut : cutD (L.map liD) none (some (1 : Int)) = (L.take 1).map liD := by
      have := cutD_take (L.map liD) 1
      rw [← List.map_take] at this
      exact this
    refine bk_cons (bs_ret (El.ed (El.is (el_cat (ys := (if k = true then L.take 1 else []).map liD) ?_ (ed_var (d := .lst (L.map liD)) 2 rfl (.inl rfl) rfl) (El.ed (El.is (el_rep (El.ed (el_slice (ed_var (d := .lst (L.map liD)) 2 rfl (.inl rfl) rfl) .none (.some ed_int))) (ed_intB (k := k) T.bf ?hb) ?_ ?_) ?_))) ?_)) ⟨rfl, rfl⟩)
    case hb =>
      by_cases hlt : 1 + c0 < m
      · rw [if_pos hlt] at RK
        obtain ⟨d, ek, R⟩ := RK
        exact ed_andT (Ed.is (Cp.ed (cp_lt (ed_len T.bf (ed_var (d := .lst (L.map liD)) 2 rfl (.inl rfl) rfl) rfl) (ed_var (d := .int m) 1 rfl (.inl rfl) rfl))) (congrArg D.bl (decide_eq_true (by rw [List.length_map]; omega)))) (ed_one (Ed.is (Cp.ed (cp_eq hr (ed_cl (ea_cons (ed_var 0 rfl (.inr (.inl rfl)) rfl) (ea_cons ed_int ea_nil)) (hr.mono (by decide)) R) ed_int (eqC_int _) (eqC_int _))) (by rw [eqb_int, ek]; congr 1; exact decide_eq_decide.mpr (by omega))))
      · rw [if_neg hlt] at RK
        obtain ⟨ek, es⟩ := RK
        subst ek es
        exact ed_andF (Ed.is (Cp.ed (cp_lt (ed_len T.bf (ed_var (d := .lst (L.map liD)) 2 rfl (.inl rfl) rfl) rfl) (ed_var (d := .int m) 1 rfl (.inl rfl) rfl))) (congrArg D.bl (decide_eq_false (by rw [List.length_map]; omega))))
    · rw [List.length_map, List.length_map]
      have : (if k = true then L.take 1 else []).length ≤ 1 := by
        split
        · rw [List.length_take]; omega
        · simp
      exact sl1000 (by omega)
    · cases k <;> decide
    · rw [hcut, List.length_map, List.length_take]
      refine sl1000 ?_
      cases k with
      | false => show _ * 0 ≤ 1000; omega
      | true => show _ * 1 ≤ 1000; omega
    · rw [hcut]
      cases k with
      | false => rfl
      | true =>
        show (List.replicate 1 ((L.take 1).map liD)).flatten = _
        simp
    · rw [List.map_append]
/-- one thing made of each of a list, drawn -/
theorem stepsL {α β : Type} {B q : Nat} {R : α → Sx → β → Sx → Prop} : ∀ (L : List α), (∀ a ∈ L, ∀ (n : Nat) (s : Sx), St n s → n < B → ∃ (u : β) (s' : Sx), St (n + q) s' ∧ R a s u s') → ∀ (n : Nat) (s : Sx), St n s → n + q * L.length < B →
    ∃ (us : List β) (st : Nat → Sx), us.length = L.length ∧ (∀ (i : Nat) (a : α) (u : β), L[i]? = some a → us[i]? = some u → R a (st i) u (st (i + 1))) ∧ st 0 = s ∧ St (n + q * L.length) (st L.length) ∧ ∀ i, i ≤ L.length → St (n + q * i) (st i)
  | [], _, n, s, h, _ => ⟨[], fun _ => s, rfl, fun i a u e => by simp at e, rfl, h, fun i hi => (by
    have : i = 0 := (by simpa using hi)
    subst this; exact h)⟩
  | a :: L, one, n, s, h, hn => by
    have em : q * (L.length + 1) = q * L.length + q := Nat.mul_succ q L.length
    rw [List.length_cons] at hn
    obtain ⟨u, s1, h1, r⟩ := one a List.mem_cons_self n s h (by omega)
    obtain ⟨us, st, hl, hR, e0, h2, hs⟩ := stepsL L (fun b mb => one b (List.mem_cons_of_mem _ mb)) (n + q) s1 h1 (by omega)
    refine ⟨u :: us, fun i => match i with | 0 => s | i + 1 => st i, by simp [hl], fun i b v e f => ?_, rfl, ?_, fun i hi => ?_⟩
    · match i, e, f with
      | 0, e, f =>
        simp at e f; subst e f
        show R _ s _ (st 0)
        rw [e0]; exact r
      | i + 1, e, f => exact hR i b v (by simpa using e) (by simpa using f)
    · show St (n + q * (L.length + 1)) (st L.length)
      exact h2.mono (by omega)
    · match i, hi with
      | 0, _ => exact h
      | i + 1, hi =>
        have e2 : q * (i + 1) = q * i + q := Nat.mul_succ q i
        show St (n + q * (i + 1)) (st i)
        exact (hs i (by simpa using hi)).mono (by omega)
theorem mk_mul {q : Rat} {t : Nat} (ht : 0 < t) : mkRat (q.num * (t : Int)) (q.den * t) = q := by
  rw [Rat.mkRat_mul_right (by omega), Rat.mkRat_self]
theorem hd_of {x : LI} {bd y : D} {t : Nat} (ok : LOk x) (ht : 0 < t) (ht3 : t ≤ 3) (hb : bd = .tup [.int (x.b.num * t), .int ((x.b.den : Int) * t)] ∨ bd = .lst [.int x.b.num, .int x.b.den])
    (hy : y = .tup [bd, .int x.g, .int x.w, .int x.lo, hiN x.hi] ∨ y = .lst [bd, .int x.g, .int x.w, .int x.lo, hiN x.hi]) : Hd y x := by
  have n0 : 0 ≤ x.b.num := Rat.num_nonneg.mpr ok.b0
  have d0 := den_pos x.b
  have z2 : (x.b.den : Int) < 2 ^ 20 := by exact_mod_cast ok.b.2
  have hbd : (∃ p q : Int, items bd = some [.int p, .int q] ∧ 0 ≤ p ∧ 0 < q ∧ q < 2 ^ 30 ∧ mkRat p q.toNat = x.b) ∧ dat bd = true := by
    rcases hb with rfl | rfl
    · refine ⟨⟨_, _, rfl, Int.mul_nonneg n0 (by omega), Int.mul_pos d0 (by omega), ?_, ?_⟩, rfl⟩
      · calc (x.b.den : Int) * t ≤ 2 ^ 20 * 3 := Int.mul_le_mul (Int.le_of_lt z2) (by omega) (by omega) (by decide)
          _ < 2 ^ 30 := by decide
      · have : ((x.b.den : Int) * (t : Int)).toNat = x.b.den * t := by
          rw [← Int.natCast_mul, Int.toNat_natCast]
        rw [this]; exact mk_mul ht
    · exact ⟨⟨_, _, rfl, n0, d0, by omega, by rw [Int.toNat_natCast]; exact Rat.mkRat_self _⟩, rfl⟩
  obtain ⟨⟨p, q, e, h1, h2, h3, h4⟩, hdt⟩ := hbd
  have hh : dat (hiN x.hi) = true := by cases x.hi <;> rfl
  refine ⟨⟨bd, by rcases hy with rfl | rfl <;> rfl, hdt, ?_, ?_, ?_, ?_⟩, ?_⟩
  · unfold isFr; rw [e]; exact decide_eq_true h2
  · unfold topGe; rw [e]; exact decide_eq_true h1
  · unfold frq; rw [e]; exact h4
  · intro t b e2
    rw [e] at e2
    cases e2
    exact Nat.lt_of_lt_of_le (show q.natAbs < 2 ^ 30 by omega) (Nat.pow_le_pow_right (by decide) (by decide))
  · rcases hy with rfl | rfl
    · show dats _ = true
      simp [dats, hdt, hh, dat]
    · show dats _ = true
      simp [dats, hdt, hh, dat]
theorem rn_handed (T : Tc E) {L : List LI} {n : Nat} (h : St n s) (hn : n < 2 ^ 38) (hl : L.length ≤ 20) (ok : ∀ x ∈ L, Lq x) : ∃ (y : D) (s' : Sx) (ys : List D), items y = some ys ∧ dat y = true ∧ Hds ys L ∧ St (n + 100) s' ∧ Rn E 3 "_law_handed" [.mut, .lst (L.map liD)] s y s' := by
  obtain ⟨us, st, hU, hR, e0, h2, hS⟩ := stepsL (B := 2 ^ 39) (q := 3) (R := fun (x : LI) (s : Sx) (u : Nat × D × D) (s' : Sx) => ∃ s1 s2, s.isSome = true ∧ 0 < u.1 ∧ u.1 ≤ 3 ∧ (u.2.1 = .tup [.int (x.b.num * u.1), .int ((x.b.den : Int) * u.1)] ∨ u.2.1 = .lst [.int x.b.num, .int x.b.den]) ∧
      (u.2.2 = .tup [u.2.1, .int x.g, .int x.w, .int x.lo, hiN x.hi] ∨ u.2.2 = .lst [u.2.1, .int x.g, .int x.w, .int x.lo, hiN x.hi]) ∧ Rn E 1 "_law_draw" [.mut, .int 3] s (.int ((u.1 : Int) - 1)) s1 ∧
      Rn E 2 "_law_pick" [.mut, .lst [.tup [.int (x.b.num * u.1), .int ((x.b.den : Int) * u.1)], .lst [.int x.b.num, .int x.b.den]]] s1 u.2.1 s2 ∧
      Rn E 2 "_law_pick" [.mut, .lst [.tup [u.2.1, .int x.g, .int x.w, .int x.lo, hiN x.hi], .lst [u.2.1, .int x.g, .int x.w, .int x.lo, hiN x.hi]]] s2 u.2.2 s') L (fun x mx n s h hn => by
    obtain ⟨d, s1, hd, h1, R1⟩ := rn_draw T.toTx h (by omega) (many := 3) (by decide) (by decide)
    obtain ⟨bd, s2, mb, h2, R2⟩ := rn_pick T.toTx (xs := [.tup [.int (x.b.num * ((d + 1 : Nat) : Int)), .int ((x.b.den : Int) * ((d + 1 : Nat) : Int))], .lst [.int x.b.num, .int x.b.den]]) h1 (by omega) (by simp) (by show 2 < 2 ^ 60; decide)
    obtain ⟨y, s3, my, h3, R3⟩ := rn_pick T.toTx (xs := [.tup [bd, .int x.g, .int x.w, .int x.lo, hiN x.hi], .lst [bd, .int x.g, .int x.w, .int x.lo, hiN x.hi]]) h2 (by omega) (by simp) (by show 2 < 2 ^ 60; decide)
    simp only [List.mem_cons, List.not_mem_nil, or_false] at mb my
    exact ⟨(d + 1, bd, y), s3, h3, s1, s2, h.some, by show 0 < d + 1; omega, by show d + 1 ≤ 3; omega, mb, my, R1.is (congrArg D.int (by show (d : Int) = ((d + 1 : Nat) : Int) - 1; omega)), R2, R3⟩) n s h (by omega)
  subst e0
  have hds : Hds (us.map (·.2.2)) L := ⟨by rw [List.length_map, hU], fun i y x hy hx => by
    rw [List.getElem?_map] at hy
    cases e : us[i]? with
    | none => rw [e] at hy; cases hy
    | some u =>
      rw [e] at hy; cases hy
      obtain ⟨_, _, _, t0, t3, hb, hyy, _⟩ := hR i x u hx e
      exact hd_of (ok x (List.mem_of_getElem? hx)).ok t0 t3 hb hyy⟩
  have hdd : dats (us.map (·.2.2)) = true := dats_of fun y my => by
    obtain ⟨i, hi⟩ := List.getElem?_of_mem my
    obtain ⟨x, hx, q⟩ := hds.at_ i hi
    exact q.d
  obtain ⟨y, s', my, h3, R⟩ := rn_pick T.toTx (xs := [.lst (us.map (·.2.2)), .tup (us.map (·.2.2))]) h2 (by omega) (by simp) (by show 2 < 2 ^ 60; decide)
  simp only [List.mem_cons, List.not_mem_nil, or_false] at my
  refine ⟨y, s', us.map (·.2.2), by rcases my with rfl | rfl <;> rfl, by rcases my with rfl | rfl <;> exact hdd, hds, h3.mono (by omega), ?_⟩
  refine T.d__law_handed.rn sc__law_handed (by rw [h.some, h3.some]) rfl fun fa cdv A outer sh H0 EX S0 p hr => ?_
  conv => arg 2; whnf
  have nd := sc__law_handed.nd
  refine bk_cons (bs_setOwn 2 nd rfl (.inl rfl) (el_lst ea_nil) ?_)
  show Bk _ _ ([.val .mut, .val (.lst (L.map liD)), .own [], .no, .no, .no, .no, .no, .no, .no] : List G) _ _
  refine bk_cons (bs_forM (s1 := st 0) liD (xs := L) PassesOwn.never rfl (ei_seq (ed_var (d := .lst (L.map liD)) 1 rfl (.inl rfl) rfl) (.inl rfl)) (fun i ρ s' => s' = st i ∧ ∃ g3 g4 g5 g6 g7 g8 g9, ρ = [.val .mut, .val (.lst (L.map liD)), .own ((us.take i).map (·.2.2)), g3, g4, g5, g6, g7, g8, g9]) ⟨rfl, _, _, _, _, _, _, _, rfl⟩ ?_ ?_)
  · rintro i x ρ' s' hx ⟨rfl, g3, g4, g5, g6, g7, g8, g9, rfl⟩
    have hlt : i < us.length := by rw [hU]; exact (List.getElem?_eq_some_iff.mp hx).1
    have hu : us[i]? = some us[i] := List.getElem?_eq_getElem hlt
    obtain ⟨s1, s2, kd, t0, t3, hb, hyy, R1, R2, R3⟩ := hR i x us[i] hx hu
    have etk : (us.take (i + 1)).map (·.2.2) = (us.take i).map (·.2.2) ++ [us[i].2.2] := by rw [List.take_add_one, hu, List.map_append]; rfl
    rw [etk]
    have ltk : ((us.take i).map (·.2.2)).length < 1000 := by rw [List.length_map, List.length_take]; omega
    generalize us[i] = u at *
    obtain ⟨t, bd, y1⟩ := u
    refine ⟨_, _, eg_tup rfl (egs_cons (eg_name 3 nd rfl (.inl rfl)) (egs_cons (eg_name 4 nd rfl (.inl rfl)) (egs_cons (eg_name 5 nd rfl (.inl rfl)) (egs_cons (eg_name 6 nd rfl (.inl rfl)) (egs_cons (eg_name 7 nd rfl (.inl rfl)) egs_nil))))), ?_⟩
    show Bk _ _ ([.val .mut, .val (.lst (L.map liD)), .own ((us.take i).map (·.2.2)), .val (fr x.b), .val (.int x.g), .val (.int x.w), .val (.int x.lo), .val (hiN x.hi), g8, g9] : List G) (st i) _
    refine bk_cons (bs_set (d := .int t) (s1 := s1) 8 nd rfl (.inl rfl) (Ed.is (ed_bin ed_int (ed_cl (ea_cons (ed_var 0 rfl (.inl rfl) rfl) (ea_cons ed_int ea_nil)) (hr.mono (by decide)) R1) rfl trivial) (congrArg D.int (by omega))) ?_)
    have tS : CMulW x.b.num t ∧ CMulW (x.b.den : Int) t := by
      have z := (ok x (List.mem_of_getElem? hx)).ok.b
      exact ⟨mulW (Nat.lt_of_lt_of_le z.1 (Nat.pow_le_pow_right (by decide) (by decide))) (small_w (by have : t ≤ 3 := t3; omega)), mulW (Nat.lt_of_lt_of_le (by simpa using z.2) (Nat.pow_le_pow_right (by decide) (show 20 ≤ 3000 by decide))) (small_w (by have : t ≤ 3 := t3; omega))⟩
    refine bk_cons (bs_set (d := bd) (s1 := s2) 9 nd rfl (.inl rfl) (ed_cl (ea_cons (ed_var 0 rfl (.inl rfl) rfl) (ea_cons (El.ed (el_lst (ea_cons (ed_tup (ea_cons (ed_bin (ed_ix (d := .int x.b.num) (ed_var (d := fr x.b) 3 rfl (.inl rfl) rfl) ed_int rfl) (ed_var (d := .int t) 8 rfl (.inl rfl) rfl) rfl tS.1) (ea_cons (ed_bin (ed_ix (d := .int x.b.den) (ed_var (d := fr x.b) 3 rfl (.inl rfl) rfl) ed_int rfl) (ed_var (d := .int t) 8 rfl (.inl rfl) rfl) rfl tS.2) ea_nil))) (ea_cons (El.ed (el_lst (ea_cons (ed_ix (d := .int x.b.num) (ed_var (d := fr x.b) 3 rfl (.inl rfl) rfl) ed_int rfl) (ea_cons (ed_ix (d := .int x.b.den) (ed_var (d := fr x.b) 3 rfl (.inl rfl) rfl) ed_int rfl) ea_nil)))) ea_nil)))) ea_nil)) (hr.mono (by decide)) R2) ?_)
    show Bk _ _ ([.val .mut, .val (.lst (L.map liD)), .own ((us.take i).map (·.2.2)), .val (fr x.b), .val (.int x.g), .val (.int x.w), .val (.int x.lo), .val (hiN x.hi), .val (.int t), .val bd] : List G) s2 _
    refine bk_cons (bs_append 2 (d := y1) (s1 := st (i + 1)) rfl (.inl rfl) rfl (ed_cl (ea_cons (ed_var 0 rfl (.inl rfl) rfl) (ea_cons (El.ed (el_lst (ea_cons (ed_tup (ea_cons (ed_var (d := bd) 9 rfl (.inl rfl) rfl) (ea_cons (ed_var (d := .int x.g) 4 rfl (.inl rfl) rfl) (ea_cons (ed_var (d := .int x.w) 5 rfl (.inl rfl) rfl) (ea_cons (ed_var (d := .int x.lo) 6 rfl (.inl rfl) rfl) (ea_cons (ed_var (d := hiN x.hi) 7 rfl (.inl rfl) rfl) ea_nil)))))) (ea_cons (El.ed (el_lst (ea_cons (ed_var (d := bd) 9 rfl (.inl rfl) rfl) (ea_cons (ed_var (d := .int x.g) 4 rfl (.inl rfl) rfl) (ea_cons (ed_var (d := .int x.w) 5 rfl (.inl rfl) rfl) (ea_cons (ed_var (d := .int x.lo) 6 rfl (.inl rfl) rfl) (ea_cons (ed_var (d := hiN x.hi) 7 rfl (.inl rfl) rfl) ea_nil))))))) ea_nil)))) ea_nil)) (hr.mono (by decide)) R3) (sl1000 ltk) (bk_nil ⟨rfl, _, _, _, _, _, _, _, rfl⟩))
  · rintro ρ' s' ⟨rfl, g3, g4, g5, g6, g7, g8, g9, rfl⟩
    rw [← hU, List.take_length]
    refine bk_freeze 2 rfl ?_
    show Bk _ _ ([.val .mut, .val (.lst (L.map liD)), .val (.lst (us.map (·.2.2))), g3, g4, g5, g6, g7, g8, g9] : List G) (st us.length) _
    rw [hU]
    exact bk_cons (bs_ret (ed_cl (ea_cons (ed_var 0 rfl (.inl rfl) rfl) (ea_cons (El.ed (el_lst (ea_cons (ed_var (d := .lst (us.map fun u : Nat × D × D => u.2.2)) 2 rfl (.inl rfl) rfl) (ea_cons (ed_tupleOf T.bf (ed_var (d := .lst (us.map fun u : Nat × D × D => u.2.2)) 2 rfl (.inl rfl) rfl) (.inl rfl)) ea_nil)))) ea_nil)) (hr.mono (by decide)) R) ⟨rfl, rfl⟩)
end Law
set_option Elab.async false
set_option linter.all false
set_option maxRecDepth 100000
set_option maxHeartbeats 2000000
/-! the levels at which growth turns, drawn rooms -/
namespace Law
open PySem PySem.Spec PyProof.Rows L2 Gh
variable {E : En} {s : Sx}
def bnN (x : LI) : List Nat := x.lo :: x.hi.toList
def turnQ (x : LI) (m : Nat) : List Rat := if 0 < byN x ((m : Rat) - x.b) then [((m : Rat) - x.b) * (1 / (byN x ((m : Rat) - x.b) : Rat))] else []
def turnsQ (x : LI) : List Rat := (bnN x).flatMap (turnQ x)
def allT (L : List LI) : List Rat := 0 :: L.flatMap turnsQ
def mD (m : Nat) : D := .int m
theorem bnN_D (x : LI) : (([some x.lo, x.hi].filter Option.isSome).map hiN) = (bnN x).map mD := by
  unfold bnN
  cases e : x.hi with
  | none => rfl
  | some m => rfl
theorem Lq.bn {x : LI} (h : Lq x) {m : Nat} (mm : m ∈ bnN x) : m < 200 := by
  unfold bnN at mm
  rcases List.mem_cons.mp mm with rfl | mm
  · have := h.lo; omega
  · cases e : x.hi with
    | none => rw [e] at mm; cases mm
    | some k => rw [e] at mm; rw [List.mem_singleton.mp mm]; exact h.hi k e
theorem Lq.tq {x : LI} (h : Lq x) {m : Nat} (mm : m ∈ bnN x) : ∀ q ∈ turnQ x m, Qn 415800 (2 ^ 27) q := fun q mq => by
  unfold turnQ at mq
  split at mq
  · rename_i h0
    rw [List.mem_singleton.mp mq]
    exact h.turn (h.bn mm) h0 ((h.by_ _).resolve_left (by omega))
  · cases mq
theorem allT_qn {L : List LI} (h : ∀ x ∈ L, Lq x) : ∀ q ∈ allT L, Qn 415800 (2 ^ 27) q := fun q m => by
  rcases List.mem_cons.mp m with rfl | m
  · exact (Qn.zero (N := 415800)).mono (Nat.zero_le _)
  · obtain ⟨x, mx, m⟩ := List.mem_flatMap.mp m
    obtain ⟨k, mk, m⟩ := List.mem_flatMap.mp m
    exact (h x mx).tq mk q m
theorem turnQ_len (x : LI) (m : Nat) : (turnQ x m).length ≤ 1 := by
  unfold turnQ
  split <;> simp
theorem bnN_len (x : LI) : (bnN x).length ≤ 2 := by
  unfold bnN
  cases x.hi <;> simp
theorem turnsQ_len (x : LI) : (turnsQ x).length ≤ 2 := by
  have h1 := fm_len (n := 1) (f := turnQ x) (bnN x) fun m _ => turnQ_len x m
  have := bnN_len x
  unfold turnsQ
  omega
theorem allT_len (L : List LI) : (allT L).length ≤ 1 + 2 * L.length := by
  have h1 := fm_len (n := 2) (f := turnsQ) L fun x _ => turnsQ_len x
  unfold allT
  rw [List.length_cons]
  omega
theorem qz {M n : Nat} {q : Rat} (h : Qn 415800 M q) (hM : M < 2 ^ n) (hn : 19 ≤ n := by decide) : Sz n q := h.sz (by decide) (Nat.lt_of_lt_of_le (show 415800 < 2 ^ 19 by decide) (Nat.pow_le_pow_right (by decide) hn)) hM
theorem qz22 {q : Rat} (h : Qn 415800 (2 ^ 27) q) : Sz 40 q := qz h (by decide)
theorem flatMap_take_succ {α β : Type} {L : List α} {i : Nat} {x : α} (e : L[i]? = some x) (f : α → List β) : (L.take (i + 1)).flatMap f = (L.take i).flatMap f ++ f x := by
  rw [List.take_add_one, e, List.flatMap_append]
  simp
theorem rn_turns (T : Tc E) {L : List LI} (hl : L.length ≤ 20) (ok : ∀ x ∈ L, Lq x) : Rn E 4 "_law_turns" [.lst (L.map liD)] s (.lst ((inOrd (allT L)).map fr)) s := by
  refine T.d__law_turns.rn sc__law_turns rfl rfl fun fa cdv A outer sh H0 EX S0 p hr => ?_
  conv => arg 2; whnf
  have nd := sc__law_turns.nd
  have short : ∀ i x, L[i]? = some x → ∀ j, (0 :: (L.take i).flatMap turnsQ ++ ((bnN x).take j).flatMap (turnQ x)).length ≤ 100 := fun i x e j => by
    have h1 := fm_len (n := 2) (f := turnsQ) (L.take i) fun x _ => turnsQ_len x
    have h2 := fm_len (n := 1) (f := turnQ x) ((bnN x).take j) fun m _ => turnQ_len x m
    have h3 := bnN_len x
    rw [List.length_take] at h1 h2
    simp only [List.cons_append, List.length_cons, List.length_append]
    omega
  refine bk_cons (bs_setOwn (ds := (0 :: (L.take 0).flatMap turnsQ : List Rat).map fr) 1 nd rfl (.inl rfl) (el_lst (ea_cons (ed_tup (ea_cons ed_int (ea_cons ed_int ea_nil))) ea_nil)) ?_)
  show Bk _ _ ([.val (.lst (L.map liD)), .own ((0 :: (L.take 0).flatMap turnsQ : List Rat).map fr), .no, .no, .no, .no] : List G) _ _
  refine bk_cons (bs_forM (s1 := s) liD (xs := L) PassesOwn.never rfl (ei_seq (ed_var (d := .lst (L.map liD)) 0 rfl (.inl rfl) rfl) (.inl rfl)) (fun i ρ s' => s' = s ∧ ∃ g2 g3 g4 g5, ρ = [.val (.lst (L.map liD)), .own ((0 :: (L.take i).flatMap turnsQ : List Rat).map fr), g2, g3, g4, g5]) ⟨rfl, _, _, _, _, rfl⟩ ?_ ?_)
  · rintro i x ρ' s' hx ⟨rfl, g2, g3, g4, g5, rfl⟩
    have q := ok x (List.mem_of_getElem? hx)
    have sh := short i x hx
    rw [flatMap_take_succ hx turnsQ]
    generalize (L.take i).flatMap turnsQ = P at sh
    refine ⟨_, _, eg_name 2 nd rfl (.inl rfl), ?_⟩
    show Bk _ _ ([.val (.lst (L.map liD)), .own ((0 :: P : List Rat).map fr), .val (liD x), g3, g4, g5] : List G) s' _
    refine bk_cons (bs_forM (s1 := s') mD (xs := bnN x) PassesOwn.never rfl (ei_seq (El.ed (El.is (el_filterM (s1 := s') [("_law_bound", 3)] hiN hiN Option.isSome (xs := [some x.lo, x.hi]) rfl nd (ei_seq (x := .tup ([some x.lo, x.hi].map hiN)) (ed_tup (ea_cons (ed_ix (d := .int x.lo) (ed_var (d := liD x) 2 rfl (.inl rfl) rfl) ed_int rfl) (ea_cons (ed_ix (d := hiN x.hi) (ed_var (d := liD x) 2 rfl (.inl rfl) rfl) ed_int rfl) ea_nil))) (.inr rfl)) (blkOk_by rfl) (Nat.le_of_ble_eq_true rfl) (fun m mm => ⟨_, _, fun b => eg_name 3 nd rfl (.inl rfl), by decide, fun b => Cp.et (Cp.is (cp_notN (ed_var (d := hiN m) 3 rfl (.inl rfl) rfl)) (by cases m <;> rfl)), fun _ b => ed_var (d := hiN m) 3 rfl (.inl rfl) rfl⟩)) (bnN_D x))) (.inl rfl)) (fun j ρ s2 => s2 = s' ∧ ∃ g3 g4 g5, ρ = [.val (.lst (L.map liD)), .own ((0 :: P ++ ((bnN x).take j).flatMap (turnQ x) : List Rat).map fr), .val (liD x), g3, g4, g5]) ⟨rfl, _, _, _, by rw [List.take_zero, List.flatMap_nil, List.append_nil]⟩ ?_ ?_)
    · rintro j m ρ2 s2 hm ⟨rfl, g3, g4, g5, rfl⟩
      have mm := List.mem_of_getElem? hm
      have sj := sh j
      rw [flatMap_take_succ hm (turnQ x), ← List.append_assoc]
      generalize (0 :: P ++ ((bnN x).take j).flatMap (turnQ x) : List Rat) = Q at sj
      have zg : Sz 40 ((m : Rat) - x.b) := ((sz_nat (m := 10) (show m < 2 ^ 10 by have := q.bn mm; omega)).sub q.ok.b).mono (by decide)
      refine ⟨_, _, eg_name 3 nd rfl (.inl rfl), ?_⟩
      show Bk _ _ ([.val (.lst (L.map liD)), .own (Q.map fr), .val (liD x), .val (.int m), g4, g5] : List G) s2 _
      refine bk_cons (bs_set (d := fr ((m : Rat) - x.b)) (s1 := s2) 4 nd rfl (.inl rfl) (ed_cl (ea_cons (Ed.is (y := fr (m : Rat)) (ed_tup (ea_cons (ed_var (d := .int m) 3 rfl (.inl rfl) rfl) (ea_cons ed_int ea_nil))) (fr_nat _).symm) (ea_cons (ed_ix (d := fr x.b) (ed_var (d := liD x) 2 rfl (.inl rfl) rfl) ed_int rfl) ea_nil)) (hr.mono (by decide)) (rn_lminus T.toTx (sz_nat (show m < 2 ^ 3000 from Nat.lt_of_lt_of_le (show m < 2 ^ 10 by have := q.bn mm; omega) (Nat.pow_le_pow_right (by decide) (by decide)))) (q.ok.b.mono (by decide)))) ?_)
      show Bk _ _ ([.val (.lst (L.map liD)), .own (Q.map fr), .val (liD x), .val (.int m), .val (fr ((m : Rat) - x.b)), g5] : List G) s2 _
      have hby := dvd_le9900 (q.by_ ((m : Rat) - x.b))
      refine bk_cons (bs_set (d := .int (byN x ((m : Rat) - x.b))) (s1 := s2) 5 nd rfl (.inl rfl) (ed_by (Cp.et (Cp.is (cp_lt (ed_ix (d := .int ((m : Rat) - x.b).num) (ed_var (d := fr ((m : Rat) - x.b)) 4 rfl (.inl rfl) rfl) ed_int rfl) ed_int) (decide_eq_decide.mpr num_neg))) (ed_ix (d := .int x.w) (ed_var (d := liD x) 2 rfl (.inl rfl) rfl) ed_int rfl) (ed_ix (d := .int x.g) (ed_var (d := liD x) 2 rfl (.inl rfl) rfl) ed_int rfl)) ?_)
      show Bk _ _ ([.val (.lst (L.map liD)), .own (Q.map fr), .val (liD x), .val (.int m), .val (fr ((m : Rat) - x.b)), .val (.int (byN x ((m : Rat) - x.b)))] : List G) s2 _
      unfold turnQ
      generalize byN x ((m : Rat) - x.b) = n at hby
      refine bk_cons (bs_if (t := decide (0 < n)) (s1 := s2) (Cp.et (Cp.is (cp_gt (ed_var (d := .int n) 5 rfl (.inl rfl) rfl) ed_int) (decide_eq_decide.mpr (by omega)))) (fun h => ?_) (fun h => ?_))
      · have h := of_decide_eq_true h
        rw [if_pos h]
        refine bk_cons (bs_append 1 (d := fr (((m : Rat) - x.b) * (1 / (n : Rat)))) (s1 := s2) rfl (.inl rfl) rfl (ed_cl (ea_cons (ed_var (d := fr ((m : Rat) - x.b)) 4 rfl (.inl rfl) rfl) (ea_cons (ed_tup (ea_cons (ed_var (d := .int n) 5 rfl (.inl rfl) rfl) (ea_cons ed_int ea_nil))) ea_nil)) (hr.mono (by decide)) (rn_lover T (zg.mono (by decide)) h (by omega))) (sl1000 (by rw [List.length_map]; omega)) (bk_nil (bk_nil ⟨rfl, _, _, _, by rw [List.map_append]; rfl⟩)))
      · have h := of_decide_eq_false h
        rw [if_neg h, List.append_nil]
        exact bk_nil (bk_nil ⟨rfl, _, _, _, rfl⟩)
    · rintro ρ2 s2 ⟨rfl, g3, g4, g5, rfl⟩
      rw [List.take_length]
      exact bk_nil ⟨rfl, _, _, _, _, rfl⟩
  · rintro ρ' s' ⟨rfl, g2, g3, g4, g5, rfl⟩
    rw [List.take_length]
    refine bk_freeze 1 rfl ?_
    have ha := allT_len L
    exact bk_cons (bs_ret (ed_cl (ea_cons (ed_var (d := .lst ((allT L).map fr)) 1 rfl (.inl rfl) rfl) ea_nil) (hr.mono (by decide)) (rn_in_order T (fun q m => (qz22 (allT_qn ok q m)).mono (by decide)) (by omega))) ⟨rfl, rfl⟩)
theorem lows_sz {L : List Rat} {M : Nat} (h : ∀ q ∈ L, Qn 415800 M q) (hl : L.length ≤ 10) (hM : M * 10 < 2 ^ 100) (i : Nat) : Sz 3000 (lsum (L.take i)) := by
  refine (qz (n := 100) (M := M * 10) ((Qn.sum fun q m => h q (List.mem_of_mem_take m)).mono ?_) hM).mono (by decide)
  rw [List.length_take]
  exact Nat.mul_le_mul_left _ (by omega)
/-- the room that the sizes at a level fill -/
def roomQ (L : List LI) (n : Nat) (l : Rat) : Rat := lsum (L.map (lsize l)) + ((gapsQ L n : Int) : Rat)
theorem gaps_qn {L : List LI} {n : Nat} (hl : L.length ≤ 8) (h1 : 1 ≤ L.length) (hn : n ≤ 10) : Qn 415800 (2 ^ 25) ((gapsQ L n : Int) : Rat) := by
  refine ((Qn.int (gapsQ L n)).ups (K := 415800) (by decide) (by decide)).mono ?_
  unfold gapsQ
  rw [Int.natAbs_mul, Int.natAbs_natCast]
  have : ((L.length : Int) - 1).natAbs ≤ 7 := by omega
  calc n * ((L.length : Int) - 1).natAbs * (415800 / 1) ≤ 10 * 7 * 415800 := Nat.mul_le_mul_right _ (Nat.mul_le_mul hn this)
    _ ≤ 2 ^ 25 := by decide
theorem room_qn {L : List LI} {n : Nat} (h : ∀ x ∈ L, Lq x) (hl : L.length ≤ 8) (h1 : 1 ≤ L.length) (hn : n ≤ 10) {l : Rat} (hq : Qn 415800 (2 ^ 27) l) : Qn 415800 (2 ^ 44 + 2 ^ 25) (roomQ L n l) := (tot_qn h hl hq).add (gaps_qn hl h1 hn)
theorem rn_totalq (T : Tc E) {L : List LI} {l : Rat} (ok : ∀ x ∈ L, Lq x) (hl : L.length ≤ 8) (hq : Qn 415800 (2 ^ 27) l) : Rn E 4 "_law_total" [.lst (L.map liD), fr l] s (fr (lsum (L.map (lsize l)))) s := by
  have hs : ∀ q ∈ L.map (lsize l), Qn 415800 (2 ^ 41) q := fun q m => by
    obtain ⟨x, mx, rfl⟩ := List.mem_map.mp m
    exact lsize_qn (ok x mx) hq
  exact rn_total T (fun x m => (ok x m).ok) ((qz22 hq).mono (by decide)) (by omega) (lows_sz hs (by rw [List.length_map]; omega) (by decide)) fun q m => (qz (n := 45) (hs q m) (by decide)).mono (by decide)
end Law
set_option Elab.async false
set_option linter.all false
set_option maxRecDepth 100000
set_option maxHeartbeats 800000
/-! plain: the law's sizes are the program's -/
namespace Law
open PySem PySem.Spec PyProof.Rows L2 Gh
/-- what a level moves an item by -/
def byQ (x : LI) (l : Rat) : Rat := l * (if l < 0 then (x.w : Rat) else (x.g : Rat))
theorem lsize_cv {x : LI} (ok : LOk x) (l : Rat) : lsize l x = cv x (x.b + byQ x l) := by
  unfold lsize lclamp
  rw [lcl_eq ok.hr]; rfl
theorem byQ_mono (x : LI) {a b : Rat} (h : a ≤ b) : byQ x a ≤ byQ x b := by
  have g0 := nat_nonneg x.g
  have w0 := nat_nonneg x.w
  unfold byQ
  by_cases ha : a < 0
  · rw [if_pos ha]
    by_cases hb : b < 0
    · rw [if_pos hb]
      exact Rat.mul_le_mul_of_nonneg_right h w0
    · rw [if_neg hb]
      have h1 := Rat.mul_nonneg (Rat.not_lt.mp hb) g0
      have h2 := Rat.mul_nonneg (show (0 : Rat) ≤ -a by grind) w0
      grind
  · rw [if_neg ha, if_neg (by grind)]
    exact Rat.mul_le_mul_of_nonneg_right h g0
theorem lsize_mono {x : LI} (ok : LOk x) {a b : Rat} (h : a ≤ b) : lsize a x ≤ lsize b x := by
  rw [lsize_cv ok, lsize_cv ok]
  refine clv_mono ok.hr ?_
  have := byQ_mono x h
  grind
def lowQ (x : LI) : Rat := if 0 < x.w then (x.lo : Rat) else lclamp x x.b
def highQ (x : LI) : Option Rat := if x.g = 0 then some (lclamp x x.b) else hiR x
theorem clamp_cv {x : LI} (ok : LOk x) (q : Rat) : lclamp x q = cv x q := by
  unfold lclamp
  rw [lcl_eq ok.hr]; rfl
theorem cv_lo {x : LI} (ok : LOk x) (q : Rat) : (x.lo : Rat) ≤ cv x q := by
  have h := ok.hr
  unfold cv
  cases e : hiR x with
  | none => simp only [clv]; grind
  | some m => have := h m e; simp only [clv]; grind
theorem cv_hi {x : LI} (ok : LOk x) (q : Rat) {m : Rat} (e : hiR x = some m) : cv x q ≤ m := by
  have h := ok.hr m e
  unfold cv
  rw [e]
  simp only [clv]; grind
theorem low_le {x : LI} (ok : LOk x) (l : Rat) : lowQ x ≤ lsize l x := by
  rw [lsize_cv ok]
  unfold lowQ
  by_cases h : 0 < x.w
  · rw [if_pos h]; exact cv_lo ok _
  · rw [if_neg h, clamp_cv ok]
    refine clv_mono ok.hr ?_
    have w0 : (x.w : Rat) = 0 := by
      have : x.w = 0 := by omega
      rw [this]; rfl
    have g0 := nat_nonneg x.g
    unfold byQ
    by_cases hl : l < 0
    · rw [if_pos hl, w0]; grind
    · rw [if_neg hl]
      have := Rat.mul_nonneg (Rat.not_lt.mp hl) g0
      grind
theorem le_high {x : LI} (ok : LOk x) (l : Rat) {m : Rat} (e : highQ x = some m) : lsize l x ≤ m := by
  rw [lsize_cv ok]
  unfold highQ at e
  by_cases h : x.g = 0
  · rw [if_pos h] at e
    cases e
    rw [clamp_cv ok]
    refine clv_mono ok.hr ?_
    have g0 : (x.g : Rat) = 0 := by rw [h]; rfl
    have w0 := nat_nonneg x.w
    unfold byQ
    by_cases hl : l < 0
    · rw [if_pos hl]
      have := Rat.mul_nonneg (show (0 : Rat) ≤ -l by grind) w0
      grind
    · rw [if_neg hl, g0]; grind
  · rw [if_neg h] at e
    exact cv_hi ok _ e
/-! linear pieces -/
theorem clv_lin {lo A B : Rat} {hi : Option Rat} (hl : ∀ m, hi = some m → lo ≤ m) (h : A ≤ B) (n1 : ¬ (A < lo ∧ lo < B)) (n2 : ∀ m, hi = some m → ¬ (A < m ∧ m < B)) : ∃ k : Rat, 0 ≤ k ∧ ∀ z, A ≤ z → z ≤ B → clv lo hi z = clv lo hi A + (z - A) * k := by
  by_cases c1 : B ≤ lo
  · refine ⟨0, by grind, fun z h1 h2 => ?_⟩
    cases hi with
    | none => simp only [clv]; grind
    | some m => have := hl m rfl; simp only [clv]; grind
  · have c2 : lo ≤ A := by grind
    cases hi with
    | none =>
      refine ⟨1, by grind, fun z h1 h2 => ?_⟩
      simp only [clv]; grind
    | some m =>
      have hm := hl m rfl
      have n3 := n2 m rfl
      by_cases c3 : m ≤ A
      · refine ⟨0, by grind, fun z h1 h2 => ?_⟩
        simp only [clv]; grind
      · refine ⟨1, by grind, fun z h1 h2 => ?_⟩
        simp only [clv]; grind
theorem mul_lt_r {a b k : Rat} (hk : 0 < k) (h : a * k < b * k) : a < b := by
  refine Decidable.byContradiction fun n => ?_
  have := Rat.mul_le_mul_of_nonneg_right (Rat.not_lt.mp n) (Rat.le_of_lt hk)
  grind
/-- the level at which a bound is met, among the turns -/
theorem turn_mem {x : LI} {m : Nat} (mm : m ∈ bnN x) {k : Nat} (hk : 0 < k) (hb : byN x ((m : Rat) - x.b) = k) : ((m : Rat) - x.b) * (1 / (k : Rat)) ∈ turnsQ x := by
  refine List.mem_flatMap.mpr ⟨m, mm, ?_⟩
  unfold turnQ
  rw [hb, if_pos hk]
  exact List.mem_singleton.mpr rfl
theorem bn_hi {x : LI} {m : Rat} (e : hiR x = some m) : ∃ n ∈ bnN x, m = (n : Rat) := by
  unfold hiR at e
  unfold bnN
  cases e2 : x.hi with
  | none => rw [e2] at e; cases e
  | some n => rw [e2] at e; cases e; exact ⟨n, List.mem_cons_of_mem _ (by simp), rfl⟩
theorem no_inside {x : LI} {a b : Rat} {k : Nat} {β : Nat} (mβ : β ∈ bnN x) (hs : (k = x.w ∧ b ≤ 0) ∨ (k = x.g ∧ 0 ≤ a)) (nt : ∀ t ∈ turnsQ x, ¬ (a < t ∧ t < b)) : ¬ (x.b + a * (k : Rat) < (β : Rat) ∧ (β : Rat) < x.b + b * (k : Rat)) := fun ⟨h1, h2⟩ => by
  have kp : 0 < k := by
    rcases Nat.eq_zero_or_pos k with z | z
    · have : (k : Rat) = 0 := by rw [z]; rfl
      rw [this] at h1 h2; grind
    · exact z
  have kq := nat_pos kp
  have hi := inv_mul kp
  have e : ((β : Rat) - x.b) * (1 / (k : Rat)) * (k : Rat) = (β : Rat) - x.b := by rw [Rat.mul_assoc, hi, Rat.mul_one]
  have g1 : a < ((β : Rat) - x.b) * (1 / (k : Rat)) := mul_lt_r kq (by rw [e]; grind)
  have g2 : ((β : Rat) - x.b) * (1 / (k : Rat)) < b := mul_lt_r kq (by rw [e]; grind)
  refine nt _ (turn_mem mβ kp ?_) ⟨g1, g2⟩
  unfold byN
  rcases hs with ⟨rfl, hb⟩ | ⟨rfl, ha⟩
  · have : (β : Rat) - x.b < 0 := by
      have := Rat.mul_nonneg (show (0 : Rat) ≤ -b by grind) (Rat.le_of_lt kq)
      grind
    rw [if_pos this]
  · have : ¬ (β : Rat) - x.b < 0 := by
      have := Rat.mul_nonneg ha (Rat.le_of_lt kq)
      grind
    rw [if_neg this]
theorem size_lin {x : LI} (ok : LOk x) {a b : Rat} (h : a ≤ b) (h0 : b ≤ 0 ∨ 0 ≤ a) (nt : ∀ t ∈ turnsQ x, ¬ (a < t ∧ t < b)) : ∃ σ : Rat, 0 ≤ σ ∧ ∀ l, a ≤ l → l ≤ b → lsize l x = lsize a x + (l - a) * σ := by
  obtain ⟨k, hs, hby⟩ : ∃ k : Nat, ((k = x.w ∧ b ≤ 0) ∨ (k = x.g ∧ 0 ≤ a)) ∧ ∀ l, a ≤ l → l ≤ b → byQ x l = l * (k : Rat) := by
    rcases h0 with h0 | h0
    · refine ⟨x.w, .inl ⟨rfl, h0⟩, fun l h1 h2 => ?_⟩
      unfold byQ
      by_cases hl : l < 0
      · rw [if_pos hl]
      · have : l = 0 := by grind
        rw [this]; grind
    · refine ⟨x.g, .inr ⟨rfl, h0⟩, fun l h1 h2 => ?_⟩
      unfold byQ
      rw [if_neg (by grind)]
  have k0 := nat_nonneg k
  obtain ⟨c, c0, hc⟩ := clv_lin (lo := (x.lo : Rat)) (hi := hiR x) (A := x.b + a * (k : Rat)) (B := x.b + b * (k : Rat)) ok.hr (by have := Rat.mul_le_mul_of_nonneg_right h k0; grind) (no_inside (β := x.lo) List.mem_cons_self hs nt) fun m e => by
    obtain ⟨n, mn, rfl⟩ := bn_hi e
    exact no_inside mn hs nt
  refine ⟨(k : Rat) * c, Rat.mul_nonneg k0 c0, fun l h1 h2 => ?_⟩
  rw [lsize_cv ok, lsize_cv ok, hby l h1 h2, hby a Rat.le_refl h]
  have m1 := Rat.mul_le_mul_of_nonneg_right h1 k0
  have m2 := Rat.mul_le_mul_of_nonneg_right h2 k0
  unfold cv
  rw [hc (x.b + l * (k : Rat)) (by grind) (by grind)]
  grind
def totQ (L : List LI) (l : Rat) : Rat := lsum (L.map (lsize l))
theorem tot_mono {L : List LI} (ok : ∀ x ∈ L, LOk x) {a b : Rat} (h : a ≤ b) : totQ L a ≤ totQ L b := by
  refine lsum_le (by rw [List.length_map, List.length_map]) fun i p q hp hq => ?_
  rw [List.getElem?_map] at hp hq
  cases e : L[i]? with
  | none => rw [e] at hp; cases hp
  | some x =>
    rw [e] at hp hq
    cases hp; cases hq
    exact lsize_mono (ok x (List.mem_of_getElem? e)) h
theorem tot_cons (x : LI) (L : List LI) (l : Rat) : totQ (x :: L) l = lsize l x + totQ L l := by
  unfold totQ
  rw [List.map_cons, lsum_cons]
theorem tot_lin {a b : Rat} (h : a ≤ b) (h0 : b ≤ 0 ∨ 0 ≤ a) : ∀ {L : List LI}, (∀ x ∈ L, LOk x) → (∀ x ∈ L, ∀ t ∈ turnsQ x, ¬ (a < t ∧ t < b)) → ∃ σ : Rat, 0 ≤ σ ∧ ∀ l, a ≤ l → l ≤ b → totQ L l = totQ L a + (l - a) * σ
  | [], _, _ => ⟨0, by grind, fun l _ _ => by unfold totQ; simp [lsum_nil]; grind⟩
  | x :: L, ok, nt => by
    obtain ⟨s1, p1, q1⟩ := size_lin (ok x List.mem_cons_self) h h0 (nt x List.mem_cons_self)
    obtain ⟨s2, p2, q2⟩ := tot_lin h h0 (L := L) (fun y m => ok y (List.mem_cons_of_mem _ m)) fun y m => nt y (List.mem_cons_of_mem _ m)
    refine ⟨s1 + s2, by grind, fun l h1 h2 => ?_⟩
    rw [tot_cons, tot_cons, q1 l h1 h2, q2 l h1 h2]
    grind
/-! the turns in order -/
def insR : List Rat → Rat → List Rat
  | [], q => [q]
  | a :: F, q => if a < q then a :: insR F q else if a = q then a :: F else q :: a :: F
def Ascd (F : List Rat) : Prop := F.Pairwise fun a b => a < b
theorem insQ_R : ∀ {F : List Rat} {q : Rat}, Ascd F → insQ F q = insR F q
  | [], q, _ => by unfold insQ insR; simp
  | a :: F, q, h => by
    obtain ⟨h1, h2⟩ := List.pairwise_cons.mp h
    have ih := insQ_R (F := F) (q := q) h2
    by_cases hq : a < q
    · unfold insR
      rw [if_pos hq, ← ih]
      unfold insQ
      rw [List.filter_cons_of_pos (by simpa using hq), List.length_cons, List.drop_succ_cons, List.take_succ_cons]
      split <;> simp
    · have e0 : (a :: F).filter (fun p => decide (p < q)) = [] := List.filter_eq_nil_iff.mpr fun p mp => by
        rcases List.mem_cons.mp mp with rfl | mp
        · simpa using hq
        · have := h1 p mp
          simp only [decide_eq_true_eq]; grind
      unfold insR
      rw [if_neg hq]
      unfold insQ
      rw [e0]
      by_cases he : a = q
      · rw [if_pos he]
        subst he
        simp
      · rw [if_neg he]
        simp [he]
theorem insR_mem {F : List Rat} {q p : Rat} : p ∈ insR F q ↔ p ∈ F ∨ p = q := by
  induction F with
  | nil => simp [insR]
  | cons a F ih =>
    unfold insR
    by_cases h : a < q
    · rw [if_pos h, List.mem_cons, ih, List.mem_cons]
      constructor
      · rintro (h | h | h) <;> simp [h]
      · rintro ((h | h) | h) <;> simp [h]
    · rw [if_neg h]
      by_cases he : a = q
      · rw [if_pos he, List.mem_cons]
        subst he
        constructor
        · exact .inl
        · rintro (h | h)
          · exact h
          · exact .inl h
      · rw [if_neg he, List.mem_cons, List.mem_cons]
        constructor
        · rintro (h | h | h) <;> simp [h]
        · rintro ((h | h) | h) <;> simp [h]
theorem insR_asc {F : List Rat} {q : Rat} (h : Ascd F) : Ascd (insR F q) := by
  induction F with
  | nil => exact List.pairwise_singleton _ _
  | cons a F ih =>
    obtain ⟨h1, h2⟩ := List.pairwise_cons.mp h
    unfold insR
    by_cases hq : a < q
    · rw [if_pos hq]
      refine List.pairwise_cons.mpr ⟨fun p mp => ?_, ih h2⟩
      rcases insR_mem.mp mp with mp | rfl
      · exact h1 p mp
      · exact hq
    · rw [if_neg hq]
      by_cases he : a = q
      · rw [if_pos he]; exact h
      · rw [if_neg he]
        refine List.pairwise_cons.mpr ⟨fun p mp => ?_, h⟩
        rcases List.mem_cons.mp mp with rfl | mp
        · grind
        · have := h1 p mp; grind
theorem inOrd_spec (qs : List Rat) : Ascd (inOrd qs) ∧ ∀ p, p ∈ inOrd qs ↔ p ∈ qs := by
  suffices ∀ (qs F : List Rat), Ascd F → Ascd (qs.foldl insQ F) ∧ ∀ p, p ∈ qs.foldl insQ F ↔ p ∈ F ∨ p ∈ qs by
    have := this qs [] List.Pairwise.nil
    refine ⟨this.1, fun p => ?_⟩
    rw [show inOrd qs = qs.foldl insQ [] from rfl, this.2 p]
    simp
  intro qs
  induction qs with
  | nil => intro F h; exact ⟨h, fun p => by simp⟩
  | cons q qs ih =>
    intro F h
    rw [List.foldl_cons, insQ_R h]
    obtain ⟨i1, i2⟩ := ih (insR F q) (insR_asc h)
    refine ⟨i1, fun p => ?_⟩
    rw [i2 p, insR_mem, List.mem_cons]
    constructor
    · rintro ((h | h) | h) <;> simp [h]
    · rintro (h | h | h) <;> simp [h]
/-! the law's level -/
def goLev (L : List LI) (left : Rat) : List Rat → Rat
  | [] => 0
  | [t] => t + (left - totQ L t) / (totQ L (t + 1) - totQ L t)
  | t :: u :: r => if totQ L u < left then goLev L left (u :: r) else t + (u - t) * (if 0 < totQ L u - totQ L t then (left - totQ L t) / (totQ L u - totQ L t) else 0)
theorem goLev_go {L : List LI} {left : Rat} (ok : ∀ x ∈ L, LOk x) : ∀ (ts pre : List Rat), Ascd (pre ++ ts) → (∀ x ∈ L, ∀ t ∈ turnsQ x, t ∈ pre ++ ts) → (0 : Rat) ∈ pre ++ ts → (∀ t ∈ ts.head?, totQ L t < left) → ts ≠ [] → (∀ t, (∀ x ∈ L, ∀ u ∈ turnsQ x, u ≤ t) → 0 ≤ t → totQ L t < left → totQ L t < totQ L (t + 1)) → totQ L (goLev L left ts) = left
  | [], _, _, _, _, _, h, _ => absurd rfl h
  | [t], pre, ha, hm, h0, hlt, _, htop => by
    have hall : ∀ q ∈ pre ++ [t], q ≤ t := fun q mq => by
      rcases List.mem_append.mp mq with mq | mq
      · have := (List.pairwise_append.mp ha).2.2 q mq t (by simp)
        grind
      · rw [List.mem_singleton.mp mq]; exact Rat.le_refl
    have t0 := hall 0 h0
    have lt : totQ L t < left := hlt t (by simp)
    have hup : ∀ x ∈ L, ∀ u ∈ turnsQ x, u ≤ t := fun x mx u mu => hall u (hm x mx u mu)
    have rise := htop t hup t0 lt
    unfold goLev
    generalize hd : totQ L (t + 1) - totQ L t = d at *
    have dp : 0 < d := by grind
    generalize hz : (left - totQ L t) / d = z
    have ez : z * d = left - totQ L t := by rw [← hz]; grind
    have zp : 0 ≤ z := by
      refine Decidable.byContradiction fun n => ?_
      have := Rat.mul_lt_mul_of_pos_right (show z < 0 by grind) dp
      grind
    obtain ⟨σ, _, q⟩ := tot_lin (a := t) (b := t + z + 1) (by grind) (.inr t0) ok fun x mx u mu ⟨h1, _⟩ => by
      have := hup x mx u mu; grind
    have q1 := q (t + 1) (by grind) (by grind)
    have q2 := q (t + z) (by grind) (by grind)
    rw [q2]
    have : σ = d := by grind
    rw [this]; grind
  | t :: u :: r, pre, ha, hm, h0, hlt, _, htop => by
    have lt : totQ L t < left := hlt t (by simp)
    have tu : t < u := by
      have := (List.pairwise_append.mp ha).2.1
      exact (List.pairwise_cons.mp this).1 u List.mem_cons_self
    unfold goLev
    by_cases h : totQ L u < left
    · rw [if_pos h]
      refine goLev_go ok (u :: r) (pre ++ [t]) (by simpa using ha) (by simpa using hm) (by simpa using h0) (fun v hv => ?_) (by simp) htop
      have : v = u := by simpa using hv.symm
      rw [this]; exact h
    · rw [if_neg h]
      have dp : 0 < totQ L u - totQ L t := by grind
      rw [if_pos dp]
      generalize hd : totQ L u - totQ L t = d at *
      generalize hz : (left - totQ L t) / d = z
      have ez : z * d = left - totQ L t := by rw [← hz]; grind
      have zp : 0 ≤ z := by
        refine Decidable.byContradiction fun n => ?_
        have := Rat.mul_lt_mul_of_pos_right (show z < 0 by grind) dp
        grind
      have z1 : z ≤ 1 := by
        refine Decidable.byContradiction fun n => ?_
        have := Rat.mul_lt_mul_of_pos_right (show 1 < z by grind) dp
        grind
      have key : ∀ q ∈ pre ++ t :: u :: r, q ≤ t ∨ u ≤ q := fun q mq => by
        obtain ⟨_, p2, p3⟩ := List.pairwise_append.mp ha
        rcases List.mem_append.mp mq with mq | mq
        · have := p3 q mq t (by simp)
          exact .inl (by grind)
        · rcases List.mem_cons.mp mq with rfl | mq
          · exact .inl Rat.le_refl
          · rcases List.mem_cons.mp mq with rfl | mq
            · exact .inr Rat.le_refl
            · have := (List.pairwise_cons.mp (List.pairwise_cons.mp p2).2).1 q mq
              exact .inr (by grind)
      obtain ⟨σ, _, q⟩ := tot_lin (a := t) (b := u) (by grind) ((key 0 h0).elim .inr .inl) ok fun x mx v mv ⟨h1, h2⟩ => by
        rcases key v (hm x mx v mv) with k | k <;> grind
      have q1 := q u (by grind) (by grind)
      have m1 := Rat.mul_le_mul_of_nonneg_right z1 (show (0 : Rat) ≤ u - t by grind)
      have m2 := Rat.mul_nonneg (show (0 : Rat) ≤ u - t by grind) zp
      have q2 := q (t + (u - t) * z) (by grind) (by grind)
      rw [q2]
      have : (u - t) * σ = d := by grind
      have : (t + (u - t) * z - t) * σ = z * ((u - t) * σ) := by grind
      grind
end Law
set_option Elab.async false
set_option linter.all false
set_option maxRecDepth 100000
set_option maxHeartbeats 800000
/-! plain: the law's sizes are the program's -/
namespace Law
open PySem PySem.Spec PyProof.Rows L2 Gh
theorem w_zero {x : LI} (h : ¬ 0 < x.w) : (x.w : Rat) = 0 := by
  have : x.w = 0 := by omega
  rw [this]; rfl
theorem cv_le_lo {x : LI} (ok : LOk x) {q : Rat} (h : q ≤ (x.lo : Rat)) : cv x q = (x.lo : Rat) := by
  have h2 := ok.hr
  unfold cv
  cases e : hiR x with
  | none => simp only [clv]; grind
  | some m => have := h2 m e; simp only [clv]; grind
theorem cv_ge_hi {x : LI} (ok : LOk x) {q m : Rat} (e : hiR x = some m) (h : m ≤ q) : cv x q = m := by
  have h2 := ok.hr m e
  unfold cv
  rw [e]
  simp only [clv]; grind
theorem cv_ge {x : LI} (ok : LOk x) {q : Rat} (e : hiR x = none) : q ≤ cv x q := by
  unfold cv
  rw [e]
  simp only [clv]; grind
theorem size_w0 {x : LI} (ok : LOk x) (h : ¬ 0 < x.w) {l : Rat} (hl : l ≤ 0) : lsize l x = lowQ x := by
  have w0 := w_zero h
  rw [lsize_cv ok]
  unfold lowQ
  rw [if_neg h, clamp_cv ok]
  congr 1
  unfold byQ
  by_cases hn : l < 0
  · rw [if_pos hn, w0]; grind
  · have : l = 0 := by grind
    rw [this]; grind
theorem size_g0 {x : LI} (ok : LOk x) (h : x.g = 0) {l : Rat} (hl : 0 ≤ l) : highQ x = some (lsize l x) := by
  have g0 : (x.g : Rat) = 0 := by rw [h]; rfl
  rw [lsize_cv ok]
  unfold highQ
  rw [if_pos h, clamp_cv ok]
  congr 2
  unfold byQ
  rw [if_neg (by grind), g0]; grind
/-- at the lowest turn all stand at their least -/
theorem size_bottom {x : LI} (ok : LOk x) {t : Rat} (h0 : t ≤ 0) (hall : ∀ u ∈ turnsQ x, t ≤ u) : lsize t x = lowQ x := by
  by_cases h : 0 < x.w
  · rw [lsize_cv ok]
    have wq := nat_pos h
    unfold lowQ
    rw [if_pos h]
    refine cv_le_lo ok ?_
    by_cases hb : (x.lo : Rat) - x.b < 0
    · have := hall _ (turn_mem (m := x.lo) List.mem_cons_self h (by unfold byN; rw [if_pos hb]))
      have hi := inv_mul h
      have m1 := Rat.mul_le_mul_of_nonneg_right this (Rat.le_of_lt wq)
      have e : ((x.lo : Rat) - x.b) * (1 / (x.w : Rat)) * (x.w : Rat) = (x.lo : Rat) - x.b := by rw [Rat.mul_assoc, hi, Rat.mul_one]
      rw [e] at m1
      have tn : t < 0 := by
        refine Decidable.byContradiction fun n => ?_
        have := Rat.mul_nonneg (Rat.not_lt.mp n) (Rat.le_of_lt wq)
        grind
      unfold byQ
      rw [if_pos tn]; grind
    · have := byQ_mono x h0
      have z : byQ x 0 = 0 := by unfold byQ; grind
      grind
  · exact size_w0 ok h h0
/-- at the highest turn all that goes on no more stand at their greatest -/
theorem size_top {x : LI} (ok : LOk x) {t : Rat} (h0 : 0 ≤ t) (hall : ∀ u ∈ turnsQ x, u ≤ t) (he : lsize (t + 1) x = lsize t x) : highQ x = some (lsize t x) := by
  by_cases h : x.g = 0
  · exact size_g0 ok h h0
  · have gp : 0 < x.g := by omega
    have gq := nat_pos gp
    have hi := inv_mul gp
    have b1 : byQ x t = t * (x.g : Rat) := by unfold byQ; rw [if_neg (by grind)]
    have b2 : byQ x (t + 1) = t * (x.g : Rat) + (x.g : Rat) := by unfold byQ; rw [if_neg (by grind)]; grind
    have up : ∀ β ∈ bnN x, (β : Rat) ≤ x.b + t * (x.g : Rat) := fun β mβ => by
      by_cases hb : (β : Rat) - x.b < 0
      · have := Rat.mul_nonneg h0 (Rat.le_of_lt gq)
        grind
      · have := hall _ (turn_mem mβ gp (by unfold byN; rw [if_neg hb]))
        have m1 := Rat.mul_le_mul_of_nonneg_right this (Rat.le_of_lt gq)
        have e : ((β : Rat) - x.b) * (1 / (x.g : Rat)) * (x.g : Rat) = (β : Rat) - x.b := by rw [Rat.mul_assoc, hi, Rat.mul_one]
        rw [e] at m1; grind
    unfold highQ
    rw [if_neg h]
    cases e : hiR x with
    | some m =>
      obtain ⟨n, mn, rfl⟩ := bn_hi e
      rw [lsize_cv ok, b1, cv_ge_hi ok e (up n mn)]
    | none =>
      exfalso
      have l0 := up x.lo List.mem_cons_self
      rw [lsize_cv ok, lsize_cv ok, b1, b2] at he
      unfold cv at he
      rw [e] at he
      simp only [clv] at he
      grind
/-! at which level the program's sizes stand -/
def levQ (L : List LI) (left : Rat) : Rat := (levF 0 (L.map LI.it) (left, 0)).2.1
structure AtLev (L : List LI) (left l : Rat) : Prop where
  is : (lsum (L.map (lsize l)) = left) ∨ (0 ≤ l ∧ lsum (L.map (lsize l)) ≤ left ∧ ∀ ν, l ≤ ν → ∀ x ∈ L, lsize ν x = lsize l x) ∨ (l ≤ 0 ∧ left ≤ lsum (L.map (lsize l)) ∧ ∀ ν, ν ≤ l → ∀ x ∈ L, lsize ν x = lsize l x)
theorem pv_size {x : LI} (ok : LOk x) {up : Bool} {μ : Rat} (h : 0 ≤ μ) : pvl 0 x.it up μ = lsize (μ * sgn up) x := by
  rw [pv_it, lsize_cv ok]
  congr 2
  unfold byQ
  cases up with
  | true =>
    show μ * (x.g : Rat) = _
    have e : μ * sgn true = μ := by show μ * 1 = μ; grind
    rw [e, if_neg (by grind)]
  | false =>
    show μ * -(x.w : Rat) = _
    have e : μ * sgn false = -μ := by show μ * (-1) = -μ; grind
    rw [e]
    by_cases hm : -μ < 0
    · rw [if_pos hm]; grind
    · have : μ = 0 := by grind
      rw [this]; grind
theorem szs_at {L : List LI} {left : Rat} (ok : ∀ x ∈ L, LOk x) : szs L left = L.map (lsize (levQ L left)) ∧ AtLev L left (levQ L left) := by
  obtain ⟨μ, h0, e1, e2, h3⟩ := (lev_spec (r := 0) (items := L.map LI.it) (room := (left, 0)) fun x m => by
    obtain ⟨x, mx, rfl⟩ := List.mem_map.mp m
    exact (ok x mx).ok).ex
  rw [ev_flat] at e2
  have e2 : levQ L left = μ * sgn (upF 0 (L.map LI.it) (left, 0)) := e2
  generalize upF 0 (L.map LI.it) (left, 0) = up at e1 e2 h3
  have pz : ∀ ν, 0 ≤ ν → (L.map LI.it).map (fun x => pvl 0 x up ν) = L.map (lsize (ν * sgn up)) := fun ν hν => by
    rw [List.map_map]
    exact List.map_congr_left fun x mx => pv_size (ok x mx) hν
  have es : szs L left = L.map (lsize (levQ L left)) := by
    unfold szs
    have : (fun f : Fo => f.1) = (fun f : Fo => ev f 0) := by
      funext f; exact (ev_flat f).symm
    rw [this, e1, pz μ h0, e2]
  refine ⟨es, ⟨?_⟩⟩
  rw [e1, pz μ h0, ← e2, ← lsum_eq, ev_flat] at h3
  rcases h3 with h3 | ⟨hc, hs⟩
  · exact .inl h3
  · cases up with
    | true =>
      have el : levQ L left = μ := by rw [e2]; show μ * 1 = μ; grind
      rw [if_pos rfl] at hs
      rw [el] at hs ⊢
      refine .inr (.inl ⟨h0, hs, fun ν hν x mx => ?_⟩)
      have := hc ν hν x.it (List.mem_map.mpr ⟨x, mx, rfl⟩)
      rw [pv_size (ok x mx) (by grind), pv_size (ok x mx) h0] at this
      have s1 : ν * sgn true = ν := by show ν * 1 = ν; grind
      have s2 : μ * sgn true = μ := by show μ * 1 = μ; grind
      rw [s1, s2] at this
      exact this
    | false =>
      have el : levQ L left = -μ := by rw [e2]; show μ * (-1) = -μ; grind
      rw [if_neg (by decide)] at hs
      rw [el] at hs ⊢
      refine .inr (.inr ⟨by grind, hs, fun ν hν x mx => ?_⟩)
      have := hc (-ν) (by grind) x.it (List.mem_map.mpr ⟨x, mx, rfl⟩)
      rw [pv_size (ok x mx) (by grind), pv_size (ok x mx) h0] at this
      have s1 : -ν * sgn false = ν := by show -ν * (-1) = ν; grind
      have s2 : μ * sgn false = -μ := by show μ * (-1) = -μ; grind
      rw [s1, s2] at this
      exact this
theorem far_high {x : LI} (ok : LOk x) {l : Rat} (h0 : 0 ≤ l) (hc : ∀ ν, l ≤ ν → lsize ν x = lsize l x) : highQ x = some (lsize l x) := by
  by_cases h : x.g = 0
  · exact size_g0 ok h h0
  · have gp : 0 < x.g := by omega
    have gq := nat_pos gp
    have hi := inv_mul gp
    have far : ∀ T : Rat, ∃ ν, l ≤ ν ∧ T < x.b + byQ x ν := fun T => by
      generalize hz : (T - x.b) * (1 / (x.g : Rat)) = z
      have ez : z * (x.g : Rat) = T - x.b := by rw [← hz, Rat.mul_assoc, hi, Rat.mul_one]
      obtain ⟨y, hy1, hz2⟩ : ∃ y, l ≤ y ∧ z ≤ y := ⟨if l ≤ z then z else l, by grind, by grind⟩
      refine ⟨y + 1, by grind, ?_⟩
      unfold byQ
      rw [if_neg (by grind)]
      have := Rat.mul_le_mul_of_nonneg_right hz2 (Rat.le_of_lt gq)
      grind
    unfold highQ
    rw [if_neg h]
    cases e : hiR x with
    | some m =>
      obtain ⟨ν, h1, h2⟩ := far m
      have := hc ν h1
      rw [lsize_cv ok, cv_ge_hi ok e (Rat.le_of_lt h2)] at this
      rw [← this]
    | none =>
      exfalso
      obtain ⟨ν, h1, h2⟩ := far (lsize l x)
      have := hc ν h1
      rw [lsize_cv ok] at this
      have g := cv_ge ok (q := x.b + byQ x ν) e
      rw [this] at g
      grind
theorem far_low {x : LI} (ok : LOk x) {l : Rat} (h0 : l ≤ 0) (hc : ∀ ν, ν ≤ l → lsize ν x = lsize l x) : lowQ x = lsize l x := by
  by_cases h : 0 < x.w
  · have wq := nat_pos h
    have hi := inv_mul h
    unfold lowQ
    rw [if_pos h]
    generalize hz : ((x.lo : Rat) - x.b) * (1 / (x.w : Rat)) = z
    have ez : z * (x.w : Rat) = (x.lo : Rat) - x.b := by rw [← hz, Rat.mul_assoc, hi, Rat.mul_one]
    obtain ⟨y, hy1, hy2⟩ : ∃ y, y ≤ l ∧ y ≤ z := ⟨if z ≤ l then z else l, by grind, by grind⟩
    have := hc (y - 1) (by grind)
    rw [lsize_cv ok] at this
    rw [← this, cv_le_lo ok]
    unfold byQ
    rw [if_pos (by grind)]
    have := Rat.mul_le_mul_of_nonneg_right (show y - 1 ≤ z by grind) (Rat.le_of_lt wq)
    grind
  · exact (size_w0 ok h h0).symm
/-! the law's sizes -/
def highD (x : LI) : Rat := (highQ x).getD 0
def lawS (L : List LI) (left : Rat) : List Rat := if lsum (L.map lowQ) < left then (if (∀ x ∈ L, (highQ x).isSome = true) ∧ ¬ left < lsum (L.map highD) then L.map highD else L.map (lsize (goLev L left (inOrd (allT L))))) else L.map lowQ
theorem map_le {L : List LI} {f g : LI → Rat} (h : ∀ x ∈ L, f x ≤ g x) : ∀ (i : Nat) (a b : Rat), (L.map f)[i]? = some a → (L.map g)[i]? = some b → a ≤ b := fun i a b ha hb => by
  rw [List.getElem?_map] at ha hb
  cases e : L[i]? with
  | none => rw [e] at ha; cases ha
  | some x =>
    rw [e] at ha hb
    cases ha; cases hb
    exact h x (List.mem_of_getElem? e)
theorem same_sum {L : List LI} {f g : LI → Rat} (h : ∀ x ∈ L, f x ≤ g x) (hs : lsum (L.map g) ≤ lsum (L.map f)) : L.map f = L.map g := lsum_eq_of_le (by rw [List.length_map, List.length_map]) (map_le h) hs
theorem map_sum_le {L : List LI} {f g : LI → Rat} (h : ∀ x ∈ L, f x ≤ g x) : lsum (L.map f) ≤ lsum (L.map g) := lsum_le (by rw [List.length_map, List.length_map]) (map_le h)
theorem goLev_ok {L : List LI} {left : Rat} (ok : ∀ x ∈ L, LOk x) (h1 : lsum (L.map lowQ) < left) (h2 : ¬ ((∀ x ∈ L, (highQ x).isSome = true) ∧ ¬ left < lsum (L.map highD))) : totQ L (goLev L left (inOrd (allT L))) = left := by
  obtain ⟨ha, hm⟩ := inOrd_spec (allT L)
  have m0 : (0 : Rat) ∈ inOrd (allT L) := (hm 0).mpr List.mem_cons_self
  have mt : ∀ x ∈ L, ∀ t ∈ turnsQ x, t ∈ inOrd (allT L) := fun x mx t mt => (hm t).mpr (List.mem_cons_of_mem _ (List.mem_flatMap.mpr ⟨x, mx, mt⟩))
  refine goLev_go ok (inOrd (allT L)) [] ha mt m0 (fun t ht => ?_) (fun z => by rw [z] at m0; cases m0) fun t hall t0 hlt => ?_
  · have hmin : ∀ u ∈ inOrd (allT L), t ≤ u := fun u mu => by
      cases e : inOrd (allT L) with
      | nil => rw [e] at mu; cases mu
      | cons a F =>
        rw [e] at ht mu ha
        have : t = a := by simpa using ht.symm
        subst this
        rcases List.mem_cons.mp mu with rfl | mu
        · exact Rat.le_refl
        · exact Rat.le_of_lt ((List.pairwise_cons.mp ha).1 u mu)
    have : L.map (lsize t) = L.map lowQ := List.map_congr_left fun x mx => size_bottom (ok x mx) (hmin 0 m0) fun u mu => hmin u (mt x mx u mu)
    unfold totQ
    rw [this]; exact h1
  · refine Decidable.byContradiction fun n => h2 ?_
    have hs : L.map (lsize t) = L.map (lsize (t + 1)) := same_sum (fun x mx => lsize_mono (ok x mx) (by grind)) (Rat.not_lt.mp n)
    have hx : ∀ x ∈ L, highQ x = some (lsize t x) := fun x mx => size_top (ok x mx) t0 (hall x mx) (by
      have := List.map_inj_left.mp hs x mx
      exact this.symm)
    have hd : L.map highD = L.map (lsize t) := List.map_congr_left fun x mx => by unfold highD; rw [hx x mx]; rfl
    refine ⟨fun x mx => by rw [hx x mx]; rfl, ?_⟩
    rw [hd]
    have : totQ L t < left := hlt
    unfold totQ at this
    grind
theorem law_sizes {L : List LI} {left : Rat} (ok : ∀ x ∈ L, LOk x) : lawS L left = szs L left := by
  obtain ⟨es, ⟨hl⟩⟩ := szs_at (left := left) ok
  rw [es]
  generalize levQ L left = l at hl
  unfold lawS
  rcases Classical.em (lsum (L.map (lsize l)) = left) with h | h
  · by_cases h1 : lsum (L.map lowQ) < left
    · rw [if_pos h1]
      by_cases h2 : (∀ x ∈ L, (highQ x).isSome = true) ∧ ¬ left < lsum (L.map highD)
      · rw [if_pos h2]
        refine (same_sum (fun x mx => ?_) (by rw [h]; exact Rat.not_lt.mp h2.2)).symm
        have := h2.1 x mx
        cases e : highQ x with
        | none => rw [e] at this; cases this
        | some m =>
          have := le_high (ok x mx) l e
          unfold highD
          rw [e]; exact this
      · rw [if_neg h2]
        have hg := goLev_ok ok h1 h2
        unfold totQ at hg
        rcases Rat.le_total (a := goLev L left (inOrd (allT L))) (b := l) with q | q
        · exact same_sum (fun x mx => lsize_mono (ok x mx) q) (by rw [h, hg]; exact Rat.le_refl)
        · exact (same_sum (fun x mx => lsize_mono (ok x mx) q) (by rw [h, hg]; exact Rat.le_refl)).symm
    · rw [if_neg h1]
      exact same_sum (fun x mx => low_le (ok x mx) l) (by rw [h]; exact Rat.not_lt.mp h1)
  · rcases hl with hl | ⟨l0, hs, hc⟩ | ⟨l0, hs, hc⟩
    · exact absurd hl h
    · have hx : ∀ x ∈ L, highQ x = some (lsize l x) := fun x mx => far_high (ok x mx) l0 fun ν hν => hc ν hν x mx
      have hd : L.map highD = L.map (lsize l) := List.map_congr_left fun x mx => by unfold highD; rw [hx x mx]; rfl
      have hlow := map_sum_le (L := L) (f := lowQ) (g := lsize l) fun x mx => low_le (ok x mx) l
      rw [if_pos (by grind), if_pos ⟨fun x mx => by rw [hx x mx]; rfl, by rw [hd]; grind⟩, hd]
    · have hd : L.map lowQ = L.map (lsize l) := List.map_congr_left fun x mx => far_low (ok x mx) l0 fun ν hν => hc ν hν x mx
      rw [if_neg (by rw [hd]; grind), hd]
end Law
set_option Elab.async false
set_option linter.all false
set_option maxRecDepth 100000
/-! pieces: a list of forms from each low on; the shortest such list is told by its values alone -/
namespace Law
abbrev Lin := Rat × Rat
abbrev Pc := Rat × List Lin
def lin (f : Lin) (r : Rat) : Rat := f.1 + f.2 * r
def linL (F : List Lin) (r : Rat) : List Rat := F.map fun f => lin f r
theorem lin_inj {f g : Lin} {a b : Rat} (h : a < b) (ha : lin f a = lin g a) (hb : lin f b = lin g b) : f = g := by
  obtain ⟨f1, f2⟩ := f
  obtain ⟨g1, g2⟩ := g
  unfold lin at ha hb
  dsimp only at ha hb
  have h1 : (f2 - g2) * (b - a) = 0 := by grind
  have h2 : f2 - g2 = 0 := by
    rcases Rat.mul_eq_zero.mp h1 with z | z
    · exact z
    · grind
  have e2 : f2 = g2 := by grind
  subst e2
  have e1 : f1 = g1 := by grind
  rw [e1]
theorem linL_inj {a b : Rat} (h : a < b) : ∀ {F G : List Lin}, linL F a = linL G a → linL F b = linL G b → F = G
  | [], [], _, _ => rfl
  | [], _ :: _, ha, _ => by simp [linL] at ha
  | _ :: _, [], ha, _ => by simp [linL] at ha
  | f :: F, g :: G, ha, hb => by
    simp only [linL, List.map_cons, List.cons.injEq] at ha hb
    rw [lin_inj h ha.1 hb.1, linL_inj h ha.2 hb.2]
/-- forms that hold from each low up to the next -/
inductive Raw (f : Rat → List Rat) : Rat → List Pc → Prop
  | last {l : Rat} {F : List Lin} : (∀ r, l ≤ r → f r = linL F r) → Raw f l [(l, F)]
  | cons {l m : Rat} {F G : List Lin} {P : List Pc} : l < m → (∀ r, l ≤ r → r ≤ m → f r = linL F r) → Raw f m ((m, G) :: P) → Raw f l ((l, F) :: (m, G) :: P)
/-- no two neighbours alike -/
def Apart : List Pc → Prop
  | [] => True
  | [_] => True
  | p :: q :: P => p.2 ≠ q.2 ∧ Apart (q :: P)
theorem raw_uniq {f : Rat → List Rat} : ∀ {P Q : List Pc} {l : Rat}, Raw f l P → Raw f l Q → Apart P → Apart Q → P = Q
  | _, _, l, .last h, .last k, _, _ => by
    rw [linL_inj (show l < l + (1 : Rat) by grind) ((h _ Rat.le_refl).symm.trans (k _ Rat.le_refl)) ((h _ (by grind)).symm.trans (k _ (by grind)))]
  | _, _, l, .last (F := F) h, .cons (m := m) (F := G) (G := G2) (P := Q) hm k kr, _, aq => by
    exfalso
    have e : F = G := linL_inj hm ((h _ Rat.le_refl).symm.trans (k _ Rat.le_refl (Rat.le_of_lt hm))) ((h _ (Rat.le_of_lt hm)).symm.trans (k _ (Rat.le_of_lt hm) Rat.le_refl))
    refine aq.1 ?_
    show G = G2
    rw [← e]
    cases kr with
    | last k2 => exact linL_inj (show m < m + (1 : Rat) by grind) ((h _ (Rat.le_of_lt hm)).symm.trans (k2 _ Rat.le_refl)) ((h _ (by grind)).symm.trans (k2 _ (by grind)))
    | cons hm2 k2 _ => exact linL_inj hm2 ((h _ (Rat.le_of_lt hm)).symm.trans (k2 _ Rat.le_refl (Rat.le_of_lt hm2))) ((h _ (by grind)).symm.trans (k2 _ (Rat.le_of_lt hm2) Rat.le_refl))
  | _, _, l, .cons (m := m) (F := G) (G := G2) (P := Q) hm k kr, .last (F := F) h, ap, _ => by
    exfalso
    have e : F = G := linL_inj hm ((h _ Rat.le_refl).symm.trans (k _ Rat.le_refl (Rat.le_of_lt hm))) ((h _ (Rat.le_of_lt hm)).symm.trans (k _ (Rat.le_of_lt hm) Rat.le_refl))
    refine ap.1 ?_
    show G = G2
    rw [← e]
    cases kr with
    | last k2 => exact linL_inj (show m < m + (1 : Rat) by grind) ((h _ (Rat.le_of_lt hm)).symm.trans (k2 _ Rat.le_refl)) ((h _ (by grind)).symm.trans (k2 _ (by grind)))
    | cons hm2 k2 _ => exact linL_inj hm2 ((h _ (Rat.le_of_lt hm)).symm.trans (k2 _ Rat.le_refl (Rat.le_of_lt hm2))) ((h _ (by grind)).symm.trans (k2 _ (Rat.le_of_lt hm2) Rat.le_refl))
  | _, _, l, .cons (m := m) (F := F) (G := F2) (P := P) hm h hrest, .cons (m := m') (F := G) (G := G2) (P := Q) hm' k krest, ap, aq => by
    have eFG : F = G := by
      rcases Rat.le_total (a := m) (b := m') with q | q
      · exact linL_inj hm ((h _ Rat.le_refl (Rat.le_of_lt hm)).symm.trans (k _ Rat.le_refl (Rat.le_of_lt hm'))) ((h _ (Rat.le_of_lt hm) Rat.le_refl).symm.trans (k _ (Rat.le_of_lt hm) q))
      · exact linL_inj hm' ((h _ Rat.le_refl (Rat.le_of_lt hm)).symm.trans (k _ Rat.le_refl (Rat.le_of_lt hm'))) ((h _ (Rat.le_of_lt hm') q).symm.trans (k _ (Rat.le_of_lt hm') Rat.le_refl))
    subst eFG
    have emm : m = m' := by
      rcases Rat.le_total (a := m) (b := m') with q | q
      · refine Rat.le_antisymm q (Rat.not_lt.mp fun lt => ap.1 ?_)
        show F = F2
        cases hrest with
        | last h2 => exact linL_inj lt ((k _ (Rat.le_of_lt hm) q).symm.trans (h2 _ Rat.le_refl)) ((k _ (Rat.le_of_lt hm') Rat.le_refl).symm.trans (h2 _ q))
        | cons hm2 h2 _ =>
          rename_i m2 _ _ _
          rcases Rat.le_total (a := m2) (b := m') with q2 | q2
          · exact linL_inj hm2 ((k _ (Rat.le_of_lt hm) q).symm.trans (h2 _ Rat.le_refl (Rat.le_of_lt hm2))) ((k _ (by grind) q2).symm.trans (h2 _ (Rat.le_of_lt hm2) Rat.le_refl))
          · exact linL_inj lt ((k _ (Rat.le_of_lt hm) q).symm.trans (h2 _ Rat.le_refl (Rat.le_of_lt hm2))) ((k _ (Rat.le_of_lt hm') Rat.le_refl).symm.trans (h2 _ q q2))
      · refine Rat.le_antisymm (Rat.not_lt.mp fun lt => aq.1 ?_) q
        show F = G2
        cases krest with
        | last h2 => exact linL_inj lt ((h _ (Rat.le_of_lt hm') q).symm.trans (h2 _ Rat.le_refl)) ((h _ (Rat.le_of_lt hm) Rat.le_refl).symm.trans (h2 _ q))
        | cons hm2 h2 _ =>
          rename_i m2 _ _ _
          rcases Rat.le_total (a := m2) (b := m) with q2 | q2
          · exact linL_inj hm2 ((h _ (Rat.le_of_lt hm') q).symm.trans (h2 _ Rat.le_refl (Rat.le_of_lt hm2))) ((h _ (by grind) q2).symm.trans (h2 _ (Rat.le_of_lt hm2) Rat.le_refl))
          · exact linL_inj lt ((h _ (Rat.le_of_lt hm') q).symm.trans (h2 _ Rat.le_refl (Rat.le_of_lt hm2))) ((h _ (Rat.le_of_lt hm) Rat.le_refl).symm.trans (h2 _ q q2))
    subst emm
    rw [raw_uniq hrest krest ap.2 aq.2]
end Law
set_option Elab.async false
set_option linter.all false
set_option maxRecDepth 100000
/-! neighbours alike are merged -/
namespace Law
abbrev Pc3 := Rat × Option Rat × List Lin
def hiP : List Pc → List Pc3
  | [] => []
  | [p] => [(p.1, none, p.2)]
  | p :: q :: P => (p.1, some q.1, p.2) :: hiP (q :: P)
def mrgStep (F : List Pc3) (p : Pc3) : List Pc3 := match F.getLast? with
  | none => [p]
  | some y => if y.2.2 = p.2.2 then F.dropLast ++ [(y.1, p.2.1, p.2.2)] else F ++ [p]
def mrg (ps : List Pc3) : List Pc3 := ps.foldl mrgStep []
theorem mrgStep_nil (p : Pc3) : mrgStep [] p = [p] := rfl
theorem mrgStep_app (A : List Pc3) (y p : Pc3) : mrgStep (A ++ [y]) p = if y.2.2 = p.2.2 then A ++ [(y.1, p.2.1, p.2.2)] else A ++ [y] ++ [p] := by
  unfold mrgStep
  rw [List.getLast?_append, List.dropLast_concat]
  rfl
theorem mrg_go {f : Rat → List Rat} : ∀ {P : List Pc} {l : Rat} (A : List Pc3) (l0 : Rat) (F : List Lin), Raw f l P → l0 < l → (∀ r, l0 ≤ r → r ≤ l → f r = linL F r) → ∃ Q, Raw f l0 ((l0, F) :: Q) ∧ Apart ((l0, F) :: Q) ∧ (hiP P).foldl mrgStep (A ++ [(l0, some l, F)]) = A ++ hiP ((l0, F) :: Q)
  | _, l, A, l0, F, .last (F := G) h, h0, hf => by
    show ∃ Q, _ ∧ _ ∧ mrgStep (A ++ [(l0, some l, F)]) (l, none, G) = _
    rw [mrgStep_app]
    by_cases e : F = G
    · subst e
      rw [if_pos rfl]
      refine ⟨[], .last fun r hr => ?_, trivial, rfl⟩
      rcases Rat.le_total (a := r) (b := l) with q | q
      · exact hf r hr q
      · exact h r q
    · rw [if_neg e]
      exact ⟨[(l, G)], .cons h0 hf (.last h), ⟨e, trivial⟩, by rw [List.append_assoc]; rfl⟩
  | _, l, A, l0, F, .cons (m := m) (F := G) (G := G2) (P := P) hm h hrest, h0, hf => by
    show ∃ Q, _ ∧ _ ∧ (hiP ((m, G2) :: P)).foldl mrgStep (mrgStep (A ++ [(l0, some l, F)]) (l, some m, G)) = _
    rw [mrgStep_app]
    by_cases e : F = G
    · subst e
      rw [if_pos rfl]
      exact mrg_go A l0 F hrest (by grind) fun r h1 h2 => by
        rcases Rat.le_total (a := r) (b := l) with q | q
        · exact hf r h1 q
        · exact h r q h2
    · rw [if_neg e]
      obtain ⟨Q, hQ, aQ, eQ⟩ := mrg_go (A ++ [(l0, some l, F)]) l G hrest hm h
      refine ⟨(l, G) :: Q, .cons h0 hf hQ, ⟨e, aQ⟩, ?_⟩
      rw [eQ, List.append_assoc]; rfl
theorem mrg_raw {f : Rat → List Rat} {P : List Pc} {l : Rat} (h : Raw f l P) : ∃ Q, Raw f l Q ∧ Apart Q ∧ mrg (hiP P) = hiP Q := by
  cases h with
  | last h => exact ⟨_, .last h, trivial, rfl⟩
  | cons hm h hrest =>
    obtain ⟨Q, hQ, aQ, eQ⟩ := mrg_go [] l _ hrest hm h
    exact ⟨_, hQ, aQ, eQ⟩
/-- what is merged is told by the values alone -/
theorem mrg_uniq {f : Rat → List Rat} {P Q : List Pc} {l : Rat} (h : Raw f l P) (k : Raw f l Q) : mrg (hiP P) = mrg (hiP Q) := by
  obtain ⟨P', hP, aP, eP⟩ := mrg_raw h
  obtain ⟨Q', hQ, aQ, eQ⟩ := mrg_raw k
  rw [eP, eQ, raw_uniq hP hQ aP aQ]
end Law
set_option Elab.async false
set_option linter.all false
set_option maxRecDepth 100000
set_option maxHeartbeats 800000
/-! plain: the sizes are straight between the totals at turns -/
namespace Law
open PySem PySem.Spec PyProof.Rows L2 Gh
theorem at_level {L : List LI} {left l : Rat} (ok : ∀ x ∈ L, LOk x) (h : totQ L l = left) : szs L left = L.map (lsize l) := by
  obtain ⟨es, ⟨hl⟩⟩ := szs_at (left := left) ok
  rw [es]
  generalize levQ L left = v at hl
  unfold totQ at h
  rcases Rat.le_total (a := v) (b := l) with q | q
  · rcases hl with hl | ⟨l0, hs, hc⟩ | ⟨l0, hs, hc⟩
    · exact same_sum (fun x mx => lsize_mono (ok x mx) q) (by rw [h, hl]; exact Rat.le_refl)
    · exact List.map_congr_left fun x mx => (hc l q x mx).symm
    · exact same_sum (fun x mx => lsize_mono (ok x mx) q) (by rw [h]; exact hs)
  · rcases hl with hl | ⟨l0, hs, hc⟩ | ⟨l0, hs, hc⟩
    · exact (same_sum (fun x mx => lsize_mono (ok x mx) q) (by rw [h, hl]; exact Rat.le_refl)).symm
    · exact (same_sum (fun x mx => lsize_mono (ok x mx) q) (by rw [h]; exact hs)).symm
    · exact List.map_congr_left fun x mx => (hc l q x mx).symm
theorem at_low {L : List LI} {left t : Rat} (ok : ∀ x ∈ L, LOk x) (hc : ∀ ν, ν ≤ t → ∀ x ∈ L, lsize ν x = lsize t x) (h : left ≤ totQ L t) : szs L left = L.map (lsize t) := by
  obtain ⟨es, ⟨hl⟩⟩ := szs_at (left := left) ok
  rw [es]
  generalize levQ L left = v at hl
  unfold totQ at h
  rcases Rat.le_total (a := v) (b := t) with q | q
  · exact List.map_congr_left fun x mx => hc v q x mx
  · rcases hl with hl | ⟨l0, hs, hc2⟩ | ⟨l0, hs, hc2⟩
    · exact (same_sum (fun x mx => lsize_mono (ok x mx) q) (by rw [hl]; exact h)).symm
    · exact (same_sum (fun x mx => lsize_mono (ok x mx) q) (Rat.le_trans hs h)).symm
    · exact List.map_congr_left fun x mx => (hc2 t q x mx).symm
theorem at_high {L : List LI} {left t : Rat} (ok : ∀ x ∈ L, LOk x) (hc : ∀ ν, t ≤ ν → ∀ x ∈ L, lsize ν x = lsize t x) (h : totQ L t ≤ left) : szs L left = L.map (lsize t) := by
  obtain ⟨es, ⟨hl⟩⟩ := szs_at (left := left) ok
  rw [es]
  generalize levQ L left = v at hl
  unfold totQ at h
  rcases Rat.le_total (a := v) (b := t) with q | q
  · rcases hl with hl | ⟨l0, hs, hc2⟩ | ⟨l0, hs, hc2⟩
    · exact same_sum (fun x mx => lsize_mono (ok x mx) q) (by rw [hl]; exact h)
    · exact List.map_congr_left fun x mx => (hc2 t q x mx).symm
    · exact same_sum (fun x mx => lsize_mono (ok x mx) q) (Rat.le_trans h hs)
  · exact List.map_congr_left fun x mx => hc v q x mx
/-- straight from z1 to z2 -/
def Aff (f : Rat → List Rat) (z1 z2 : Rat) : Prop := ∃ F : List Lin, ∀ z, z1 ≤ z → z ≤ z2 → f z = linL F z
def AffTop (f : Rat → List Rat) (z1 : Rat) : Prop := ∃ F : List Lin, ∀ z, z1 ≤ z → f z = linL F z
theorem Aff.sub {f : Rat → List Rat} {z1 z2 y1 y2 : Rat} (h : Aff f z1 z2) (h1 : z1 ≤ y1) (h2 : y2 ≤ z2) : Aff f y1 y2 := by
  obtain ⟨F, hF⟩ := h
  exact ⟨F, fun z a b => hF z (Rat.le_trans h1 a) (Rat.le_trans b h2)⟩
theorem AffTop.aff {f : Rat → List Rat} {z1 y1 y2 : Rat} (h : AffTop f z1) (h1 : z1 ≤ y1) : Aff f y1 y2 := by
  obtain ⟨F, hF⟩ := h
  exact ⟨F, fun z a _ => hF z (Rat.le_trans h1 a)⟩
theorem AffTop.sub {f : Rat → List Rat} {z1 y1 : Rat} (h : AffTop f z1) (h1 : z1 ≤ y1) : AffTop f y1 := by
  obtain ⟨F, hF⟩ := h
  exact ⟨F, fun z a => hF z (Rat.le_trans h1 a)⟩
theorem linL_const {L : List LI} (g : LI → Rat) (z : Rat) : L.map g = linL (L.map fun x => (g x, 0)) z := by
  unfold linL
  rw [List.map_map]
  refine List.map_congr_left fun x _ => ?_
  show g x = g x + 0 * z
  grind
/-- the line through two points -/
theorem seg_lin {L : List LI} {a b z : Rat} (ok : ∀ x ∈ L, LOk x) (hab : a < b) (hσ : ∀ x ∈ L, ∃ σ : Rat, lsize b x = lsize a x + (b - a) * σ ∧ ∀ w : Rat, lsize (a + (b - a) * w) x = lsize a x + (b - a) * w * σ ∨ ¬ (w = (z - totQ L a) / (totQ L b - totQ L a)))
    (hD : totQ L a < totQ L b) (ht : ∀ w : Rat, w = (z - totQ L a) / (totQ L b - totQ L a) → totQ L (a + (b - a) * w) = totQ L a + w * (totQ L b - totQ L a)) :
    szs L z = linL (L.map fun x => (lsize a x - totQ L a * ((lsize b x - lsize a x) / (totQ L b - totQ L a)), (lsize b x - lsize a x) / (totQ L b - totQ L a))) z := by
  generalize hw : (z - totQ L a) / (totQ L b - totQ L a) = w at *
  have hd : totQ L b - totQ L a ≠ 0 := by grind
  have hz : w * (totQ L b - totQ L a) = z - totQ L a := by rw [← hw]; exact Rat.div_mul_cancel hd
  have tl := ht w rfl
  rw [hz] at tl
  rw [at_level ok (show totQ L (a + (b - a) * w) = z by rw [tl]; grind)]
  unfold linL
  rw [List.map_map]
  refine List.map_congr_left fun x mx => ?_
  obtain ⟨σ, h1, h2⟩ := hσ x mx
  have h3 := (h2 w).resolve_right fun n => n rfl
  show lsize (a + (b - a) * w) x = lsize a x - totQ L a * ((lsize b x - lsize a x) / (totQ L b - totQ L a)) + (lsize b x - lsize a x) / (totQ L b - totQ L a) * z
  have hk : (lsize b x - lsize a x) / (totQ L b - totQ L a) * (totQ L b - totQ L a) = lsize b x - lsize a x := Rat.div_mul_cancel hd
  generalize (lsize b x - lsize a x) / (totQ L b - totQ L a) = k at hk
  rw [h3]
  have e1 : z = totQ L a + w * (totQ L b - totQ L a) := by grind
  rw [e1]
  have e2 : (b - a) * σ = k * (totQ L b - totQ L a) := by grind
  have e3 : (b - a) * w * σ = w * (k * (totQ L b - totQ L a)) := by rw [← e2]; grind
  rw [e3]
  grind
theorem le_of_mul {a b k : Rat} (hk : 0 < k) (h : a * k ≤ b * k) : a ≤ b := Rat.not_lt.mp fun n => by
  have := Rat.mul_pos (show 0 < a - b by grind) hk
  grind
theorem w_mul {A B z : Rat} (hD : A < B) : (z - A) / (B - A) * (B - A) = z - A := Rat.div_mul_cancel (by grind)
theorem w_pos {A B z : Rat} (hD : A < B) (h : A ≤ z) : 0 ≤ (z - A) / (B - A) := by
  refine le_of_mul (k := B - A) (by grind) ?_
  rw [w_mul hD]; grind
theorem w_one {A B z : Rat} (hD : A < B) (h : z ≤ B) : (z - A) / (B - A) ≤ 1 := by
  refine le_of_mul (k := B - A) (by grind) ?_
  rw [w_mul hD]; grind
def segF (L : List LI) (a b : Rat) : List Lin := L.map fun x => (lsize a x - totQ L a * ((lsize b x - lsize a x) / (totQ L b - totQ L a)), (lsize b x - lsize a x) / (totQ L b - totQ L a))
theorem seg_mid {L : List LI} {a b z : Rat} (ok : ∀ x ∈ L, LOk x) (h : a < b) (h0 : b ≤ 0 ∨ 0 ≤ a) (nt : ∀ x ∈ L, ∀ t ∈ turnsQ x, ¬ (a < t ∧ t < b)) (hD : totQ L a < totQ L b) (h1 : totQ L a ≤ z) (h2 : z ≤ totQ L b) : szs L z = linL (segF L a b) z := by
  have w0 := w_pos hD h1
  have w1 := w_one hD h2
  have hb : ∀ w : Rat, w = (z - totQ L a) / (totQ L b - totQ L a) → a ≤ a + (b - a) * w ∧ a + (b - a) * w ≤ b := fun w hw => by
    rw [← hw] at w0 w1
    have m1 := Rat.mul_nonneg (show 0 ≤ b - a by grind) w0
    have m2 := Rat.mul_nonneg (show 0 ≤ b - a by grind) (show 0 ≤ 1 - w by grind)
    exact ⟨by grind, by grind⟩
  refine seg_lin ok h (fun x mx => ?_) hD (fun w hw => ?_)
  · obtain ⟨σ, _, hσ⟩ := size_lin (ok x mx) (Rat.le_of_lt h) h0 (nt x mx)
    refine ⟨σ, hσ b (Rat.le_of_lt h) Rat.le_refl, fun w => ?_⟩
    by_cases hw : w = (z - totQ L a) / (totQ L b - totQ L a)
    · refine .inl ?_
      rw [hσ _ (hb w hw).1 (hb w hw).2]; grind
    · exact .inr hw
  · obtain ⟨σ, _, hσ⟩ := tot_lin (Rat.le_of_lt h) h0 ok nt
    rw [hσ _ (hb w hw).1 (hb w hw).2, hσ b (Rat.le_of_lt h) Rat.le_refl]; grind
theorem seg_top {L : List LI} {t z : Rat} (ok : ∀ x ∈ L, LOk x) (t0 : 0 ≤ t) (hall : ∀ x ∈ L, ∀ u ∈ turnsQ x, u ≤ t) (hD : totQ L t < totQ L (t + 1)) (h1 : totQ L t ≤ z) : szs L z = linL (segF L t (t + 1)) z := by
  have w0 := w_pos hD h1
  have nt : ∀ B : Rat, ∀ x ∈ L, ∀ u ∈ turnsQ x, ¬ (t < u ∧ u < B) := fun B x mx u mu n => by
    have := hall x mx u mu
    grind
  refine seg_lin ok (by grind) (fun x mx => ?_) hD (fun w hw => ?_)
  · obtain ⟨σ, _, hσ⟩ := size_lin (a := t) (b := t + 1 + (z - totQ L t) / (totQ L (t + 1) - totQ L t)) (ok x mx) (by grind) (.inr t0) (nt _ x mx)
    refine ⟨σ, by rw [hσ (t + 1) (by grind) (by grind)], fun w => ?_⟩
    by_cases hw : w = (z - totQ L t) / (totQ L (t + 1) - totQ L t)
    · refine .inl ?_
      rw [← hw] at hσ w0
      rw [hσ _ (by grind) (by grind)]; grind
    · exact .inr hw
  · obtain ⟨σ, _, hσ⟩ := tot_lin (a := t) (b := t + 1 + (z - totQ L t) / (totQ L (t + 1) - totQ L t)) (by grind) (.inr t0) ok (nt _)
    rw [← hw] at hσ w0
    rw [hσ _ (by grind) (by grind), hσ (t + 1) (by grind) (by grind)]; grind
theorem top_aff {L : List LI} {t : Rat} (ok : ∀ x ∈ L, LOk x) (t0 : 0 ≤ t) (hall : ∀ x ∈ L, ∀ u ∈ turnsQ x, u ≤ t) : AffTop (szs L) (totQ L t) := by
  by_cases hD : totQ L t < totQ L (t + 1)
  · exact ⟨_, fun z hz => seg_top ok t0 hall hD hz⟩
  · have hs : L.map (lsize t) = L.map (lsize (t + 1)) := same_sum (fun x mx => lsize_mono (ok x mx) (by grind)) (Rat.not_lt.mp hD)
    have hx : ∀ x ∈ L, highQ x = some (lsize t x) := fun x mx => size_top (ok x mx) t0 (hall x mx) (by
      have := List.map_inj_left.mp hs x mx
      exact this.symm)
    have hc : ∀ ν, t ≤ ν → ∀ x ∈ L, lsize ν x = lsize t x := fun ν hν x mx => Rat.le_antisymm (le_high (ok x mx) ν (hx x mx)) (lsize_mono (ok x mx) hν)
    exact ⟨_, fun z hz => (at_high ok hc hz).trans (linL_const _ z)⟩
theorem low_aff {L : List LI} {t z : Rat} (ok : ∀ x ∈ L, LOk x) (t0 : t ≤ 0) (hall : ∀ x ∈ L, ∀ u ∈ turnsQ x, t ≤ u) (hz : z ≤ totQ L t) : szs L z = linL (L.map fun x => (lsize t x, 0)) z := by
  have hc : ∀ ν, ν ≤ t → ∀ x ∈ L, lsize ν x = lsize t x := fun ν hν x mx => by
    rw [size_bottom (ok x mx) t0 (hall x mx), size_bottom (ok x mx) (Rat.le_trans hν t0) fun u mu => Rat.le_trans hν (hall x mx u mu)]
  exact (at_low ok hc hz).trans (linL_const _ z)
theorem aff_go {L : List LI} {z1 z2 : Rat} (ok : ∀ x ∈ L, LOk x) (hz : z1 < z2) : ∀ (ts pre : List Rat), Ascd (pre ++ ts) → (∀ x ∈ L, ∀ t ∈ turnsQ x, t ∈ pre ++ ts) → (0 : Rat) ∈ pre ++ ts → ts ≠ [] → (∀ t ∈ ts.head?, totQ L t ≤ z1) → (∀ t ∈ ts, ¬ (z1 < totQ L t ∧ totQ L t < z2)) → Aff (szs L) z1 z2
  | [], _, _, _, _, h, _, _ => absurd rfl h
  | [t], pre, ha, hm, h0, _, hh, _ => by
    have hall : ∀ q ∈ pre ++ [t], q ≤ t := fun q mq => by
      rcases List.mem_append.mp mq with mq | mq
      · exact Rat.le_of_lt ((List.pairwise_append.mp ha).2.2 q mq t (by simp))
      · rw [List.mem_singleton.mp mq]; exact Rat.le_refl
    exact (top_aff ok (hall 0 h0) fun x mx u mu => hall u (hm x mx u mu)).aff (hh t (by simp))
  | t :: u :: r, pre, ha, hm, h0, _, hh, hn => by
    by_cases hu : totQ L u ≤ z1
    · have e : pre ++ t :: u :: r = (pre ++ [t]) ++ (u :: r) := by simp
      rw [e] at ha hm h0
      refine aff_go ok hz (u :: r) (pre ++ [t]) ha hm h0 (by simp) (fun v hv => ?_) fun v mv => hn v (List.mem_cons_of_mem _ mv)
      have : v = u := by simpa using hv.symm
      rw [this]; exact hu
    · have h2 : z2 ≤ totQ L u := Rat.not_lt.mp fun n => hn u (by simp) ⟨Rat.not_le.mp hu, n⟩
      have h1 := hh t (by simp)
      obtain ⟨p1, p2, p3⟩ := List.pairwise_append.mp ha
      have tu : t < u := (List.pairwise_cons.mp p2).1 u (by simp)
      have out : ∀ q ∈ pre ++ t :: u :: r, q ≤ t ∨ u ≤ q := fun q mq => by
        rcases List.mem_append.mp mq with mq | mq
        · exact .inl (Rat.le_of_lt (p3 q mq t (by simp)))
        · rcases List.mem_cons.mp mq with rfl | mq
          · exact .inl Rat.le_refl
          · rcases List.mem_cons.mp mq with rfl | mq
            · exact .inr Rat.le_refl
            · exact .inr (Rat.le_of_lt ((List.pairwise_cons.mp (List.pairwise_cons.mp p2).2).1 q mq))
      have sg : u ≤ 0 ∨ 0 ≤ t := by
        rcases out 0 h0 with q | q
        · exact .inr q
        · exact .inl q
      have nt : ∀ x ∈ L, ∀ v ∈ turnsQ x, ¬ (t < v ∧ v < u) := fun x mx v mv n => by
        rcases out v (hm x mx v mv) with q | q <;> grind
      exact Aff.sub ⟨_, fun z a b => seg_mid ok tu sg nt (by grind) a b⟩ h1 h2
/-- the sizes are straight where no total at a turn lies between -/
theorem szs_aff {L : List LI} {z1 z2 : Rat} (ok : ∀ x ∈ L, LOk x) (hz : z1 < z2) (hn : ∀ t ∈ allT L, ¬ (z1 < totQ L t ∧ totQ L t < z2)) : Aff (szs L) z1 z2 := by
  obtain ⟨ha, hm⟩ := inOrd_spec (allT L)
  have m0 : (0 : Rat) ∈ inOrd (allT L) := (hm 0).mpr List.mem_cons_self
  have mt : ∀ x ∈ L, ∀ t ∈ turnsQ x, t ∈ inOrd (allT L) := fun x mx t mt => (hm t).mpr (List.mem_cons_of_mem _ (List.mem_flatMap.mpr ⟨x, mx, mt⟩))
  have hn : ∀ t ∈ inOrd (allT L), ¬ (z1 < totQ L t ∧ totQ L t < z2) := fun t m => hn t ((hm t).mp m)
  generalize inOrd (allT L) = ts at *
  cases ts with
  | nil => cases m0
  | cons t r =>
    by_cases h : totQ L t ≤ z1
    · exact aff_go ok hz (t :: r) [] ha mt m0 (by simp) (fun v hv => by
        have : v = t := by simpa using hv.symm
        rw [this]; exact h) hn
    · have h2 : z2 ≤ totQ L t := Rat.not_lt.mp fun n => hn t List.mem_cons_self ⟨Rat.not_le.mp h, n⟩
      have hmin : ∀ u ∈ t :: r, t ≤ u := fun u mu => by
        rcases List.mem_cons.mp mu with rfl | mu
        · exact Rat.le_refl
        · exact Rat.le_of_lt ((List.pairwise_cons.mp ha).1 u mu)
      exact ⟨_, fun z _ b => low_aff ok (hmin 0 m0) (fun x mx u mu => hmin u (mt x mx u mu)) (Rat.le_trans b h2)⟩
/-- behind the greatest total too -/
theorem szs_aff_top {L : List LI} {z1 : Rat} (ok : ∀ x ∈ L, LOk x) (hn : ∀ t ∈ allT L, totQ L t ≤ z1) : AffTop (szs L) z1 := by
  obtain ⟨ha, hm⟩ := inOrd_spec (allT L)
  have m0 : (0 : Rat) ∈ inOrd (allT L) := (hm 0).mpr List.mem_cons_self
  have mt : ∀ x ∈ L, ∀ t ∈ turnsQ x, t ∈ inOrd (allT L) := fun x mx t mt => (hm t).mpr (List.mem_cons_of_mem _ (List.mem_flatMap.mpr ⟨x, mx, mt⟩))
  have hn : ∀ t ∈ inOrd (allT L), totQ L t ≤ z1 := fun t m => hn t ((hm t).mp m)
  generalize inOrd (allT L) = ts at *
  rcases List.eq_nil_or_concat ts with rfl | ⟨A, t, rfl⟩
  · cases m0
  · rw [List.concat_eq_append] at *
    have hall : ∀ q ∈ A ++ [t], q ≤ t := fun q mq => by
      rcases List.mem_append.mp mq with mq | mq
      · exact Rat.le_of_lt ((List.pairwise_append.mp ha).2.2 q mq t (by simp))
      · rw [List.mem_singleton.mp mq]; exact Rat.le_refl
    exact (top_aff ok (hall 0 m0) fun x mx u mu => hall u (mt x mx u mu)).sub (hn t (by simp))
end Law
set_option Elab.async false
set_option linter.all false
set_option maxRecDepth 100000
set_option maxHeartbeats 800000
/-! plain: the law's pieces -/
namespace Law
open PySem PySem.Spec PyProof.Rows L2 Gh
def lawF (f : Rat → List Rat) (b l : Rat) : List Lin := List.zipWith (fun m t => (m - (t - m) / (l - b) * b, (t - m) / (l - b))) (f b) (f l)
theorem div_self' {a k : Rat} (hk : k ≠ 0) : a * k / k = a := by
  have h := Rat.div_mul_cancel (a := a * k) hk
  have h2 : (a * k / k - a) * k = 0 := by grind
  rcases Rat.mul_eq_zero.mp h2 with z | z
  · grind
  · exact absurd z hk
theorem lawF_go {b l : Rat} (hd : l - b ≠ 0) : ∀ F : List Lin, List.zipWith (fun m t : Rat => ((m - (t - m) / (l - b) * b, (t - m) / (l - b)) : Lin)) (linL F b) (linL F l) = F
  | [] => rfl
  | g :: F => by
    unfold linL
    rw [List.map_cons, List.map_cons, List.zipWith_cons_cons]
    have e : (lin g l - lin g b) / (l - b) = g.2 := by
      have : lin g l - lin g b = g.2 * (l - b) := by unfold lin; grind
      rw [this, div_self' hd]
    have e1 : lin g b - g.2 * b = g.1 := by unfold lin; grind
    rw [e, e1]
    congr 1
    exact lawF_go hd F
theorem lawF_eq {f : Rat → List Rat} {b l : Rat} {F : List Lin} (h : b < l) (h1 : f b = linL F b) (h2 : f l = linL F l) : lawF f b l = F := by
  unfold lawF
  rw [h1, h2]
  exact lawF_go (by grind) F
def lawRaw (f : Rat → List Rat) : List Rat → List Pc
  | [] => []
  | [b] => [(b, lawF f b (b + 1))]
  | b :: l :: r => (b, lawF f b l) :: lawRaw f (l :: r)
/-- no end between two of the ends -/
def Nb (E : List Rat) (b l : Rat) : Prop := b < l ∧ ∀ e ∈ E, ¬ (b < e ∧ e < l)
theorem raw_law {f : Rat → List Rat} : ∀ (E pre : List Rat) (b : Rat), Ascd (pre ++ b :: E) → (∀ c d, c ∈ pre ++ b :: E → Nb (pre ++ b :: E) c d → Aff f c d) → (∀ t, (∀ e ∈ pre ++ b :: E, e ≤ t) → AffTop f t) → Raw f b (lawRaw f (b :: E))
  | [], pre, b, ha, _, h2 => by
    obtain ⟨F, hF⟩ := h2 b fun e me => by
      rcases List.mem_append.mp me with me | me
      · exact Rat.le_of_lt ((List.pairwise_append.mp ha).2.2 e me b (by simp))
      · rw [List.mem_singleton.mp me]; exact Rat.le_refl
    show Raw f b [(b, lawF f b (b + 1))]
    rw [lawF_eq (show b < b + 1 by grind) (hF b Rat.le_refl) (hF (b + 1) (by grind))]
    exact .last hF
  | l :: E, pre, b, ha, h1, h2 => by
    obtain ⟨p1, p2, p3⟩ := List.pairwise_append.mp ha
    have bl : b < l := (List.pairwise_cons.mp p2).1 l (by simp)
    have nb : Nb (pre ++ b :: l :: E) b l := ⟨bl, fun e me n => by
      rcases List.mem_append.mp me with me | me
      · have := p3 e me b (by simp); grind
      · rcases List.mem_cons.mp me with rfl | me
        · grind
        · rcases List.mem_cons.mp me with rfl | me
          · grind
          · have := (List.pairwise_cons.mp (List.pairwise_cons.mp p2).2).1 e me; grind⟩
    obtain ⟨F, hF⟩ := h1 b l (by simp) nb
    show Raw f b ((b, lawF f b l) :: lawRaw f (l :: E))
    rw [lawF_eq bl (hF b Rat.le_refl (Rat.le_of_lt bl)) (hF l (Rat.le_of_lt bl) Rat.le_refl)]
    have e : pre ++ b :: l :: E = (pre ++ [b]) ++ l :: E := by simp
    rw [e] at ha
    have ih := raw_law E (pre ++ [b]) l ha (fun b' l' mb n => h1 b' l' (by rw [e]; exact mb) (by rw [e]; exact n)) fun t ht => h2 t (by rw [e]; exact ht)
    cases E with
    | nil => exact .cons bl hF ih
    | cons m E => exact .cons bl hF ih
/-- what stands at each room -/
def rowF (L : List LI) (n : Nat) (r : Rat) : List Rat := szs L (r - ((gapsQ L n : Int) : Rat))
theorem Aff.shift {f : Rat → List Rat} {a b g : Rat} (h : Aff f (a - g) (b - g)) : Aff (fun r => f (r - g)) a b := by
  obtain ⟨F, hF⟩ := h
  refine ⟨F.map fun p => (p.1 - p.2 * g, p.2), fun z h1 h2 => ?_⟩
  show f (z - g) = _
  rw [hF (z - g) (by grind) (by grind)]
  unfold linL
  rw [List.map_map]
  refine List.map_congr_left fun p _ => ?_
  show lin p (z - g) = (p.1 - p.2 * g) + p.2 * z
  unfold lin
  grind
theorem AffTop.shift {f : Rat → List Rat} {a g : Rat} (h : AffTop f (a - g)) : AffTop (fun r => f (r - g)) a := by
  obtain ⟨F, hF⟩ := h
  refine ⟨F.map fun p => (p.1 - p.2 * g, p.2), fun z h1 => ?_⟩
  show f (z - g) = _
  rw [hF (z - g) (by grind)]
  unfold linL
  rw [List.map_map]
  refine List.map_congr_left fun p _ => ?_
  show lin p (z - g) = (p.1 - p.2 * g) + p.2 * z
  unfold lin
  grind
/-- ends: whatever they are, if the totals at turns from 0 on are among them -/
structure Ends (L : List LI) (n : Nat) (E : List Rat) : Prop where
  asc : Ascd E
  zero : ∃ R, E = 0 :: R
  tot : ∀ t ∈ allT L, 0 ≤ totQ L t + ((gapsQ L n : Int) : Rat) → totQ L t + ((gapsQ L n : Int) : Rat) ∈ E
theorem Ends.raw {L : List LI} {n : Nat} {E : List Rat} (ok : ∀ x ∈ L, LOk x) (h : Ends L n E) : Raw (rowF L n) 0 (lawRaw (rowF L n) E) := by
  obtain ⟨R, rfl⟩ := h.zero
  have hpos : ∀ b ∈ (0 : Rat) :: R, 0 ≤ b := fun b mb => by
    rcases List.mem_cons.mp mb with rfl | mb
    · exact Rat.le_refl
    · exact Rat.le_of_lt ((List.pairwise_cons.mp h.asc).1 b mb)
  refine raw_law R [] 0 h.asc (fun b l mb nb => ?_) fun t ht => ?_
  · refine Aff.shift (szs_aff ok (by have := nb.1; grind) fun t mt n => ?_)
    have hb := hpos b mb
    exact nb.2 _ (h.tot t mt (by grind)) ⟨by grind, by grind⟩
  · refine AffTop.shift (szs_aff_top ok fun u mu => ?_)
    by_cases hu : 0 ≤ totQ L u + ((gapsQ L n : Int) : Rat)
    · have := ht _ (h.tot u mu hu)
      grind
    · have := ht 0 (by simp)
      grind
end Law
set_option Elab.async false
set_option linter.all false
set_option maxRecDepth 100000
set_option maxHeartbeats 800000
/-! plain: the forms of a row do not change where no corner lies between -/
namespace Law
open PySem PySem.Spec PyProof.Rows L2 Gh
theorem ev_flat2 {f : Fo} (h : f.2 = 0) (r r' : Rat) : ev f r = ev f r' := by
  unfold ev
  rw [h]; grind
structure Flt (x : Itm) : Prop where
  b : x.b.2 = 0
  lo : x.lo.2 = 0
  hi : ∀ m, x.hi = some m → m.2 = 0
theorem capF_same {f : Fo} {hi : Option Fo} (hf : f.2 = 0) (hh : ∀ m, hi = some m → m.2 = 0) (r r' : Rat) : capF r f hi = capF r' f hi ∧ (capF r f hi).2 = 0 := by
  cases hi with
  | none => exact ⟨rfl, hf⟩
  | some m =>
    unfold capF
    dsimp only
    rw [ev_flat2 hf r r', ev_flat2 (hh m rfl) r r']
    refine ⟨rfl, ?_⟩
    split
    · exact hf
    · exact hh m rfl
theorem held_same {f lo : Fo} {hi : Option Fo} (hf : f.2 = 0) (hl : lo.2 = 0) (hh : ∀ m, hi = some m → m.2 = 0) (r r' : Rat) : held r f lo hi = held r' f lo hi ∧ (held r f lo hi).2 = 0 := by
  obtain ⟨e, z⟩ := capF_same hf hh r r'
  unfold held
  rw [e] at z ⊢
  rw [ev_flat2 hl r r', ev_flat2 z r r']
  refine ⟨rfl, ?_⟩
  split
  · exact z
  · exact hl
theorem rawS_flat {x : Itm} (h : Flt x) {l : Fo} (hl : l.2 = 0) (up : Bool) : (rawS x l up).2 = 0 := by
  show x.b.2 + l.2 * _ = 0
  rw [h.b, hl]; grind
theorem hsz_same {x : Itm} (h : Flt x) {l : Fo} (hl : l.2 = 0) (up : Bool) (r r' : Rat) : hsz r l up x = hsz r' l up x ∧ (hsz r l up x).2 = 0 := held_same (rawS_flat h hl up) h.lo h.hi r r'
theorem freeN_same {x : Itm} (h : Flt x) {l : Fo} (hl : l.2 = 0) (up : Bool) (r r' : Rat) : freeN r l up x = freeN r' l up x := by
  unfold freeN
  rw [ev_flat2 (rawS_flat h hl up) r r', ev_flat2 h.lo r r']
  have e : ∀ (P : Rat → Prop), (∀ m, x.hi = some m → P (ev m r)) = (∀ m, x.hi = some m → P (ev m r')) := fun P => by
    cases e : x.hi with
    | none => simp
    | some m => simp [ev_flat2 (h.hi m e) r r']
  have e1 := e fun z => ¬ z ≤ ev (rawS x l up) r'
  have e2 := e fun z => ev (rawS x l up) r' ≤ z
  cases up with
  | true => simp only [if_true, e1]
  | false => simp only [Bool.false_eq_true, if_false, e2]
theorem sumF_flat : ∀ (L : List Fo) (a : Fo), a.2 = 0 → (∀ f ∈ L, f.2 = 0) → (L.foldl fadd a).2 = 0
  | [], a, h, _ => h
  | f :: L, a, h, hL => sumF_flat L (fadd a f) (by show a.2 + f.2 = 0; rw [h, hL f List.mem_cons_self]; grind) fun g m => hL g (List.mem_cons_of_mem _ m)
theorem map_hsz_same {items : List Itm} (h : ∀ x ∈ items, Flt x) {l : Fo} (hl : l.2 = 0) (up : Bool) (r r' : Rat) : items.map (hsz r l up) = items.map (hsz r' l up) := List.map_congr_left fun x mx => (hsz_same (h x mx) hl up r r').1
theorem totF_same {items : List Itm} (h : ∀ x ∈ items, Flt x) {l : Fo} (hl : l.2 = 0) (up : Bool) (r r' : Rat) : totF r items l up = totF r' items l up ∧ (totF r items l up).2 = 0 := by
  unfold totF
  refine ⟨by rw [map_hsz_same h hl up r r'], ?_⟩
  exact sumF_flat _ _ rfl fun f m => by
    obtain ⟨x, mx, rfl⟩ := List.mem_map.mp m
    exact (hsz_same (h x mx) hl up r r).2
theorem plc_same {l : Fo} (hl : l.2 = 0) (r r' : Rat) : ∀ {F : List Fo}, (∀ f ∈ F, f.2 = 0) → plc r l F = plc r' l F
  | [], _ => rfl
  | f :: F, h => by
    unfold plc
    rw [ev_flat2 (h f List.mem_cons_self) r r', ev_flat2 hl r r', plc_same hl r r' fun g m => h g (List.mem_cons_of_mem _ m)]
theorem insL_same {F : List Fo} {l : Fo} (h : ∀ f ∈ F, f.2 = 0) (hl : l.2 = 0) (r r' : Rat) : insL r F l = insL r' F l ∧ ∀ f ∈ insL r F l, f.2 = 0 := by
  unfold insL
  rw [plc_same hl r r' h]
  refine ⟨rfl, fun f m => ?_⟩
  split at m
  · rcases List.mem_append.mp m with m | m
    · rcases List.mem_append.mp m with m | m
      · exact h f (List.mem_of_mem_take m)
      · rw [List.mem_singleton.mp m]; exact hl
    · exact h f (List.mem_of_mem_drop m)
  · exact h f m
theorem fold_ins_same (r r' : Rat) : ∀ (ls F : List Fo), (∀ f ∈ F, f.2 = 0) → (∀ f ∈ ls, f.2 = 0) → ls.foldl (insL r) F = ls.foldl (insL r') F ∧ ∀ f ∈ ls.foldl (insL r) F, f.2 = 0
  | [], F, h, _ => ⟨rfl, h⟩
  | l :: ls, F, h, hl => by
    obtain ⟨e, z⟩ := insL_same h (hl l List.mem_cons_self) r r'
    obtain ⟨e2, z2⟩ := fold_ins_same r r' ls (insL r F l) z fun f m => hl f (List.mem_cons_of_mem _ m)
    rw [List.foldl_cons, List.foldl_cons, ← e]
    exact ⟨e2, z2⟩
theorem turnsOf_flat {x : Itm} (h : Flt x) {up : Bool} : ∀ f ∈ turnsOf x up, f.2 = 0 := fun f m => by
  unfold turnsOf at m
  split at m
  · obtain ⟨β, mβ, rfl⟩ := List.mem_map.mp m
    have hβ : β.2 = 0 := by
      rcases List.mem_cons.mp mβ with rfl | mβ
      · exact h.lo
      · cases e : x.hi with
        | none => rw [e] at mβ; cases mβ
        | some m =>
          rw [e] at mβ
          rw [List.mem_singleton.mp mβ]
          exact h.hi m e
    unfold turnF farF
    show (if up = true then fsub β x.b else fsub x.b β).2 * _ = 0
    have : (if up = true then fsub β x.b else fsub x.b β).2 = 0 := by
      split
      · show β.2 - x.b.2 = 0; rw [hβ, h.b]; grind
      · show x.b.2 - β.2 = 0; rw [hβ, h.b]; grind
    rw [this]; grind
  · cases m
theorem turnsF_same {items : List Itm} (h : ∀ x ∈ items, Flt x) (up : Bool) (r r' : Rat) : turnsF r items up = turnsF r' items up ∧ ∀ f ∈ turnsF r items up, f.2 = 0 := by
  unfold turnsF
  exact fold_ins_same r r' _ _ (fun f m => by rw [List.mem_singleton.mp m]) fun f m => by
    obtain ⟨x, mx, m⟩ := List.mem_flatMap.mp m
    exact turnsOf_flat (h x mx) f m
/-- the room stands to each total as before -/
def SameSide (r r' g T : Rat) : Prop := (r - g ≤ T ↔ r' - g ≤ T) ∧ (T ≤ r - g ↔ T ≤ r' - g)
theorem ev_room (g r : Rat) : ev (0 - g, 1) r = r - g := by unfold ev; grind
theorem here_same {items : List Itm} (h : ∀ x ∈ items, Flt x) {g r r' : Rat} {up : Bool} : ∀ (ls : List Fo) (c : Fo), (∀ f ∈ ls, f.2 = 0 ∧ SameSide r r' g (totF r items f up).1) → hereF r items (0 - g, 1) up c ls = hereF r' items (0 - g, 1) up c ls
  | [], c, _ => rfl
  | l :: ls, c, hs => by
    obtain ⟨hl, s1, s2⟩ := hs l List.mem_cons_self
    obtain ⟨et, zt⟩ := totF_same h hl up r r'
    have ih := here_same h (g := g) (r := r) (r' := r') (up := up) ls l fun f m => hs f (List.mem_cons_of_mem _ m)
    have ev1 : ∀ q, ev (totF r items l up) q = (totF r items l up).1 := fun q => by unfold ev; rw [zt]; grind
    have st : stopF r items (0 - g, 1) up l ↔ stopF r' items (0 - g, 1) up l := by
      unfold stopF
      rw [← et, ev_room, ev_room, ev1 r, ev1 r']
      cases up with
      | true => simpa using s1
      | false => simpa using s2
    unfold hereF
    by_cases hst : stopF r items (0 - g, 1) up l
    · rw [if_pos hst, if_pos (st.mp hst)]
    · rw [if_neg hst, if_neg fun z => hst (st.mpr z), ih]
theorem levF_same {items : List Itm} (h : ∀ x ∈ items, Flt x) {g r r' : Rat} (h0 : SameSide r r' g (totF r items (0, 0) true).1) (hs : ∀ up, ∀ f ∈ turnsF r items up, SameSide r r' g (totF r items f up).1) : levF r items (0 - g, 1) = levF r' items (0 - g, 1) := by
  have eu : upF r items (0 - g, 1) = upF r' items (0 - g, 1) := by
    obtain ⟨et, zt⟩ := totF_same h (l := (0, 0)) rfl true r r'
    have ev1 : ∀ q, ev (totF r items (0, 0) true) q = (totF r items (0, 0) true).1 := fun q => by unfold ev; rw [zt]; grind
    unfold upF
    rw [← et, ev_room, ev_room, ev1 r, ev1 r']
    exact decide_eq_decide.mpr h0.2
  have key : ∀ up, levO r items (0 - g, 1) up (levH r items (0 - g, 1) up) = levO r' items (0 - g, 1) up (levH r' items (0 - g, 1) up) := fun up => by
    obtain ⟨e1, z1⟩ := turnsF_same h up r r'
    have eh : levH r items (0 - g, 1) up = levH r' items (0 - g, 1) up ∧ (levH r items (0 - g, 1) up).2 = 0 := by
      unfold levH
      rw [← e1]
      have hs1 := hs up
      generalize turnsF r items up = ts at z1 hs1
      have fl : ∀ (ls : List Fo) (c : Fo), c.2 = 0 → (∀ f ∈ ls, f.2 = 0) → (hereF r items (0 - g, 1) up c ls).2 = 0 := by
        intro ls
        induction ls with
        | nil => intro c hc _; exact hc
        | cons l ls ih =>
          intro c hc hl
          unfold hereF
          split
          · exact hc
          · exact ih l (hl l List.mem_cons_self) fun f m => hl f (List.mem_cons_of_mem _ m)
      cases ts with
      | nil => exact ⟨rfl, rfl⟩
      | cons t ts => exact ⟨here_same h ts t fun f m => ⟨z1 f (List.mem_cons_of_mem _ m), hs1 f (List.mem_cons_of_mem _ m)⟩, fl ts t (z1 t List.mem_cons_self) fun f m => z1 f (List.mem_cons_of_mem _ m)⟩
    obtain ⟨e2, z2⟩ := eh
    rw [← e2]
    generalize levH r items (0 - g, 1) up = c at z2
    have a1 : items.map (freeN r c up) = items.map (freeN r' c up) := List.map_congr_left fun x mx => freeN_same (h x mx) z2 up r r'
    have a2 := map_hsz_same h z2 up r r'
    unfold levO
    rw [a1, a2]
  unfold levF
  rw [← eu]
  exact key _
end Law
set_option Elab.async false
set_option linter.all false
set_option maxRecDepth 100000
set_option maxHeartbeats 800000
/-! plain: the program's forms are the law's -/
namespace Law
open PySem PySem.Spec PyProof.Rows L2 Gh
theorem flt_it (x : LI) : Flt x.it := ⟨rfl, rfl, fun m e => by
  have e : hiQ x.hi = some m := e
  cases h : x.hi with
  | none => rw [h] at e; cases e
  | some k => rw [h] at e; cases e; rfl⟩
theorem flt_its (L : List LI) : ∀ x ∈ L.map LI.it, Flt x := fun x m => by
  obtain ⟨y, _, rfl⟩ := List.mem_map.mp m
  exact flt_it y
theorem pvl_flat {x : Itm} (h : Flt x) (up : Bool) (μ r r' : Rat) : pvl r x up μ = pvl r' x up μ := by
  unfold pvl
  have e : hiV r x = hiV r' x := by
    unfold hiV
    cases e : x.hi with
    | none => rfl
    | some m => show some (ev m r) = some (ev m r'); rw [ev_flat2 (h.hi m e) r r']
  rw [e, ev_flat2 h.lo r r', ev_flat2 h.b r r']
theorem itm_ok {x : LI} (ok : LOk x) (r : Rat) : ItmOk r x.it := ok.ok
def formsQ (L : List LI) (n : Nat) (r : Rat) : List Fo := (levF r (L.map LI.it) (0 - ((gapsQ L n : Int) : Rat), 1)).1
theorem forms_eval {L : List LI} {n : Nat} {r : Rat} (ok : ∀ x ∈ L, LOk x) : linL (formsQ L n r) r = rowF L n r := by
  obtain ⟨μ, h0, e1, _, h3⟩ := (lev_spec (r := r) (items := L.map LI.it) (room := (0 - ((gapsQ L n : Int) : Rat), 1)) fun x m => by
    obtain ⟨x, mx, rfl⟩ := List.mem_map.mp m
    exact itm_ok (ok x mx) r).ex
  rw [ev_room] at h3
  generalize upF r (L.map LI.it) (0 - ((gapsQ L n : Int) : Rat), 1) = up at e1 h3
  have pz : ∀ ν, 0 ≤ ν → (L.map LI.it).map (fun x => pvl r x up ν) = L.map (lsize (ν * sgn up)) := fun ν hν => by
    rw [List.map_map]
    exact List.map_congr_left fun x mx => (pvl_flat (flt_it x) up ν r 0).trans (pv_size (ok x mx) hν)
  have hc2 : ∀ {ν : Rat} {x : LI}, x ∈ L → 0 ≤ ν → (∀ ν, μ ≤ ν → ∀ x ∈ L.map LI.it, pvl r x up ν = pvl r x up μ) → μ ≤ ν → lsize (ν * sgn up) x = lsize (μ * sgn up) x := fun {ν x} mx hν hc hμ => by
    have := hc ν hμ x.it (List.mem_map.mpr ⟨x, mx, rfl⟩)
    rw [pvl_flat (flt_it x) up ν r 0, pvl_flat (flt_it x) up μ r 0, pv_size (ok x mx) hν, pv_size (ok x mx) h0] at this
    exact this
  have es : linL (formsQ L n r) r = L.map (lsize (μ * sgn up)) := by
    show (formsQ L n r).map (ev · r) = _
    unfold formsQ
    rw [e1, pz μ h0]
  rw [es]
  rw [e1, pz μ h0, ← lsum_eq] at h3
  unfold rowF
  rcases h3 with h3 | ⟨hc, hs⟩
  · exact (at_level ok h3).symm
  · cases up with
    | true =>
      have s1 : ∀ ν : Rat, ν * sgn true = ν := fun ν => by show ν * 1 = ν; grind
      rw [if_pos rfl] at hs
      simp only [s1] at hs hc2 ⊢
      exact (at_high ok (fun ν hν x mx => hc2 mx (by grind) hc hν) hs).symm
    | false =>
      have s1 : ∀ ν : Rat, ν * sgn false = -ν := fun ν => by show ν * (-1) = -ν; grind
      rw [if_neg (by decide)] at hs
      simp only [s1] at hs hc2 ⊢
      refine (at_low ok (fun ν hν x mx => ?_) hs).symm
      have := hc2 (ν := -ν) mx (by grind) hc (by grind)
      rw [Rat.neg_neg] at this
      exact this
/-- the totals that the program compares with -/
def PTot (L : List LI) (T : Rat) : Prop := T = (totF 0 (L.map LI.it) (0, 0) true).1 ∨ ∃ up, ∃ f ∈ turnsF 0 (L.map LI.it) up, T = (totF 0 (L.map LI.it) f up).1
theorem forms_same {L : List LI} {n : Nat} {r r' : Rat} (h : ∀ T, PTot L T → SameSide r r' ((gapsQ L n : Int) : Rat) T) : formsQ L n r = formsQ L n r' := by
  unfold formsQ
  rw [levF_same (flt_its L) (h _ (.inl (by rw [(totF_same (flt_its L) rfl true r 0).1]))) fun up f mf => ?_]
  obtain ⟨e, z⟩ := turnsF_same (flt_its L) up r 0
  refine h _ (.inr ⟨up, f, by rw [← e]; exact mf, by rw [(totF_same (flt_its L) (z f mf) up r 0).1]⟩)
theorem forms_mid {L : List LI} {n : Nat} {b l r : Rat} (ok : ∀ x ∈ L, LOk x) (ha : Aff (rowF L n) b l) (hb : b < r) (hl : r < l) (hc : ∀ T, PTot L T → ¬ (b < T + ((gapsQ L n : Int) : Rat) ∧ T + ((gapsQ L n : Int) : Rat) < l)) : formsQ L n r = lawF (rowF L n) b l := by
  obtain ⟨F, hF⟩ := ha
  obtain ⟨r1, h1, h2⟩ : ∃ r1, r < r1 ∧ r1 < l := ⟨(r + l) / 2, by grind, by grind⟩
  rw [lawF_eq (Std.lt_trans hb hl) (hF b Rat.le_refl (Rat.le_of_lt (Std.lt_trans hb hl))) (hF l (Rat.le_of_lt (Std.lt_trans hb hl)) Rat.le_refl)]
  have es : formsQ L n r = formsQ L n r1 := forms_same fun T hT => by
    have := hc T hT
    unfold SameSide
    constructor <;> constructor <;> intro q <;> grind
  refine linL_inj h1 ?_ ?_
  · rw [forms_eval ok]; exact hF r (by grind) (by grind)
  · rw [es, forms_eval ok]; exact hF r1 (by grind) (by grind)
theorem forms_top {L : List LI} {n : Nat} {b r : Rat} (ok : ∀ x ∈ L, LOk x) (ha : AffTop (rowF L n) b) (hb : b < r) (hc : ∀ T, PTot L T → T + ((gapsQ L n : Int) : Rat) ≤ b) : formsQ L n r = lawF (rowF L n) b (b + 1) := by
  obtain ⟨F, hF⟩ := ha
  rw [lawF_eq (show b < b + 1 by grind) (hF b Rat.le_refl) (hF (b + 1) (by grind))]
  have es : formsQ L n r = formsQ L n (r + 1) := forms_same fun T hT => by
    have := hc T hT
    unfold SameSide
    constructor <;> constructor <;> intro q <;> grind
  refine linL_inj (show r < r + 1 by grind) ?_ ?_
  · rw [forms_eval ok]; exact hF r (by grind)
  · rw [es, forms_eval ok]; exact hF (r + 1) (by grind)
end Law
set_option Elab.async false
set_option linter.all false
set_option maxRecDepth 100000
set_option maxHeartbeats 800000
/-! plain: both lists of pieces -/
namespace Law
open PySem PySem.Spec PyProof.Rows L2 Gh
/-- the pieces as both find them -/
def pcsQ (L : List LI) (n : Nat) (E : List Rat) : List Pc3 := mrg (hiP (lawRaw (rowF L n) E))
theorem pcs_uniq {L : List LI} {n : Nat} {E E' : List Rat} (ok : ∀ x ∈ L, LOk x) (h : Ends L n E) (h' : Ends L n E') : pcsQ L n E = pcsQ L n E' := mrg_uniq (h.raw ok) (h'.raw ok)
/-- the program's ends -/
structure PEnds (L : List LI) (n : Nat) (E : List Rat) : Prop extends Ends L n E where
  ptot : ∀ T, PTot L T → 0 ≤ T + ((gapsQ L n : Int) : Rat) → T + ((gapsQ L n : Int) : Rat) ∈ E
/-- what the program finds from each start -/
def progRaw (L : List LI) (n : Nat) : List Rat → List Pc
  | [] => []
  | [b] => [(b, formsQ L n (b + 1))]
  | b :: l :: r => (b, formsQ L n ((b + l) * mkRat 1 2)) :: progRaw L n (l :: r)
theorem half_mid {b l : Rat} (h : b < l) : b < (b + l) * mkRat 1 2 ∧ (b + l) * mkRat 1 2 < l := by
  have e : mkRat 1 2 = (1 : Rat) / 2 := by rw [Rat.mkRat_eq_div]; rfl
  rw [e]
  exact ⟨by grind, by grind⟩
theorem prog_go {L : List LI} {n : Nat} (ok : ∀ x ∈ L, LOk x) : ∀ (E pre : List Rat) (b : Rat), Ascd (pre ++ b :: E) → (∀ e ∈ pre ++ b :: E, 0 ≤ e) → (∀ t ∈ allT L, 0 ≤ totQ L t + ((gapsQ L n : Int) : Rat) → totQ L t + ((gapsQ L n : Int) : Rat) ∈ pre ++ b :: E) → (∀ T, PTot L T → 0 ≤ T + ((gapsQ L n : Int) : Rat) → T + ((gapsQ L n : Int) : Rat) ∈ pre ++ b :: E) → progRaw L n (b :: E) = lawRaw (rowF L n) (b :: E)
  | [], pre, b, ha, hp, ht, hq => by
    have hall : ∀ e ∈ pre ++ [b], e ≤ b := fun e me => by
      rcases List.mem_append.mp me with me | me
      · exact Rat.le_of_lt ((List.pairwise_append.mp ha).2.2 e me b (by simp))
      · rw [List.mem_singleton.mp me]; exact Rat.le_refl
    have b0 := hp b (by simp)
    have top : AffTop (rowF L n) b := AffTop.shift (szs_aff_top ok fun u mu => by
      by_cases hu : 0 ≤ totQ L u + ((gapsQ L n : Int) : Rat)
      · have := hall _ (ht u mu hu)
        grind
      · grind)
    show [(b, formsQ L n (b + 1))] = [(b, lawF (rowF L n) b (b + 1))]
    rw [forms_top (b := b) (r := b + 1) ok top (by grind) fun T hT => by
      by_cases hu : 0 ≤ T + ((gapsQ L n : Int) : Rat)
      · exact hall _ (hq T hT hu)
      · grind]
  | l :: E, pre, b, ha, hp, ht, hq => by
    obtain ⟨p1, p2, p3⟩ := List.pairwise_append.mp ha
    have bl : b < l := (List.pairwise_cons.mp p2).1 l (by simp)
    have b0 := hp b (by simp)
    have nb : ∀ e ∈ pre ++ b :: l :: E, ¬ (b < e ∧ e < l) := fun e me n => by
      rcases List.mem_append.mp me with me | me
      · have := p3 e me b (by simp); grind
      · rcases List.mem_cons.mp me with rfl | me
        · grind
        · rcases List.mem_cons.mp me with rfl | me
          · grind
          · have := (List.pairwise_cons.mp (List.pairwise_cons.mp p2).2).1 e me; grind
    have aff : Aff (rowF L n) b l := Aff.shift (szs_aff ok (by grind) fun t mt q => nb _ (ht t mt (by grind)) ⟨by grind, by grind⟩)
    have hm := half_mid bl
    have e : pre ++ b :: l :: E = (pre ++ [b]) ++ l :: E := by simp
    rw [e] at ha hp ht
    have ih := prog_go ok E (pre ++ [b]) l ha hp ht (fun T hT h0 => by rw [← e]; exact hq T hT h0)
    show (b, formsQ L n ((b + l) * mkRat 1 2)) :: progRaw L n (l :: E) = (b, lawF (rowF L n) b l) :: lawRaw (rowF L n) (l :: E)
    rw [ih, forms_mid ok aff hm.1 hm.2 fun T hT q => nb _ (hq T hT (by grind)) q]
theorem PEnds.prog {L : List LI} {n : Nat} {E : List Rat} (ok : ∀ x ∈ L, LOk x) (h : PEnds L n E) : progRaw L n E = lawRaw (rowF L n) E := by
  obtain ⟨⟨asc, zero, tot⟩, pt⟩ := h
  obtain ⟨R, rfl⟩ := zero
  refine prog_go ok R [] 0 asc (fun b mb => ?_) tot pt
  rcases List.mem_cons.mp mb with rfl | mb
  · exact Rat.le_refl
  · exact Rat.le_of_lt ((List.pairwise_cons.mp asc).1 b mb)
end Law
set_option Elab.async false
set_option linter.all false
set_option maxRecDepth 100000
set_option maxHeartbeats 800000
/-! plain: the program's corners, the law's ends -/
namespace Law
open PySem PySem.Spec PyProof.Rows L2 Gh
theorem tot_at {L : List LI} (ok : ∀ x ∈ L, LOk x) {f : Fo} {up : Bool} (hf : f.2 = 0) (h0 : 0 ≤ f.1) : (totF 0 (L.map LI.it) f up).1 = totQ L (f.1 * sgn up) := by
  have e := ev_totF (r := 0) (items := L.map LI.it) (l := f) (up := up)
  have e0 : ev f 0 = f.1 := ev_flat f
  rw [ev_flat, e0, List.map_map] at e
  rw [e]
  unfold totQ
  rw [lsum_eq]
  congr 1
  exact List.map_congr_left fun x mx => pv_size (ok x mx) h0
theorem bn_it {x : LI} {m : Nat} (h : m ∈ bnN x) : ((m : Rat), (0 : Rat)) ∈ bnds x.it := by
  unfold bnN at h
  show _ ∈ (((x.lo : Nat) : Rat), (0 : Rat)) :: (hiQ x.hi).toList
  rcases List.mem_cons.mp h with rfl | h
  · exact List.mem_cons_self
  · cases e : x.hi with
    | none => rw [e] at h; cases h
    | some k =>
      rw [e] at h
      rw [List.mem_singleton.mp h]
      exact List.mem_cons_of_mem _ (by simp [hiQ])
theorem ptot_turn {L : List LI} (ok : ∀ x ∈ L, LOk x) {t : Rat} (h : t ∈ allT L) : PTot L (totQ L t) := by
  rcases List.mem_cons.mp h with rfl | h
  · refine .inl ?_
    rw [tot_at ok rfl Rat.le_refl]
    congr 1
    show (0 : Rat) = 0 * 1
    grind
  · obtain ⟨x, mx, h⟩ := List.mem_flatMap.mp h
    obtain ⟨m, mm, h⟩ := List.mem_flatMap.mp h
    unfold turnQ at h
    split at h
    · rename_i hk
      have h := List.mem_singleton.mp h
      have mit : x.it ∈ L.map LI.it := List.mem_map.mpr ⟨x, mx, rfl⟩
      by_cases hn : (m : Rat) - x.b < 0
      · have ek : byN x ((m : Rat) - x.b) = x.w := by unfold byN; rw [if_pos hn]
        rw [ek] at h hk
        obtain ⟨ts, et, _, hall, _⟩ := turns_spec 0 (L.map LI.it) false
        have i0 : 0 < 1 / (x.w : Rat) := by
          have := inv_mul hk
          have wq := nat_pos hk
          refine Rat.not_le.mp fun z => ?_
          have := Rat.mul_nonneg (show 0 ≤ -(1 / (x.w : Rat)) by grind) (Rat.le_of_lt wq)
          grind
        have f1 : (turnF x.it false ((m : Rat), 0)).1 = -t := by
          show (x.b - (m : Rat)) * (1 / (x.w : Rat)) = -t
          rw [h]; grind
        have f2 : (turnF x.it false ((m : Rat), 0)).2 = 0 := by
          show ((0 : Rat) - 0) * (1 / (x.w : Rat)) = 0
          grind
        have f0 : 0 ≤ (turnF x.it false ((m : Rat), 0)).1 := by
          show 0 ≤ (x.b - (m : Rat)) * (1 / (x.w : Rat))
          exact Rat.mul_nonneg (by grind) (Rat.le_of_lt i0)
        have mf : turnF x.it false ((m : Rat), 0) ∈ turnsOf x.it false := by
          unfold turnsOf
          rw [if_pos (show 0 < stepN x.it false from hk)]
          exact List.mem_map.mpr ⟨_, bn_it mm, rfl⟩
        refine .inr ⟨false, _, by rw [et]; exact hall _ mit _ mf (by rw [ev_flat2 f2 0 0]; unfold ev; rw [f2]; grind), ?_⟩
        rw [tot_at ok f2 f0, f1]
        congr 1
        show t = -t * (-1)
        grind
      · have ek : byN x ((m : Rat) - x.b) = x.g := by unfold byN; rw [if_neg hn]
        rw [ek] at h hk
        obtain ⟨ts, et, _, hall, _⟩ := turns_spec 0 (L.map LI.it) true
        have i0 : 0 < 1 / (x.g : Rat) := by
          have := inv_mul hk
          have wq := nat_pos hk
          refine Rat.not_le.mp fun z => ?_
          have := Rat.mul_nonneg (show 0 ≤ -(1 / (x.g : Rat)) by grind) (Rat.le_of_lt wq)
          grind
        have f1 : (turnF x.it true ((m : Rat), 0)).1 = t := by
          show ((m : Rat) - x.b) * (1 / (x.g : Rat)) = t
          rw [h]
        have f2 : (turnF x.it true ((m : Rat), 0)).2 = 0 := by
          show ((0 : Rat) - 0) * (1 / (x.g : Rat)) = 0
          grind
        have f0 : 0 ≤ (turnF x.it true ((m : Rat), 0)).1 := by
          show 0 ≤ ((m : Rat) - x.b) * (1 / (x.g : Rat))
          exact Rat.mul_nonneg (by grind) (Rat.le_of_lt i0)
        have mf : turnF x.it true ((m : Rat), 0) ∈ turnsOf x.it true := by
          unfold turnsOf
          rw [if_pos (show 0 < stepN x.it true from hk)]
          exact List.mem_map.mpr ⟨_, bn_it mm, rfl⟩
        refine .inr ⟨true, _, by rw [et]; exact hall _ mit _ mf (by unfold ev; rw [f2]; grind), ?_⟩
        rw [tot_at ok f2 f0, f1]
        congr 1
        show t = t * 1
        grind
    · cases h
/-- the corners that the program finds, in the order of its walk -/
def cornQ (L : List LI) (n : Nat) : List Rat := [true, false].flatMap fun up => (turnsF 0 (L.map LI.it) up).map fun f => (totF 0 (L.map LI.it) f up).1 + ((gapsQ L n : Int) : Rat)
def progE (L : List LI) (n : Nat) : List Rat := 0 :: (inOrd (cornQ L n)).filter fun q => decide (0 < q)
theorem corn_mem {L : List LI} {n : Nat} {T : Rat} (h : PTot L T) : T + ((gapsQ L n : Int) : Rat) ∈ cornQ L n := by
  rcases h with rfl | ⟨up, f, mf, rfl⟩
  · refine List.mem_flatMap.mpr ⟨true, by simp, List.mem_map.mpr ⟨(0, 0), ?_, rfl⟩⟩
    obtain ⟨ts, et, _⟩ := turns_spec 0 (L.map LI.it) true
    rw [et]
    exact List.mem_cons_self
  · exact List.mem_flatMap.mpr ⟨up, by cases up <;> simp, List.mem_map.mpr ⟨f, mf, rfl⟩⟩
theorem prog_ends {L : List LI} (n : Nat) (ok : ∀ x ∈ L, LOk x) : PEnds L n (progE L n) := by
  have hp : ∀ T, PTot L T → 0 ≤ T + ((gapsQ L n : Int) : Rat) → T + ((gapsQ L n : Int) : Rat) ∈ progE L n := fun T hT h0 => by
    unfold progE
    by_cases z : T + ((gapsQ L n : Int) : Rat) = 0
    · rw [z]; exact List.mem_cons_self
    · refine List.mem_cons_of_mem _ (List.mem_filter.mpr ⟨((inOrd_spec _).2 _).mpr (corn_mem hT), decide_eq_true (by grind)⟩)
  refine ⟨⟨?_, ⟨_, rfl⟩, fun t mt h0 => hp _ (ptot_turn ok mt) h0⟩, hp⟩
  refine List.pairwise_cons.mpr ⟨fun q mq => of_decide_eq_true (List.mem_filter.mp mq).2, ?_⟩
  exact (inOrd_spec (cornQ L n)).1.filter _
/-- the law's ends -/
def lawEs (L : List LI) (n : Nat) : List Rat := [0, lsum (L.map lowQ) + ((gapsQ L n : Int) : Rat)] ++ (inOrd (allT L)).map (fun t => totQ L t + ((gapsQ L n : Int) : Rat)) ++ (if ∀ x ∈ L, (highQ x).isSome = true then [lsum (L.map highD) + ((gapsQ L n : Int) : Rat)] else [])
def lawE (L : List LI) (n : Nat) : List Rat := inOrd ((lawEs L n).filter fun q => decide (0 ≤ q))
theorem law_ends (L : List LI) (n : Nat) : Ends L n (lawE L n) := by
  obtain ⟨ha, hm⟩ := inOrd_spec ((lawEs L n).filter fun q => decide (0 ≤ q))
  have m0 : (0 : Rat) ∈ lawE L n := (hm 0).mpr (List.mem_filter.mpr ⟨by simp [lawEs], by decide⟩)
  refine ⟨ha, ?_, fun t mt h0 => (hm _).mpr (List.mem_filter.mpr ⟨?_, decide_eq_true h0⟩)⟩
  · have hpos : ∀ q ∈ lawE L n, 0 ≤ q := fun q mq => of_decide_eq_true (List.mem_filter.mp ((hm q).mp mq)).2
    have ha : Ascd (lawE L n) := ha
    cases e : lawE L n with
    | nil => rw [e] at m0; cases m0
    | cons a R =>
      rw [e] at m0 hpos ha
      have a0 := hpos a List.mem_cons_self
      rcases List.mem_cons.mp m0 with z | z
      · exact ⟨R, by rw [z]⟩
      · have := (List.pairwise_cons.mp ha).1 0 z
        exfalso; grind
  · unfold lawEs
    exact List.mem_append_left _ (List.mem_append_right _ (List.mem_map.mpr ⟨t, ((inOrd_spec _).2 t).mpr mt, rfl⟩))
/-- the program's pieces are the law's -/
theorem pieces_eq {L : List LI} (n : Nat) (ok : ∀ x ∈ L, LOk x) : mrg (hiP (progRaw L n (progE L n))) = mrg (hiP (lawRaw (rowF L n) (lawE L n))) := by
  have h := prog_ends n ok
  rw [h.prog ok]
  exact pcs_uniq ok h.toEnds (law_ends L n)
end Law
set_option Elab.async false
set_option linter.all false
set_option maxRecDepth 100000
set_option maxHeartbeats 800000
/-! plain: bounds without which nothing changes -/
namespace Law
open PySem PySem.Spec PyProof.Rows L2 Gh
end Law
set_option Elab.async false
set_option linter.all false
set_option maxRecDepth 100000
set_option maxHeartbeats 1000000
/-! the law's sizes -/
set_option exponentiation.threshold 10000
namespace Law
open PySem PySem.Spec PyProof.Rows L2 Gh
variable {E : En} {s : Sx}
theorem num_pos' {q : Rat} : 0 < q.num ↔ 0 < q := by
  have h1 := num_neg (q := -q)
  rw [Rat.neg_num] at h1
  constructor
  · intro h
    have := h1.mp (by omega)
    grind
  · intro h
    have := h1.mpr (by grind)
    omega
theorem inv_pos_num {b : Rat} (h : 0 < b) : (b⁻¹).num = b.den ∧ (b⁻¹).den = b.num.natAbs := by
  have hn : 0 < b.num := num_pos'.mpr h
  rw [Rat.num_inv, Rat.den_inv, if_neg (by omega), Int.sign_eq_one_of_pos hn]
  exact ⟨by omega, rfl⟩
theorem sz_div {m n : Nat} {a b : Rat} (ha : Sz m a) (hb : Sz n b) (h : 0 < b) : Sz (m + n) (a / b) := by
  rw [Rat.div_def]
  obtain ⟨e1, e2⟩ := inv_pos_num h
  exact ha.mul ⟨by rw [e1, Int.natAbs_natCast]; exact hb.2, by rw [e2]; exact hb.1⟩
theorem rn_lover2 (T : Tc E) {a b : Rat} (ha : Sz 3000 a) (hb : Sz 3000 b) (h : 0 < b) : Rn E 2 "_law_over" [fr a, fr b] s (fr (a / b)) s := by
  obtain ⟨e1, e2⟩ := inv_pos_num h
  have em := mul_mk a b⁻¹
  rw [e1, e2] at em
  have hn : 0 < b.num := num_pos'.mpr h
  have hp : (0 : Int) < (a.den : Int) * b.num := Int.mul_pos (den_pos a) hn
  refine T.d__law_over.rn sc__law_over rfl rfl fun fa cdv A outer sh H0 EX S0 p hr => ?_
  conv => arg 2; whnf
  have R := rn_llow (s := s) (t := a.num * (b.den : Int)) (b := (a.den : Int) * b.num) T.toTx hp (by
    rw [Int.natAbs_mul]
    exact Nat.lt_of_lt_of_le (two_pow_mul (show ((a.den : Int)).natAbs < 2 ^ 3000 by simpa using ha.2) hb.1) (Nat.pow_le_pow_right (by decide) (by decide)))
  refine bk_cons (bs_ret (ed_cl (ea_cons (ed_bin (ed_ix (d := .int a.num) (ed_var (d := fr a) 0 rfl (.inl rfl) rfl) ed_int rfl) (ed_ix (d := .int b.den) (ed_var (d := fr b) 1 rfl (.inl rfl) rfl) ed_int rfl) rfl (mulW ha.n hb.d)) (ea_cons (ed_bin (ed_ix (d := .int a.den) (ed_var (d := fr a) 0 rfl (.inl rfl) rfl) ed_int rfl) (ed_ix (d := .int b.num) (ed_var (d := fr b) 1 rfl (.inl rfl) rfl) ed_int rfl) rfl (mulW ha.d hb.n)) ea_nil)) (hr.mono (by decide)) R) ⟨?_, rfl⟩)
  have e : ((a.den : Int) * b.num).toNat = a.den * b.num.natAbs := by
    have : b.num = (b.num.natAbs : Int) := by omega
    rw [this, ← Int.natCast_mul, Int.toNat_natCast, Int.natAbs_natCast]
  rw [e, em, Rat.div_def]
def hqD : Option Rat → D
  | none => .non
  | some q => fr q
theorem rn_lleast (T : Tc E) {x : LI} (ok : LOk x) : Rn E 3 "_law_least" [liD x] s (fr (lowQ x)) s := by
  refine T.d__law_least.rn sc__law_least rfl rfl fun fa cdv A outer sh H0 EX S0 p hr => ?_
  conv => arg 2; whnf
  unfold lowQ
  by_cases h : 0 < x.w
  · rw [if_pos h]
    exact bk_cons (bs_ret (Ed.is (ed_ifT (Cp.et (Cp.is (cp_gt (ed_ix (d := .int x.w) (ed_var (d := liD x) 0 rfl (.inl rfl) rfl) ed_int rfl) ed_int) (decide_eq_true (by omega)))) (ed_tup (ea_cons (ed_ix (d := .int x.lo) (ed_var (d := liD x) 0 rfl (.inl rfl) rfl) ed_int rfl) (ea_cons ed_int ea_nil)))) (fr_nat _).symm) ⟨rfl, rfl⟩)
  · rw [if_neg h]
    exact bk_cons (bs_ret (ed_ifF (Cp.et (Cp.is (cp_gt (ed_ix (d := .int x.w) (ed_var (d := liD x) 0 rfl (.inl rfl) rfl) ed_int rfl) ed_int) (decide_eq_false (by omega)))) (ed_cl (ea_cons (ed_var (d := liD x) 0 rfl (.inl rfl) rfl) (ea_cons (ed_ix (d := fr x.b) (ed_var (d := liD x) 0 rfl (.inl rfl) rfl) ed_int rfl) ea_nil)) (hr.mono (by decide)) (rn_clamped T ok (ok.b.mono (by decide))))) ⟨rfl, rfl⟩)
theorem rn_lgreatest (T : Tc E) {x : LI} (ok : LOk x) : Rn E 3 "_law_greatest" [liD x] s (hqD (highQ x)) s := by
  refine T.d__law_greatest.rn sc__law_greatest rfl rfl fun fa cdv A outer sh H0 EX S0 p hr => ?_
  conv => arg 2; whnf
  unfold highQ
  refine bk_cons (bs_if (t := decide (x.g = 0)) (s1 := s) (Cp.et (Cp.is (cp_eq hr (ed_ix (d := .int x.g) (ed_var (d := liD x) 0 rfl (.inl rfl) rfl) ed_int rfl) ed_int (eqC_int _) (eqC_int _)) (by rw [eqb_int]; exact decide_eq_decide.mpr (by omega)))) (fun h => ?_) (fun h => ?_))
  · have h := of_decide_eq_true h
    rw [if_pos h]
    exact bk_cons (bs_ret (ed_cl (ea_cons (ed_var (d := liD x) 0 rfl (.inl rfl) rfl) (ea_cons (ed_ix (d := fr x.b) (ed_var (d := liD x) 0 rfl (.inl rfl) rfl) ed_int rfl) ea_nil)) (hr.mono (by decide)) (rn_clamped T ok (ok.b.mono (by decide)))) ⟨rfl, rfl⟩)
  · have h := of_decide_eq_false h
    rw [if_neg h]
    refine bk_nil ?_
    unfold hiR
    cases e : x.hi with
    | none => exact bk_cons (bs_ret (ed_ifT (Cp.et (Cp.is (cp_isN (ed_ix (d := hiN x.hi) (ed_var (d := liD x) 0 rfl (.inl rfl) rfl) ed_int rfl)) (by rw [e]; rfl))) ed_non) ⟨rfl, rfl⟩)
    | some m => exact bk_cons (bs_ret (Ed.is (ed_ifF (Cp.et (Cp.is (cp_isN (ed_ix (d := hiN x.hi) (ed_var (d := liD x) 0 rfl (.inl rfl) rfl) ed_int rfl)) (by rw [e]; rfl))) (ed_tup (ea_cons (Ed.is (y := .int m) (ed_ix (d := hiN x.hi) (ed_var (d := liD x) 0 rfl (.inl rfl) rfl) ed_int rfl) (by rw [e]; rfl)) (ea_cons ed_int ea_nil)))) (fr_nat _).symm) ⟨rfl, rfl⟩)
/-! the level -/
theorem lvl_head {L : List LI} {left : Rat} (ok : ∀ x ∈ L, LOk x) (h1 : lsum (L.map lowQ) < left) : ∀ t ∈ (inOrd (allT L)).head?, totQ L t < left := fun t ht => by
  obtain ⟨ha, hm⟩ := inOrd_spec (allT L)
  have m0 : (0 : Rat) ∈ inOrd (allT L) := (hm 0).mpr List.mem_cons_self
  have mt : ∀ x ∈ L, ∀ t ∈ turnsQ x, t ∈ inOrd (allT L) := fun x mx t mt => (hm t).mpr (List.mem_cons_of_mem _ (List.mem_flatMap.mpr ⟨x, mx, mt⟩))
  have hmin : ∀ u ∈ inOrd (allT L), t ≤ u := fun u mu => by
    cases e : inOrd (allT L) with
    | nil => rw [e] at mu; cases mu
    | cons a F =>
      rw [e] at ht mu ha
      have : t = a := by simpa using ht.symm
      subst this
      rcases List.mem_cons.mp mu with rfl | mu
      · exact Rat.le_refl
      · exact Rat.le_of_lt ((List.pairwise_cons.mp ha).1 u mu)
  have : L.map (lsize t) = L.map lowQ := List.map_congr_left fun x mx => size_bottom (ok x mx) (hmin 0 m0) fun u mu => hmin u (mt x mx u mu)
  unfold totQ
  rw [this]; exact h1
theorem lvl_rise {L : List LI} {left : Rat} (ok : ∀ x ∈ L, LOk x) (h2 : ¬ ((∀ x ∈ L, (highQ x).isSome = true) ∧ ¬ left < lsum (L.map highD))) {A : List Rat} {t : Rat} (hA : inOrd (allT L) = A ++ [t]) (hlt : totQ L t < left) : totQ L t < totQ L (t + 1) := by
  obtain ⟨ha, hm⟩ := inOrd_spec (allT L)
  have m0 : (0 : Rat) ∈ inOrd (allT L) := (hm 0).mpr List.mem_cons_self
  have mt : ∀ x ∈ L, ∀ t ∈ turnsQ x, t ∈ inOrd (allT L) := fun x mx t mt => (hm t).mpr (List.mem_cons_of_mem _ (List.mem_flatMap.mpr ⟨x, mx, mt⟩))
  have hall : ∀ u ∈ inOrd (allT L), u ≤ t := fun u mu => by
    rw [hA] at mu ha
    rcases List.mem_append.mp mu with mu | mu
    · exact Rat.le_of_lt ((List.pairwise_append.mp ha).2.2 u mu t (by simp))
    · rw [List.mem_singleton.mp mu]; exact Rat.le_refl
  refine Decidable.byContradiction fun n => h2 ?_
  have hs : L.map (lsize t) = L.map (lsize (t + 1)) := same_sum (fun x mx => lsize_mono (ok x mx) (by grind)) (Rat.not_lt.mp n)
  have hx : ∀ x ∈ L, highQ x = some (lsize t x) := fun x mx => size_top (ok x mx) (hall 0 m0) (fun u mu => hall u (mt x mx u mu)) (by
    have := List.map_inj_left.mp hs x mx
    exact this.symm)
  have hd : L.map highD = L.map (lsize t) := List.map_congr_left fun x mx => by unfold highD; rw [hx x mx]; rfl
  refine ⟨fun x mx => by rw [hx x mx]; rfl, ?_⟩
  rw [hd]
  have : totQ L t < left := hlt
  unfold totQ at this
  grind
theorem Lq.turn2 {x : LI} (h : Lq x) {m n : Nat} (hm : m < 200) (h0 : 0 < n) (hd : n ∣ 9900) : Qn 415800 (2 ^ 27 - 415800) (((m : Rat) - x.b) * (1 / (n : Rat))) := by
  have h1 : Qn 42 (8400 + 1050) ((m : Rat) - x.b) := (((Qn.nat m).ups (K := 42) (by decide) (by decide)).mono (by omega)).sub h.b
  exact (h1.mul (Qn.inv h0 hd)).mono (by decide)
theorem allT_qn2 {L : List LI} (h : ∀ x ∈ L, Lq x) : ∀ q ∈ allT L, Qn 415800 (2 ^ 27) q ∧ Qn 415800 (2 ^ 27) (q + 1) := fun q m => by
  have key : Qn 415800 (2 ^ 27 - 415800) q := by
    rcases List.mem_cons.mp m with rfl | m
    · exact (Qn.zero (N := 415800)).mono (Nat.zero_le _)
    · obtain ⟨x, mx, m⟩ := List.mem_flatMap.mp m
      obtain ⟨k, mk, m⟩ := List.mem_flatMap.mp m
      unfold turnQ at m
      split at m
      · rename_i h0
        rw [List.mem_singleton.mp m]
        exact (h x mx).turn2 ((h x mx).bn mk) h0 (((h x mx).by_ _).resolve_left (by omega))
      · cases m
  refine ⟨key.mono (by decide), (key.add (((Qn.nat 1).ups (K := 415800) (by decide) (by decide)).mono (M' := 415800) (by decide))).mono (by decide)⟩
theorem goLev_sz {L : List LI} {left : Rat} (zl : Sz 60 left) (hr : ∀ A t, ts0 = A ++ [t] → totQ L t < left → totQ L t < totQ L (t + 1)) : ∀ (ts A : List Rat), ts0 = A ++ ts → (∀ t ∈ ts, Sz 60 t ∧ Sz 60 (totQ L t) ∧ Sz 60 (totQ L (t + 1))) → (∀ t ∈ ts.head?, totQ L t < left) → Sz 900 (goLev L left ts)
  | [], _, _, _, _ => sz_zero
  | [t], A, e, h, hh => by
    obtain ⟨z1, z2, z3⟩ := h t (by simp)
    have := hr A t e (hh t (by simp))
    unfold goLev
    exact (z1.add (sz_div (zl.sub z2) (z3.sub z2) (by grind))).mono (by decide)
  | t :: u :: r, A, e, h, hh => by
    obtain ⟨z1, z2, z3⟩ := h t (by simp)
    obtain ⟨w1, w2, w3⟩ := h u (by simp)
    unfold goLev
    split
    · rename_i hu
      exact goLev_sz zl hr (u :: r) (A ++ [t]) (by rw [e]; simp) (fun t m => h t (List.mem_cons_of_mem _ m)) (fun v hv => by
        have : v = u := by simpa using hv.symm
        rw [this]; exact hu)
    · split
      · rename_i hp
        exact (z1.add ((w1.sub z1).mul (sz_div (zl.sub z2) (w2.sub z2) hp))).mono (by decide)
      · exact (z1.add ((w1.sub z1).mul (sz_zero (n := 1)))).mono (by decide)
theorem drop_cons {α : Type} {ts : List α} {i : Nat} {t : α} {r : List α} (h : ts.drop i = t :: r) : ts[i]? = some t ∧ ts.drop (i + 1) = r := by
  constructor
  · have := congrArg List.head? h
    rw [List.head?_drop] at this
    exact this
  · rw [← List.drop_drop, h]; rfl
theorem rn_level (T : Tc E) {L : List LI} {left : Rat} (hl : L.length ≤ 8) (ok : ∀ x ∈ L, Lq x) (zl : Sz 60 left) (h1 : lsum (L.map lowQ) < left) (h2 : ¬ ((∀ x ∈ L, (highQ x).isSome = true) ∧ ¬ left < lsum (L.map highD))) :
    Sz 900 (goLev L left (inOrd (allT L))) ∧ Rn E 6 "_law_level" [.lst (L.map liD), fr left] s (fr (goLev L left (inOrd (allT L)))) s := by
  have okl : ∀ x ∈ L, LOk x := fun x m => (ok x m).ok
  have RT := rn_turns (s := s) T (by omega : L.length ≤ 20) ok
  have hq : ∀ t ∈ inOrd (allT L), Qn 415800 (2 ^ 27) t ∧ Qn 415800 (2 ^ 27) (t + 1) := fun t m => allT_qn2 ok t (inOrd_mem t m)
  have hh := lvl_head okl h1
  have hrr := fun A t => lvl_rise (left := left) okl h2 (A := A) (t := t)
  have hne : inOrd (allT L) ≠ [] := fun z => by
    have := ((inOrd_spec (allT L)).2 0).mpr List.mem_cons_self
    rw [z] at this; cases this
  have hlen : (inOrd (allT L)).length ≤ 100 := by
    have h1 : (inOrd (allT L)).length ≤ _ := inOrd_len
    have h3 := allT_len L
    omega
  generalize inOrd (allT L) = ts at *
  have zt : ∀ t ∈ ts, Sz 60 t ∧ Sz 60 (totQ L t) ∧ Sz 60 (totQ L (t + 1)) := fun t m => ⟨qz (hq t m).1 (by decide), qz (tot_qn ok hl (hq t m).1) (by decide), qz (tot_qn ok hl (hq t m).2) (by decide)⟩
  refine ⟨goLev_sz zl hrr ts [] rfl zt hh, ?_⟩
  refine T.d__law_level.rn sc__law_level rfl rfl fun fa cdv A outer sh H0 EX S0 p hr => ?_
  conv => arg 2; whnf
  have nd := sc__law_level.nd
  have l0 := List.length_pos_iff.mpr hne
  refine bk_cons (bs_set (d := .lst (ts.map fr)) (s1 := s) 2 nd rfl (.inl rfl) (ed_cl (ea_cons (ed_var (d := .lst (L.map liD)) 0 rfl (.inr (.inl rfl)) rfl) ea_nil) (hr.mono (by decide)) RT) ?_)
  refine bk_setM 3 [("_law_level_here", 4)] fr (fun t : Rat => fr (totQ L t)) (xs := ts) (s1 := s) rfl nd rfl rfl rfl rfl (ei_seq (ed_var (d := .lst (ts.map fr)) 2 rfl (.inl rfl) rfl) (.inl rfl)) (blkOk_by rfl) (sl1000 (by omega)) (fun t mt => ⟨_, _, fun b => eg_name 4 nd rfl (.inl rfl), by decide, fun b => ed_cl (ea_cons (ed_var (d := .lst (L.map liD)) 0 rfl (.inr (.inl rfl)) rfl) (ea_cons (ed_var (d := fr t) 4 rfl (.inl rfl) rfl) ea_nil)) (hr.mono (by decide)) (rn_totalq T ok hl (hq t mt).1)⟩) ?_
  show Bk _ _ ([.val (.lst (L.map liD)), .val (fr left), .val (.lst (ts.map fr)), .val (.lst (ts.map fun t => fr (totQ L t))), .no, .no, .no, .no, .no] : List G) s _
  have hrl : (rangeD 0 ((((ts.map fr).length : Nat) : Int) - 1).toNat) = (List.range (ts.length - 1)).map mD := by
    unfold rangeD
    rw [List.length_map]
    have : (((ts.length : Nat) : Int) - 1).toNat = ts.length - 1 := by omega
    rw [this]
    refine List.map_congr_left fun i _ => ?_
    show D.int (0 + (i : Int)) = D.int i
    rw [Int.zero_add]
  have at2 : ∀ (i : Nat) (t : Rat), ts[i]? = some t → (D.lst (ts.map fr)).at (i : Int) = some (fr t) ∧ (D.lst (ts.map fun t => fr (totQ L t))).at (i : Int) = some (fr (totQ L t)) := fun i t e => ⟨atI_n (by rw [List.getElem?_map, e]; rfl), atI_n (by rw [List.getElem?_map, e]; rfl)⟩
  refine bk_cons (bs_forM (s1 := s) mD (xs := List.range (ts.length - 1)) PassesOwn.never rfl (by rw [← hrl]; exact ei_range1 (j := (((ts.map fr).length : Nat) : Int) - 1) T.bf (ed_bin (ed_len T.bf (ed_var (d := .lst (ts.map fr)) 2 rfl (.inl rfl) rfl) rfl) ed_int rfl trivial) (by rw [List.length_map]; omega) (by rw [List.length_map]; omega)) (fun i ρ s' => s' = s ∧ i ≤ ts.length - 1 ∧ (∃ t r, ts.drop i = t :: r ∧ totQ L t < left ∧ goLev L left (t :: r) = goLev L left ts) ∧ ∃ g4 g5 g6 g7 g8, ρ = [.val (.lst (L.map liD)), .val (fr left), .val (.lst (ts.map fr)), .val (.lst (ts.map fun t => fr (totQ L t))), g4, g5, g6, g7, g8]) ⟨rfl, Nat.zero_le _, ?_, _, _, _, _, _, rfl⟩ ?_ ?_)
  · cases ts with
    | nil => exact absurd rfl hne
    | cons t r => exact ⟨t, r, rfl, hh t (by simp), rfl⟩
  · rintro i d ρ' s' hi ⟨rfl, _, ⟨t, r, hdr, hlt, hgo⟩, g4, g5, g6, g7, g8, rfl⟩
    have hi1 : i < ts.length - 1 := by have := (List.getElem?_eq_some_iff.mp hi).1; rw [List.length_range] at this; exact this
    have hd : d = i := by rw [List.getElem?_range hi1] at hi; exact (Option.some.inj hi).symm
    subst hd
    obtain ⟨et, hdr2⟩ := drop_cons hdr
    have hrl2 := congrArg List.length hdr
    rw [List.length_drop, List.length_cons] at hrl2
    cases r with
    | nil => rw [List.length_nil] at hrl2; omega
    | cons u r =>
    obtain ⟨eu, _⟩ := drop_cons hdr2
    obtain ⟨a1, a2⟩ := at2 _ _ et
    obtain ⟨b1, b2⟩ := at2 _ _ eu
    rw [Int.natCast_add] at b1 b2
    obtain ⟨z1, z2, _⟩ := zt t (List.mem_of_getElem? et)
    obtain ⟨w1, w2, _⟩ := zt u (List.mem_of_getElem? eu)
    refine ⟨_, _, eg_name 5 nd rfl (.inl rfl), ?_⟩
    show Bk _ _ ([.val (.lst (L.map liD)), .val (fr left), .val (.lst (ts.map fr)), .val (.lst (ts.map fun t => fr (totQ L t))), g4, .val (.int d), g6, g7, g8] : List G) s' _
    refine bk_cons (bs_if (t := !decide (totQ L u < left)) (s1 := s') (et_not (et_val (ed_cl (ea_cons (ed_ix (ed_var (d := .lst (ts.map fun t => fr (totQ L t))) 3 rfl (.inl rfl) rfl) (ed_bin (ed_var (d := .int d) 5 rfl (.inl rfl) rfl) ed_int rfl trivial) b2) (ea_cons (ed_var (d := fr left) 1 rfl (.inl rfl) rfl) ea_nil)) (hr.mono (by decide)) (rn_lless T.toTx (w2.mono (by decide)) (zl.mono (by decide)))))) (fun h => ?_) (fun h => ?_))
    · have h : ¬ totQ L u < left := by simpa using h
      have hv : goLev L left ts = t + (u - t) * (if 0 < totQ L u - totQ L t then (left - totQ L t) / (totQ L u - totQ L t) else 0) := by
        rw [← hgo]
        show (if totQ L u < left then _ else _) = _
        rw [if_neg h]
      rw [hv]
      refine bk_cons (bs_par 6 7 (d1 := fr (u - t)) (d2 := fr (totQ L u - totQ L t)) (s1 := s') rfl nd rfl rfl (by decide) rfl rfl (ea_cons (ed_cl (ea_cons (ed_ix (ed_var (d := .lst (ts.map fr)) 2 rfl (.inl rfl) rfl) (ed_bin (ed_var (d := .int d) 5 rfl (.inl rfl) rfl) ed_int rfl trivial) b1) (ea_cons (ed_ix (ed_var (d := .lst (ts.map fr)) 2 rfl (.inl rfl) rfl) (ed_var (d := .int d) 5 rfl (.inl rfl) rfl) a1) ea_nil)) (hr.mono (by decide)) (rn_lminus T.toTx (w1.mono (by decide)) (z1.mono (by decide)))) (ea_cons (ed_cl (ea_cons (ed_ix (ed_var (d := .lst (ts.map fun t => fr (totQ L t))) 3 rfl (.inl rfl) rfl) (ed_bin (ed_var (d := .int d) 5 rfl (.inl rfl) rfl) ed_int rfl trivial) b2) (ea_cons (ed_ix (ed_var (d := .lst (ts.map fun t => fr (totQ L t))) 3 rfl (.inl rfl) rfl) (ed_var (d := .int d) 5 rfl (.inl rfl) rfl) a2) ea_nil)) (hr.mono (by decide)) (rn_lminus T.toTx (w2.mono (by decide)) (z2.mono (by decide)))) ea_nil)) ?_)
      show Bk _ _ ([.val (.lst (L.map liD)), .val (fr left), .val (.lst (ts.map fr)), .val (.lst (ts.map fun t => fr (totQ L t))), g4, .val (.int d), .val (fr (u - t)), .val (fr (totQ L u - totQ L t)), g8] : List G) s' _
      have zr : Sz 121 (totQ L u - totQ L t) := w2.sub z2
      generalize totQ L u - totQ L t = rise at zr
      have zp : Sz 300 (if 0 < rise then (left - totQ L t) / rise else 0) := by
        split
        · rename_i hp
          exact (sz_div (zl.sub z2) zr hp).mono (by decide)
        · exact sz_zero
      refine bk_cons (bs_set (d := fr (if 0 < rise then (left - totQ L t) / rise else 0)) (s1 := s') 8 nd rfl (.inl rfl) ?_ ?_)
      · by_cases hp : 0 < rise
        · rw [if_pos hp]
          exact ed_ifT (Cp.et (Cp.is (cp_gt (ed_ix (d := .int rise.num) (ed_var (d := fr rise) 7 rfl (.inl rfl) rfl) ed_int rfl) ed_int) (decide_eq_true (num_pos'.mpr hp)))) (ed_cl (ea_cons (ed_cl (ea_cons (ed_var (d := fr left) 1 rfl (.inl rfl) rfl) (ea_cons (ed_ix (ed_var (d := .lst (ts.map fun t => fr (totQ L t))) 3 rfl (.inl rfl) rfl) (ed_var (d := .int d) 5 rfl (.inl rfl) rfl) a2) ea_nil)) (hr.mono (by decide)) (rn_lminus T.toTx (zl.mono (by decide)) (z2.mono (by decide)))) (ea_cons (ed_var (d := fr rise) 7 rfl (.inl rfl) rfl) ea_nil)) (hr.mono (by decide)) (rn_lover2 T ((zl.sub z2).mono (by decide)) (zr.mono (by decide)) hp))
        · rw [if_neg hp]
          exact Ed.is (ed_ifF (Cp.et (Cp.is (cp_gt (ed_ix (d := .int rise.num) (ed_var (d := fr rise) 7 rfl (.inl rfl) rfl) ed_int rfl) ed_int) (decide_eq_false (fun z => hp (num_pos'.mp z))))) (ed_tup (ea_cons ed_int (ea_cons ed_int ea_nil)))) rfl
      generalize (if 0 < rise then (left - totQ L t) / rise else 0) = part at zp
      show Bk _ _ ([.val (.lst (L.map liD)), .val (fr left), .val (.lst (ts.map fr)), .val (.lst (ts.map fun t => fr (totQ L t))), g4, .val (.int d), .val (fr (u - t)), .val (fr rise), .val (fr part)] : List G) s' _
      exact bk_cons (bs_ret (ed_cl (ea_cons (ed_ix (ed_var (d := .lst (ts.map fr)) 2 rfl (.inl rfl) rfl) (ed_var (d := .int d) 5 rfl (.inl rfl) rfl) a1) (ea_cons (ed_cl (ea_cons (ed_var (d := fr (u - t)) 6 rfl (.inl rfl) rfl) (ea_cons (ed_var (d := fr part) 8 rfl (.inl rfl) rfl) ea_nil)) (hr.mono (by decide)) (rn_ltimes T.toTx ((w1.sub z1).mono (by decide)) (zp.mono (by decide)))) ea_nil)) (hr.mono (by decide)) (rn_lplus T.toTx (z1.mono (by decide)) (((w1.sub z1).mul zp).mono (by decide)))) ⟨rfl, rfl⟩)
    · have h : totQ L u < left := by simpa using h
      refine bk_nil (bk_nil ⟨rfl, by omega, ⟨u, r, hdr2, h, ?_⟩, _, _, _, _, _, rfl⟩)
      rw [← hgo]
      show _ = (if totQ L u < left then _ else _)
      rw [if_pos h]
  · rintro ρ' s' ⟨rfl, _, ⟨t, r, hdr, hlt, hgo⟩, g4, g5, g6, g7, g8, rfl⟩
    rw [List.length_range] at hdr
    have hrl2 := congrArg List.length hdr
    rw [List.length_drop, List.length_cons] at hrl2
    have hr0 : r = [] := List.eq_nil_of_length_eq_zero (by omega)
    subst hr0
    have ets : ts = ts.take (ts.length - 1) ++ [t] := by rw [← hdr, List.take_append_drop]
    have mt : t ∈ ts := by rw [ets]; simp
    obtain ⟨z1, z2, z3⟩ := zt t mt
    have rise := hrr _ t ets hlt
    have a1 : (D.lst (ts.map fr)).at (-1) = some (fr t) := by
      rw [ets, List.map_append]; exact L2.atI_last _ _
    have a2 : (D.lst (ts.map fun t => fr (totQ L t))).at (-1) = some (fr (totQ L t)) := by
      rw [ets, List.map_append]; exact L2.atI_last _ _
    have hv : goLev L left ts = t + (left - totQ L t) / (totQ L (t + 1) - totQ L t) := by rw [← hgo]; rfl
    rw [hv]
    refine bk_cons (bs_set (d := fr (totQ L (t + 1) - totQ L t)) (s1 := s') 7 nd rfl (.inl rfl) (ed_cl (ea_cons (ed_cl (ea_cons (ed_var (d := .lst (L.map liD)) 0 rfl (.inr (.inl rfl)) rfl) (ea_cons (ed_cl (ea_cons (ed_ix (ed_var (d := .lst (ts.map fr)) 2 rfl (.inl rfl) rfl) (ed_neg ed_int) a1) (ea_cons (Ed.is (y := fr 1) (ed_tup (ea_cons ed_int (ea_cons ed_int ea_nil))) rfl) ea_nil)) (hr.mono (by decide)) (rn_lplus T.toTx (z1.mono (by decide)) (sz_nat (i := 1) (by decide)))) ea_nil)) (hr.mono (by decide)) (rn_totalq T ok hl (hq t mt).2)) (ea_cons (ed_ix (ed_var (d := .lst (ts.map fun t => fr (totQ L t))) 3 rfl (.inl rfl) rfl) (ed_neg ed_int) a2) ea_nil)) (hr.mono (by decide)) (rn_lminus T.toTx (z3.mono (by decide)) (z2.mono (by decide)))) ?_)
    show Bk _ _ ([.val (.lst (L.map liD)), .val (fr left), .val (.lst (ts.map fr)), .val (.lst (ts.map fun t => fr (totQ L t))), g4, g5, g6, .val (fr (totQ L (t + 1) - totQ L t)), g8] : List G) s' _
    exact bk_cons (bs_ret (ed_cl (ea_cons (ed_ix (ed_var (d := .lst (ts.map fr)) 2 rfl (.inl rfl) rfl) (ed_neg ed_int) a1) (ea_cons (ed_cl (ea_cons (ed_cl (ea_cons (ed_var (d := fr left) 1 rfl (.inl rfl) rfl) (ea_cons (ed_ix (ed_var (d := .lst (ts.map fun t => fr (totQ L t))) 3 rfl (.inl rfl) rfl) (ed_neg ed_int) a2) ea_nil)) (hr.mono (by decide)) (rn_lminus T.toTx (zl.mono (by decide)) (z2.mono (by decide)))) (ea_cons (ed_var (d := fr (totQ L (t + 1) - totQ L t)) 7 rfl (.inl rfl) rfl) ea_nil)) (hr.mono (by decide)) (rn_lover2 T ((zl.sub z2).mono (by decide)) ((z3.sub z2).mono (by decide)) (by grind))) ea_nil)) (hr.mono (by decide)) (rn_lplus T.toTx (z1.mono (by decide)) ((sz_div (zl.sub z2) (z3.sub z2) (by grind)).mono (by decide)))) ⟨rfl, rfl⟩)
end Law
set_option Elab.async false
set_option linter.all false
set_option maxRecDepth 100000
set_option maxHeartbeats 1000000
/-! the law's sizes; sorted rooms -/
namespace Law
open PySem PySem.Spec PyProof.Rows L2 Gh
variable {E : En} {s : Sx}
theorem low_qn {x : LI} (h : Lq x) : Qn 415800 (2 ^ 41) (lowQ x) := by
  unfold lowQ
  split
  · exact h.lo'.mono (by decide)
  · exact lclamp_qn h (h.b'.mono (by decide))
theorem high_qn {x : LI} (h : Lq x) : Qn 415800 (2 ^ 41) (highD x) := by
  unfold highD highQ
  split
  · exact lclamp_qn h (h.b'.mono (by decide))
  · unfold hiR
    cases e : x.hi with
    | none => exact (Qn.zero (N := 415800)).mono (Nat.zero_le _)
    | some m => exact (h.hi' e).mono (by decide)
theorem none_in (L : List LI) : (!((L.map fun x => hqD (highQ x)).any fun y => y.eqb .non)) = decide (∀ x ∈ L, (highQ x).isSome = true) := by
  induction L with
  | nil => rfl
  | cons x L ih =>
    rw [List.map_cons, List.any_cons, Bool.not_or, ih]
    cases e : highQ x with
    | none =>
      have : (hqD none).eqb .non = true := by simp [hqD, D.eqb, D.py, PyData.eqv]
      rw [this]
      symm
      refine decide_eq_false fun h => ?_
      have := h x List.mem_cons_self
      rw [e] at this; cases this
    | some q =>
      have : (hqD (some q)).eqb .non = false := by simp [hqD, fr, D.eqb, D.py, PyData.eqv]
      rw [this]
      show decide _ = decide _
      refine decide_eq_decide.mpr ⟨fun h y my => ?_, fun h y my => h y (List.mem_cons_of_mem _ my)⟩
      rcases List.mem_cons.mp my with rfl | my
      · rw [e]; rfl
      · exact h y my
theorem eqDs_hq (L : List LI) : eqDs 1 (L.map fun x => hqD (highQ x)) := .of fun d m => by
  obtain ⟨x, _, rfl⟩ := List.mem_map.mp m
  cases highQ x with
  | none => exact .non
  | some q => exact .fr q
theorem high_frs {L : List LI} (h : ∀ x ∈ L, (highQ x).isSome = true) : (L.map fun x => hqD (highQ x)) = (L.map highD).map fr := by
  rw [List.map_map]
  refine List.map_congr_left fun x mx => ?_
  have := h x mx
  cases e : highQ x with
  | none => rw [e] at this; cases this
  | some q => show _ = fr (highD x); unfold highD; rw [e]; rfl
theorem rn_lsumQ (T : Tc E) {qs : List Rat} (h : ∀ q ∈ qs, Qn 415800 (2 ^ 41) q) (hl : qs.length ≤ 10) : Sz 80 (lsum qs) ∧ Rn E 3 "_law_sum" [.lst (qs.map fr)] s (fr (lsum qs)) s := by
  refine ⟨?_, rn_lsum T (lows_sz h hl (by decide)) fun q m => (qz (n := 45) (h q m) (by decide)).mono (by decide)⟩
  refine qz (M := 2 ^ 41 * 10) ((Qn.sum h).mono (Nat.mul_le_mul_left _ hl)) (by decide)
theorem rn_lsizes (T : Tc E) {L : List LI} {n : Nat} {q : Rat} (hl : L.length ≤ 8) (ok : ∀ x ∈ L, Lq x) (hn : n ≤ 10) (zq : Sz 50 q) : Rn E 7 "_law_sizes" [.lst (L.map liD), .int n, fr q] s (.lst ((szs L (q - ((gapsQ L n : Int) : Rat))).map fr)) s := by
  have okl : ∀ x ∈ L, LOk x := fun x m => (ok x m).ok
  have zg : Sz 8 ((gapsQ L n : Int) : Rat) := sz_int (by
    unfold gapsQ
    rw [Int.natAbs_mul, Int.natAbs_natCast]
    have : ((L.length : Int) - 1).natAbs ≤ 7 := by omega
    calc n * ((L.length : Int) - 1).natAbs ≤ 10 * 7 := Nat.mul_le_mul hn this
      _ < 2 ^ 8 := by decide)
  have zl : Sz 60 (q - ((gapsQ L n : Int) : Rat)) := (zq.sub zg).mono (by decide)
  rw [← law_sizes okl]
  refine T.d__law_sizes.rn sc__law_sizes rfl rfl fun fa cdv A outer sh H0 EX S0 p hr => ?_
  conv => arg 2; whnf
  have nd := sc__law_sizes.nd
  refine bk_cons (bs_set (d := fr (q - ((gapsQ L n : Int) : Rat))) (s1 := s) 3 nd rfl (.inl rfl) (ed_cl (ea_cons (ed_var (d := fr q) 2 rfl (.inl rfl) rfl) (ea_cons (ed_cl (ea_cons (ed_var (d := .lst (L.map liD)) 0 rfl (.inl rfl) rfl) (ea_cons (ed_var (d := .int n) 1 rfl (.inl rfl) rfl) ea_nil)) (hr.mono (by decide)) (rn_lgaps T (by omega) (by omega))) ea_nil)) (hr.mono (by decide)) (rn_lminus T.toTx (zq.mono (by decide)) (zg.mono (by decide)))) ?_)
  generalize q - ((gapsQ L n : Int) : Rat) = left at zl
  obtain ⟨zlow, Rlow⟩ := rn_lsumQ (s := s) T (qs := L.map lowQ) (fun q m => by obtain ⟨x, mx, rfl⟩ := List.mem_map.mp m; exact low_qn (ok x mx)) (by rw [List.length_map]; omega)
  obtain ⟨zhigh, Rhigh⟩ := rn_lsumQ (s := s) T (qs := L.map highD) (fun q m => by obtain ⟨x, mx, rfl⟩ := List.mem_map.mp m; exact high_qn (ok x mx)) (by rw [List.length_map]; omega)
  refine bk_cons (bs_par 4 5 (d1 := .lst ((L.map lowQ).map fr)) (d2 := .lst (L.map fun x => hqD (highQ x))) (s1 := s) rfl nd rfl rfl (by decide) rfl rfl (ea_cons (Ed.is (El.ed (el_mapM (s1 := s) [("_law_item_here", 6)] liD (fun x : LI => fr (lowQ x)) (xs := L) rfl nd (ei_seq (ed_var (d := .lst (L.map liD)) 0 rfl (.inl rfl) rfl) (.inl rfl)) (blkOk_by rfl) (sl1000 (by omega)) (fun x mx => ⟨_, _, fun b => eg_name 6 nd rfl (.inl rfl), by decide, fun b => ed_cl (ea_cons (ed_var (d := liD x) 6 rfl (.inl rfl) rfl) ea_nil) (hr.mono (by decide)) (rn_lleast T (okl x mx))⟩))) (by rw [List.map_map]; rfl)) (ea_cons (El.ed (el_mapM (s1 := s) [("_law_item_here", 6)] liD (fun x : LI => hqD (highQ x)) (xs := L) rfl nd (ei_seq (ed_var (d := .lst (L.map liD)) 0 rfl (.inl rfl) rfl) (.inl rfl)) (blkOk_by rfl) (sl1000 (by omega)) (fun x mx => ⟨_, _, fun b => eg_name 6 nd rfl (.inl rfl), by decide, fun b => ed_cl (ea_cons (ed_var (d := liD x) 6 rfl (.inl rfl) rfl) ea_nil) (hr.mono (by decide)) (rn_lgreatest T (okl x mx))⟩))) ea_nil)) ?_)
  show Bk _ _ ([.val (.lst (L.map liD)), .val (.int n), .val (fr q), .val (fr left), .val (.lst ((L.map lowQ).map fr)), .val (.lst (L.map fun x => hqD (highQ x))), .no, .no] : List G) s _
  unfold lawS
  refine bk_cons (bs_if (t := !decide (lsum (L.map lowQ) < left)) (s1 := s) (et_not (et_val (ed_cl (ea_cons (ed_cl (ea_cons (ed_var (d := .lst ((L.map lowQ).map fr)) 4 rfl (.inl rfl) rfl) ea_nil) (hr.mono (by decide)) Rlow) (ea_cons (ed_var (d := fr left) 3 rfl (.inl rfl) rfl) ea_nil)) (hr.mono (by decide)) (rn_lless T.toTx (zlow.mono (by decide)) (zl.mono (by decide)))))) (fun h => ?_) (fun h => ?_))
  · have h : ¬ lsum (L.map lowQ) < left := by simpa using h
    rw [if_neg h]
    exact bk_cons (bs_ret (ed_var (d := .lst ((L.map lowQ).map fr)) 4 rfl (.inl rfl) rfl) ⟨rfl, rfl⟩)
  · have h1 : lsum (L.map lowQ) < left := by simpa using h
    rw [if_pos h1]
    refine bk_nil ?_
    by_cases hs : ∀ x ∈ L, (highQ x).isSome = true
    · have hf := high_frs hs
      refine bk_cons (bs_if (t := !decide (left < lsum (L.map highD))) (s1 := s) (Ew.et (ew_andT (Cp.et (Cp.is (cp_notInV hr ed_non (ed_var (d := .lst (L.map fun x => hqD (highQ x))) 5 rfl (.inl rfl) rfl).ev eqC_non (eqDs_hq L).lst.eqC) (by rw [none_in, decide_eq_true hs]))) (ew_and1 (et_not (et_val (ed_cl (ea_cons (ed_var (d := fr left) 3 rfl (.inl rfl) rfl) (ea_cons (ed_cl (ea_cons (ed_var (d := .lst ((L.map highD).map fr)) 5 rfl (.inl rfl) (by rw [← hf]; rfl)) ea_nil) (hr.mono (by decide)) Rhigh) ea_nil)) (hr.mono (by decide)) (rn_lless T.toTx (zl.mono (by decide)) (zhigh.mono (by decide))))))))) (fun h => ?_) (fun h => ?_))
      · have h : ¬ left < lsum (L.map highD) := by simpa using h
        rw [if_pos ⟨hs, h⟩]
        exact bk_cons (bs_ret (ed_var (d := .lst ((L.map highD).map fr)) 5 rfl (.inl rfl) (by rw [← hf]; rfl)) ⟨rfl, rfl⟩)
      · have h : left < lsum (L.map highD) := by simpa using h
        have h2 : ¬ ((∀ x ∈ L, (highQ x).isSome = true) ∧ ¬ left < lsum (L.map highD)) := fun z => z.2 h
        rw [if_neg h2]
        obtain ⟨zv, Rv⟩ := rn_level (s := s) T hl ok zl h1 h2
        generalize goLev L left (inOrd (allT L)) = v at zv Rv
        refine bk_nil (bk_cons (bs_set (d := fr v) (s1 := s) 7 nd rfl (.inr rfl) (ed_cl (ea_cons (ed_var (d := .lst (L.map liD)) 0 rfl (.inl rfl) rfl) (ea_cons (ed_var (d := fr left) 3 rfl (.inl rfl) rfl) ea_nil)) (hr.mono (by decide)) Rv) ?_))
        exact bk_cons (bs_ret (Ed.is (El.ed (el_mapM (s1 := s) [("_law_item_here", 6)] liD (fun x : LI => fr (lsize v x)) (xs := L) rfl nd (ei_seq (ed_var (d := .lst (L.map liD)) 0 rfl (.inl rfl) rfl) (.inl rfl)) (blkOk_by rfl) (sl1000 (by omega)) (fun x mx => ⟨_, _, fun b => eg_name 6 nd rfl (.inl rfl), by decide, fun b => ed_cl (ea_cons (ed_var (d := liD x) 6 rfl (.inl rfl) rfl) (ea_cons (ed_var (d := fr v) 7 rfl (.inr (.inl rfl)) rfl) ea_nil)) (hr.mono (by decide)) (rn_size T (okl x mx) (zv.mono (by decide)))⟩))) (by rw [List.map_map]; rfl)) ⟨rfl, rfl⟩)
    · have h2 : ¬ ((∀ x ∈ L, (highQ x).isSome = true) ∧ ¬ left < lsum (L.map highD)) := fun z => hs z.1
      rw [if_neg h2]
      obtain ⟨zv, Rv⟩ := rn_level (s := s) T hl ok zl h1 h2
      generalize goLev L left (inOrd (allT L)) = v at zv Rv
      refine bk_cons (bs_ifF (Ew.et (ew_andF (Cp.et (Cp.is (cp_notInV hr ed_non (ed_var (d := .lst (L.map fun x => hqD (highQ x))) 5 rfl (.inl rfl) rfl).ev eqC_non (eqDs_hq L).lst.eqC) (by rw [none_in, decide_eq_false hs]))))) ?_)
      refine bk_nil (bk_cons (bs_set (d := fr v) (s1 := s) 7 nd rfl (.inr rfl) (ed_cl (ea_cons (ed_var (d := .lst (L.map liD)) 0 rfl (.inl rfl) rfl) (ea_cons (ed_var (d := fr left) 3 rfl (.inl rfl) rfl) ea_nil)) (hr.mono (by decide)) Rv) ?_))
      exact bk_cons (bs_ret (Ed.is (El.ed (el_mapM (s1 := s) [("_law_item_here", 6)] liD (fun x : LI => fr (lsize v x)) (xs := L) rfl nd (ei_seq (ed_var (d := .lst (L.map liD)) 0 rfl (.inl rfl) rfl) (.inl rfl)) (blkOk_by rfl) (sl1000 (by omega)) (fun x mx => ⟨_, _, fun b => eg_name 6 nd rfl (.inl rfl), by decide, fun b => ed_cl (ea_cons (ed_var (d := liD x) 6 rfl (.inl rfl) rfl) (ea_cons (ed_var (d := fr v) 7 rfl (.inr (.inl rfl)) rfl) ea_nil)) (hr.mono (by decide)) (rn_size T (okl x mx) (zv.mono (by decide)))⟩))) (by rw [List.map_map]; rfl)) ⟨rfl, rfl⟩)
theorem rn_pless (T : Tx E) {a b : Rat} (ha : Sz 3000 a) (hb : Sz 3000 b) : Rn E 1 "is_less" [fr a, fr b] s (.bl (decide (a < b))) s := by
  refine T.d_is_less.rn sc_is_less rfl rfl fun fa cdv A outer sh H0 EX S0 p hr => ?_
  conv => arg 2; whnf
  refine bk_cons (bs_ret (Ed.is (Cp.ed (cp_lt (ed_bin (ed_ix (ed_var 0 rfl (.inl rfl) rfl) ed_int rfl) (ed_ix (ed_var 1 rfl (.inl rfl) rfl) ed_int rfl) rfl (mulW ha.n hb.d)) (ed_bin (ed_ix (ed_var 1 rfl (.inl rfl) rfl) ed_int rfl) (ed_ix (ed_var 0 rfl (.inl rfl) rfl) ed_int rfl) rfl (mulW hb.n ha.d)))) ?_) ⟨rfl, rfl⟩)
  exact congrArg D.bl (decide_eq_decide.mpr (Rat.lt_iff _ _).symm)
theorem take1_ne (F : List Rat) (n : Nat) (q : Rat) : (!eqbs (((F.drop n).take 1).map fr) [fr q]) = !(((F.drop n).take 1).any fun p => decide (p = q)) := by
  cases (F.drop n) with
  | nil => rfl
  | cons a A =>
    show (!((fr a).eqb (fr q) && eqbs [] [])) = !(decide (a = q) || false)
    rw [fr_eqb]
    cases decide (a = q) <;> rfl
theorem rn_sorted_rooms (T : Tc E) {qs : List Rat} (h : ∀ q ∈ qs, Sz 3000 q) (hl : qs.length ≤ 1000) : Rn E 3 "sorted_rooms" [.lst (qs.map fr)] s (.lst ((inOrd qs).map fr)) s := by
  refine T.d_sorted_rooms.rn sc_sorted_rooms rfl rfl fun fa cdv A outer sh H0 EX S0 p hr => ?_
  conv => arg 2; whnf
  have nd := sc_sorted_rooms.nd
  refine bk_cons (bs_set (d := .lst ((inOrd (qs.take 0)).map fr)) (s1 := s) 1 nd rfl (.inl rfl) (El.ed (el_lst ea_nil)) ?_)
  refine bk_cons (bs_for (s1 := s) PassesOwn.never rfl (ei_seq (ed_var (d := .lst (qs.map fr)) 0 rfl (.inl rfl) rfl) (.inl rfl)) (fun i ρ s' => s' = s ∧ ∃ g2 g3, ρ = [.val (.lst (qs.map fr)), .val (.lst ((inOrd (qs.take i)).map fr)), g2, g3, .no]) ⟨rfl, _, _, rfl⟩ ?_ ?_)
  · rintro i d ρ' s' hi ⟨rfl, g2, g3, rfl⟩
    rw [List.getElem?_map] at hi
    cases e : qs[i]? with
    | none => rw [e] at hi; cases hi
    | some q =>
    rw [e] at hi; cases hi
    have zq := h q (List.mem_of_getElem? e)
    have e2 : inOrd (qs.take (i + 1)) = insQ (inOrd (qs.take i)) q := by
      unfold inOrd
      rw [List.take_add_one, e, List.foldl_append]; rfl
    have lt : (inOrd (qs.take i)).length ≤ 1000 := by
      have h1 : (inOrd (qs.take i)).length ≤ _ := inOrd_len
      rw [List.length_take] at h1; omega
    have zF : ∀ p ∈ inOrd (qs.take i), Sz 3000 p := fun p m => h p (List.mem_of_mem_take (inOrd_mem p m))
    rw [e2]
    generalize inOrd (qs.take i) = F at lt zF
    refine ⟨_, _, eg_name 2 nd rfl (.inr rfl), ?_⟩
    have hat : (F.filter fun p => decide (p < q)).length ≤ F.length := List.length_filter_le _ _
    generalize hn : (F.filter fun p => decide (p < q)).length = n at hat
    show Bk _ _ ([.val (.lst (qs.map fr)), .val (.lst (F.map fr)), .val (fr q), g3, .no] : List G) s' _
    refine bk_cons (bs_set (d := .int n) (s1 := s') 3 nd rfl (.inl rfl) (Ed.is (ed_len T.bf (El.ed (el_filterM (s1 := s') [("one", 4)] fr fr (fun p : Rat => decide (p < q)) (xs := F) rfl nd (ei_seq (ed_var (d := .lst (F.map fr)) 1 rfl (.inl rfl) rfl) (.inl rfl)) (blkOk_by rfl) (Nat.le_trans lt (by decide)) (fun p mp => ⟨_, _, fun b => eg_name 4 nd rfl (.inl rfl), by decide, fun b => et_val (ed_cl (ea_cons (ed_var (d := fr p) 4 rfl (.inl rfl) rfl) (ea_cons (ed_var (d := fr q) 2 rfl (.inr (.inl rfl)) rfl) ea_nil)) (hr.mono (by decide)) (rn_pless T.toTx (zF p mp) zq)), fun _ b => ed_var (d := fr p) 4 rfl (.inl rfl) rfl⟩))) rfl) (by rw [List.length_map, hn])) ?_)
    show Bk _ _ ([.val (.lst (qs.map fr)), .val (.lst (F.map fr)), .val (fr q), .val (.int n), .no] : List G) s' _
    have hcut : Gh.cutD (F.map fr) (some (n : Int)) (some ((n : Int) + 1)) = ((F.drop n).take 1).map fr := by
      rw [cut_one _ _ (by rw [List.length_map]; exact hat), List.map_take, List.map_drop]
    refine bk_cons (bs_if (t := !(((F.drop n).take 1).any fun p => decide (p = q))) (s1 := s') (Cp.et (Cp.is (cp_ne hr (El.ed (El.is (el_slice (ed_var (d := .lst (F.map fr)) 1 rfl (.inl rfl) rfl) (.some (ed_var (d := .int n) 3 rfl (.inl rfl) rfl)) (.some (ed_bin (ed_var (d := .int n) 3 rfl (.inl rfl) rfl) ed_int rfl trivial))) hcut)) (El.ed (el_lst (ea_cons (ed_var (d := fr q) 2 rfl (.inr (.inl rfl)) rfl) ea_nil))) (eqC_frs _) (eqC_frs [q])) (by rw [lst_eqb]; exact take1_ne F n q))) (fun hb => ?_) (fun hb => ?_))
    · have hb' : (((F.drop n).take 1).any fun p => decide (p = q)) = false := by simpa using hb
      refine bk_cons (bs_set (d := .lst ((insQ F q).map fr)) (s1 := s') 1 nd rfl (.inl rfl) (El.ed (El.is (el_cat ?_ (El.ed (el_cat ?_ (El.ed (el_slice (ed_var (d := .lst (F.map fr)) 1 rfl (.inl rfl) rfl) .none (.some (ed_var (d := .int n) 3 rfl (.inl rfl) rfl)))) (El.ed (el_lst (ea_cons (ed_var (d := fr q) 2 rfl (.inr (.inl rfl)) rfl) ea_nil))))) (El.ed (el_slice (ed_var (d := .lst (F.map fr)) 1 rfl (.inl rfl) rfl) (.some (ed_var (d := .int n) 3 rfl (.inl rfl) rfl)) .none))) ?_)) (bk_nil (bk_nil ⟨rfl, _, _, rfl⟩)))
      · rw [cutD_take, cutD_drop]
        simp only [List.length_append, List.length_take, List.length_drop, List.length_map, List.length_cons, List.length_nil]
        exact Nat.le_trans (show _ ≤ 3000 by omega) (by decide)
      · rw [cutD_take]
        simp only [List.length_take, List.length_map, List.length_cons, List.length_nil]
        exact Nat.le_trans (show _ ≤ 3000 by omega) (by decide)
      · rw [cutD_take, cutD_drop]
        unfold insQ
        rw [hn, hb', if_neg (by decide), List.map_append, List.map_append, List.map_take, List.map_drop]; rfl
    · have hb' : (((F.drop n).take 1).any fun p => decide (p = q)) = true := by simpa using hb
      refine bk_nil (bk_nil ⟨rfl, .val (fr q), .val (.int n), ?_⟩)
      unfold insQ
      rw [hn, hb', if_pos rfl]
  · rintro ρ' s' ⟨rfl, g2, g3, rfl⟩
    refine bk_cons (bs_ret (ed_var 1 rfl (.inl rfl) rfl) ⟨?_, rfl⟩)
    rw [List.length_map, List.take_length]
end Law
set_option Elab.async false
set_option linter.all false
set_option maxRecDepth 100000
set_option maxHeartbeats 1000000
/-! pieces, as the program walks them -/
namespace Law
open PySem PySem.Spec PyProof.Rows L2 Gh
variable {E : En} {s : Sx}
def fmL (F : List Lin) : D := .tup (F.map fp)
def pcD (p : Pc3) : D := .tup [fr p.1, hqD p.2.1, fmL p.2.2]
theorem last_cases {α : Type} (F : List α) : F = [] ∨ ∃ A y, F = A ++ [y] := by
  rcases List.eq_nil_or_concat F with h | ⟨A, y, h⟩
  · exact .inl h
  · exact .inr ⟨A, y, by rw [h, List.concat_eq_append]⟩
theorem fp_eqb (f g : Lin) : (fp f).eqb (fp g) = decide (f = g) := by
  obtain ⟨a, b⟩ := f
  obtain ⟨c, d⟩ := g
  show (D.tup [fr a, fr b]).eqb (.tup [fr c, fr d]) = _
  rw [tup_eqb]
  show ((fr a).eqb (fr c) && ((fr b).eqb (fr d) && true)) = _
  rw [fr_eqb, fr_eqb, Bool.and_true, ← Bool.decide_and]
  refine decide_eq_decide.mpr ?_
  rw [Prod.mk.injEq]
theorem eqbs_fp : ∀ a b : List Lin, eqbs (a.map fp) (b.map fp) = decide (a = b)
  | [], [] => rfl
  | [], y :: b => rfl
  | x :: a, [] => rfl
  | x :: a, y :: b => by
    show ((fp x).eqb (fp y) && eqbs (a.map fp) (b.map fp)) = _
    rw [fp_eqb, eqbs_fp a b, ← Bool.decide_and]
    refine decide_eq_decide.mpr ?_
    rw [List.cons.injEq]
theorem fmL_eqb (a b : List Lin) : (fmL a).eqb (fmL b) = decide (a = b) := by unfold fmL; rw [tup_eqb, eqbs_fp]
theorem eqD_fmL (F : List Lin) : eqD 3 (fmL F) := (eqDs.of (n := 2) fun x m => by
  obtain ⟨f, _, rfl⟩ := List.mem_map.mp m
  exact .fm f.1 f.2).tup
theorem mrgStep_len (F : List Pc3) (p : Pc3) : (mrgStep F p).length ≤ F.length + 1 := by
  rcases last_cases F with rfl | ⟨A, y, rfl⟩
  · exact Nat.le_refl _
  · rw [mrgStep_app]
    split
    · simp
    · simp
theorem mrg_len : ∀ (ps F : List Pc3), (ps.foldl mrgStep F).length ≤ F.length + ps.length
  | [], F => Nat.le_refl _
  | p :: ps, F => by
    have h1 := mrg_len ps (mrgStep F p)
    have h2 := mrgStep_len F p
    rw [List.foldl_cons, List.length_cons]
    omega
theorem ixN_last (n : Nat) : ixN (n + 1) (-1) = some n := by
  unfold ixN
  simp
  omega
theorem set_last1 {α : Type} (A : List α) (a b : α) : (A ++ [a]).set A.length b = A ++ [b] := by
  rw [List.set_append_right _ _ (Nat.le_refl _), Nat.sub_self]; rfl
theorem rn_merged (T : Tc E) {P : List Pc3} (hl : P.length ≤ 900) : Rn E 1 "merged_pieces" [.lst (P.map pcD)] s (.lst ((mrg P).map pcD)) s := by
  refine T.d_merged_pieces.rn sc_merged_pieces rfl rfl fun fa cdv A outer sh H0 EX S0 p hr => ?_
  conv => arg 2; whnf
  have nd := sc_merged_pieces.nd
  refine bk_cons (bs_setOwn (ds := ((P.take 0).foldl mrgStep []).map pcD) 1 nd rfl (.inl rfl) (el_lst ea_nil) ?_)
  refine bk_cons (bs_forM (s1 := s) pcD (xs := P) PassesOwn.never rfl (ei_seq (ed_var (d := .lst (P.map pcD)) 0 rfl (.inl rfl) rfl) (.inl rfl)) (fun i ρ s' => s' = s ∧ ∃ g2 g3 g4, ρ = [.val (.lst (P.map pcD)), .own (((P.take i).foldl mrgStep []).map pcD), g2, g3, g4]) ⟨rfl, _, _, _, rfl⟩ ?_ ?_)
  · rintro i q ρ' s' hi ⟨rfl, g2, g3, g4, rfl⟩
    have hF := mrg_len (P.take i) []
    rw [List.length_take, List.length_nil, Nat.zero_add] at hF
    rw [take_foldl hi]
    generalize (P.take i).foldl mrgStep [] = F at hF
    refine ⟨_, _, eg_tup rfl (egs_cons (eg_name 2 nd rfl (.inl rfl)) (egs_cons (eg_name 3 nd rfl (.inl rfl)) (egs_cons (eg_name 4 nd rfl (.inl rfl)) egs_nil))), ?_⟩
    show Bk _ _ ([.val (.lst (P.map pcD)), .own (F.map pcD), .val (fr q.1), .val (hqD q.2.1), .val (fmL q.2.2)] : List G) s' _
    have hFs : (F.map pcD).length < 1000 := by rw [List.length_map]; omega
    rcases last_cases F with rfl | ⟨A1, y, rfl⟩
    · refine bk_cons (bs_ifF (Ew.et (ew_andF (Cp.et (Cp.is (cp_neNil (xs := []) hr (ev_own 1 rfl (.inl rfl) rfl) (El.ev (el_lst ea_nil))) rfl)))) ?_)
      exact bk_cons (bs_append 1 (d := pcD q) (s1 := s') rfl (.inl rfl) rfl (ed_tup (ea_cons (ed_var (d := fr q.1) 2 rfl (.inl rfl) rfl) (ea_cons (ed_var (d := hqD q.2.1) 3 rfl (.inl rfl) rfl) (ea_cons (ed_var (d := fmL q.2.2) 4 rfl (.inl rfl) rfl) ea_nil)))) (by decide) (bk_nil (bk_nil ⟨rfl, _, _, _, rfl⟩)))
    · rw [List.map_append] at hFs
      rw [mrgStep_app, List.map_append]
      show Bk _ _ ([.val (.lst (P.map pcD)), .own (A1.map pcD ++ [pcD y]), .val (fr q.1), .val (hqD q.2.1), .val (fmL q.2.2)] : List G) s' _
      refine bk_cons (bs_if (t := decide (y.2.2 = q.2.2)) (s1 := s') (Ew.et (ew_andT (Cp.et (Cp.is (cp_neNil (xs := A1.map pcD ++ [pcD y]) hr (ev_own 1 rfl (.inl rfl) rfl) (El.ev (el_lst ea_nil))) (by cases A1 <;> rfl))) (ew_and1 (Cp.et (Cp.is (cp_eq hr (ed_ix (d := fmL y.2.2) (ed_ixV (d := pcD y) (ev_own 1 rfl (.inl rfl) rfl) (ed_neg ed_int) (L2.atI_last (A1.map pcD) (pcD y))) ed_int rfl) (ed_var (d := fmL q.2.2) 4 rfl (.inl rfl) rfl) (eqD_fmL _).eqC (eqD_fmL _).eqC) (fmL_eqb _ _)))))) (fun h => ?_) (fun h => ?_))
      · have h := of_decide_eq_true h
        rw [if_pos h]
        refine bk_cons (bs_stO 1 (n := pcD (y.1, q.2.1, q.2.2)) (s1 := s') (s2 := s') (l := -1) (j := (A1.map pcD).length) rfl (.inl rfl) rfl (ed_tup (ea_cons (ed_ix (d := fr y.1) (ed_ixV (d := pcD y) (ev_own 1 rfl (.inl rfl) rfl) (ed_neg ed_int) (L2.atI_last (A1.map pcD) (pcD y))) ed_int rfl) (ea_cons (ed_var (d := hqD q.2.1) 3 rfl (.inl rfl) rfl) (ea_cons (ed_var (d := fmL q.2.2) 4 rfl (.inl rfl) rfl) ea_nil)))) (ed_neg ed_int) (by rw [List.length_append]; exact ixN_last _) ?_)
        rw [set_last1]
        exact bk_nil (bk_nil ⟨rfl, _, _, _, by rw [List.map_append]; rfl⟩)
      · have h := of_decide_eq_false h
        rw [if_neg h]
        exact bk_cons (bs_append 1 (d := pcD q) (s1 := s') rfl (.inl rfl) rfl (ed_tup (ea_cons (ed_var (d := fr q.1) 2 rfl (.inl rfl) rfl) (ea_cons (ed_var (d := hqD q.2.1) 3 rfl (.inl rfl) rfl) (ea_cons (ed_var (d := fmL q.2.2) 4 rfl (.inl rfl) rfl) ea_nil)))) (sl1000 hFs) (bk_nil (bk_nil ⟨rfl, _, _, _, by rw [List.map_append, List.map_append]; rfl⟩)))
  · rintro ρ' s' ⟨rfl, g2, g3, g4, rfl⟩
    rw [List.take_length]
    refine bk_freeze 1 rfl ?_
    exact bk_cons (bs_ret (ed_var 1 rfl (.inl rfl) rfl) ⟨rfl, rfl⟩)
theorem rn_worth (T : Tc E) {f : Lin} {r : Rat} (hf : Zf 1400 f) (hr0 : Sz 1400 r) : Rn E 3 "worth_at" [fp f, fr r] s (fr (lin f r)) s := by
  refine T.d_worth_at.rn sc_worth_at rfl rfl fun fa cdv A outer sh H0 EX S0 p hr => ?_
  conv => arg 2; whnf
  exact bk_cons (bs_ret (ed_cl (ea_cons (ed_ix (d := fr f.1) (ed_var (d := fp f) 0 rfl (.inl rfl) rfl) ed_int rfl) (ea_cons (ed_cl (ea_cons (ed_ix (d := fr f.2) (ed_var (d := fp f) 0 rfl (.inl rfl) rfl) ed_int rfl) (ea_cons (ed_var (d := fr r) 1 rfl (.inl rfl) rfl) ea_nil)) (hr.mono (by decide)) (rn_times T.toTx (hf.2.mono (by decide)) (hr0.mono (by decide)))) ea_nil)) (hr.mono (by decide)) (rn_plus T.toTx (hf.1.mono (by decide)) ((hf.2.mul hr0).mono (by decide)))) ⟨rfl, rfl⟩)
end Law
set_option Elab.async false
set_option linter.all false
set_option maxRecDepth 100000
set_option maxHeartbeats 1000000
/-! where rows part, as the program walks it -/
namespace Law
open PySem PySem.Spec PyProof.Rows L2 Gh
variable {E : En} {s : Sx}
def Pz (P : List Pc3) : Prop := P ≠ [] ∧ P.length ≤ 400 ∧ ∀ p ∈ P, Sz 1400 p.1 ∧ p.2.2.length ≤ 100 ∧ ∀ f ∈ p.2.2, Zf 1400 f
end Law
set_option Elab.async false
set_option linter.all false
set_option maxRecDepth 100000
set_option maxHeartbeats 1000000
/-! corners -/
namespace Law
open PySem PySem.Spec PyProof.Rows L2 Gh
variable {E : En} {s : Sx} {K : Addr} {g : Str → Addr}
theorem turnsF_z {L : List LI} (ok : ∀ x ∈ L, LOk x) (up : Bool) : ∀ f ∈ turnsF 0 (L.map LI.it) up, Zf 72 f := fun f m => by
  obtain ⟨t, et, _, _, hall⟩ := turns_spec 0 (L.map LI.it) up
  rw [et] at m
  rcases List.mem_cons.mp m with rfl | m
  · exact .zero
  · rcases hall f m with rfl | ⟨x, mx, h⟩
    · exact .zero
    · obtain ⟨y, my, rfl⟩ := List.mem_map.mp mx
      exact (ok y my).zi.turns up f h
theorem turnsF_len (L : List LI) (up : Bool) : (turnsF 0 (L.map LI.it) up).length ≤ 1 + 2 * L.length := by
  unfold turnsF
  refine Nat.le_trans (tFold_len (r := 0) _ _) ?_
  rw [List.length_singleton]
  have h1 := fm_len (n := 2) (f := fun x => turnsOf x up) (L.map LI.it) fun x _ => by
    unfold turnsOf
    split
    · rw [List.length_map]
      unfold bnds
      cases x.hi <;> simp
    · simp
  rw [List.length_map] at h1
  omega
theorem rn_corners (T : Tc E) (B : Ro E K g) {L : List LI} {n : Nat} (hl : L.length ≤ 10) (ok : ∀ x ∈ L, LOk x) (hn : n < 2 ^ 20) : RnA E 8 (g "all_corners") [rowD K L n] s (.lst ((inOrd (cornQ L n)).map fr)) s := by
  obtain ⟨fa, hm, A0⟩ := ask_plain T
  have zi : ∀ x ∈ L.map LI.it, Zi x := fun x m => by
    obtain ⟨y, my, rfl⟩ := List.mem_map.mp m
    exact (ok y my).zi
  have hil : (L.map LI.it).length ≤ 10 := by rw [List.length_map]; exact hl
  have zg : Sz 40 ((gapsQ L n : Int) : Rat) := by
    refine sz_int ?_
    unfold gapsQ
    rw [Int.natAbs_mul]
    have h1 : ((L.length : Int) - 1).natAbs ≤ 2 ^ 7 := by omega
    have h2 : ((n : Int)).natAbs < 2 ^ 20 := by omega
    calc ((n : Int)).natAbs * ((L.length : Int) - 1).natAbs ≤ 2 ^ 20 * 2 ^ 7 := Nat.mul_le_mul (Nat.le_of_lt h2) h1
      _ < 2 ^ 40 := by decide
  refine B.d_corners.rn sc_Row_all_corners rfl rfl fun cdv A outer sh H0 EX S0 p hr => ?_
  conv => arg 2; whnf
  have nd := sc_Row_all_corners.nd
  let Gc : Bool → List Rat := fun up => (turnsF 0 (L.map LI.it) up).map fun f => (totF 0 (L.map LI.it) f up).1 + ((gapsQ L n : Int) : Rat)
  have hlen : ∀ up, (Gc up).length ≤ 21 := fun up => by
    show ((turnsF 0 (L.map LI.it) up).map _).length ≤ 21
    rw [List.length_map]
    have := turnsF_len L up
    omega
  refine bk_cons (bs_parVO 1 2 (d2 := .lst ((L.map LI.it).map itD)) (s1 := s) (s2 := s) (ds := (([true, false].take 0).flatMap Gc).map fr) rfl nd rfl rfl (by decide) rfl rfl (ed_cl (ea_cons (ed_fld (d := .lst (L.map liD)) B.cls B.n_items (ed_var (d := rowD K L n) 0 rfl (.inl rfl) rfl) rfl) ea_nil) (hr.mono (by decide)) (rn_item_forms T (by omega))) (el_lst ea_nil) ?_)
  refine bk_cons (bs_forM (s1 := s) (fun up : Bool => D.int (wayI up)) (xs := [true, false]) PassesOwn.never rfl (ei_seq (x := .tup ([true, false].map fun up => D.int (wayI up))) (Ed.is (ed_tup (ea_cons ed_int (ea_cons (ed_neg ed_int) ea_nil))) rfl) (.inr rfl)) (fun i ρ s' => s' = s ∧ ∃ g3 g4, ρ = [.val (rowD K L n), .val (.lst ((L.map LI.it).map itD)), .own ((([true, false].take i).flatMap Gc).map fr), g3, g4]) ⟨rfl, _, _, rfl⟩ ?_ ?_)
  · rintro i up ρ' s' hi ⟨rfl, g3, g4, rfl⟩
    have hi2 : i < 2 := (List.getElem?_eq_some_iff.mp hi).1
    have hA : (([true, false].take i).flatMap Gc).length ≤ 42 := by
      have := fm_len (n := 21) (f := Gc) ([true, false].take i) fun x _ => hlen x
      rw [List.length_take] at this
      simp only [List.length_cons, List.length_nil] at this
      omega
    rw [flatMap_take_succ hi Gc]
    have hGu : Gc up = (turnsF 0 (L.map LI.it) up).map fun f => (totF 0 (L.map LI.it) f up).1 + ((gapsQ L n : Int) : Rat) := rfl
    have hGl := hlen up
    rw [hGu] at hGl ⊢
    generalize ([true, false].take i).flatMap Gc = P at hA
    have zt := turnsF_z ok up
    have RT := rn_turning_levels (s := s') (up := up) T (A0 _) zi hil
    rw [List.length_map] at hGl
    generalize turnsF 0 (L.map LI.it) up = ts at zt RT hGl
    refine ⟨_, _, eg_name 3 nd rfl (.inl rfl), ?_⟩
    show Bk _ _ ([.val (rowD K L n), .val (.lst ((L.map LI.it).map itD)), .own (P.map fr), .val (.int (wayI up)), g4] : List Gh.G) s' _
    refine bk_cons (bs_forM (s1 := s') fp (xs := ts) PassesOwn.never rfl (ei_seq (ed_cl (ea_cons (ed_var (d := .lst ((L.map LI.it).map itD)) 1 rfl (.inl rfl) rfl) (ea_cons (ed_var (d := .int (wayI up)) 3 rfl (.inl rfl) rfl) (ea_cons (ed_fn hm) ea_nil))) (hr.mono (by decide)) RT) (.inl rfl)) (fun j ρ s2 => s2 = s' ∧ ∃ g4, ρ = [.val (rowD K L n), .val (.lst ((L.map LI.it).map itD)), .own ((P ++ (ts.take j).map fun f => (totF 0 (L.map LI.it) f up).1 + ((gapsQ L n : Int) : Rat)).map fr), .val (.int (wayI up)), g4]) ⟨rfl, g4, by rw [List.take_zero, List.map_nil, List.append_nil]⟩ ?_ ?_)
    · rintro j f ρ2 s2 hj ⟨rfl, g4, rfl⟩
      have mf := List.mem_of_getElem? hj
      have zT : Zf 1430 (totF 0 (L.map LI.it) f up) := zf_tot (n := 72) zi (zt f mf) (by decide) hil
      refine ⟨_, _, eg_name 4 nd rfl (.inl rfl), ?_⟩
      show Bk _ _ ([.val (rowD K L n), .val (.lst ((L.map LI.it).map itD)), .own ((P ++ (ts.take j).map fun f => (totF 0 (L.map LI.it) f up).1 + ((gapsQ L n : Int) : Rat)).map fr), .val (.int (wayI up)), .val (fp f)] : List Gh.G) s2 _
      refine bk_cons (bs_append 2 (d := fr ((totF 0 (L.map LI.it) f up).1 + ((gapsQ L n : Int) : Rat))) (s1 := s2) rfl (.inl rfl) rfl (ed_cl (ea_cons (ed_ix (d := fr (totF 0 (L.map LI.it) f up).1) (ed_cl (ea_cons (ed_var (d := .lst ((L.map LI.it).map itD)) 1 rfl (.inl rfl) rfl) (ea_cons (ed_var (d := fp f) 4 rfl (.inl rfl) rfl) (ea_cons (ed_var (d := .int (wayI up)) 3 rfl (.inl rfl) rfl) (ea_cons (ed_fn hm) ea_nil)))) (hr.mono (by decide)) (rn_total_at T (A0 _) zi (zt f mf) (by decide) hil)) ed_int rfl) (ea_cons (ed_meth0 B.cls B.m_gaps (ed_var (d := rowD K L n) 0 rfl (.inl rfl) rfl) (by decide) (hr.mono (by decide)) (rn_all_gaps T B (by omega) hn)) ea_nil)) (hr.mono (by decide)) (rn_plus T.toTx (zT.1.mono (by decide)) (zg.mono (by decide)))) (sl1000 (by rw [List.length_map, List.length_append, List.length_map, List.length_take]; omega)) ?_)
      exact bk_nil ⟨rfl, .val (fp f), by rw [List.take_add_one, hj]; simp only [List.map_append, List.append_assoc]; rfl⟩
    · rintro ρ2 s2 ⟨rfl, g4, rfl⟩
      rw [List.take_length]
      exact bk_nil ⟨rfl, _, _, rfl⟩
  · rintro ρ' s' ⟨rfl, g3, g4, rfl⟩
    have hc : ([true, false].take [true, false].length).flatMap Gc = cornQ L n := rfl
    rw [hc]
    have hcl : (cornQ L n).length ≤ 42 := by
      have := fm_len (n := 21) (f := Gc) [true, false] fun x _ => hlen x
      exact this
    have hcz : ∀ q ∈ cornQ L n, Sz 3000 q := fun q m => by
      obtain ⟨up, _, m⟩ := List.mem_flatMap.mp m
      obtain ⟨f, mf, rfl⟩ := List.mem_map.mp m
      exact ((zf_tot (n := 72) zi (turnsF_z ok up f mf) (by decide) hil).1.add zg).mono (by decide)
    generalize cornQ L n = C at hcl hcz
    refine bk_freeze 2 rfl ?_
    exact bk_cons (bs_ret (ed_cl (ea_cons (ed_var (d := .lst (C.map fr)) 2 rfl (.inl rfl) rfl) ea_nil) (hr.mono (by decide)) (rn_sorted_rooms T hcz (by omega))) ⟨rfl, rfl⟩)
end Law
set_option Elab.async false
set_option linter.all false
set_option maxRecDepth 100000
set_option maxHeartbeats 1000000
/-! pieces between corners -/
namespace Law
open PySem PySem.Spec PyProof.Rows L2 Gh
variable {E : En} {s : Sx} {K : Addr} {g : Str → Addr}
def innQ (b : Rat) : Option Rat → Rat
  | none => b + 1
  | some l => (b + l) * mkRat 1 2
theorem progRaw_get {L : List LI} {n : Nat} : ∀ {Es : List Rat} {i : Nat} {b : Rat}, Es[i]? = some b → (hiP (progRaw L n Es))[i]? = some (b, Es[i + 1]?, formsQ L n (innQ b Es[i + 1]?))
  | [], _, _, e => by cases e
  | [a], 0, b, e => by cases e; rfl
  | [a], i + 1, b, e => by cases e
  | a :: l :: r, 0, b, e => by
    cases e
    cases r <;> rfl
  | a :: l :: r, i + 1, b, e => by
    have ih := progRaw_get (L := L) (n := n) (Es := l :: r) (i := i) (b := b) e
    have e2 : (hiP (progRaw L n (a :: l :: r)))[i + 1]? = (hiP (progRaw L n (l :: r)))[i]? := by
      cases r <;> rfl
    rw [e2, ih]
    rfl
theorem progRaw_len {L : List LI} {n : Nat} : ∀ {Es : List Rat}, (hiP (progRaw L n Es)).length = Es.length
  | [] => rfl
  | [a] => rfl
  | a :: l :: r => by
    have ih := progRaw_len (L := L) (n := n) (Es := l :: r)
    have e2 : (hiP (progRaw L n (a :: l :: r))).length = (hiP (progRaw L n (l :: r))).length + 1 := by
      cases r <;> rfl
    rw [e2, ih]; rfl
end Law
set_option Elab.async false
set_option linter.all false
set_option maxRecDepth 100000
set_option maxHeartbeats 1000000
/-! pieces between corners -/
namespace Law
open PySem PySem.Spec PyProof.Rows L2 Gh
variable {E : En} {s : Sx} {K : Addr} {g : Str → Addr}
theorem half_fr : fr (mkRat 1 2) = .tup [.int 1, .int 2] := by
  have h1 : (mkRat 1 2).num = 1 := by decide
  have h2 : (mkRat 1 2).den = 2 := by decide
  unfold fr
  rw [h1, h2]; rfl
theorem rn_pieces_between (T : Tc E) {L : List LI} {n : Nat} {Cs : List Rat} {dg : D} (hC : ∀ q ∈ Cs, Sz 500 q) (hl : Cs.length ≤ 100) (ha : Ascd Cs)
    (A : ∀ r, 0 < r → Sz 1100 r → RnV E 11 dg [fr r] s (.lst ((formsQ L n r).map fp)) s) :
    Rn E 12 "pieces_between" [.lst (Cs.map fr), dg] s (.lst ((mrg (hiP (progRaw L n (0 :: Cs.filter fun q => decide (0 < q))))).map pcD)) s := by
  refine T.d_pieces_between.rn sc_pieces_between rfl rfl fun fa cdv A' outer sh H0 EX S0 p hr => ?_
  conv => arg 2; whnf
  have nd := sc_pieces_between.nd
  have hasc : Ascd (0 :: Cs.filter fun q => decide (0 < q)) := List.pairwise_cons.mpr ⟨fun q mq => of_decide_eq_true (List.mem_filter.mp mq).2, ha.filter _⟩
  have hz : ∀ q ∈ 0 :: Cs.filter fun q => decide (0 < q), Sz 500 q ∧ 0 ≤ q := fun q m => by
    rcases List.mem_cons.mp m with rfl | m
    · exact ⟨sz_zero, Rat.le_refl⟩
    · have := List.mem_filter.mp m
      exact ⟨hC q this.1, Rat.le_of_lt (of_decide_eq_true this.2)⟩
  have hel : (0 :: Cs.filter fun q => decide (0 < q)).length ≤ 101 := by
    rw [List.length_cons]
    have := List.length_filter_le (fun q => decide (0 < q)) Cs
    omega
  refine bk_cons (bs_parOV 2 3 (d2 := .lst ((0 :: Cs.filter fun q => decide (0 < q)).map fr)) (s2 := s) rfl nd rfl rfl (by decide) rfl rfl (el_lst ea_nil) (El.ed (El.is (el_cat (sl1000 (by
    have := List.length_filter_le (fun q => decide (0 < q)) Cs
    rw [List.length_map, List.length_singleton]; omega)) (El.ed (el_lst (ea_cons (ed_cst T.c_ZERO) ea_nil))) (El.ed (el_filterM (s1 := s) [("room", 4)] fr fr (fun q : Rat => decide (0 < q)) (xs := Cs) rfl nd (ei_seq (ed_var (d := .lst (Cs.map fr)) 0 rfl (.inl rfl) rfl) (.inl rfl)) (blkOk_by rfl) (sl1000 (by omega)) (fun q mq => ⟨_, _, fun b => eg_name 4 nd rfl (.inl rfl), by decide, fun b => et_val (ed_cl (ea_cons (ed_cst T.c_ZERO) (ea_cons (ed_var (d := fr q) 4 rfl (.inl rfl) rfl) ea_nil)) (hr.mono (by decide)) (rn_pless T.toTx sz_zero ((hC q mq).mono (by decide)))), fun _ b => ed_var (d := fr q) 4 rfl (.inl rfl) rfl⟩)))) rfl)) ?_)
  generalize (0 :: Cs.filter fun q => decide (0 < q)) = Es at *
  show Bk _ _ ([.val (.lst (Cs.map fr)), .val dg, .own [], .val (.lst (Es.map fr)), .no, .no, .no, .no, .no] : List Gh.G) s _
  have el : (enumD (Es.map fr)).length = Es.length := by rw [enumD_length, List.length_map]
  have pl := progRaw_len (L := L) (n := n) (Es := Es)
  refine bk_cons (bs_for (items := enumD (Es.map fr)) (s1 := s) PassesOwn.never rfl (ei_enum T.bf (ed_var (d := .lst (Es.map fr)) 3 rfl (.inl rfl) rfl)) (fun i ρ s' => s' = s ∧ ∃ g5 g6 g7 g8, ρ = [.val (.lst (Cs.map fr)), .val dg, .own (((hiP (progRaw L n Es)).take i).map pcD), .val (.lst (Es.map fr)), .no, g5, g6, g7, g8]) ⟨rfl, _, _, _, _, rfl⟩ ?_ ?_)
  · rintro i d ρ' s' hi ⟨rfl, g5, g6, g7, g8, rfl⟩
    have hlt : i < Es.length := by rw [← el]; exact (List.getElem?_eq_some_iff.mp hi).1
    have hb : Es[i]? = some Es[i] := List.getElem?_eq_getElem hlt
    rw [enumD_get (d := fr Es[i]) (by rw [List.getElem?_map, hb]; rfl)] at hi
    cases hi
    have hg := progRaw_get (L := L) (n := n) hb
    obtain ⟨zb, b0⟩ := hz _ (List.mem_of_getElem? hb)
    generalize Es[i] = b at *
    rw [List.take_add_one, hg, List.map_append]
    have hPl : ((hiP (progRaw L n Es)).take i).length ≤ 101 := by rw [List.length_take]; omega
    generalize (hiP (progRaw L n Es)).take i = P at hPl
    refine ⟨_, _, eg_tup rfl (egs_cons (eg_name 5 nd rfl (.inl rfl)) (egs_cons (eg_name 6 nd rfl (.inl rfl)) egs_nil)), ?_⟩
    show Bk _ _ ([.val (.lst (Cs.map fr)), .val dg, .own (P.map pcD), .val (.lst (Es.map fr)), .no, .val (.int (i : Int)), .val (fr b), g7, g8] : List Gh.G) s' _
    cases eo : Es[i + 1]? with
    | none =>
      have hge := List.getElem?_eq_none_iff.mp eo
      refine bk_cons (bs_set (d := .non) (s1 := s') 7 nd rfl (.inl rfl) (ed_ifF (Cp.et (Cp.is (cp_lt (ed_bin (ed_var (d := .int (i : Int)) 5 rfl (.inl rfl) rfl) ed_int rfl trivial) (ed_len T.bf (ed_var (d := .lst (Es.map fr)) 3 rfl (.inl rfl) rfl) rfl)) (decide_eq_false (by rw [List.length_map]; omega)))) ed_non) ?_)
      refine bk_cons (bs_set (d := fr (b + 1)) (s1 := s') 8 nd rfl (.inl rfl) (ed_ifT (Cp.et (Cp.is (cp_isN (ed_var (d := .non) 7 rfl (.inl rfl) rfl)) rfl)) (ed_cl (ea_cons (ed_var (d := fr b) 6 rfl (.inl rfl) rfl) (ea_cons (ed_cst T.c_ONE) ea_nil)) (hr.mono (by decide)) (rn_plus T.toTx (zb.mono (by decide)) (sz_nat (i := 1) (by decide))))) ?_)
      show Bk _ _ ([.val (.lst (Cs.map fr)), .val dg, .own (P.map pcD), .val (.lst (Es.map fr)), .no, .val (.int (i : Int)), .val (fr b), .val .non, .val (fr (b + 1))] : List Gh.G) s' _
      have AR := A (b + 1) (by grind) ((zb.add (sz_nat (i := 1) (m := 2) (by decide))).mono (by decide))
      refine bk_cons (bs_ifT (Ew.et (ew_orT (Cp.et (Cp.is (cp_isN (ed_var (d := .non) 7 rfl (.inl rfl) rfl)) rfl)))) ?_)
      exact bk_cons (bs_append 2 (d := pcD (b, none, formsQ L n (b + 1))) (s1 := s') rfl (.inl rfl) rfl (ed_tup (ea_cons (ed_var (d := fr b) 6 rfl (.inl rfl) rfl) (ea_cons (ed_var (d := .non) 7 rfl (.inl rfl) rfl) (ea_cons (ed_tupleOf T.bf (ed_clV 1 rfl (.inl rfl) rfl (ea_cons (ed_var (d := fr (b + 1)) 8 rfl (.inl rfl) rfl) ea_nil) (hr.mono (by decide)) AR) (.inl rfl)) ea_nil)))) (sl1000 (by rw [List.length_map]; omega)) (bk_nil (bk_nil ⟨rfl, _, _, _, _, rfl⟩)))
    | some l =>
      have hlt2 := (List.getElem?_eq_some_iff.mp eo).1
      obtain ⟨zl, l0⟩ := hz _ (List.mem_of_getElem? eo)
      have bl : b < l := by
        have h1 := (List.getElem?_eq_some_iff.mp hb).2
        have h2 := (List.getElem?_eq_some_iff.mp eo).2
        have := List.pairwise_iff_getElem.mp hasc i (i + 1) hlt hlt2 (by omega)
        rw [h1, h2] at this
        exact this
      have zh : Sz 2 (mkRat 1 2) := ⟨by decide, by decide⟩
      have hmid := half_mid bl
      refine bk_cons (bs_set (d := fr l) (s1 := s') 7 nd rfl (.inl rfl) (ed_ifT (Cp.et (Cp.is (cp_lt (ed_bin (ed_var (d := .int (i : Int)) 5 rfl (.inl rfl) rfl) ed_int rfl trivial) (ed_len T.bf (ed_var (d := .lst (Es.map fr)) 3 rfl (.inl rfl) rfl) rfl)) (decide_eq_true (by rw [List.length_map]; omega)))) (ed_ix (d := fr l) (ed_var (d := .lst (Es.map fr)) 3 rfl (.inl rfl) rfl) (ed_bin (ed_var (d := .int (i : Int)) 5 rfl (.inl rfl) rfl) ed_int rfl trivial) (atI_n (i := i + 1) (by rw [List.getElem?_map, eo]; rfl)))) ?_)
      refine bk_cons (bs_set (d := fr ((b + l) * mkRat 1 2)) (s1 := s') 8 nd rfl (.inl rfl) (ed_ifF (Cp.et (Cp.is (cp_isN (ed_var (d := fr l) 7 rfl (.inl rfl) rfl)) rfl)) (ed_cl (ea_cons (ed_cl (ea_cons (ed_var (d := fr b) 6 rfl (.inl rfl) rfl) (ea_cons (ed_var (d := fr l) 7 rfl (.inl rfl) rfl) ea_nil)) (hr.mono (by decide)) (rn_plus T.toTx (zb.mono (by decide)) (zl.mono (by decide)))) (ea_cons (Ed.is (y := fr (mkRat 1 2)) (ed_tup (ea_cons ed_int (ea_cons ed_int ea_nil))) half_fr.symm) ea_nil)) (hr.mono (by decide)) (rn_times T.toTx ((zb.add zl).mono (by decide)) (zh.mono (by decide))))) ?_)
      show Bk _ _ ([.val (.lst (Cs.map fr)), .val dg, .own (P.map pcD), .val (.lst (Es.map fr)), .no, .val (.int (i : Int)), .val (fr b), .val (fr l), .val (fr ((b + l) * mkRat 1 2))] : List Gh.G) s' _
      have AR := A ((b + l) * mkRat 1 2) (by grind) (((zb.add zl).mul zh).mono (by decide))
      refine bk_cons (bs_ifT (Ew.et (ew_orF (Cp.et (Cp.is (cp_isN (ed_var (d := fr l) 7 rfl (.inl rfl) rfl)) rfl)) (ew_or1 (et_val (Ed.is (ed_cl (ea_cons (ed_var (d := fr b) 6 rfl (.inl rfl) rfl) (ea_cons (ed_var (d := fr l) 7 rfl (.inl rfl) rfl) ea_nil)) (hr.mono (by decide)) (rn_pless T.toTx (zb.mono (by decide)) (zl.mono (by decide)))) (congrArg D.bl (decide_eq_true bl))))))) ?_)
      exact bk_cons (bs_append 2 (d := pcD (b, some l, formsQ L n ((b + l) * mkRat 1 2))) (s1 := s') rfl (.inl rfl) rfl (ed_tup (ea_cons (ed_var (d := fr b) 6 rfl (.inl rfl) rfl) (ea_cons (ed_var (d := fr l) 7 rfl (.inl rfl) rfl) (ea_cons (ed_tupleOf T.bf (ed_clV 1 rfl (.inl rfl) rfl (ea_cons (ed_var (d := fr ((b + l) * mkRat 1 2)) 8 rfl (.inl rfl) rfl) ea_nil) (hr.mono (by decide)) AR) (.inl rfl)) ea_nil)))) (sl1000 (by rw [List.length_map]; omega)) (bk_nil (bk_nil ⟨rfl, _, _, _, _, rfl⟩)))
  · rintro ρ' s' ⟨rfl, g5, g6, g7, g8, rfl⟩
    rw [el, ← pl, List.take_length]
    refine bk_freeze 2 rfl ?_
    exact bk_cons (bs_ret (ed_cl (ea_cons (ed_var (d := .lst ((hiP (progRaw L n Es)).map pcD)) 2 rfl (.inl rfl) rfl) ea_nil) (hr.mono (by decide)) (rn_merged T (by omega))) ⟨rfl, rfl⟩)
end Law
set_option Elab.async false
set_option linter.all false
set_option maxRecDepth 100000
set_option maxHeartbeats 4000000
/-! a method whose lambdas have a table -/
namespace Gh
open PySem PySem.Spec PyProof.Rows L2 LamX
/-- a method whose code object has a table for its lambdas -/
structure DmT (E : En) (st : Stmt) (fa : Addr) (x q : Str) (ps : List Str) (c P : Addr) : Prop where
  ok : ∃ (fd : FuncData) (oc : Value) (od : Option Addr) (dV kV doc pm : Value) (an : Option Addr) (ct : Value) (osl : Array (Option Value)),
    fd = PySem.W.fnOf x q (defArgs st) (defBody st) (defScope st) dV kV doc pm an (.ref c) ct ∧ E.K.lookup fa = some ⟨oc, od, .func fd, osl⟩ ∧ PySem.W.codeIn E.K (.ref c) q = true ∧ PySem.W.keepIn E.K (.ref fa) = true ∧ Binds E.K fd ps []
  tb : TabB E.base E.mg c P
  mem : (P, q ++ ".<locals>." ++ "<lambda>") ∈ E.T
  one : ∀ p ∈ E.T, p.1 = P → p.2 = q ++ ".<locals>." ++ "<lambda>"
theorem DmT.rn {E : En} {x q : Str} {st : Stmt} {N ps : List Str} {k : Nat} {fa : Addr} {ds : List D} {s s' : Sx} {d : D} {c P : Addr} (T : DmT E st fa x q ps c P) (S : FnScope N ps (defScope st)) (kd : s.isSome = s'.isSome) (hl : ds.length = ps.length)
    (body : ∀ (A : Around) (outer : List Env) (sh : Shared) (H0 : Hp) (EX : XK) (S0 : List Addr) (p : Pa), Room k (bodyM E N q st s fa (.ref c) A outer sh H0 EX S0 p).X.A → LamAt (bodyM E N q st s fa (.ref c) A outer sh H0 EX S0 p) →
      Bk (bodyM E N q st s fa (.ref c) A outer sh H0 EX S0 p) (defBody st) (gStart N ds) s { nx := fun _ t => d = .non ∧ t = s', rt := fun r t => r = d ∧ t = s' }) : RnA E (k + 1) fa ds s d s' := by
  obtain ⟨fd, oc, od, dV, kV, doc, pm, an, ct, osl, rfl, lk, hcd, hkp, hb⟩ := T.ok
  refine ⟨kd, _, ps, hkp, hb, fn_of lk hcd S (fun vs H Q EX h => ?_) fun A outer sh H vs Q EX hr h => ?_⟩
  · obtain ⟨p, S, r, _⟩ := h
    rw [r.length, hl]
  · obtain ⟨p, S0, r, tr, t, q2⟩ := h
    have W : PSs (cxOf CX0 E.P E.w E.K E.mg E.base N q (defScope st) fa (.ref c) A outer sh H EX).nox (defBody st) (WB (cxOf CX0 E.P E.w E.K E.mg E.base N q (defScope st) fa (.ref c) A outer sh H EX).nox (defBody st)) := pss_wb
    refine ⟨_, W.nox, body A outer sh H EX S0 p hr ⟨c, P, rfl, T.tb, T.mem, T.one⟩ [] (L2.start N vs) H (fm_start (F := bodyM E N q st s fa (.ref c) A outer sh H EX S0 p) r tr t rfl) _ ⟨fun O σ H' ρ t' f st h => ?_, fun v H' r' t' rv xp ta h => ?_, fun O σ H' ρ t' f st h => h.elim, fun O σ H' ρ t' f st h => h.elim, fun O σ H' ρ t' cls dd x f st a h => h.elim⟩⟩
    · obtain ⟨rfl, rfl⟩ := h
      exact q2 .non H' .non (f.ext.kind kd.symm) f.sa0
    · obtain ⟨rfl, rfl⟩ := h
      exact q2 v H' rv (xp.kind kd.symm) ta
theorem free_by {n1 n2 : List (Str × NameKind)} (h : (n1.all fun y => !decide (y.2 = .free) || (decide (n2.lookup y.1 = some .cell) || decide (n2.lookup y.1 = some .free))) = true) : ∀ y ∈ n1, y.2 = .free → n2.lookup y.1 = some .cell ∨ n2.lookup y.1 = some .free := fun y m e => by
  have z := List.all_eq_true.mp h y m
  simp only [e, decide_true, Bool.not_true, Bool.false_or, Bool.or_eq_true, decide_eq_true_eq] at z
  exact z
end Gh
set_option Elab.async false
set_option linter.all false
set_option maxRecDepth 100000
set_option maxHeartbeats 1000000
/-! forms about a room; all pieces -/
namespace Law
open PySem PySem.Spec PyProof.Rows L2 Gh
variable {E : En} {s : Sx} {K : Addr} {g : Str → Addr}
theorem rn_uptoW (T : Tx E) {a b : Rat} (ha : Sz 8000 a) (hb : Sz 8000 b) : Rn E 1 "is_upto" [fr a, fr b] s (.bl (decide (a ≤ b))) s := by
  refine T.d_is_upto.rn sc_is_upto rfl rfl fun fa cdv A outer sh H0 EX S0 p hr => ?_
  conv => arg 2; whnf
  have hd : ∀ q : Rat, Sz 8000 q → ((q.den : Int)).natAbs < 2 ^ 8000 := fun q h => by rw [Int.natAbs_natCast]; exact h.2
  refine bk_cons (bs_ret (Cp.ed (cp_le (ed_bin (ed_ix (d := .int a.num) (ed_var (d := fr a) 0 rfl (.inl rfl) rfl) ed_int rfl) (ed_ix (d := .int b.den) (ed_var (d := fr b) 1 rfl (.inl rfl) rfl) ed_int rfl) rfl (wide_mul ha.1 (hd _ hb) (by decide) (by decide) (by decide))) (ed_bin (ed_ix (d := .int b.num) (ed_var (d := fr b) 1 rfl (.inl rfl) rfl) ed_int rfl) (ed_ix (d := .int a.den) (ed_var (d := fr a) 0 rfl (.inl rfl) rfl) ed_int rfl) rfl (wide_mul hb.1 (hd _ ha) (by decide) (by decide) (by decide))))) ⟨?_, rfl⟩)
  exact congrArg D.bl (decide_eq_decide.mpr (Rat.le_iff a b).symm)
theorem rn_worthW (T : Tc E) {f : Fo} {r : Rat} (hf : Zf 1500 f) (hr0 : Sz 1400 r) : Rn E 3 "worth_at" [fp f, fr r] s (fr (ev f r)) s := by
  refine T.d_worth_at.rn sc_worth_at rfl rfl fun fa cdv A outer sh H0 EX S0 p hr => ?_
  conv => arg 2; whnf
  exact bk_cons (bs_ret (ed_cl (ea_cons (ed_ix (d := fr f.1) (ed_var (d := fp f) 0 rfl (.inl rfl) rfl) ed_int rfl) (ea_cons (ed_cl (ea_cons (ed_ix (d := fr f.2) (ed_var (d := fp f) 0 rfl (.inl rfl) rfl) ed_int rfl) (ea_cons (ed_var (d := fr r) 1 rfl (.inl rfl) rfl) ea_nil)) (hr.mono (by decide)) (rn_times T.toTx (hf.2.mono (by decide)) (hr0.mono (by decide)))) ea_nil)) (hr.mono (by decide)) (rn_plus T.toTx (hf.1.mono (by decide)) ((hf.2.mul hr0).mono (by decide)))) ⟨rfl, rfl⟩)
theorem sz_ev {f : Fo} {r : Rat} (hf : Zf 1500 f) (hr0 : Sz 1400 r) : Sz 8000 (ev f r) := (hf.1.add (hf.2.mul hr0)).mono (by decide)
theorem fr_nc (q : Rat) : (fr q).noC = true := by simp [fr, D.noC, D.noCs]
theorem fp_nc (f : Fo) : (fp f).noC = true := by
  show D.noCs [fr f.1, fr f.2] = true
  simp only [D.noCs, fr_nc, Bool.and_true]
theorem liD_nc (x : LI) : (liD x).noC = true := by
  show D.noCs [fr x.b, .int x.g, .int x.w, .int x.lo, hiN x.hi] = true
  simp only [D.noCs, fr_nc, D.noC, Bool.true_and, Bool.and_true]
  cases x.hi <;> rfl
theorem rowD_nc (K : Addr) (L : List LI) (n : Nat) : (rowD K L n).noC = true := by
  show D.noCs [.lst (L.map liD), .int n] = true
  simp only [D.noCs, D.noC, Bool.and_true]
  exact noCs_map liD_nc L
theorem fmL_nc (F : List Lin) : (fmL F).noC = true := noCs_map fp_nc F
theorem pcD_nc (p : Pc3) : (pcD p).noC = true := by
  show D.noCs [fr p.1, hqD p.2.1, fmL p.2.2] = true
  simp only [D.noCs, fr_nc, fmL_nc, Bool.true_and, Bool.and_true]
  cases p.2.1 with
  | none => rfl
  | some q => exact fr_nc q
theorem cut1 : ∀ us : List Value, us.length = 1 → ∃ u, us = [u] := fun us h => by
  match us, h with
  | [u], _ => exact ⟨u, rfl⟩
theorem cut2 : ∀ us : List Value, us.length = 2 → ∃ u v, us = [u, v] := fun us h => by
  match us, h with
  | [u, v], _ => exact ⟨u, v, rfl⟩
theorem gaps_sz {L : List LI} {n : Nat} (hl : L.length ≤ 10) (hn : n < 2 ^ 20) : Sz 40 ((gapsQ L n : Int) : Rat) := by
  refine sz_int ?_
  unfold gapsQ
  rw [Int.natAbs_mul]
  have h1 : ((L.length : Int) - 1).natAbs ≤ 2 ^ 7 := by omega
  have h2 : ((n : Int)).natAbs < 2 ^ 20 := by omega
  calc ((n : Int)).natAbs * ((L.length : Int) - 1).natAbs ≤ 2 ^ 20 * 2 ^ 7 := Nat.mul_le_mul (Nat.le_of_lt h2) h1
    _ < 2 ^ 40 := by decide
theorem rn_forms_about (T : Tc E) (B : Ro E K g) {c P : Addr} (Z : DmT E t_Row_forms_about (g "forms_about") "forms_about" "Row.forms_about" ["self", "room"] c P) {L : List LI} {n : Nat} {r : Rat} (hl : L.length ≤ 10) (ok : ∀ x ∈ L, LOk x) (hn : n < 2 ^ 20) (zr : Sz 1100 r) (hs : SxN s) :
    RnA E 10 (g "forms_about") [rowD K L n, fr r] s (.lst ((formsQ L n r).map fp)) s := by
  have zi : ∀ x ∈ L.map LI.it, Zi x := fun x m => by
    obtain ⟨y, my, rfl⟩ := List.mem_map.mp m
    exact (ok y my).zi
  have zg := gaps_sz (n := n) hl hn
  refine Z.rn sc_Row_forms_about rfl rfl fun A outer sh H0 EX S0 p hr TL => ?_
  conv => arg 2; whnf
  have nd := sc_Row_forms_about.nd
  refine bk_cons (bs_set (d := fp (0 - ((gapsQ L n : Int) : Rat), 1)) (s1 := s) 2 nd rfl (.inl rfl) (ed_tup (ea_cons (ed_cl (ea_cons (ed_cst T.c_ZERO) (ea_cons (ed_meth0 B.cls B.m_gaps (ed_var (d := rowD K L n) 0 rfl (.inl rfl) rfl) (by decide) (hr.mono (by decide)) (rn_all_gaps T B (by omega) hn)) ea_nil)) (hr.mono (by decide)) (rn_minus T.toTx sz_zero (zg.mono (by decide)))) (ea_cons (ed_cst T.c_ONE) ea_nil))) ?_)
  refine bk_cons (bs_ret (ed_clF (f := "row_sizes") (eaL_cons (ed_cl (ea_cons (ed_fld (d := .lst (L.map liD)) B.cls B.n_items (ed_var (d := rowD K L n) 0 rfl (.inl rfl) rfl) rfl) ea_nil) (hr.mono (by decide)) (rn_item_forms T (by omega))) (eaL_cons (ed_var (d := fp (0 - ((gapsQ L n : Int) : Rat), 1)) 2 rfl (.inl rfl) rfl) (eaL_one (ps := ["one", "two"]) (fr := ["room"]) TL (free_by rfl)))) (Cap.cons (d := fr r) 1 rfl rfl rfl (.inl rfl) .nil) (cscope_by rfl) (hr.mono (by decide)) (rn_row_sizes T (r := r) ⟨fun f h zf zh => ?lam⟩ zi (by rw [List.length_map]; exact hl) ⟨(Gh.Sz.sub (sz_zero (n := 1)) zg).mono (by decide), (sz_nat (i := 1) (by decide))⟩) (noCs_map fp_nc _) hs) ⟨rfl, rfl⟩)
  case lam =>
    refine rnV_clo (k := 3) (cscope_by rfl) rfl rfl (by rw [D.noCs, fr_nc]; rfl) (by rw [D.noCs, D.noCs, fp_nc, fp_nc]; rfl) hs (fun cl pm cv ctv us h => by
      obtain ⟨u, v, rfl⟩ := cut2 us h
      rfl) (fun cl' c' f0 A outer sh H0 EX S0 p hr2 => ?_)
    exact ed_cl (ea_cons (ed_cl (ea_cons (ed_var (d := fp f) 0 rfl (.inl rfl) rfl) (ea_cons (ed_var (d := fr r) 2 rfl (.inr (.inr rfl)) rfl) ea_nil)) (hr2.mono (by decide)) (rn_worthW T zf (zr.mono (by decide)))) (ea_cons (ed_cl (ea_cons (ed_var (d := fp h) 1 rfl (.inl rfl) rfl) (ea_cons (ed_var (d := fr r) 2 rfl (.inr (.inr rfl)) rfl) ea_nil)) (hr2.mono (by decide)) (rn_worthW T zh (zr.mono (by decide)))) ea_nil)) (hr2.mono (by decide)) (rn_uptoW T.toTx (sz_ev zf (zr.mono (by decide))) (sz_ev zh (zr.mono (by decide))))
/-- corners are small -/
theorem corn_qn {L : List LI} {n : Nat} (h : ∀ x ∈ L, Lq x) (hl : L.length ≤ 8) (h1 : 1 ≤ L.length) (hn : n ≤ 10) : ∀ q ∈ cornQ L n, Qn 415800 (2 ^ 44 + 2 ^ 25) q := fun q m => by
  obtain ⟨up, _, m⟩ := List.mem_flatMap.mp m
  obtain ⟨f, mf, rfl⟩ := List.mem_map.mp m
  refine Qn.add ?_ (gaps_qn hl h1 hn)
  have zf : Qn 415800 (2 ^ 27) f.1 := by
    obtain ⟨t, et, _, _, hall⟩ := turns_spec 0 (L.map LI.it) up
    rw [et] at mf
    rcases List.mem_cons.mp mf with rfl | mf
    · exact (Qn.zero (N := 415800)).mono (Nat.zero_le _)
    · rcases hall f mf with rfl | ⟨x, mx, ml⟩
      · exact (Qn.zero (N := 415800)).mono (Nat.zero_le _)
      · obtain ⟨y, my, rfl⟩ := List.mem_map.mp mx
        exact turns_qn (h y my) f ml
  show Qn 415800 (2 ^ 44) (sumF ((L.map LI.it).map (hsz 0 f up))).1
  rw [sumF_fst]
  refine (Qn.sum (M := 2 ^ 41) fun q m => ?_).mono ?_
  · obtain ⟨f', mf', rfl⟩ := List.mem_map.mp m
    obtain ⟨x, mx, rfl⟩ := List.mem_map.mp mf'
    obtain ⟨y, my, rfl⟩ := List.mem_map.mp mx
    exact hsz_qn (h y my) zf
  · rw [List.length_map, List.length_map, List.length_map]
    calc 2 ^ 41 * L.length ≤ 2 ^ 41 * 8 := Nat.mul_le_mul_left _ hl
      _ = 2 ^ 44 := by decide
theorem corn_len {L : List LI} {n : Nat} (hl : L.length ≤ 10) : (cornQ L n).length ≤ 42 := by
  refine fm_len (n := 21) (f := fun up => (turnsF 0 (L.map LI.it) up).map fun f => (totF 0 (L.map LI.it) f up).1 + ((gapsQ L n : Int) : Rat)) [true, false] fun x _ => ?_
  rw [List.length_map]
  have := turnsF_len L x
  omega
abbrev pcsP (L : List LI) (n : Nat) : List Pc3 := mrg (hiP (progRaw L n (progE L n)))
theorem rn_all_pieces (T : Tc E) (B : Ro E K g) {c P c2 P2 : Addr} (Z : DmT E t_Row_forms_about (g "forms_about") "forms_about" "Row.forms_about" ["self", "room"] c P) (Z2 : DmT E t_Row_all_pieces (g "all_pieces") "all_pieces" "Row.all_pieces" ["self"] c2 P2) {L : List LI} {n : Nat} (hl : L.length ≤ 8) (h1 : 1 ≤ L.length) (ok : ∀ x ∈ L, Lq x) (hn : n ≤ 10) (hs : SxN s) :
    RnA E 13 (g "all_pieces") [rowD K L n] s (.lst ((pcsP L n).map pcD)) s := by
  refine Z2.rn sc_Row_all_pieces rfl rfl fun A outer sh H0 EX S0 p hr TL => ?_
  conv => arg 2; whnf
  have nd := sc_Row_all_pieces.nd
  have okL : ∀ x ∈ L, LOk x := fun x m => (ok x m).ok
  have hcl := corn_len (n := n) (L := L) (by omega)
  have hil : (inOrd (cornQ L n)).length ≤ (cornQ L n).length := inOrd_len
  refine bk_cons (bs_ret (ed_clF (f := "pieces_between") (eaL_cons (ed_meth0 B.cls B.m_corners (ed_var (d := rowD K L n) 0 rfl (.inr (.inl rfl)) rfl) (by decide) (hr.mono (by decide)) (rn_corners T B (by omega) okL (by omega))) (eaL_one (ps := ["room"]) (fr := ["self"]) TL (free_by rfl))) (Cap.cons (d := rowD K L n) 0 rfl rfl rfl (.inl rfl) .nil) (cscope_by rfl) (hr.mono (by decide)) (rn_pieces_between T (L := L) (n := n) (fun q m => (qz (n := 50) (corn_qn ok hl h1 hn q (inOrd_mem q m)) (by decide)).mono (by decide)) (by omega) (inOrd_spec _).1 fun r r0 zr => ?lam) (noCs_map pcD_nc _) hs) ⟨rfl, rfl⟩)
  case lam =>
    refine rnV_clo (k := 10) (cscope_by rfl) rfl rfl (by rw [D.noCs, rowD_nc]; rfl) (by rw [D.noCs, fr_nc]; rfl) hs (fun cl pm cv ctv us h => by
      obtain ⟨u, rfl⟩ := cut1 us h
      rfl) (fun cl' c' f0 A outer sh H0 EX S0 p hr2 => ?_)
    exact ed_meth B.cls B.m_forms (ed_var (d := rowD K L n) 1 rfl (.inr (.inr rfl)) rfl) (by decide) (ea_cons (ed_var (d := fr r) 0 rfl (.inl rfl) rfl) ea_nil) hr2 (rn_forms_about T B Z (by omega) okL (by omega) zr hs)
end Law
set_option Elab.async false
set_option linter.all false
set_option maxRecDepth 100000
set_option maxHeartbeats 4000000
/-! methods that raise: o.m(e, ..) -/
namespace Gh
open PySem PySem.Spec PyProof.Rows L2
/-- the def at an address, called with these data, raises x -/
structure RnXA (E : En) (k : Nat) (fa : Addr) (ds : List D) (s : Sx) (x : Xv) (s' : Sx) : Prop where
  kd : s.isSome = s'.isSome
  ok : ∃ fd ps, PySem.W.keepIn E.K (.ref fa) = true ∧ Binds E.K fd ps [] ∧ FnOk E.P E.w E.K E.mg E.base (L2.CX E.P E.w) k fa fd ps (spX E.K E.mg E.T ds s x s')
theorem RnXA.mono {E : En} {j k : Nat} {f : Addr} {ds : List D} {s s' : Sx} {d : Xv} (r : RnXA E j f ds s d s') (h : j ≤ k) : RnXA E k f ds s d s' := by
  obtain ⟨kd, fd, ps, h2, h3, h4⟩ := r
  exact ⟨kd, fd, ps, h2, h3, h4.mono h⟩
end Gh
set_option Elab.async false
set_option linter.all false
set_option maxRecDepth 100000
set_option maxHeartbeats 4000000
/-! own __eq__: == and != of instances, both answers; C(..) that raises -/
namespace Gh
open PySem PySem.Spec PyProof.Rows L2
/-! ### C(..) that raises -/
end Gh
set_option Elab.async false
set_option linter.all false
set_option maxRecDepth 100000
set_option maxHeartbeats 4000000
/-! an owned list handed to a call that only reads it: it is locked while the call runs -/
namespace Gh
open PySem PySem.Spec PyProof.Rows L2
section
variable {F : Fx} {ρ : List G} {s s1 : Sx} {e tg : Expr} {d : D} {xs zs items : List D} {pos p : Pos}
/-- the frame with an owned list locked -/
theorem Fm.lent {O : List Addr} {σ : L2.St} {H : Hp} {i : Nat} {a : Addr} {vs : List V} {ob : Obj} (f : Fm F O σ H ρ s) (hρ : ρ[i]? = some (.own xs)) (ho : σ[i]? = some (some (.ref a))) (h1 : H a = some (.lst vs)) (r : Rps F.X.K F.p (O ++ F.S0) H vs xs) :
    ∃ O', Fm F O' σ (upd H a (.frz ob (.lst vs))) (ρ.set i (.val (.lent xs))) s ∧ (∀ b ∈ O', b ∈ O) ∧ ∀ b ∈ O, b ∈ O' ∨ b = a := by
  have mO := f.own i _ xs a hρ ho
  obtain ⟨fr1, fr2⟩ := f.fre a mO
  have mA : a ∈ O ++ F.S0 := List.mem_append_left _ mO
  have sub : ∀ b ∈ O.filter (· ≠ a) ++ F.S0, b ∈ O ++ F.S0 := fun b m => (List.mem_append.mp m).elim (fun m => List.mem_append_left _ (List.mem_filter.mp m).1) (List.mem_append_right _)
  have ina : ∀ b ∈ O.filter (· ≠ a), b ≠ a := fun b m => by simpa using (List.mem_filter.mp m).2
  have xt : XT (O ++ F.S0) H (upd H a (.frz ob (.lst vs))) := ⟨fun b o n e _ => by rw [upd_ne (show b ≠ a from fun z => n (by rw [z]; exact mA))]; exact e, fun b h => upd_none h⟩
  have toN : ∀ {v : V} {d : D}, Rp F.X.K F.p (O ++ F.S0) H v d → Rp F.X.K F.p (O.filter (· ≠ a) ++ F.S0) (upd H a (.frz ob (.lst vs))) v d := fun q => (q.ext xt).weak sub
  have key : ∀ (j : Nat) (g : G), (ρ.set i (.val (.lent xs)))[j]? = some g → (j = i ∧ g = .val (.lent xs)) ∨ (j ≠ i ∧ ρ[j]? = some g) := fun j g h => by
    by_cases e : i = j
    · subst e
      by_cases hl : i < ρ.length
      · rw [List.getElem?_set_self hl] at h; exact .inl ⟨rfl, (Option.some.inj h).symm⟩
      · rw [List.getElem?_eq_none (by simpa using hl)] at h; cases h
    · rw [List.getElem?_set_ne e] at h; exact .inr ⟨fun z => e z.symm, h⟩
  have own : ∀ (j : Nat) (u : Ow) (es : List D), (ρ.set i (.val (.lent xs)))[j]? = some (.ow u es) → j ≠ i ∧ ρ[j]? = some (.ow u es) := fun j u es h => by
    rcases key j _ h with ⟨_, z⟩ | h
    · cases z
    · exact h
  have keep : ∀ (j : Nat) (u : Ow) (es : List D) (b : Addr), j ≠ i → ρ[j]? = some (.ow u es) → σ[j]? = some (some (.ref b)) → b ∈ O.filter (· ≠ a) := fun j u es b hne hg hb => by
    refine List.mem_filter.mpr ⟨f.own j u es b hg hb, ?_⟩
    simp only [ne_eq, decide_not, Bool.not_eq_eq_eq_not, Bool.not_true, decide_eq_false_iff_not]
    intro z
    subst z
    exact f.dis i j _ u xs es b (Ne.symm hne) hρ hg ho hb
  have st : F.Sa (O.filter (· ≠ a)) (upd H a (.frz ob (.lst vs))) s := by
    have q := f.st
    have pm := f.pm
    cases s with
    | none => exact tabs_upd q h1 nt_lst nc_lst
    | some ys =>
      obtain ⟨q1, q2, ws, q3, q4⟩ := q
      exact ⟨tabs_upd q1 h1 nt_lst nc_lst, (pm rfl).app, ws, q3.out (pm rfl) fr2, (q4.ext xt).weak sub⟩
  refine ⟨O.filter (· ≠ a), ⟨⟨fun b o e n t => ?_, fun b h => f.ext.2 b (upd_none h)⟩, fun j g hg => ?_, fun j u es b hg hb => keep j u es b (own j u es hg).1 (own j u es hg).2 hb,
    fun j l u u' es fs b hne g1 g2 g3 => f.dis j l u u' es fs b hne (own j u es g1).2 (own l u' fs g2).2 g3, fun b m => f.fre b (List.mem_filter.mp m).1, fun b m => ?_, st, f.pm, f.kd⟩, fun b m => (List.mem_filter.mp m).1, fun b m => ?_⟩
  · rw [upd_ne (fun z => by rw [z, fr1] at e; cases e)]; exact f.ext.1 b o e n t
  · rcases key j g hg with ⟨rfl, rfl⟩ | ⟨hne, hg⟩
    · refine ⟨_, ho, _, rfl, .lent (fun m => ?_) upd_same ((r.ext xt).weak sub)⟩
      rcases List.mem_append.mp m with m | m
      · exact ina a m rfl
      · exact fr2 m
    · obtain ⟨o, ho', q⟩ := f.slot j g hg
      refine ⟨o, ho', ?_⟩
      cases g with
      | no => trivial
      | val d =>
        obtain ⟨v, e, r'⟩ := q
        exact ⟨v, e, toN r'⟩
      | ow u es =>
        obtain ⟨b, ws, e, m, hb, r', ft'⟩ := q
        subst e
        have mb := keep j u es b hne hg ho'
        exact ⟨b, ws, rfl, List.mem_append_left _ mb, by rw [upd_ne (ina b mb)]; exact hb, (r'.ext xt).weak sub, ft'⟩
  · obtain ⟨o, e⟩ := f.trk b (sub b m)
    exact ⟨o, by rw [upd_ne (fun z => by
      rcases List.mem_append.mp m with m | m
      · exact ina b m z
      · exact fr2 (z ▸ m))]; exact e⟩
  · by_cases z : b = a
    · exact .inr z
    · exact .inl (List.mem_filter.mpr ⟨m, by simpa using z⟩)
end
end Gh
set_option Elab.async false
set_option linter.all false
set_option maxRecDepth 100000
set_option maxHeartbeats 4000000
namespace Gh
open PySem PySem.Spec PyProof.Rows L2
/-! sorted of tuples of ints -/
def tI (l : List Int) : D := .tup (l.map D.int)
/-! methods that hand back a new list -/
structure RnLA (E : En) (k : Nat) (fa : Addr) (ds : List D) (s : Sx) (zs : List D) (s' : Sx) : Prop where
  kd : s.isSome = s'.isSome
  ok : ∃ fd ps, PySem.W.keepIn E.K (.ref fa) = true ∧ Binds E.K fd ps [] ∧ FnOk E.P E.w E.K E.mg E.base CX0 k fa fd ps (spL E.K E.T ds s zs s')
theorem Dm.rnL {E : En} {x q : Str} {st : Stmt} {N ps : List Str} {k : Nat} {fa : Addr} {ds zs : List D} {s s' : Sx} (T : Dm E st fa x q ps) (S : FnScope N ps (defScope st)) (kd : s.isSome = s'.isSome) (hl : ds.length = ps.length)
    (body : ∀ (cdv : Value) (A : Around) (outer : List Env) (sh : Shared) (H0 : Hp) (EX : XK) (S0 : List Addr) (p : Pa), Room k (bodyM E N q st s fa cdv A outer sh H0 EX S0 p).X.A →
      BkL (bodyM E N q st s fa cdv A outer sh H0 EX S0 p) (defBody st) (gStart N ds) s zs s') : RnLA E (k + 1) fa ds s zs s' := by
  obtain ⟨fd, F, hb⟩ := T.ok
  refine ⟨kd, fd, ps, F.kp, hb, F.ok S (fun vs H Q EX h => ?_) fun cdv A outer sh H vs Q EX hr h => ?_⟩
  · obtain ⟨p, S, r, _⟩ := h
    rw [r.length, hl]
  · obtain ⟨p, S0, r, tr, t, qq⟩ := h
    refine ⟨_, pss_wb, body cdv A outer sh H EX S0 p hr [] (L2.start N vs) H (fm_start (F := bodyM E N q st s fa cdv A outer sh H EX S0 p) r tr t rfl) _ fun a ws H' n0 nS h1 r1 x1 t1 => ?_⟩
    exact qq a ws H' n0 h1 r1 (x1.kind kd.symm) t1
/-- o.m(), a new list -/
theorem el_meth0 {F : Fx} {ρ : List G} {s s1 s3 : Sx} {o : Expr} {m : Str} {C g : Addr} {ks : List Str} {xs zs : List D} {pos : Pos} {j : Nat} {apos : Pos} {pl : Sem Bool} (c : Cls F.X.K C) (hm : Meth F.X.K C m g) (ho : Ed F ρ s o (.ins C ks xs) s1) (hn : m ∉ ks) (hr : Room j F.X.A) (R : RnLA F.en j g [.ins C ks xs] s1 zs s3)
    (ht : eval (.Call (.Attribute o m apos) [] [] pos) F.X.env = (do
      let ov ← eval o F.X.env
      standAt apos.atName
      let (f, first) ← holding [ov] (getMethod ov m pl)
      callWith pos f first (backTo pos (starEach [] F.X.env)) (backToKw pos (keywordEach [] F.X.env))) := by rfl) : El F ρ s (.Call (.Attribute o m apos) [] [] pos) zs s3 := by
  obtain ⟨kd, fd, ps, h2, h3, h4⟩ := R
  refine ⟨ho.1.trans kd, fun O σ H fm Q q => we (pe_meth0 pe_we c hm h4 hr h3 .nil pass0 ht) (ho.2 O σ H fm _ fun v H1 f1 x1 r1 => ?_)⟩
  cases r1 with
  | @ins a dx _ _ vs _ n1 h1 hv hl =>
    exact ⟨a, dx, _, rfl, h1, zip_none hn, F.p, O ++ F.S0, .cons (Rp.ins n1 h1 hv hl) .nil, f1.trk, f1.st, fun a ws H2 n2 g2 r2 x2 t2 => q a ws H2 (f1.addO x2 kd t2 n2 g2) (x1.trans (x2.xe f1.pm f1.kd)) (x1.2 a n2) g2 r2⟩
end Gh
/-! isinstance against an own class -/
namespace Gh
open PySem PySem.Spec PyProof.Rows L2
theorem eqD.refl {n : Nat} {x : D} (h : eqD n x) : x.eqb x = true := SeqAt.eqv_refl _ h.2.1
end Gh
set_option Elab.async false
set_option linter.all false
set_option maxRecDepth 100000
set_option maxHeartbeats 1000000
/-! how great pieces are; rows_part; needless bounds -/
namespace Law
open PySem PySem.Spec PyProof.Rows L2 Gh
variable {E : En} {s : Sx} {K : Addr} {g : Str → Addr}
/-- what is asked of a row -/
structure Rok (L : List LI) (n : Nat) : Prop where
  q : ∀ x ∈ L, Lq x
  l : L.length ≤ 8
  o : 1 ≤ L.length
  n : n ≤ 10
theorem Rok.ok {L : List LI} {n : Nat} (R : Rok L n) : ∀ x ∈ L, LOk x := fun x m => (R.q x m).ok
theorem row_sz {L : List LI} {n : Nat} (R : Rok L n) {q : Rat} (hq : Qn 415800 (2 ^ 45) q) : ∀ v ∈ rowF L n q, Sz 62 v := fun v m => by
  obtain ⟨S, h0, hS, h⟩ := szs_qn R.q R.l (inner := q - ((gapsQ L n : Int) : Rat)) ((hq.sub (gaps_qn R.l R.o R.n)).mono (by decide))
  refine (h v m).sz (by omega) (Nat.lt_of_le_of_lt (Nat.mul_le_mul_left _ hS) (by decide)) (by decide)
theorem lawE_qn {L : List LI} {n : Nat} (R : Rok L n) : ∀ q ∈ lawE L n, Qn 415800 (2 ^ 44 + 2 ^ 25) q ∧ 0 ≤ q := fun q m => by
  have m := inOrd_mem q m
  obtain ⟨m, h0⟩ := List.mem_filter.mp m
  refine ⟨?_, of_decide_eq_true h0⟩
  have zg := gaps_qn R.l R.o R.n
  have key : ∀ f : LI → Rat, (∀ x ∈ L, Qn 415800 (2 ^ 41) (f x)) → Qn 415800 (2 ^ 44 + 2 ^ 25) (lsum (L.map f) + ((gapsQ L n : Int) : Rat)) := fun f hf => by
    refine Qn.add ((Qn.sum (M := 2 ^ 41) fun q m => ?_).mono ?_) zg
    · obtain ⟨x, mx, rfl⟩ := List.mem_map.mp m
      exact hf x mx
    · rw [List.length_map]
      calc 2 ^ 41 * L.length ≤ 2 ^ 41 * 8 := Nat.mul_le_mul_left _ R.l
        _ = 2 ^ 44 := by decide
  unfold lawEs at m
  rcases List.mem_append.mp m with m | m
  · rcases List.mem_append.mp m with m | m
    · rcases List.mem_cons.mp m with rfl | m
      · exact (Qn.zero (N := 415800)).mono (Nat.zero_le _)
      · rw [List.mem_singleton.mp m]
        exact key lowQ fun x mx => low_qn (R.q x mx)
    · obtain ⟨t, mt, rfl⟩ := List.mem_map.mp m
      exact room_qn R.q R.l R.o R.n (allT_qn R.q t (inOrd_mem t mt))
  · split at m
    · rw [List.mem_singleton.mp m]
      exact key highD fun x mx => high_qn (R.q x mx)
    · cases m
theorem Qn.one1 {q : Rat} (h : Qn 415800 (2 ^ 44 + 2 ^ 25) q) : Qn 415800 (2 ^ 45) q ∧ Qn 415800 (2 ^ 45) (q + 1) :=
  ⟨h.mono (by decide), (h.add (((Qn.nat 1).ups (K := 415800) (by decide) (by decide)).mono (M' := 415800) (by decide))).mono (by decide)⟩
theorem lawF_sz {L : List LI} {n : Nat} (R : Rok L n) {b l : Rat} (hb : Qn 415800 (2 ^ 45) b) (hl : Qn 415800 (2 ^ 45) l) (h : b < l) : ∀ f ∈ lawF (rowF L n) b l, Zf 400 f := fun f m => by
  obtain ⟨i, hi⟩ := List.getElem?_of_mem m
  unfold lawF at hi
  rw [List.getElem?_zipWith] at hi
  cases e1 : (rowF L n b)[i]? with
  | none => rw [e1] at hi; cases hi
  | some u =>
    cases e2 : (rowF L n l)[i]? with
    | none => rw [e1, e2] at hi; cases hi
    | some v =>
      rw [e1, e2] at hi
      cases hi
      have zu := row_sz R hb u (List.mem_of_getElem? e1)
      have zv := row_sz R hl v (List.mem_of_getElem? e2)
      have zb : Sz 50 b := qz hb (by decide)
      have zl : Sz 50 l := qz hl (by decide)
      have zs := sz_div (zv.sub zu) (zl.sub zb) (show 0 < l - b by grind)
      exact ⟨(zu.sub (zs.mul zb)).mono (by decide), zs.mono (by decide)⟩
theorem szs_len (L : List LI) (q : Rat) (ok : ∀ x ∈ L, LOk x) : (szs L q).length = L.length := by
  obtain ⟨v, e⟩ := szs_level (inner := q) ok
  rw [e, List.length_map]
theorem lawF_len {L : List LI} {n : Nat} (R : Rok L n) {b l : Rat} : (lawF (rowF L n) b l).length ≤ 8 := by
  unfold lawF
  rw [List.length_zipWith]
  have := szs_len L (b - ((gapsQ L n : Int) : Rat)) R.ok
  have h : (rowF L n b).length = L.length := this
  have := R.l
  omega
/-- what is merged has the lows and the forms of what was there -/
theorem mrg_of : ∀ (ps F : List Pc3), ∀ p ∈ ps.foldl mrgStep F, (∃ q, (q ∈ ps ∨ q ∈ F) ∧ p.1 = q.1) ∧ ∃ q, (q ∈ ps ∨ q ∈ F) ∧ p.2.2 = q.2.2
  | [], F, p, m => ⟨⟨p, .inr m, rfl⟩, p, .inr m, rfl⟩
  | r :: ps, F, p, m => by
    rw [List.foldl_cons] at m
    have key : ∀ y ∈ mrgStep F r, (∃ q, (q ∈ r :: ps ∨ q ∈ F) ∧ y.1 = q.1) ∧ ∃ q, (q ∈ r :: ps ∨ q ∈ F) ∧ y.2.2 = q.2.2 := fun y my => by
      rcases last_cases F with rfl | ⟨A, z, rfl⟩
      · rw [mrgStep_nil, List.mem_singleton] at my
        subst my
        exact ⟨⟨y, .inl List.mem_cons_self, rfl⟩, y, .inl List.mem_cons_self, rfl⟩
      · rw [mrgStep_app] at my
        have hz : z ∈ A ++ [z] := List.mem_append_right _ List.mem_cons_self
        split at my
        · rcases List.mem_append.mp my with my | my
          · exact ⟨⟨y, .inr (List.mem_append_left _ my), rfl⟩, y, .inr (List.mem_append_left _ my), rfl⟩
          · rw [List.mem_singleton.mp my]
            exact ⟨⟨z, .inr hz, rfl⟩, r, .inl List.mem_cons_self, rfl⟩
        · rcases List.mem_append.mp my with my | my
          · exact ⟨⟨y, .inr my, rfl⟩, y, .inr my, rfl⟩
          · rw [List.mem_singleton.mp my]
            exact ⟨⟨r, .inl List.mem_cons_self, rfl⟩, r, .inl List.mem_cons_self, rfl⟩
    obtain ⟨⟨q1, m1, e1⟩, q2, m2, e2⟩ := mrg_of ps (mrgStep F r) p m
    constructor
    · rcases m1 with m1 | m1
      · exact ⟨q1, .inl (List.mem_cons_of_mem _ m1), e1⟩
      · obtain ⟨⟨q, mq, e⟩, _⟩ := key q1 m1
        exact ⟨q, mq, e1.trans e⟩
    · rcases m2 with m2 | m2
      · exact ⟨q2, .inl (List.mem_cons_of_mem _ m2), e2⟩
      · obtain ⟨_, q, mq, e⟩ := key q2 m2
        exact ⟨q, mq, e2.trans e⟩
theorem mrgStep_ne (F : List Pc3) (p : Pc3) : mrgStep F p ≠ [] := by
  rcases last_cases F with rfl | ⟨A, z, rfl⟩
  · rw [mrgStep_nil]; simp
  · rw [mrgStep_app]; split <;> simp
theorem mrg_ne : ∀ (ps F : List Pc3), (ps ≠ [] ∨ F ≠ []) → ps.foldl mrgStep F ≠ []
  | [], F, h => h.resolve_left fun z => z rfl
  | p :: ps, F, _ => mrg_ne ps (mrgStep F p) (.inr (mrgStep_ne F p))
theorem lawRaw_get {f : Rat → List Rat} : ∀ {Es : List Rat} {i : Nat} {b : Rat}, Es[i]? = some b → (hiP (lawRaw f Es))[i]? = some (b, Es[i + 1]?, lawF f b (Es[i + 1]?.getD (b + 1)))
  | [], _, _, e => by cases e
  | [a], 0, b, e => by cases e; rfl
  | [a], i + 1, b, e => by cases e
  | a :: l :: r, 0, b, e => by
    cases e
    cases r <;> rfl
  | a :: l :: r, i + 1, b, e => by
    have ih := lawRaw_get (f := f) (Es := l :: r) (i := i) (b := b) e
    have e2 : (hiP (lawRaw f (a :: l :: r)))[i + 1]? = (hiP (lawRaw f (l :: r)))[i]? := by
      cases r <;> rfl
    rw [e2, ih]
    rfl
theorem lawRaw_len {f : Rat → List Rat} : ∀ {Es : List Rat}, (hiP (lawRaw f Es)).length = Es.length
  | [] => rfl
  | [a] => rfl
  | a :: l :: r => by
    have ih := lawRaw_len (f := f) (Es := l :: r)
    have e2 : (hiP (lawRaw f (a :: l :: r))).length = (hiP (lawRaw f (l :: r))).length + 1 := by
      cases r <;> rfl
    rw [e2, ih]; rfl
theorem lawE_len (L : List LI) (n : Nat) : (lawE L n).length ≤ 4 + 2 * L.length := by
  unfold lawE
  refine Nat.le_trans inOrd_len (Nat.le_trans (List.length_filter_le _ _) ?_)
  unfold lawEs
  rw [List.length_append, List.length_append, List.length_map]
  have h1 : (inOrd (allT L)).length ≤ (allT L).length := inOrd_len
  have h2 := allT_len L
  have h3 : (if ∀ x ∈ L, (highQ x).isSome = true then [lsum (L.map highD) + ((gapsQ L n : Int) : Rat)] else []).length ≤ 1 := by split <;> simp
  have h4 : [0, lsum (L.map lowQ) + ((gapsQ L n : Int) : Rat)].length = 2 := rfl
  omega
abbrev pcsL (L : List LI) (n : Nat) : List Pc3 := mrg (hiP (lawRaw (rowF L n) (lawE L n)))
theorem raw_ok {L : List LI} {n : Nat} (R : Rok L n) : ∀ p ∈ hiP (lawRaw (rowF L n) (lawE L n)), Sz 50 p.1 ∧ p.2.2.length ≤ 8 ∧ ∀ f ∈ p.2.2, Zf 400 f := fun p m => by
  obtain ⟨i, hi⟩ := List.getElem?_of_mem m
  have hlt := (List.getElem?_eq_some_iff.mp hi).1
  rw [lawRaw_len] at hlt
  have hb : (lawE L n)[i]? = some (lawE L n)[i] := List.getElem?_eq_getElem hlt
  rw [lawRaw_get hb] at hi
  cases hi
  have q0 := (lawE_qn R _ (List.mem_of_getElem? hb)).1
  refine ⟨qz q0 (by decide), lawF_len R, ?_⟩
  cases e : (lawE L n)[i + 1]? with
  | none => exact lawF_sz R (Qn.one1 q0).1 (Qn.one1 q0).2 (by show (lawE L n)[i] < (lawE L n)[i] + 1; grind)
  | some l =>
    have q1 := (lawE_qn R _ (List.mem_of_getElem? e)).1
    refine lawF_sz R (Qn.one1 q0).1 (Qn.one1 q1).1 ?_
    obtain ⟨hl2, e2⟩ := List.getElem?_eq_some_iff.mp e
    have := List.pairwise_iff_getElem.mp (law_ends L n).asc i (i + 1) hlt hl2 (by omega)
    show (lawE L n)[i] < l
    rw [← e2]; exact this
theorem pcsL_z {L : List LI} {n : Nat} (R : Rok L n) : Pz (pcsL L n) := by
  have hl := lawE_len L n
  have h8 := R.l
  refine ⟨mrg_ne _ _ (.inl fun z => ?_), ?_, fun p m => ?_⟩
  · have h1 := congrArg List.length z
    rw [lawRaw_len] at h1
    obtain ⟨Rr, e⟩ := (law_ends L n).zero
    rw [e] at h1
    cases h1
  · have h1 := mrg_len (hiP (lawRaw (rowF L n) (lawE L n))) []
    rw [lawRaw_len] at h1
    have h1 : (pcsL L n).length ≤ 0 + (lawE L n).length := h1
    omega
  · obtain ⟨⟨q1, m1, e1⟩, q2, m2, e2⟩ := mrg_of _ _ p m
    have m1 := m1.resolve_right (fun z => nomatch z)
    have m2 := m2.resolve_right (fun z => nomatch z)
    have h1 := raw_ok R q1 m1
    have h2 := raw_ok R q2 m2
    rw [e1, e2]
    exact ⟨h1.1.mono (by decide), by omega, fun f mf => (h2.2.2 f mf).mono (by decide)⟩
theorem pcsP_eq {L : List LI} {n : Nat} (R : Rok L n) : pcsP L n = pcsL L n := pieces_eq n R.ok
end Law
set_option Elab.async false
set_option linter.all false
set_option maxRecDepth 100000
set_option maxHeartbeats 1000000
/-! the law's pieces -/
namespace Law
open PySem PySem.Spec PyProof.Rows L2 Gh
variable {E : En} {s : Sx} {K : Addr} {g : Str → Addr}
theorem zipD_frs : ∀ A B : List Rat, zipD (A.map fr) (B.map fr) = (A.zip B).map fun p => D.tup [fr p.1, fr p.2]
  | [], _ => rfl
  | _ :: _, [] => rfl
  | a :: A, b :: B => by
    have := zipD_frs A B
    show D.tup [fr a, fr b] :: zipD (A.map fr) (B.map fr) = _
    rw [this]; rfl
def formP (b l : Rat) (p : Rat × Rat) : Lin := (p.1 - (p.2 - p.1) / (l - b) * b, (p.2 - p.1) / (l - b))
theorem lawF_zip (f : Rat → List Rat) (b l : Rat) : lawF f b l = ((f b).zip (f l)).map (formP b l) := by
  unfold lawF
  generalize f b = A
  generalize f l = B
  induction A generalizing B with
  | nil => rfl
  | cons a A ih =>
    cases B with
    | nil => rfl
    | cons c B =>
      rw [List.zipWith_cons_cons, List.zip_cons_cons, List.map_cons, ih B]; rfl
theorem num_nn (q : Rat) : decide ((0 : Int) ≤ q.num) = decide (0 ≤ q) := decide_eq_decide.mpr (Rat.num_nonneg)
theorem rn_law_pieces (T : Tc E) {L : List LI} {n : Nat} (R : Rok L n) : Rn E 8 "_law_pieces" [.lst (L.map liD), .int n] s (.lst ((pcsL L n).map pcD)) s := by
  have hl8 := R.l
  have hn := R.n
  have zgq := gaps_qn R.l R.o R.n
  have zg : Sz 40 ((gapsQ L n : Int) : Rat) := qz zgq (by decide)
  obtain ⟨zlow, Rlow⟩ := rn_lsumQ (s := s) T (qs := L.map lowQ) (fun q m => by obtain ⟨x, mx, rfl⟩ := List.mem_map.mp m; exact low_qn (R.q x mx)) (by rw [List.length_map]; omega)
  obtain ⟨zhigh, Rhigh⟩ := rn_lsumQ (s := s) T (qs := L.map highD) (fun q m => by obtain ⟨x, mx, rfl⟩ := List.mem_map.mp m; exact high_qn (R.q x mx)) (by rw [List.length_map]; omega)
  refine T.d__law_pieces.rn sc__law_pieces rfl rfl fun fa cdv A outer sh H0 EX S0 p hr => ?_
  conv => arg 2; whnf
  have nd := sc__law_pieces.nd
  have hti : (inOrd (allT L)).length ≤ 17 := by
    have h1 : (inOrd (allT L)).length ≤ (allT L).length := inOrd_len
    have h2 := allT_len L
    omega
  -- the ends
  refine bk_cons (bs_setOwn (ds := [0, lsum (L.map lowQ) + ((gapsQ L n : Int) : Rat)].map fr) 2 nd rfl (.inl rfl) (el_lst (ea_cons (Ed.is (y := fr 0) (ed_tup (ea_cons ed_int (ea_cons ed_int ea_nil))) rfl) (ea_cons (ed_cl (ea_cons (ed_cl (ea_cons (Ed.is (y := .lst ((L.map lowQ).map fr)) (El.ed (el_mapM (s1 := s) [("_law_item_here", 3)] liD (fun x : LI => fr (lowQ x)) (xs := L) rfl nd (ei_seq (ed_var (d := .lst (L.map liD)) 0 rfl (.inr (.inl rfl)) rfl) (.inl rfl)) (blkOk_by rfl) (sl1000 (by omega)) (fun x mx => ⟨_, _, fun b => eg_name 3 nd rfl (.inl rfl), by decide, fun b => ed_cl (ea_cons (ed_var (d := liD x) 3 rfl (.inl rfl) rfl) ea_nil) (hr.mono (by decide)) (rn_lleast T (R.ok x mx))⟩))) (by rw [List.map_map]; rfl)) ea_nil) (hr.mono (by decide)) Rlow) (ea_cons (ed_cl (ea_cons (ed_var (d := .lst (L.map liD)) 0 rfl (.inr (.inl rfl)) rfl) (ea_cons (ed_var (d := .int n) 1 rfl (.inr (.inl rfl)) rfl) ea_nil)) (hr.mono (by decide)) (rn_lgaps T (by omega) (by omega))) ea_nil)) (hr.mono (by decide)) (rn_lplus T.toTx (zlow.mono (by decide)) (zg.mono (by decide)))) ea_nil))) ?_)
  show Bk _ _ ([.val (.lst (L.map liD)), .val (.int n), .own ([0, lsum (L.map lowQ) + ((gapsQ L n : Int) : Rat)].map fr), .no, .no, .no, .no, .no, .no, .no, .no, .no, .no, .no, .no, .no, .no, .no] : List Gh.G) s _
  refine bk_cons (bs_extend 2 (ds := ((inOrd (allT L)).map fun t => totQ L t + ((gapsQ L n : Int) : Rat)).map fr) (s1 := s) rfl (.inl rfl) rfl (El.is (el_mapM (s1 := s) [("_law_level_here", 4)] fr (fun t : Rat => fr (totQ L t + ((gapsQ L n : Int) : Rat))) (xs := inOrd (allT L)) rfl nd (ei_seq (ed_cl (ea_cons (ed_var (d := .lst (L.map liD)) 0 rfl (.inr (.inl rfl)) rfl) ea_nil) (hr.mono (by decide)) (rn_turns T (by omega) R.q)) (.inl rfl)) (blkOk_by rfl) (sl1000 (by omega)) (fun t mt => ⟨_, _, fun b => eg_name 4 nd rfl (.inl rfl), by decide, fun b => ed_cl (ea_cons (ed_cl (ea_cons (ed_var (d := .lst (L.map liD)) 0 rfl (.inr (.inl rfl)) rfl) (ea_cons (ed_var (d := fr t) 4 rfl (.inl rfl) rfl) ea_nil)) (hr.mono (by decide)) (rn_totalq T R.q R.l (allT_qn R.q t (inOrd_mem t mt)))) (ea_cons (ed_cl (ea_cons (ed_var (d := .lst (L.map liD)) 0 rfl (.inr (.inl rfl)) rfl) (ea_cons (ed_var (d := .int n) 1 rfl (.inr (.inl rfl)) rfl) ea_nil)) (hr.mono (by decide)) (rn_lgaps T (by omega) (by omega))) ea_nil)) (hr.mono (by decide)) (rn_lplus T.toTx ((qz (n := 60) (tot_qn R.q R.l (allT_qn R.q t (inOrd_mem t mt))) (by decide)).mono (by decide)) (zg.mono (by decide)))⟩)) (by rw [List.map_map]; rfl)) (sl1000 (by simp only [List.length_map, List.length_cons, List.length_nil]; omega)) ?_)
  rw [← List.map_append]
  show Bk _ _ ([.val (.lst (L.map liD)), .val (.int n), .own (([0, lsum (L.map lowQ) + ((gapsQ L n : Int) : Rat)] ++ (inOrd (allT L)).map fun t => totQ L t + ((gapsQ L n : Int) : Rat)).map fr), .no, .no, .no, .no, .no, .no, .no, .no, .no, .no, .no, .no, .no, .no, .no] : List Gh.G) s _
  refine bk_setM 5 [("_law_item_here", 3)] liD (fun x : LI => hqD (highQ x)) (xs := L) (s1 := s) rfl nd rfl rfl rfl rfl (ei_seq (ed_var (d := .lst (L.map liD)) 0 rfl (.inr (.inl rfl)) rfl) (.inl rfl)) (blkOk_by rfl) (sl1000 (by omega)) (fun x mx => ⟨_, _, fun b => eg_name 3 nd rfl (.inl rfl), by decide, fun b => ed_cl (ea_cons (ed_var (d := liD x) 3 rfl (.inl rfl) rfl) ea_nil) (hr.mono (by decide)) (rn_lgreatest T (R.ok x mx))⟩) ?_
  have eEs : lawEs L n = ([0, lsum (L.map lowQ) + ((gapsQ L n : Int) : Rat)] ++ (inOrd (allT L)).map fun t => totQ L t + ((gapsQ L n : Int) : Rat)) ++ (if ∀ x ∈ L, (highQ x).isSome = true then [lsum (L.map highD) + ((gapsQ L n : Int) : Rat)] else []) := rfl
  have hEl : (lawEs L n).length ≤ 20 := by
    rw [eEs, List.length_append, List.length_append, List.length_map]
    have h3 : (if ∀ x ∈ L, (highQ x).isSome = true then [lsum (L.map highD) + ((gapsQ L n : Int) : Rat)] else []).length ≤ 1 := by split <;> simp
    simp only [List.length_cons, List.length_nil]
    omega
  have hAl : ([0, lsum (L.map lowQ) + ((gapsQ L n : Int) : Rat)] ++ (inOrd (allT L)).map fun t => totQ L t + ((gapsQ L n : Int) : Rat)).length ≤ 20 := by
    rw [eEs, List.length_append] at hEl
    omega
  generalize ([0, lsum (L.map lowQ) + ((gapsQ L n : Int) : Rat)] ++ (inOrd (allT L)).map fun t => totQ L t + ((gapsQ L n : Int) : Rat)) = As at eEs hAl
  show Bk _ _ ([.val (.lst (L.map liD)), .val (.int n), .own (As.map fr), .no, .no, .val (.lst (L.map fun x => hqD (highQ x))), .no, .no, .no, .no, .no, .no, .no, .no, .no, .no, .no, .no] : List Gh.G) s _
  refine bk_via (fun ρ' s2 => s2 = s ∧ ρ' = [.val (.lst (L.map liD)), .val (.int n), .own ((lawEs L n).map fr), .no, .no, .val (.lst (L.map fun x => hqD (highQ x))), .no, .no, .no, .no, .no, .no, .no, .no, .no, .no, .no, .no]) ?_ ?_
  · by_cases hs : ∀ x ∈ L, (highQ x).isSome = true
    · have hf := high_frs hs
      rw [eEs, if_pos hs]
      refine bs_ifT (Cp.et (Cp.is (cp_notInV hr ed_non (ed_var (d := .lst (L.map fun x => hqD (highQ x))) 5 rfl (.inl rfl) rfl).ev eqC_non (eqDs_hq L).lst.eqC) (by rw [none_in, decide_eq_true hs]))) ?_
      exact bk_cons (bs_append 2 (d := fr (lsum (L.map highD) + ((gapsQ L n : Int) : Rat))) (s1 := s) rfl (.inl rfl) rfl (ed_cl (ea_cons (ed_cl (ea_cons (ed_var (d := .lst ((L.map highD).map fr)) 5 rfl (.inl rfl) (by rw [← hf]; rfl)) ea_nil) (hr.mono (by decide)) Rhigh) (ea_cons (ed_cl (ea_cons (ed_var (d := .lst (L.map liD)) 0 rfl (.inr (.inl rfl)) rfl) (ea_cons (ed_var (d := .int n) 1 rfl (.inr (.inl rfl)) rfl) ea_nil)) (hr.mono (by decide)) (rn_lgaps T (by omega) (by omega))) ea_nil)) (hr.mono (by decide)) (rn_lplus T.toTx (zhigh.mono (by decide)) (zg.mono (by decide)))) (sl1000 (by rw [List.length_map]; omega)) (bk_nil ⟨rfl, by rw [List.map_append]; rfl⟩))
    · rw [eEs, if_neg hs, List.append_nil]
      exact bs_ifF (Cp.et (Cp.is (cp_notInV hr ed_non (ed_var (d := .lst (L.map fun x => hqD (highQ x))) 5 rfl (.inl rfl) rfl).ev eqC_non (eqDs_hq L).lst.eqC) (by rw [none_in, decide_eq_false hs]))) (bk_nil ⟨rfl, rfl⟩)
  rintro ρ' s2 ⟨rfl, rfl⟩
  refine bk_freeze 2 rfl ?_
  have hfl : ((lawEs L n).filter fun q => decide (0 ≤ q)).length ≤ (lawEs L n).length := List.length_filter_le _ _
  have hz : ∀ q ∈ (lawEs L n).filter fun q => decide (0 ≤ q), Sz 50 q := fun q m => qz (lawE_qn R q ((inOrd_spec _).2 q |>.mpr m)).1 (by decide)
  refine bk_cons (bs_parVO 2 6 (d2 := .lst ((lawE L n).map fr)) (s1 := s2) (s2 := s2) (ds := (((hiP (lawRaw (rowF L n) (lawE L n))).take 0).foldl mrgStep []).map pcD) rfl nd rfl rfl (by decide) rfl rfl (ed_cl (ea_cons (El.ed (el_filterM (s1 := s2) [("_law_end", 7)] fr fr (fun q : Rat => decide (0 ≤ q)) (xs := lawEs L n) rfl nd (ei_seq (ed_var (d := .lst ((lawEs L n).map fr)) 2 rfl (.inl rfl) rfl) (.inl rfl)) (blkOk_by rfl) (sl1000 (by omega)) (fun q mq => ⟨_, _, fun b => eg_name 7 nd rfl (.inl rfl), by decide, fun b => Cp.et (Cp.is (cp_ge (ed_ix (d := .int q.num) (ed_var (d := fr q) 7 rfl (.inl rfl) rfl) ed_int rfl) ed_int) (num_nn q)), fun _ b => ed_var (d := fr q) 7 rfl (.inl rfl) rfl⟩))) ea_nil) (hr.mono (by decide)) (rn_in_order T (fun q m => (hz q m).mono (by decide)) (by omega))) (el_lst ea_nil) ?_)
  have hE : ∀ q ∈ lawE L n, Qn 415800 (2 ^ 44 + 2 ^ 25) q := fun q m => (lawE_qn R q m).1
  have hAsc := (law_ends L n).asc
  have hEl2 : (lawE L n).length ≤ 20 := by
    have := lawE_len L n
    omega
  unfold pcsL mrg
  generalize lawE L n = Es at hE hAsc hEl2
  show Bk _ _ ([.val (.lst (L.map liD)), .val (.int n), .val (.lst (Es.map fr)), .no, .no, .val (.lst (L.map fun x => hqD (highQ x))), .own ((((hiP (lawRaw (rowF L n) Es)).take 0).foldl mrgStep []).map pcD), .no, .no, .no, .no, .no, .no, .no, .no, .no, .no, .no] : List Gh.G) s2 _
  have el : (enumD (Es.map fr)).length = Es.length := by rw [enumD_length, List.length_map]
  have pl := lawRaw_len (f := rowF L n) (Es := Es)
  refine bk_cons (bs_for (items := enumD (Es.map fr)) (s1 := s2) PassesOwn.never rfl (ei_enum T.bf (ed_var (d := .lst (Es.map fr)) 2 rfl (.inl rfl) rfl)) (fun i ρ s' => s' = s2 ∧ ∃ g8 g9 g10 g11 g12 g13 g14 g15 g16 g17, ρ = [.val (.lst (L.map liD)), .val (.int n), .val (.lst (Es.map fr)), .no, .no, .val (.lst (L.map fun x => hqD (highQ x))), .own ((((hiP (lawRaw (rowF L n) Es)).take i).foldl mrgStep []).map pcD), .no, g8, g9, g10, g11, g12, g13, g14, g15, g16, g17]) ⟨rfl, _, _, _, _, _, _, _, _, _, _, rfl⟩ ?_ ?_)
  · rintro i d ρ' s' hi ⟨rfl, g8, g9, g10, g11, g12, g13, g14, g15, g16, g17, rfl⟩
    have hlt : i < Es.length := by rw [← el]; exact (List.getElem?_eq_some_iff.mp hi).1
    have hb : Es[i]? = some Es[i] := List.getElem?_eq_getElem hlt
    rw [enumD_get (d := fr Es[i]) (by rw [List.getElem?_map, hb]; rfl)] at hi
    cases hi
    have hg := lawRaw_get (f := rowF L n) hb
    have qb := hE _ (List.mem_of_getElem? hb)
    have zb : Sz 50 Es[i] := qz qb (by decide)
    rw [take_foldl hg]
    have hF := mrg_len ((hiP (lawRaw (rowF L n) Es)).take i) []
    rw [List.length_take, List.length_nil, Nat.zero_add] at hF
    have hF : (((hiP (lawRaw (rowF L n) Es)).take i).foldl mrgStep []).length ≤ 20 := by omega
    generalize ((hiP (lawRaw (rowF L n) Es)).take i).foldl mrgStep [] = M at hF
    -- the next end, or one behind
    obtain ⟨l, hgl, ql, bl, hlast⟩ : ∃ l, Es[i + 1]?.getD (Es[i] + 1) = l ∧ Qn 415800 (2 ^ 45) l ∧ Es[i] < l ∧ ((Es[i + 1]? = some l ∧ i + 1 < Es.length) ∨ (Es[i + 1]? = none ∧ l = Es[i] + 1 ∧ ¬ i + 1 < Es.length)) := by
      cases eo : Es[i + 1]? with
      | none => exact ⟨_, rfl, (Qn.one1 qb).2, (by show Es[i] < Es[i] + 1; grind), .inr ⟨rfl, rfl, by have := List.getElem?_eq_none_iff.mp eo; omega⟩⟩
      | some l =>
        obtain ⟨hl2, e2⟩ := List.getElem?_eq_some_iff.mp eo
        have := List.pairwise_iff_getElem.mp hAsc i (i + 1) hlt hl2 (by omega)
        exact ⟨l, rfl, (Qn.one1 (hE l (List.mem_of_getElem? eo))).1, (by rw [← e2]; exact this), .inl ⟨rfl, hl2⟩⟩
    rw [hgl]
    generalize hu : Es[i + 1]? = up at hlast
    generalize Es[i] = b at *
    have zl : Sz 50 l := qz ql (by decide)
    refine ⟨_, _, eg_tup rfl (egs_cons (eg_name 8 nd rfl (.inl rfl)) (egs_cons (eg_name 9 nd rfl (.inl rfl)) egs_nil)), ?_⟩
    show Bk _ _ ([.val (.lst (L.map liD)), .val (.int n), .val (.lst (Es.map fr)), .no, .no, .val (.lst (L.map fun x => hqD (highQ x))), .own (M.map pcD), .no, .val (.int (i : Int)), .val (fr b), g10, g11, g12, g13, g14, g15, g16, g17] : List Gh.G) s' _
    refine bk_cons (bs_set (d := fr l) (s1 := s') 10 nd rfl (.inl rfl) ?_ ?_)
    · rcases hlast with ⟨e1, e2⟩ | ⟨e1, e2, e3⟩
      · subst e1
        exact ed_ifT (Cp.et (Cp.is (cp_lt (ed_bin (ed_var (d := .int (i : Int)) 8 rfl (.inl rfl) rfl) ed_int rfl trivial) (ed_len T.bf (ed_var (d := .lst (Es.map fr)) 2 rfl (.inl rfl) rfl) rfl)) (decide_eq_true (by rw [List.length_map]; omega)))) (ed_ix (d := fr l) (ed_var (d := .lst (Es.map fr)) 2 rfl (.inl rfl) rfl) (ed_bin (ed_var (d := .int (i : Int)) 8 rfl (.inl rfl) rfl) ed_int rfl trivial) (atI_n (i := i + 1) (by rw [List.getElem?_map, hu]; rfl)))
      · subst e2
        exact ed_ifF (Cp.et (Cp.is (cp_lt (ed_bin (ed_var (d := .int (i : Int)) 8 rfl (.inl rfl) rfl) ed_int rfl trivial) (ed_len T.bf (ed_var (d := .lst (Es.map fr)) 2 rfl (.inl rfl) rfl) rfl)) (decide_eq_false (by rw [List.length_map]; omega)))) (ed_cl (ea_cons (ed_var (d := fr b) 9 rfl (.inl rfl) rfl) (ea_cons (Ed.is (y := fr 1) (ed_tup (ea_cons ed_int (ea_cons ed_int ea_nil))) rfl) ea_nil)) (hr.mono (by decide)) (rn_lplus T.toTx (zb.mono (by decide)) (sz_nat (i := 1) (by decide))))
    show Bk _ _ ([.val (.lst (L.map liD)), .val (.int n), .val (.lst (Es.map fr)), .no, .no, .val (.lst (L.map fun x => hqD (highQ x))), .own (M.map pcD), .no, .val (.int (i : Int)), .val (fr b), .val (fr l), g11, g12, g13, g14, g15, g16, g17] : List Gh.G) s' _
    have ZA := row_sz R (Qn.one1 qb).1
    have ZB := row_sz R ql
    have hlA : (rowF L n b).length ≤ 8 := by
      have := szs_len L (b - ((gapsQ L n : Int) : Rat)) R.ok
      have h : (rowF L n b).length = L.length := this
      omega
    refine bk_cons (bs_par3G 11 12 13 (g1 := .val (.lst ((rowF L n b).map fr))) (g2 := .val (.lst ((rowF L n l).map fr))) (g3 := .own (((((rowF L n b).zip (rowF L n l)).take 0).map (formP b l)).map fp)) (s1 := s') rfl nd rfl rfl rfl (by decide) (by decide) (by decide) rfl rfl rfl (eag_val (ed_cl (ea_cons (ed_var (d := .lst (L.map liD)) 0 rfl (.inr (.inl rfl)) rfl) (ea_cons (ed_var (d := .int n) 1 rfl (.inr (.inl rfl)) rfl) (ea_cons (ed_var (d := fr b) 9 rfl (.inl rfl) rfl) ea_nil))) (hr.mono (by decide)) (rn_lsizes T R.l R.q R.n zb)) (eag_val (ed_cl (ea_cons (ed_var (d := .lst (L.map liD)) 0 rfl (.inr (.inl rfl)) rfl) (ea_cons (ed_var (d := .int n) 1 rfl (.inr (.inl rfl)) rfl) (ea_cons (ed_var (d := fr l) 10 rfl (.inl rfl) rfl) ea_nil))) (hr.mono (by decide)) (rn_lsizes T R.l R.q R.n zl)) (eag_own (el_lst ea_nil) eag_nil))) ?_)
    rw [lawF_zip]
    generalize rowF L n b = FA at ZA hlA
    generalize rowF L n l = FB at ZB
    show Bk _ _ ([.val (.lst (L.map liD)), .val (.int n), .val (.lst (Es.map fr)), .no, .no, .val (.lst (L.map fun x => hqD (highQ x))), .own (M.map pcD), .no, .val (.int (i : Int)), .val (fr b), .val (fr l), .val (.lst (FA.map fr)), .val (.lst (FB.map fr)), .own ((((FA.zip FB).take 0).map (formP b l)).map fp), g14, g15, g16, g17] : List Gh.G) s' _
    have hzl : (FA.zip FB).length ≤ 8 := by rw [List.length_zip]; omega
    refine bk_cons (bs_forM (s1 := s') (fun p : Rat × Rat => D.tup [fr p.1, fr p.2]) (xs := FA.zip FB) PassesOwn.never rfl (by rw [← zipD_frs]; exact ei_zip T.bf (ed_var (d := .lst (FA.map fr)) 11 rfl (.inl rfl) rfl) (ed_var (d := .lst (FB.map fr)) 12 rfl (.inl rfl) rfl)) (fun j ρ s3 => s3 = s' ∧ ∃ g14 g15 g16, ρ = [.val (.lst (L.map liD)), .val (.int n), .val (.lst (Es.map fr)), .no, .no, .val (.lst (L.map fun x => hqD (highQ x))), .own (M.map pcD), .no, .val (.int (i : Int)), .val (fr b), .val (fr l), .val (.lst (FA.map fr)), .val (.lst (FB.map fr)), .own ((((FA.zip FB).take j).map (formP b l)).map fp), g14, g15, g16, g17]) ⟨rfl, _, _, _, rfl⟩ ?_ ?_)
    · rintro j ⟨u, v⟩ ρ2 s3 hj ⟨rfl, g14, g15, g16, rfl⟩
      have muv := List.mem_of_getElem? hj
      have zu := ZA u (List.of_mem_zip muv).1
      have zv := ZB v (List.of_mem_zip muv).2
      have zs := sz_div (zv.sub zu) (zl.sub zb) (show 0 < l - b by grind)
      have hjl : ((FA.zip FB).take j).length ≤ 8 := by rw [List.length_take]; omega
      have e1 : ((FA.zip FB).take (j + 1)).map (formP b l) = ((FA.zip FB).take j).map (formP b l) ++ [formP b l (u, v)] := by rw [List.take_add_one, hj, List.map_append]; rfl
      rw [e1, List.map_append]
      generalize (FA.zip FB).take j = Zs at hjl
      refine ⟨_, _, eg_tup rfl (egs_cons (eg_name 14 nd rfl (.inl rfl)) (egs_cons (eg_name 15 nd rfl (.inl rfl)) egs_nil)), ?_⟩
      show Bk _ _ ([.val (.lst (L.map liD)), .val (.int n), .val (.lst (Es.map fr)), .no, .no, .val (.lst (L.map fun x => hqD (highQ x))), .own (M.map pcD), .no, .val (.int (i : Int)), .val (fr b), .val (fr l), .val (.lst (FA.map fr)), .val (.lst (FB.map fr)), .own ((Zs.map (formP b l)).map fp), .val (fr u), .val (fr v), g16, g17] : List Gh.G) s3 _
      refine bk_cons (bs_set (d := fr ((v - u) / (l - b))) (s1 := s3) 16 nd rfl (.inl rfl) (ed_cl (ea_cons (ed_cl (ea_cons (ed_var (d := fr v) 15 rfl (.inl rfl) rfl) (ea_cons (ed_var (d := fr u) 14 rfl (.inl rfl) rfl) ea_nil)) (hr.mono (by decide)) (rn_lminus T.toTx (zv.mono (by decide)) (zu.mono (by decide)))) (ea_cons (ed_cl (ea_cons (ed_var (d := fr l) 10 rfl (.inl rfl) rfl) (ea_cons (ed_var (d := fr b) 9 rfl (.inl rfl) rfl) ea_nil)) (hr.mono (by decide)) (rn_lminus T.toTx (zl.mono (by decide)) (zb.mono (by decide)))) ea_nil)) (hr.mono (by decide)) (rn_lover2 T ((zv.sub zu).mono (by decide)) ((zl.sub zb).mono (by decide)) (by grind))) ?_)
      show Bk _ _ ([.val (.lst (L.map liD)), .val (.int n), .val (.lst (Es.map fr)), .no, .no, .val (.lst (L.map fun x => hqD (highQ x))), .own (M.map pcD), .no, .val (.int (i : Int)), .val (fr b), .val (fr l), .val (.lst (FA.map fr)), .val (.lst (FB.map fr)), .own ((Zs.map (formP b l)).map fp), .val (fr u), .val (fr v), .val (fr ((v - u) / (l - b))), g17] : List Gh.G) s3 _
      exact bk_cons (bs_append 13 (d := fp (formP b l (u, v))) (s1 := s3) rfl (.inl rfl) rfl (ed_tup (ea_cons (ed_cl (ea_cons (ed_var (d := fr u) 14 rfl (.inl rfl) rfl) (ea_cons (ed_cl (ea_cons (ed_var (d := fr ((v - u) / (l - b))) 16 rfl (.inl rfl) rfl) (ea_cons (ed_var (d := fr b) 9 rfl (.inl rfl) rfl) ea_nil)) (hr.mono (by decide)) (rn_ltimes T.toTx (zs.mono (by decide)) (zb.mono (by decide)))) ea_nil)) (hr.mono (by decide)) (rn_lminus T.toTx (zu.mono (by decide)) ((zs.mul zb).mono (by decide)))) (ea_cons (ed_var (d := fr ((v - u) / (l - b))) 16 rfl (.inl rfl) rfl) ea_nil))) (sl1000 (by rw [List.length_map, List.length_map]; omega)) (bk_nil ⟨rfl, _, _, _, rfl⟩))
    · rintro ρ2 s3 ⟨rfl, g14, g15, g16, rfl⟩
      rw [List.take_length]
      generalize (FA.zip FB).map (formP b l) = Fl
      refine bk_freeze 13 rfl ?_
      show Bk _ _ ([.val (.lst (L.map liD)), .val (.int n), .val (.lst (Es.map fr)), .no, .no, .val (.lst (L.map fun x => hqD (highQ x))), .own (M.map pcD), .no, .val (.int (i : Int)), .val (fr b), .val (fr l), .val (.lst (FA.map fr)), .val (.lst (FB.map fr)), .val (.lst (Fl.map fp)), g14, g15, g16, g17] : List Gh.G) s3 _
      refine bk_cons (bs_set (d := hqD up) (s1 := s3) 17 nd rfl (.inl rfl) ?_ ?_)
      · rcases hlast with ⟨e1, e2⟩ | ⟨e1, e2, e3⟩
        · subst e1
          exact ed_ifT (Cp.et (Cp.is (cp_lt (ed_bin (ed_var (d := .int (i : Int)) 8 rfl (.inl rfl) rfl) ed_int rfl trivial) (ed_len T.bf (ed_var (d := .lst (Es.map fr)) 2 rfl (.inl rfl) rfl) rfl)) (decide_eq_true (by rw [List.length_map]; omega)))) (ed_var (d := fr l) 10 rfl (.inl rfl) rfl)
        · subst e1
          exact ed_ifF (Cp.et (Cp.is (cp_lt (ed_bin (ed_var (d := .int (i : Int)) 8 rfl (.inl rfl) rfl) ed_int rfl trivial) (ed_len T.bf (ed_var (d := .lst (Es.map fr)) 2 rfl (.inl rfl) rfl) rfl)) (decide_eq_false (by rw [List.length_map]; omega)))) ed_non
      show Bk _ _ ([.val (.lst (L.map liD)), .val (.int n), .val (.lst (Es.map fr)), .no, .no, .val (.lst (L.map fun x => hqD (highQ x))), .own (M.map pcD), .no, .val (.int (i : Int)), .val (fr b), .val (fr l), .val (.lst (FA.map fr)), .val (.lst (FB.map fr)), .val (.lst (Fl.map fp)), g14, g15, g16, .val (hqD up)] : List Gh.G) s3 _
      have hFs : (M.map pcD).length < 1000 := by rw [List.length_map]; omega
      have ETup : ∀ ρ : List Gh.G, ρ[13]? = some (.val (.lst (Fl.map fp))) → True := fun _ _ => trivial
      rcases last_cases M with rfl | ⟨A1, y, rfl⟩
      · refine bk_cons (bs_ifF (Ew.et (ew_andF (Cp.et (Cp.is (cp_neNil (xs := []) hr (ev_own 6 rfl (.inl rfl) rfl) (El.ev (el_lst ea_nil))) rfl)))) ?_)
        exact bk_cons (bs_append 6 (d := pcD (b, up, Fl)) (s1 := s3) rfl (.inl rfl) rfl (ed_tup (ea_cons (ed_var (d := fr b) 9 rfl (.inl rfl) rfl) (ea_cons (ed_var (d := hqD up) 17 rfl (.inl rfl) rfl) (ea_cons (ed_tupleOf T.bf (ed_var (d := .lst (Fl.map fp)) 13 rfl (.inl rfl) rfl) (.inl rfl)) ea_nil)))) (by decide) (bk_nil (bk_nil ⟨rfl, _, _, _, _, _, _, _, _, _, _, rfl⟩)))
      · rw [List.map_append] at hFs
        rw [mrgStep_app, List.map_append]
        show Bk _ _ ([.val (.lst (L.map liD)), .val (.int n), .val (.lst (Es.map fr)), .no, .no, .val (.lst (L.map fun x => hqD (highQ x))), .own (A1.map pcD ++ [pcD y]), .no, .val (.int (i : Int)), .val (fr b), .val (fr l), .val (.lst (FA.map fr)), .val (.lst (FB.map fr)), .val (.lst (Fl.map fp)), g14, g15, g16, .val (hqD up)] : List Gh.G) s3 _
        refine bk_cons (bs_if (t := decide (y.2.2 = Fl)) (s1 := s3) (Ew.et (ew_andT (Cp.et (Cp.is (cp_neNil (xs := A1.map pcD ++ [pcD y]) hr (ev_own 6 rfl (.inl rfl) rfl) (El.ev (el_lst ea_nil))) (by cases A1 <;> rfl))) (ew_and1 (Cp.et (Cp.is (cp_eq hr (ed_ix (d := fmL y.2.2) (ed_ixV (d := pcD y) (ev_own 6 rfl (.inl rfl) rfl) (ed_neg ed_int) (L2.atI_last (A1.map pcD) (pcD y))) ed_int rfl) (Ed.is (y := fmL Fl) (ed_tupleOf T.bf (ed_var (d := .lst (Fl.map fp)) 13 rfl (.inl rfl) rfl) (.inl rfl)) rfl) (eqD_fmL _).eqC (eqD_fmL _).eqC) (fmL_eqb _ _)))))) (fun h => ?_) (fun h => ?_))
        · have h := of_decide_eq_true h
          rw [if_pos h]
          refine bk_cons (bs_stO 6 (n := pcD (y.1, up, y.2.2)) (s1 := s3) (s2 := s3) (l := -1) (j := (A1.map pcD).length) rfl (.inl rfl) rfl (ed_tup (ea_cons (ed_ix (d := fr y.1) (ed_ixV (d := pcD y) (ev_own 6 rfl (.inl rfl) rfl) (ed_neg ed_int) (L2.atI_last (A1.map pcD) (pcD y))) ed_int rfl) (ea_cons (ed_var (d := hqD up) 17 rfl (.inl rfl) rfl) (ea_cons (ed_ix (d := fmL y.2.2) (ed_ixV (d := pcD y) (ev_own 6 rfl (.inl rfl) rfl) (ed_neg ed_int) (L2.atI_last (A1.map pcD) (pcD y))) ed_int rfl) ea_nil)))) (ed_neg ed_int) (by rw [List.length_append]; exact ixN_last _) ?_)
          rw [set_last1]
          exact bk_nil (bk_nil ⟨rfl, _, _, _, _, _, _, _, _, _, _, by rw [List.map_append, h]; rfl⟩)
        · have h := of_decide_eq_false h
          rw [if_neg h]
          exact bk_cons (bs_append 6 (d := pcD (b, up, Fl)) (s1 := s3) rfl (.inl rfl) rfl (ed_tup (ea_cons (ed_var (d := fr b) 9 rfl (.inl rfl) rfl) (ea_cons (ed_var (d := hqD up) 17 rfl (.inl rfl) rfl) (ea_cons (ed_tupleOf T.bf (ed_var (d := .lst (Fl.map fp)) 13 rfl (.inl rfl) rfl) (.inl rfl)) ea_nil)))) (sl1000 hFs) (bk_nil (bk_nil ⟨rfl, _, _, _, _, _, _, _, _, _, _, by rw [List.map_append, List.map_append]; rfl⟩)))
  · rintro ρ' s' ⟨rfl, g8, g9, g10, g11, g12, g13, g14, g15, g16, g17, rfl⟩
    rw [el, ← pl, List.take_length]
    refine bk_freeze 6 rfl ?_
    exact bk_cons (bs_ret (ed_var 6 rfl (.inl rfl) rfl) ⟨rfl, rfl⟩)
end Law
set_option Elab.async false
set_option linter.all false
set_option maxRecDepth 100000
set_option maxHeartbeats 1000000
/-! where pieces part, by the law -/
namespace Law
open PySem PySem.Spec PyProof.Rows L2 Gh
variable {E : En} {s : Sx} {K : Addr} {g : Str → Addr}
theorem rn_law_at (T : Tc E) {f : Lin} {r : Rat} (hf : Zf 1400 f) (hr0 : Sz 1400 r) : Rn E 3 "_law_at" [fp f, fr r] s (fr (lin f r)) s := by
  refine T.d__law_at.rn sc__law_at rfl rfl fun fa cdv A outer sh H0 EX S0 p hr => ?_
  conv => arg 2; whnf
  exact bk_cons (bs_ret (ed_cl (ea_cons (ed_ix (d := fr f.1) (ed_var (d := fp f) 0 rfl (.inl rfl) rfl) ed_int rfl) (ea_cons (ed_cl (ea_cons (ed_ix (d := fr f.2) (ed_var (d := fp f) 0 rfl (.inl rfl) rfl) ed_int rfl) (ea_cons (ed_var (d := fr r) 1 rfl (.inl rfl) rfl) ea_nil)) (hr.mono (by decide)) (rn_ltimes T.toTx (hf.2.mono (by decide)) (hr0.mono (by decide)))) ea_nil)) (hr.mono (by decide)) (rn_lplus T.toTx (hf.1.mono (by decide)) ((hf.2.mul hr0).mono (by decide)))) ⟨rfl, rfl⟩)
theorem not_less (a b : Rat) : (!decide (a < b)) = decide (b ≤ a) := by
  by_cases h : a < b
  · rw [decide_eq_true h, decide_eq_false (Rat.not_le.mpr h)]; rfl
  · rw [decide_eq_false h, decide_eq_true (Rat.not_lt.mp h)]; rfl
end Law
set_option Elab.async false
set_option linter.all false
set_option maxRecDepth 100000
set_option maxHeartbeats 4000000
/-! lists within owned lists: each has a place of its own, a name of no variable -/
namespace Gh
open PySem PySem.Spec PyProof.Rows L2
section
variable {F : Fx} {ρ : List G} {s s1 s2 s' : Sx} {c e a o : Expr} {es : List Expr} {st : Stmt} {sts : List Stmt} {ds xs ys zs zs0 : List D} {d : D} {pos p : Pos} {k : GE}
/-- the state holds ints and the list of cells -/
def Cal (s : Sx) : Prop := ∀ xs, s = some xs → ∀ d ∈ xs, (∃ n, d = .int n) ∨ ∃ ns, d = .cel ns
theorem rps_cal {K : PySem.W.Frag} {p : Pa} {H : Hp} {S S' : List Addr} : ∀ {ds : List D} {vs : List V}, (∀ d ∈ ds, (∃ n, d = .int n) ∨ ∃ ns, d = .cel ns) → Rps K p S H vs ds → Rps K p S' H vs ds
  | [], _, _, h => by cases h; exact .nil
  | d :: ds, _, hi, h => by
    cases h with
    | cons h1 h2 =>
      refine .cons ?_ (rps_cal (fun d m => hi d (List.mem_cons_of_mem _ m)) h2)
      rcases hi d List.mem_cons_self with ⟨n, rfl⟩ | ⟨ns, rfl⟩
      · cases h1; exact .int _
      · cases h1; exact .cel _
def spF (K : PySem.W.Frag) (T : Ts) (ds : List D) (s : Sx) (zs0 zs : List D) (s' : Sx) : Sp := fun vs H Q _ => ∃ (p : Pa) (S : List Addr), Rps K p S H vs ds ∧ (∀ a ∈ S, ∃ o, H a = some o) ∧ StA K T p S H s ∧
  ∀ a b us ws H', H a = none → H b = none → a ≠ b → H' a = some (.lst (.ref b :: us)) → H' b = some (.lst ws) → Rps K p (a :: b :: S) H' us zs → Rps K p (a :: b :: S) H' ws zs0 → XP p s H H' → StA K T p (a :: b :: S) H' s' → Q (.ref a) H'
structure RnF (E : En) (k : Nat) (f : Str) (ds : List D) (s : Sx) (zs0 zs : List D) (s' : Sx) : Prop where
  kd : s.isSome = s'.isSome
  ok : ∃ fa fd ps, E.mg f = some (.ref fa) ∧ PySem.W.keepIn E.K (.ref fa) = true ∧ Binds E.K fd ps [] ∧ FnOk E.P E.w E.K E.mg E.base CX0 k fa fd ps (spF E.K E.T ds s zs0 zs s')
structure RnFA (E : En) (k : Nat) (fa : Addr) (ds : List D) (s : Sx) (zs0 zs : List D) (s' : Sx) : Prop where
  kd : s.isSome = s'.isSome
  ok : ∃ fd ps, PySem.W.keepIn E.K (.ref fa) = true ∧ Binds E.K fd ps [] ∧ FnOk E.P E.w E.K E.mg E.base CX0 k fa fd ps (spF E.K E.T ds s zs0 zs s')
theorem spF_of {K : PySem.W.Frag} {T : Ts} (kd : s.isSome = s'.isSome) : ∀ vs H Q EX, spOf K T ds s (.lst (.lst zs0 :: zs)) s' vs H Q EX → spF K T ds s zs0 zs s' vs H Q EX := fun vs H Q EX h => by
  obtain ⟨p, S, r, tr, st, q⟩ := h
  refine ⟨p, S, r, tr, st, fun a b us ws H' n m hab h1 h2 r1 r2 x t => q (.ref a) H' ?_ x (t.less (fun z => ?_) fun c mc => List.mem_cons_of_mem _ (List.mem_cons_of_mem _ mc))⟩
  · have out : ∀ c, H c = none → c ∉ S := fun c nc mc => by
      obtain ⟨o, ho⟩ := tr c mc
      rw [nc] at ho; cases ho
    have w : ∀ c ∈ S, c ∈ a :: b :: S := fun c mc => List.mem_cons_of_mem _ (List.mem_cons_of_mem _ mc)
    exact .lst (out a n) h1 (.cons (.lst (out b m) h2 (r2.weak w)) (r1.weak w))
  · cases s with
    | none => rw [← kd] at z; cases z
    | some xs => exact st.2.1
theorem RnF.rn {E : En} {k : Nat} {f : Str} (R : RnF E k f ds s zs0 zs s') : Rn E k f ds s (.lst (.lst zs0 :: zs)) s' := by
  obtain ⟨kd, fa, fd, ps, h1, h2, h3, h4⟩ := R
  exact ⟨kd, fa, fd, ps, h1, h2, h3, h4.imp (spF_of kd)⟩
theorem RnFA.rn {E : En} {k : Nat} {f : Addr} (R : RnFA E k f ds s zs0 zs s') : RnA E k f ds s (.lst (.lst zs0 :: zs)) s' := by
  obtain ⟨kd, fd, ps, h2, h3, h4⟩ := R
  exact ⟨kd, fd, ps, h2, h3, h4.imp (spF_of kd)⟩
end
end Gh
set_option Elab.async false
set_option linter.all false
set_option maxRecDepth 100000
set_option maxHeartbeats 4000000
/-! f(.., lambda ..: ..), a new list -/
namespace Gh
open PySem PySem.Spec PyProof.Rows L2 LamX
section
variable {F : Fx} {ρ : List G} {s s1 s2 : Sx} {e : Expr} {es : List Expr} {d : D} {ds : List D} {pos p lpos : Pos}
variable {zs : List D}
/-- f(.., lambda ..: ..), a new list -/
theorem el_clF {f : Str} {k : Nat} {L : Lm} {cs : List D} (ha : EaL F ρ s (e :: es) L ds s1) (hc : Cap F ρ L.fr cs) (S : CScope L.ps L.fr L.scope) (hr : Room k F.X.A) (R : RnL F.en k f (ds ++ [.clo L cs]) s1 zs s2) (hn : D.noCs zs = true) (hs : SxN s2)
    (hg : Gl F.X f := by rfl) (hdb : (f == ("__debug__" : Str)) = false := by decide)
    (he : starEach (e :: es) F.X.env = (false, eval e F.X.env) :: starEach es F.X.env := by rfl) (hpl : (backTo pos (starEach es F.X.env)).any (·.1) = false := by rfl) : El F ρ s (.Call (.Name f p) (e :: es) [] pos) zs s2 := by
  obtain ⟨kd, fa, fd, ps, h1, h2, h3, h4⟩ := R
  obtain ⟨clen, cget⟩ := hc.get
  refine ⟨ha.1.trans kd, fun O σ H fm Q q pins sh I => ?_⟩
  refine wpAny_Call_Name_kw (ld_glob I hg h1 ?_ hdb)
  refine PySem.W.callWith_K (h₀ := F.X.base) I.ok.mod.kin h2 (thn (ha.2 O σ H fm (fun vs' H1 => ∃ vs g c', vs' = vs ++ [.ref g] ∧ Fm F O σ H1 ρ s1 ∧ XE F H H1 ∧ Rps F.X.K F.p (O ++ F.S0) H1 vs ds ∧ g ∉ O ++ F.S0 ∧ H1 g = some (LamO g L (cloFrom F.X.env.cells L.scope.names []) c') ∧ H1 c' = some (CodeO c' L.q)) (fun vs g c' H1 a b c d e f => ⟨vs, g, c', rfl, a, b, c, d, e, f⟩) pos pins sh I) fun us s2' ⟨vs', H1, I1, rV, vs, g, c', evs, f1, x1, r1, ng, hg1, hc1⟩ => ⟨I1.kIn, ?_⟩) he hpl
  subst evs
  show wpAny _ _ (call (.ref fa) us) _ _ _
  -- the cells
  have hfree : ∀ y ∈ L.scope.names, y.2 = .free → ∃ c, F.X.env.cells.lookup y.1 = some c := fun y hy e => by
    obtain ⟨i, hi⟩ := List.mem_iff_getElem?.mp (S.free y hy e)
    obtain ⟨j, d0, _, _, _, k4, _⟩ := cget i y.1 hi
    exact k4.elim (fun z => I1.ok.has _ (.inl z)) fun z => I1.ok.has _ (.inr z)
  have memC : ∀ y c, (y, c) ∈ cloFrom F.X.env.cells L.scope.names [] → F.X.env.cells.lookup y = some c ∧ y ∈ L.fr := fun y c m => by
    rcases cloFrom_mem m with hm | ⟨a1, a2⟩
    · cases hm
    · obtain ⟨c1, hc⟩ := hfree _ a1 rfl
      have hc : F.X.env.cells.lookup y = some c1 := hc
      refine ⟨?_, S.free _ a1 rfl⟩
      rw [a2, hc]; rfl
  have facts : ∀ y c, F.X.env.cells.lookup y = some c → y ∈ L.fr → H1 c = none ∧ F.X.s_0.heap.objs.size ≤ c ∧ c ≠ F.X.env.locals ∧ ∃ o, s2'.heap.get? c = some o := fun y c e m => by
    obtain ⟨i, hi⟩ := List.mem_iff_getElem?.mp m
    obtain ⟨j, d0, _, _, k3, _⟩ := cget i y hi
    obtain ⟨v, o, ho, _⟩ := I1.cell y c e
    exact ⟨I1.freeC y c e, I1.ok.cab y c k3 e, I1.cne y c e, o, ho⟩
  have val : ∀ i y, L.fr[i]? = some y → ∃ c o u v d0, F.X.env.cells.lookup y = some c ∧ (cloFrom F.X.env.cells L.scope.names []).lookup y = some c ∧ s2'.heap.get? c = some o ∧ o.data = .cell (some u) ∧ RelV v u ∧ cs[i]? = some d0 ∧ Rp F.X.K F.p (O ++ F.S0) H1 v d0 := fun i y hi => by
    obtain ⟨j, d0, k1, k2, k3, k4, k5⟩ := cget i y hi
    obtain ⟨o0, ho0, v, rfl, rv⟩ := f1.slot j _ k2
    obtain ⟨m, hn', hl⟩ := I1.loc
    obtain ⟨u, ru, l⟩ := hl j y v k1 ho0 (k4.elim (fun z => .inr (.inl z)) fun z => .inr (.inr z))
    rcases l with ⟨z, _⟩ | ⟨_, c, hcl, oc, hoc, hdc⟩
    · have z' : F.X.env.scope.names.lookup y = some .local := z
      rcases k4 with k | k <;> rw [k] at z' <;> cases z'
    · exact ⟨c, oc, u, v, d0, hcl, NdefX.clo_has hfree (PySem.mem_of_lookup (S.frk y (List.mem_of_getElem? hi))) hcl, hoc, hdc, ru, k5, rv⟩
  let cls := (cloFrom F.X.env.cells L.scope.names []).map (·.2)
  have cfacts : ∀ b ∈ cls, H1 b = none ∧ F.X.s_0.heap.objs.size ≤ b ∧ b ≠ F.X.env.locals ∧ ∃ o, s2'.heap.get? b = some o := fun b m => by
    obtain ⟨y, m⟩ := look_mem m
    obtain ⟨a1, a2⟩ := memC y b m
    exact facts y b a1 a2
  have lk : Lkd cls s2'.heap H1 (lkH cls s2'.heap H1) := lkd_lk fun b m => ⟨(cfacts b m).1, (cfacts b m).2.2.2⟩
  have e1 := I1.env0
  have nfs : ∀ b ∈ cls, b ∉ frs F.X.stack := fun b m z => by
    rcases List.mem_cons.mp (I1.stkSub b z) with z | z
    · exact (cfacts b m).2.2.1 z
    · obtain ⟨_, o, ho, _⟩ := I1.ok.funs.mem z
      exact absurd (Nat.lt_of_lt_of_le (Heap.lt_size ho) (cfacts b m).2.1) (Nat.lt_irrefl _)
  have e2 : Env0 F.X.prog F.X.w F.X.K F.X.mg F.X.base F.X.A F.X.stack s2' (lkH cls s2'.heap H1) := by
    refine ⟨e1.frames, e1.mod, fun b o e => ⟨(e1.bs b o e).1, ?_⟩, e1.bsz, e1.funs, fun b m => ?_, lk.hok e1.hok, e1.bare⟩
    · rw [lk.out b fun m => ?_]
      · exact (e1.bs b o e).2
      · exact absurd (Nat.lt_of_lt_of_le (Heap.lt_size e) (Nat.le_trans I1.ok.bsz (cfacts b m).2.1)) (Nat.lt_irrefl _)
    · rw [lk.out b fun m2 => nfs b m2 m]
      exact e1.frf b m
  -- the data
  have trkN : ∀ b ∈ cls, b ∉ O ++ F.S0 := fun b m z => by
    obtain ⟨o, ho⟩ := f1.trk b z
    rw [(cfacts b m).1] at ho; cases ho
  have up : XT [] H1 (lkH cls s2'.heap H1) := ⟨fun a o _ e _ => lk.up e, fun a e => by
    by_cases m : a ∈ cls
    · exact (cfacts a m).1
    · rw [lk.out a m] at e; exact e⟩
  have up2 : XT (O ++ F.S0) H1 (lkH cls s2'.heap H1) := up.mono fun a m => by cases m
  let S1 := (O ++ F.S0).filter (· ≠ c')
  have subS : ∀ a ∈ S1, a ∈ O ++ F.S0 := fun a m => (List.mem_filter.mp m).1
  have ncS : c' ∉ S1 := fun m => by simpa using (List.mem_filter.mp m).2
  have pS : ∀ ds0, s1 = some ds0 → In F.p S1 := fun ds0 e => by
    obtain ⟨q2, q3⟩ := sta_p f1.st ds0 e
    have go : ∀ c, (c = F.p.1 ∨ c = F.p.2) → c ∈ S1 := fun c hc => ?_
    exact ⟨go _ (.inl rfl), go _ (.inr rfl)⟩
    obtain ⟨ws, q3⟩ := q3 c hc
    refine List.mem_filter.mpr ⟨q2.has hc, ?_⟩
    simp only [ne_eq, decide_not, Bool.not_eq_eq_eq_not, Bool.not_true, decide_eq_false_iff_not]
    intro z
    rw [← z, q3] at hc1
    have := Option.some.inj hc1
    unfold CodeO at this
    cases this
  obtain ⟨ws, wlen, wrel⟩ := list_ex (P := fun i v => ∃ y c o u d0, L.fr[i]? = some y ∧ (cloFrom F.X.env.cells L.scope.names []).lookup y = some c ∧ s2'.heap.get? c = some o ∧ o.data = .cell (some u) ∧ RelV v u ∧ cs[i]? = some d0 ∧ Rp F.X.K F.p (O ++ F.S0) H1 v d0) L.fr.length fun i hi => by
    obtain ⟨c, o, u, v, d0, a1, a2, a3, a4, a5, a6, a7⟩ := val i _ (List.getElem?_eq_getElem hi)
    exact ⟨v, _, c, o, u, d0, List.getElem?_eq_getElem hi, a2, a3, a4, a5, a6, a7⟩
  have wR : Rps F.X.K F.p (O ++ F.S0) H1 ws cs := by
    have go : ∀ (ws : List V) (cs : List D), ws.length = cs.length → (∀ (i : Nat) (v : V), ws[i]? = some v → ∃ d0, cs[i]? = some d0 ∧ Rp F.X.K F.p (O ++ F.S0) H1 v d0) → Rps F.X.K F.p (O ++ F.S0) H1 ws cs := by
      intro ws
      induction ws with
      | nil => intro cs h _; cases cs with
        | nil => exact .nil
        | cons _ _ => simp at h
      | cons w ws ih =>
        intro cs h k
        cases cs with
        | nil => simp at h
        | cons d0 cs =>
          obtain ⟨d1, a, b⟩ := k 0 w rfl
          simp at a; subst a
          exact .cons b (ih cs (by simpa using h) fun i v hv => by
            obtain ⟨d2, a, b⟩ := k (i + 1) v (by simpa using hv)
            exact ⟨d2, by simpa using a, b⟩)
    exact go ws cs (by rw [wlen, clen]) fun i v hv => by
      obtain ⟨y, c, o, u, d0, _, _, _, _, _, a, b⟩ := wrel i v hv
      exact ⟨d0, a, b⟩
  have frz_at : ∀ c o, c ∈ cls → s2'.heap.get? c = some o → lkH cls s2'.heap H1 c = some (.frz o (.own 0)) := fun c o m e => by
    obtain ⟨_, o2, e3, e4⟩ := lk.ins c m
    rw [e] at e3; cases e3; exact e4
  have mcl : ∀ y c, (cloFrom F.X.env.cells L.scope.names []).lookup y = some c → c ∈ cls := fun y c e => List.mem_map.mpr ⟨(y, c), PySem.mem_of_lookup e, rfl⟩
  have cf : CellsF (lkH cls s2'.heap H1) S1 (cloFrom F.X.env.cells L.scope.names []) L.fr ws := by
    refine ⟨wlen, fun y c e => ⟨fun m => trkN c (mcl y c e) (subS c m), ?_⟩, fun x y c a b => I1.ok.inj x y c (memC x c (PySem.mem_of_lookup a)).1 (memC y c (PySem.mem_of_lookup b)).1, fun i y hi => ?_⟩
    · obtain ⟨a1, a2⟩ := memC y c (PySem.mem_of_lookup e)
      obtain ⟨i, hi⟩ := List.mem_iff_getElem?.mp a2
      obtain ⟨c2, o, u, v, d0, b1, b2, b3, b4, b5, b6, b7⟩ := val i y hi
      rw [a1] at b1; cases b1
      exact ⟨o, u, frz_at c o (mcl y c e) b3, b4⟩
    · have hlt := (List.getElem?_eq_some_iff.mp hi).1
      obtain ⟨y2, c, o, u, d0, e9, a3, a4, a5, a6, _, _⟩ := wrel i _ (List.getElem?_eq_getElem (by rw [wlen]; exact hlt))
      rw [hi] at e9
      cases e9
      exact ⟨c, o, u, _, a3, frz_at c o (mcl _ c a3) a4, a5, List.getElem?_eq_getElem (by rw [wlen]; exact hlt), a6⟩
  have args : Rps F.X.K F.p S1 (lkH cls s2'.heap H1) (vs ++ [.ref g]) (ds ++ [.clo L cs]) :=
    ((r1.ext up2).weak subS).append (.one (.clo (fun m => ng (subS g m)) (up.1 _ _ (by simp) hg1 nt_lam) ncS (up.1 _ _ (by simp) hc1 nt_code) cf ((wR.ext up2).weak subS)))
  have st1 : StA F.X.K F.T F.p S1 (lkH cls s2'.heap H1) s1 := sta_up f1.st up (fun b o e => lk.up e) subS pS
  have hl : us.length = ps.length := by
    rw [← rV.length]
    exact h4.len _ (lkH cls s2'.heap H1) (fun _ _ => True) E0 ⟨F.p, S1, args, fun a m => (f1.trk a (subS a m)).imp fun o e => lk.up e, st1, fun _ _ _ _ _ _ _ _ => trivial⟩
  refine wpAny_call (codeAny_mono (h4.run F.X.A F.X.stack s2' (lkH cls s2'.heap H1) ⟨us, []⟩ us _ (fun v H' => ∃ a ws, v = .ref a ∧ lkH cls s2'.heap H1 a = none ∧ H' a = some (.lst ws) ∧ Rps F.X.K F.p (a :: S1) H' ws zs ∧ XP F.p s1 (lkH cls s2'.heap H1) H' ∧ StA F.X.K F.T F.p (a :: S1) H' s2) E0 hr e2 (by
      have z := h3 s2' us I1.kIn (by simpa using hl)
      simpa using z) rV ⟨F.p, S1, args, fun a m => (f1.trk a (subS a m)).imp fun o e => lk.up e, st1, fun a ws H' n1 h1 r1 x1 t1 => ⟨a, ws, rfl, n1, h1, r1, x1, t1⟩⟩) fun r s3 hq => ?_)
  cases r with
  | error e => exact (show False from hq).elim
  | ok fl =>
    cases fl with
    | next => exact False.elim hq
    | brk => exact False.elim hq
    | cont => exact False.elim hq
    | ret u =>
      obtain ⟨v, H3, os, bare, un, hok, rv, a, ws3, rfl, na, hA, rp, xp, st3⟩ := hq
      obtain ⟨un2, lk2, hok2⟩ := lk.after un hok
      have hc3 : H3 c' = some (CodeO c' L.q) := by
        refine xp.1 _ _ (lk.up hc1) ?_ nt_code
        rcases Option.eq_none_or_eq_some s1 with e | ⟨ds0, e⟩
        · exact .inl e
        · exact .inr fun z => ncS ((pS _ e).has z)
      have nA1 : H1 a = none := up.2 a na
      have ncls : a ∉ cls := fun m => by
        obtain ⟨_, ob, _, e4⟩ := lk2.ins a m
        rw [hA] at e4; cases e4
      have imp : ImpN (a :: S1) (a :: (O ++ F.S0)) H3 (ulH cls H3) := fun a2 o n e t t2 t3 => by
        have m : a2 ∉ cls := fun m => by
          obtain ⟨_, ob, _, e4⟩ := lk2.ins a2 m
          rw [e4] at e
          exact t2 ob (Option.some.inj e).symm
        refine ⟨fun z => ?_, by rw [ulH_out m]; exact e⟩
        rcases List.mem_cons.mp z with z | z
        · exact n (z ▸ List.mem_cons_self)
        by_cases hac : a2 = c'
        · rw [hac, hc3] at e
          exact t3 _ (Option.some.inj e).symm
        · exact n (List.mem_cons_of_mem _ (List.mem_filter.mpr ⟨z, by simpa using hac⟩))
      have xp2 : XP F.p s1 H1 (ulH cls H3) := ⟨fun a o e n t => by
        rw [ulH_out (lk.nin e)]
        exact xp.1 a o (lk.up e) n t, fun a e => by
        by_cases m : a ∈ cls
        · exact (cfacts a m).1
        · rw [ulH_out m] at e
          have z := xp.2 a e
          rw [lk.out a m] at z; exact z⟩
      have tb : LamX.Tabs F.T (ulH cls H3) := fun pq hp => by
        obtain ⟨qs, t1, t2, t3⟩ := st3.tab pq hp
        have nf : ∀ a o, H3 a = some o → (∀ ob u, o ≠ .frz ob u) → ulH cls H3 a = some o := fun a o e n => by
          rw [ulH_out fun m => ?_]
          · exact e
          · obtain ⟨_, ob, _, e4⟩ := lk2.ins a m
            rw [e4] at e
            exact n ob _ (Option.some.inj e).symm
        refine ⟨qs, nf _ _ t1 (fun _ _ z => by cases z), t2, fun pos cv hcv => ?_⟩
        obtain ⟨c, w1, w2⟩ := t3 pos cv hcv
        exact ⟨c, w1, nf _ _ w2 fun _ _ z => by unfold CodeO at z; cases z⟩
      have st4 : F.Sa (a :: O) (ulH cls H3) s2 := sta_imp st3 tb imp hs (fun b xs e => by
        rw [ulH_out fun m => ?_]
        · exact e
        · obtain ⟨_, ob, _, e4⟩ := lk2.ins _ m
          rw [e4] at e; cases e) fun ds0 e => (sta_p st3 ds0 e).1.to fun b m => (List.mem_cons.mp m).elim (fun z => z ▸ List.mem_cons_self) fun z => List.mem_cons_of_mem _ (subS b z)
      refine I1.after ⟨.ref a, ulH cls H3, os, bare, un2, hok2, rv, ?_⟩
      have hA2 : ulH cls H3 a = some (.lst ws3) := by rw [ulH_out ncls]; exact hA
      exact q a ws3 _ (f1.addO xp2 kd st4 nA1 hA2) (x1.trans (xp2.xe f1.pm f1.kd)) (x1.2 a nA1) hA2 (Rps.impN imp _ _ hn rp)
end
end Gh
set_option Elab.async false
set_option linter.all false
set_option maxRecDepth 100000
set_option maxHeartbeats 4000000
/-! a test over an owned list, with a stream of cells; a method with a lambda that hands back a new list -/
namespace Gh
open PySem PySem.Spec PyProof.Rows L2 LamX
section
variable {F : Fx} {ρ : List G} {s s1 : Sx} {c : Expr}
/-- a test that reads an owned list as data, and may draw -/
theorem et_lendC (i : Nat) {xs : List D} {bb : Bool} (hρ : ρ[i]? = some (.own xs)) (hs : Cal s1) (h : Et F (ρ.set i (.val (.lst xs))) s c bb s1) : Et F ρ s c bb s1 :=
  ⟨h.1, fun O σ H f Q q => by
    obtain ⟨O', f', hO⟩ := f.freeze hρ
    refine h.2 O' σ H f' Q fun H1 f1 x1 => q H1 (f.grow (x1.xp f) h.1 ?_) x1
    have q2 := f1.st
    have pm := f.pm
    have kd := h.1
    cases s1 with
    | none => exact q2
    | some ys =>
      obtain ⟨t1, t2, us, t3, t4⟩ := q2
      exact ⟨t1, (pm kd).app, us, t3, rps_cal (hs ys rfl) t4⟩⟩
end
theorem DmT.rnL {E : En} {x q : Str} {st : Stmt} {N ps : List Str} {k : Nat} {fa : Addr} {ds zs : List D} {s s' : Sx} {c P : Addr} (T : DmT E st fa x q ps c P) (S : FnScope N ps (defScope st)) (kd : s.isSome = s'.isSome) (hl : ds.length = ps.length)
    (body : ∀ (A : Around) (outer : List Env) (sh : Shared) (H0 : Hp) (EX : XK) (S0 : List Addr) (p : Pa), Room k (bodyM E N q st s fa (.ref c) A outer sh H0 EX S0 p).X.A → LamAt (bodyM E N q st s fa (.ref c) A outer sh H0 EX S0 p) →
      BkL (bodyM E N q st s fa (.ref c) A outer sh H0 EX S0 p) (defBody st) (gStart N ds) s zs s') : RnLA E (k + 1) fa ds s zs s' := by
  obtain ⟨fd, oc, od, dV, kV, doc, pm, an, ct, osl, rfl, lk, hcd, hkp, hb⟩ := T.ok
  refine ⟨kd, _, ps, hkp, hb, fn_of lk hcd S (fun vs H Q EX h => ?_) fun A outer sh H vs Q EX hr h => ?_⟩
  · obtain ⟨p, S, r, _⟩ := h
    rw [r.length, hl]
  · obtain ⟨p, S0, r, tr, t, q2⟩ := h
    have W : PSs (cxOf CX0 E.P E.w E.K E.mg E.base N q (defScope st) fa (.ref c) A outer sh H EX).nox (defBody st) (WB (cxOf CX0 E.P E.w E.K E.mg E.base N q (defScope st) fa (.ref c) A outer sh H EX).nox (defBody st)) := pss_wb
    refine ⟨_, W.nox, body A outer sh H EX S0 p hr ⟨c, P, rfl, T.tb, T.mem, T.one⟩ [] (L2.start N vs) H (fm_start (F := bodyM E N q st s fa (.ref c) A outer sh H EX S0 p) r tr t rfl) _ fun a ws H' n0 nS h1 r1 x1 t1 => ?_⟩
    exact q2 a ws H' n0 h1 r1 (x1.kind kd.symm) t1
end Gh
set_option Elab.async false
set_option linter.all false
set_option maxRecDepth 100000
set_option maxHeartbeats 1000000
/-! no size falls as the room grows; the room for a size -/
namespace Law
open PySem PySem.Spec PyProof.Rows L2 Gh
variable {E : En} {s : Sx} {K : Addr} {g : Str → Addr}
theorem div_nn {a k : Rat} (hk : 0 < k) (ha : 0 ≤ a) : 0 ≤ a / k := by
  refine le_of_mul hk ?_
  rw [Rat.zero_mul, Rat.div_mul_cancel (by grind)]
  exact ha
theorem szs_mono {L : List LI} {z1 z2 : Rat} (ok : ∀ x ∈ L, LOk x) (h : z1 ≤ z2) : ∀ (i : Nat) (p q : Rat), (szs L z1)[i]? = some p → (szs L z2)[i]? = some q → p ≤ q := by
  rw [← law_sizes ok, ← law_sizes ok]
  have same : ∀ (f : LI → Rat) (i : Nat) (p q : Rat), (L.map f)[i]? = some p → (L.map f)[i]? = some q → p ≤ q := fun f i p q h1 h2 => by
    rw [h1] at h2; cases h2; exact Rat.le_refl
  unfold lawS
  by_cases c1 : lsum (L.map lowQ) < z1
  · have c2 : lsum (L.map lowQ) < z2 := by grind
    rw [if_pos c1, if_pos c2]
    by_cases d1 : (∀ x ∈ L, (highQ x).isSome = true) ∧ ¬ z1 < lsum (L.map highD)
    · have d2 : (∀ x ∈ L, (highQ x).isSome = true) ∧ ¬ z2 < lsum (L.map highD) := ⟨d1.1, fun z => d1.2 (by grind)⟩
      rw [if_pos d1, if_pos d2]
      exact same _
    · rw [if_neg d1]
      by_cases d2 : (∀ x ∈ L, (highQ x).isSome = true) ∧ ¬ z2 < lsum (L.map highD)
      · rw [if_pos d2]
        refine map_le fun x mx => ?_
        have hs := d2.1 x mx
        cases e : highQ x with
        | none => rw [e] at hs; cases hs
        | some m =>
          have := le_high (ok x mx) (goLev L z1 (inOrd (allT L))) e
          unfold highD
          rw [e]; exact this
      · rw [if_neg d2]
        have t1 := goLev_ok ok c1 d1
        have t2 := goLev_ok ok c2 d2
        by_cases hv : goLev L z1 (inOrd (allT L)) ≤ goLev L z2 (inOrd (allT L))
        · exact map_le fun x mx => lsize_mono (ok x mx) hv
        · have := tot_mono ok (Rat.le_of_lt (Rat.not_le.mp hv))
          rw [t1, t2] at this
          have e : z1 = z2 := Rat.le_antisymm h this
          subst e
          exact same _
  · rw [if_neg c1]
    by_cases c2 : lsum (L.map lowQ) < z2
    · rw [if_pos c2]
      by_cases d2 : (∀ x ∈ L, (highQ x).isSome = true) ∧ ¬ z2 < lsum (L.map highD)
      · rw [if_pos d2]
        refine map_le fun x mx => ?_
        have hs := d2.1 x mx
        cases e : highQ x with
        | none => rw [e] at hs; cases hs
        | some m =>
          have h1 := le_high (ok x mx) 0 e
          have h2 := low_le (ok x mx) 0
          unfold highD
          rw [e]
          show lowQ x ≤ m
          grind
      · rw [if_neg d2]
        exact map_le fun x mx => low_le (ok x mx) _
    · rw [if_neg c2]
      exact same _
theorem lawF_nn {L : List LI} {n : Nat} (R : Rok L n) {b l : Rat} (h : b < l) : ∀ f ∈ lawF (rowF L n) b l, 0 ≤ f.2 := fun f m => by
  obtain ⟨i, hi⟩ := List.getElem?_of_mem m
  unfold lawF at hi
  rw [List.getElem?_zipWith] at hi
  cases e1 : (rowF L n b)[i]? with
  | none => rw [e1] at hi; cases hi
  | some u =>
    cases e2 : (rowF L n l)[i]? with
    | none => rw [e1, e2] at hi; cases hi
    | some v =>
      rw [e1, e2] at hi
      cases hi
      have := szs_mono R.ok (z1 := b - ((gapsQ L n : Int) : Rat)) (z2 := l - ((gapsQ L n : Int) : Rat)) (by grind) i u v e1 e2
      exact div_nn (by grind) (by grind)
theorem lawF_len2 {L : List LI} {n : Nat} (R : Rok L n) {b l : Rat} : (lawF (rowF L n) b l).length = L.length := by
  unfold lawF
  rw [List.length_zipWith]
  have h1 := szs_len L (b - ((gapsQ L n : Int) : Rat)) R.ok
  have h2 := szs_len L (l - ((gapsQ L n : Int) : Rat)) R.ok
  have h1 : (rowF L n b).length = L.length := h1
  have h2 : (rowF L n l).length = L.length := h2
  omega
theorem mrg_hi : ∀ (ps F : List Pc3), ∀ p ∈ ps.foldl mrgStep F, ∃ q, (q ∈ ps ∨ q ∈ F) ∧ p.2.1 = q.2.1
  | [], F, p, m => ⟨p, .inr m, rfl⟩
  | r :: ps, F, p, m => by
    rw [List.foldl_cons] at m
    have key : ∀ y ∈ mrgStep F r, ∃ q, (q ∈ r :: ps ∨ q ∈ F) ∧ y.2.1 = q.2.1 := fun y my => by
      rcases last_cases F with rfl | ⟨A, z, rfl⟩
      · rw [mrgStep_nil, List.mem_singleton] at my
        subst my
        exact ⟨y, .inl List.mem_cons_self, rfl⟩
      · rw [mrgStep_app] at my
        split at my
        · rcases List.mem_append.mp my with my | my
          · exact ⟨y, .inr (List.mem_append_left _ my), rfl⟩
          · rw [List.mem_singleton.mp my]
            exact ⟨r, .inl List.mem_cons_self, rfl⟩
        · rcases List.mem_append.mp my with my | my
          · exact ⟨y, .inr my, rfl⟩
          · rw [List.mem_singleton.mp my]
            exact ⟨r, .inl List.mem_cons_self, rfl⟩
    obtain ⟨q, mq, e⟩ := mrg_hi ps (mrgStep F r) p m
    rcases mq with mq | mq
    · exact ⟨q, .inl (List.mem_cons_of_mem _ mq), e⟩
    · obtain ⟨q2, m2, e2⟩ := key q mq
      exact ⟨q2, m2, e.trans e2⟩
/-- pieces of m forms each, small, none falls -/
structure Pr (P : List Pc3) (m : Nat) : Prop where
  l : P.length ≤ 400
  lo : ∀ p ∈ P, Sz 50 p.1
  hi : ∀ p ∈ P, ∀ h, p.2.1 = some h → Sz 50 h
  len : ∀ p ∈ P, p.2.2.length = m
  f : ∀ p ∈ P, ∀ f ∈ p.2.2, Zf 400 f ∧ 0 ≤ f.2
theorem raw_nn {L : List LI} {n : Nat} (R : Rok L n) : ∀ p ∈ hiP (lawRaw (rowF L n) (lawE L n)), (∀ f ∈ p.2.2, 0 ≤ f.2) ∧ p.2.2.length = L.length ∧ ∀ h, p.2.1 = some h → Sz 50 h := fun p m => by
  obtain ⟨i, hi⟩ := List.getElem?_of_mem m
  have hlt := (List.getElem?_eq_some_iff.mp hi).1
  rw [lawRaw_len] at hlt
  have hb : (lawE L n)[i]? = some (lawE L n)[i] := List.getElem?_eq_getElem hlt
  rw [lawRaw_get hb] at hi
  cases hi
  refine ⟨?_, lawF_len2 R, fun h e => qz (lawE_qn R _ (List.mem_of_getElem? (show (lawE L n)[i + 1]? = some h from e))).1 (by decide)⟩
  cases e : (lawE L n)[i + 1]? with
  | none => exact lawF_nn R (by show (lawE L n)[i] < (lawE L n)[i] + 1; grind)
  | some l =>
    refine lawF_nn R ?_
    obtain ⟨hl2, e2⟩ := List.getElem?_eq_some_iff.mp e
    have := List.pairwise_iff_getElem.mp (law_ends L n).asc i (i + 1) hlt hl2 (by omega)
    show (lawE L n)[i] < l
    rw [← e2]; exact this
theorem pcsL_r {L : List LI} {n : Nat} (R : Rok L n) : Pr (pcsL L n) L.length where
  l := (pcsL_z R).2.1
  lo p m := by
    obtain ⟨⟨q1, m1, e1⟩, _⟩ := mrg_of _ _ p m
    have m1 := m1.resolve_right (fun z => nomatch z)
    rw [e1]; exact (raw_ok R q1 m1).1
  hi p m h e := by
    obtain ⟨q, mq, e2⟩ := mrg_hi _ _ p m
    have mq := mq.resolve_right (fun z => nomatch z)
    rw [e2] at e
    exact (raw_nn R q mq).2.2 h e
  len p m := by
    obtain ⟨_, q2, m2, e2⟩ := mrg_of _ _ p m
    have m2 := m2.resolve_right (fun z => nomatch z)
    rw [e2]; exact (raw_nn R q2 m2).2.1
  f p m f mf := by
    obtain ⟨_, q2, m2, e2⟩ := mrg_of _ _ p m
    have m2 := m2.resolve_right (fun z => nomatch z)
    rw [e2] at mf
    exact ⟨(raw_ok R q2 m2).2.2 f mf, (raw_nn R q2 m2).1 f mf⟩
def hiOk : Option Rat → Rat → Bool
  | none, _ => true
  | some h, q => decide (q ≤ h)
/-- the least room for a size of the i-th item -/
def roomG : List Pc3 → Nat → Rat → Option Rat
  | [], _, _ => none
  | p :: P, i, z => match p.2.2[i]? with
    | none => none
    | some f => if z ≤ lin f p.1 then some p.1 else if 0 < f.2 ∧ hiOk p.2.1 ((z - f.1) / f.2) = true then some ((z - f.1) / f.2) else roomG P i z
theorem roomG_drop {P : List Pc3} {i j : Nat} {z : Rat} {p : Pc3} {f : Lin} (e : P[j]? = some p) (ef : p.2.2[i]? = some f) : roomG (P.drop j) i z = if z ≤ lin f p.1 then some p.1 else if 0 < f.2 ∧ hiOk p.2.1 ((z - f.1) / f.2) = true then some ((z - f.1) / f.2) else roomG (P.drop (j + 1)) i z := by
  have hlt := (List.getElem?_eq_some_iff.mp e).1
  have he := (List.getElem?_eq_some_iff.mp e).2
  rw [List.drop_eq_getElem_cons hlt, he]
  show (match p.2.2[i]? with
    | none => none
    | some f => _) = _
  rw [ef]
/-- a handed fraction -/
structure Hz (y : D) (z : Rat) : Prop where
  ex : ∃ (t : Int) (b : Nat), items y = some [.int t, .int b] ∧ 0 < b ∧ t.natAbs < 2 ^ 100 ∧ b < 2 ^ 100 ∧ z = mkRat t b
  d : dat y = true
theorem Hz.fr {y : D} {z : Rat} (h : Hz y z) : isFr y = true := by
  obtain ⟨t, b, e, hb, _⟩ := h.ex
  unfold isFr
  rw [e]
  exact decide_eq_true (by omega)
theorem Hz.sz {y : D} {z : Rat} (h : Hz y z) : Sz 100 z := by
  obtain ⟨t, b, e, hb, h1, h2, rfl⟩ := h.ex
  exact Sz.mk h1 h2 (by omega)
theorem mk_times (t : Int) {b : Nat} (h : 0 < b) : mkRat t b * (b : Rat) = (t : Rat) := by
  have hb : (b : Rat) ≠ 0 := fun z => by
    have : b = 0 := by exact_mod_cast z
    omega
  rw [Rat.mkRat_eq_div, Rat.div_mul_cancel hb]
theorem mk_eq {t : Int} {b : Nat} {x : Rat} (h : 0 < b) (e : x * (b : Rat) = (t : Rat)) : mkRat t b = x := by
  have hb : (b : Rat) ≠ 0 := fun z => by
    have : b = 0 := by exact_mod_cast z
    omega
  have e2 := mk_times t h
  have e3 : (mkRat t b - x) * (b : Rat) = 0 := by grind
  rcases Rat.mul_eq_zero.mp e3 with z | z
  · grind
  · exact absurd z hb
theorem num_times (q : Rat) : q * (q.den : Rat) = (q.num : Rat) := by
  have := mk_times q.num q.den_pos
  rw [Rat.mkRat_self] at this; exact this
theorem cross {t : Int} {b : Nat} (h : 0 < b) (q : Rat) : t * (q.den : Int) ≤ q.num * (b : Int) ↔ mkRat t b ≤ q := by
  have e1 := mk_times t h
  have e2 := num_times q
  have hb : (0 : Rat) < (b : Rat) := by exact_mod_cast h
  have hd : (0 : Rat) < (q.den : Rat) := by exact_mod_cast q.den_pos
  have hp : (0 : Rat) < (b : Rat) * (q.den : Rat) := Rat.mul_pos hb hd
  have c : t * (q.den : Int) ≤ q.num * (b : Int) ↔ (t : Rat) * (q.den : Rat) ≤ (q.num : Rat) * (b : Rat) := by
    constructor
    · intro h; exact_mod_cast h
    · intro h; exact_mod_cast h
  rw [c, ← e1, ← e2]
  constructor
  · intro h
    refine le_of_mul hp ?_
    grind
  · intro h
    have := Rat.mul_le_mul_of_nonneg_right h (Rat.le_of_lt hp)
    grind
theorem rn_uptoH (T : Tx E) {y : D} {z q : Rat} (hy : Hz y z) (hq : Sz 3000 q) : Rn E 1 "is_upto" [y, fr q] s (.bl (decide (z ≤ q))) s := by
  obtain ⟨t, b, e, hb, h1, h2, rfl⟩ := hy.ex
  refine T.d_is_upto.rn sc_is_upto rfl rfl fun fa cdv A outer sh H0 EX S0 p hr => ?_
  conv => arg 2; whnf
  have i0 : y.at 0 = some (.int t) := by rw [items_at e]; rfl
  have i1 : y.at 1 = some (.int b) := by rw [items_at e]; rfl
  refine bk_cons (bs_ret (Cp.ed (cp_le (ed_bin (ed_ix (d := .int t) (ed_var (d := y) 0 rfl (.inl rfl) rfl) ed_int i0) (ed_ix (d := .int q.den) (ed_var (d := fr q) 1 rfl (.inl rfl) rfl) ed_int rfl) rfl (wide_mul h1 (Sz.d hq) (by decide) (by decide) (by decide))) (ed_bin (ed_ix (d := .int q.num) (ed_var (d := fr q) 1 rfl (.inl rfl) rfl) ed_int rfl) (ed_ix (d := .int b) (ed_var (d := y) 0 rfl (.inl rfl) rfl) ed_int i1) rfl (wide_mul hq.1 (show ((b : Int)).natAbs < 2 ^ 100 by rw [Int.natAbs_natCast]; exact h2) (by decide) (by decide) (by decide))))) ⟨?_, rfl⟩)
  exact congrArg D.bl (decide_eq_decide.mpr (cross hb q))
theorem rn_minusH (T : Tx E) {y : D} {z q : Rat} (hy : Hz y z) (hq : Sz 3000 q) : Rn E 2 "minus" [y, fr q] s (fr (z - q)) s := by
  obtain ⟨t, b, e, hb, h1, h2, rfl⟩ := hy.ex
  refine T.d_minus.rn sc_minus rfl rfl fun fa cdv A outer sh H0 EX S0 p hr => ?_
  conv => arg 2; whnf
  have i0 : y.at 0 = some (.int t) := by rw [items_at e]; rfl
  have i1 : y.at 1 = some (.int b) := by rw [items_at e]; rfl
  have hbn : ((b : Int)).natAbs < 2 ^ 100 := by rw [Int.natAbs_natCast]; exact h2
  have hp : (0 : Int) < (b : Int) * (q.den : Int) := Int.mul_pos (by omega) (den_pos q)
  have R := rn_lowest (s := s) (t := t * (q.den : Int) - q.num * (b : Int)) (b := (b : Int) * (q.den : Int)) T hp (by
    rw [Int.natAbs_mul]
    exact Nat.lt_of_lt_of_le (two_pow_mul hbn (Sz.d hq)) (Nat.pow_le_pow_right (by decide) (by decide)))
  refine bk_cons (bs_ret (ed_cl (ea_cons (ed_bin (ed_bin (ed_ix (d := .int t) (ed_var (d := y) 0 rfl (.inl rfl) rfl) ed_int i0) (ed_ix (d := .int q.den) (ed_var (d := fr q) 1 rfl (.inl rfl) rfl) ed_int rfl) rfl (wide_mul h1 (Sz.d hq) (by decide) (by decide) (by decide))) (ed_bin (ed_ix (d := .int q.num) (ed_var (d := fr q) 1 rfl (.inl rfl) rfl) ed_int rfl) (ed_ix (d := .int b) (ed_var (d := y) 0 rfl (.inl rfl) rfl) ed_int i1) rfl (wide_mul hq.1 hbn (by decide) (by decide) (by decide))) rfl trivial) (ea_cons (ed_bin (ed_ix (d := .int b) (ed_var (d := y) 0 rfl (.inl rfl) rfl) ed_int i1) (ed_ix (d := .int q.den) (ed_var (d := fr q) 1 rfl (.inl rfl) rfl) ed_int rfl) rfl (wide_mul hbn (Sz.d hq) (by decide) (by decide) (by decide))) ea_nil)) (hr.mono (by decide)) R) ⟨?_, rfl⟩)
  congr 1
  have e3 : ((b : Int) * (q.den : Int)).toNat = b * q.den := by rw [← Int.natCast_mul, Int.toNat_natCast]
  rw [e3]
  refine mk_eq (Nat.mul_pos hb q.den_pos) ?_
  have e1 := mk_times t hb
  have e2 := num_times q
  rw [Rat.natCast_mul, Rat.intCast_sub, Rat.intCast_mul, Rat.intCast_mul, Rat.intCast_natCast, Rat.intCast_natCast]
  grind
theorem rn_over (T : Tc E) {a b : Rat} (ha : Sz 3000 a) (hb : Sz 3000 b) (h : 0 < b) : Rn E 2 "over" [fr a, fr b] s (fr (a / b)) s := by
  obtain ⟨e1, e2⟩ := inv_pos_num h
  have em := mul_mk a b⁻¹
  rw [e1, e2] at em
  have hn : 0 < b.num := num_pos'.mpr h
  have hp : (0 : Int) < (a.den : Int) * b.num := Int.mul_pos (den_pos a) hn
  refine T.d_over.rn sc_over rfl rfl fun fa cdv A outer sh H0 EX S0 p hr => ?_
  conv => arg 2; whnf
  have R := rn_lowest (s := s) (t := a.num * (b.den : Int)) (b := (a.den : Int) * b.num) T.toTx hp (by
    rw [Int.natAbs_mul]
    exact Nat.lt_of_lt_of_le (two_pow_mul (show ((a.den : Int)).natAbs < 2 ^ 3000 by simpa using ha.2) hb.1) (Nat.pow_le_pow_right (by decide) (by decide)))
  refine bk_cons (bs_ifF (Cp.et (Cp.is (cp_lt (ed_ix (d := .int b.num) (ed_var (d := fr b) 1 rfl (.inl rfl) rfl) ed_int rfl) ed_int) (decide_eq_false (by omega)))) (bk_nil ?_))
  refine bk_cons (bs_ret (ed_cl (ea_cons (ed_bin (ed_ix (d := .int a.num) (ed_var (d := fr a) 0 rfl (.inl rfl) rfl) ed_int rfl) (ed_ix (d := .int b.den) (ed_var (d := fr b) 1 rfl (.inl rfl) rfl) ed_int rfl) rfl (mulW ha.n hb.d)) (ea_cons (ed_bin (ed_ix (d := .int a.den) (ed_var (d := fr a) 0 rfl (.inl rfl) rfl) ed_int rfl) (ed_ix (d := .int b.num) (ed_var (d := fr b) 1 rfl (.inl rfl) rfl) ed_int rfl) rfl (mulW ha.d hb.n)) ea_nil)) (hr.mono (by decide)) R) ⟨?_, rfl⟩)
  have e : ((a.den : Int) * b.num).toNat = a.den * b.num.natAbs := by
    have : b.num = (b.num.natAbs : Int) := by omega
    rw [this, ← Int.natCast_mul, Int.toNat_natCast, Int.natAbs_natCast]
  rw [e, em, Rat.div_def]
end Law
set_option Elab.async false
set_option linter.all false
set_option maxRecDepth 100000
set_option maxHeartbeats 1000000
/-! the room for a size, both ends, pieces as a new list, tuples (walks) -/
namespace Law
open PySem PySem.Spec PyProof.Rows L2 Gh
variable {E : En} {s : Sx} {K : Addr} {g : Str → Addr}
theorem rn_law_room_for (T : Tc E) {P : List Pc3} {m i : Nat} {z : Rat} (hP : Pr P m) (hi : i < m) (zz : Sz 100 z) : Rn E 4 "_law_room_for" [.lst (P.map pcD), .int i, fr z] s (hqD (roomG P i z)) s := by
  refine T.d__law_room_for.rn sc__law_room_for rfl rfl fun fa cdv A outer sh H0 EX S0 p hr => ?_
  conv => arg 2; whnf
  have nd := sc__law_room_for.nd
  have lP := hP.l
  refine bk_cons (bs_forM (s1 := s) pcD (xs := P) PassesOwn.never rfl (ei_seq (ed_var (d := .lst (P.map pcD)) 0 rfl (.inl rfl) rfl) (.inl rfl)) (fun j ρ s' => s' = s ∧ roomG (P.drop j) i z = roomG P i z ∧ ∃ g3 g4 g5 g6 g7, ρ = [.val (.lst (P.map pcD)), .val (.int i), .val (fr z), g3, g4, g5, g6, g7]) ⟨rfl, rfl, _, _, _, _, _, rfl⟩ ?_ ?_)
  · rintro j q ρ' s' hj ⟨rfl, hgo, g3, g4, g5, g6, g7, rfl⟩
    have mq := List.mem_of_getElem? hj
    have hlq : i < q.2.2.length := by rw [hP.len q mq]; exact hi
    have hf : q.2.2[i]? = some q.2.2[i] := List.getElem?_eq_getElem hlq
    rw [roomG_drop hj hf] at hgo
    obtain ⟨zf, nf⟩ := hP.f q mq _ (List.mem_of_getElem? hf)
    have zlo := hP.lo q mq
    have zhi := hP.hi q mq
    generalize q.2.2[i] = f at *
    refine ⟨_, _, eg_tup rfl (egs_cons (eg_name 3 nd rfl (.inl rfl)) (egs_cons (eg_name 4 nd rfl (.inl rfl)) (egs_cons (eg_name 5 nd rfl (.inl rfl)) egs_nil))), ?_⟩
    show Bk _ _ ([.val (.lst (P.map pcD)), .val (.int i), .val (fr z), .val (fr q.1), .val (hqD q.2.1), .val (fmL q.2.2), g6, g7] : List Gh.G) s' _
    refine bk_cons (bs_set (d := fp f) (s1 := s') 6 nd rfl (.inl rfl) (ed_ix (d := fp f) (ed_var (d := fmL q.2.2) 5 rfl (.inl rfl) rfl) (ed_var (d := .int i) 1 rfl (.inl rfl) rfl) (atI_n (by rw [List.getElem?_map, hf]; rfl))) ?_)
    show Bk _ _ ([.val (.lst (P.map pcD)), .val (.int i), .val (fr z), .val (fr q.1), .val (hqD q.2.1), .val (fmL q.2.2), .val (fp f), g7] : List Gh.G) s' _
    have zl : Sz 3000 (lin f q.1) := (zf.1.add (zf.2.mul zlo)).mono (by decide)
    refine bk_cons (bs_if (t := decide (z ≤ lin f q.1)) (s1 := s') (Et.is (et_not (et_val (ed_cl (ea_cons (ed_cl (ea_cons (ed_var (d := fp f) 6 rfl (.inl rfl) rfl) (ea_cons (ed_var (d := fr q.1) 3 rfl (.inl rfl) rfl) ea_nil)) (hr.mono (by decide)) (rn_law_at T (zf.mono (by decide)) (zlo.mono (by decide)))) (ea_cons (ed_var (d := fr z) 2 rfl (.inl rfl) rfl) ea_nil)) (hr.mono (by decide)) (rn_lless T.toTx zl (zz.mono (by decide)))))) (not_less _ _)) (fun h => ?_) (fun h => ?_))
    · rw [if_pos (of_decide_eq_true h)] at hgo
      rw [← hgo]
      exact bk_cons (bs_ret (ed_var (d := fr q.1) 3 rfl (.inl rfl) rfl) ⟨rfl, rfl⟩)
    · rw [if_neg (of_decide_eq_false h)] at hgo
      refine bk_nil ?_
      refine bk_cons (bs_if (t := decide (0 < f.2)) (s1 := s') (Cp.et (Cp.is (cp_gt (ed_ix (d := .int f.2.num) (ed_ix (d := fr f.2) (ed_var (d := fp f) 6 rfl (.inl rfl) rfl) ed_int rfl) ed_int rfl) ed_int) (decide_eq_decide.mpr num_pos'))) (fun h2 => ?_) (fun h2 => ?_))
      · have h2 := of_decide_eq_true h2
        have zr := sz_div (zz.sub zf.1) zf.2 h2
        refine bk_cons (bs_set (d := fr ((z - f.1) / f.2)) (s1 := s') 7 nd rfl (.inl rfl) (ed_cl (ea_cons (ed_cl (ea_cons (ed_var (d := fr z) 2 rfl (.inl rfl) rfl) (ea_cons (ed_ix (d := fr f.1) (ed_var (d := fp f) 6 rfl (.inl rfl) rfl) ed_int rfl) ea_nil)) (hr.mono (by decide)) (rn_lminus T.toTx (zz.mono (by decide)) (zf.1.mono (by decide)))) (ea_cons (ed_ix (d := fr f.2) (ed_var (d := fp f) 6 rfl (.inl rfl) rfl) ed_int rfl) ea_nil)) (hr.mono (by decide)) (rn_lover2 T ((zz.sub zf.1).mono (by decide)) (zf.2.mono (by decide)) h2)) ?_)
        show Bk _ _ ([.val (.lst (P.map pcD)), .val (.int i), .val (fr z), .val (fr q.1), .val (hqD q.2.1), .val (fmL q.2.2), .val (fp f), .val (fr ((z - f.1) / f.2))] : List Gh.G) s' _
        generalize (z - f.1) / f.2 = w at hgo zr
        refine bk_cons (bs_if (t := hiOk q.2.1 w) (s1 := s') ?tt (fun h3 => ?_) (fun h3 => ?_))
        case tt =>
          cases hh : q.2.1 with
          | none => exact Ew.et (ew_orT (Cp.et (Cp.is (cp_isN (ed_var (d := .non) 4 rfl (.inl rfl) rfl)) rfl)))
          | some u => exact Ew.et (ew_orF (Cp.et (Cp.is (cp_isN (ed_var (d := fr u) 4 rfl (.inl rfl) rfl)) rfl)) (ew_or1 (Et.is (et_not (et_val (ed_cl (ea_cons (ed_var (d := fr u) 4 rfl (.inl rfl) rfl) (ea_cons (ed_var (d := fr w) 7 rfl (.inl rfl) rfl) ea_nil)) (hr.mono (by decide)) (rn_lless T.toTx ((zhi u hh).mono (by decide)) (zr.mono (by decide)))))) (not_less _ _))))
        · rw [if_pos ⟨h2, h3⟩] at hgo
          rw [← hgo]
          exact bk_cons (bs_ret (ed_var (d := fr w) 7 rfl (.inl rfl) rfl) ⟨rfl, rfl⟩)
        · rw [if_neg fun z => by rw [z.2] at h3; cases h3] at hgo
          exact bk_nil (bk_nil (bk_nil ⟨rfl, hgo, _, _, _, _, _, rfl⟩))
      · have h2 := of_decide_eq_false h2
        rw [if_neg fun z => h2 z.1] at hgo
        exact bk_nil (bk_nil ⟨rfl, hgo, _, _, _, _, _, rfl⟩)
  · rintro ρ' s' ⟨rfl, hgo, g3, g4, g5, g6, g7, rfl⟩
    rw [List.drop_of_length_le (Nat.le_refl _)] at hgo
    rw [← hgo]
    exact bk_cons (bs_ret ed_non ⟨rfl, rfl⟩)
theorem rn_room_for (T : Tc E) (B : Ro E K g) {c P c2 P2 : Addr} (Z : DmT E t_Row_forms_about (g "forms_about") "forms_about" "Row.forms_about" ["self", "room"] c P) (Z2 : DmT E t_Row_all_pieces (g "all_pieces") "all_pieces" "Row.all_pieces" ["self"] c2 P2) {L : List LI} {n i : Nat} (R : Rok L n) (hi : i < L.length) {y : D} {z : Rat} (hy : Hz y z) (hs : SxN s) :
    RnA E 14 (g "room_for") [rowD K L n, .int i, y] s (hqD (roomG (pcsL L n) i z)) s := by
  have hP := pcsL_r R
  have A1 := rn_all_pieces T B Z Z2 R.l R.o R.q R.n hs
  rw [pcsP_eq R] at A1
  refine B.d_room.rn sc_Row_room_for rfl rfl fun cdv A outer sh H0 EX S0 p hr => ?_
  conv => arg 2; whnf
  have nd := sc_Row_room_for.nd
  have lP := hP.l
  have zz := hy.sz
  generalize pcsL L n = P at hP A1 lP
  refine bk_cons (bs_ifF (Ew.et (ew_orF (et_not (k := true) (et_val (ed_cl (ea_cons (ed_var (d := .int i) 1 rfl (.inl rfl) rfl) ea_nil) (hr.mono (by decide)) (rn_nat T.toTx i)))) (ew_or1 (Cp.et (Cp.is (cp_ge (ed_var (d := .int i) 1 rfl (.inl rfl) rfl) (ed_len T.bf (ed_fld (d := .lst (L.map liD)) B.cls B.n_items (ed_var (d := rowD K L n) 0 rfl (.inl rfl) rfl) rfl) rfl)) (decide_eq_false (by rw [List.length_map]; omega))))))) (bk_nil ?_))
  refine bk_cons (bs_ifF (et_not (k := true) (et_val (Ed.is (ed_cl (ea_cons (ed_var (d := y) 2 rfl (.inl rfl) rfl) ea_nil) (hr.mono (by decide)) (rn_is_frac T.toTx hy.d)) (congrArg D.bl hy.fr)))) (bk_nil ?_))
  refine bk_cons (bs_forM (s1 := s) pcD (xs := P) PassesOwn.never rfl (ei_seq (ed_meth0 B.cls B.m_pieces (ed_var (d := rowD K L n) 0 rfl (.inl rfl) rfl) (by decide) (hr.mono (by decide)) A1) (.inl rfl)) (fun j ρ s' => s' = s ∧ roomG (P.drop j) i z = roomG P i z ∧ ∃ g3 g4 g5 g6 g7, ρ = [.val (rowD K L n), .val (.int i), .val y, g3, g4, g5, g6, g7]) ⟨rfl, rfl, _, _, _, _, _, rfl⟩ ?_ ?_)
  · rintro j q ρ' s' hj ⟨rfl, hgo, g3, g4, g5, g6, g7, rfl⟩
    have mq := List.mem_of_getElem? hj
    have hlq : i < q.2.2.length := by rw [hP.len q mq]; exact hi
    have hf : q.2.2[i]? = some q.2.2[i] := List.getElem?_eq_getElem hlq
    rw [roomG_drop hj hf] at hgo
    obtain ⟨zf, nf⟩ := hP.f q mq _ (List.mem_of_getElem? hf)
    have zlo := hP.lo q mq
    have zhi := hP.hi q mq
    generalize q.2.2[i] = f at *
    refine ⟨_, _, eg_tup rfl (egs_cons (eg_name 3 nd rfl (.inl rfl)) (egs_cons (eg_name 4 nd rfl (.inl rfl)) (egs_cons (eg_name 5 nd rfl (.inl rfl)) egs_nil))), ?_⟩
    show Bk _ _ ([.val (rowD K L n), .val (.int i), .val y, .val (fr q.1), .val (hqD q.2.1), .val (fmL q.2.2), g6, g7] : List Gh.G) s' _
    refine bk_cons (bs_set (d := fp f) (s1 := s') 6 nd rfl (.inl rfl) (ed_ix (d := fp f) (ed_var (d := fmL q.2.2) 5 rfl (.inl rfl) rfl) (ed_var (d := .int i) 1 rfl (.inl rfl) rfl) (atI_n (by rw [List.getElem?_map, hf]; rfl))) ?_)
    show Bk _ _ ([.val (rowD K L n), .val (.int i), .val y, .val (fr q.1), .val (hqD q.2.1), .val (fmL q.2.2), .val (fp f), g7] : List Gh.G) s' _
    have zl : Sz 3000 (lin f q.1) := (zf.1.add (zf.2.mul zlo)).mono (by decide)
    refine bk_cons (bs_if (t := decide (z ≤ lin f q.1)) (s1 := s') (et_val (ed_cl (ea_cons (ed_var (d := y) 2 rfl (.inl rfl) rfl) (ea_cons (ed_cl (ea_cons (ed_var (d := fp f) 6 rfl (.inl rfl) rfl) (ea_cons (ed_var (d := fr q.1) 3 rfl (.inl rfl) rfl) ea_nil)) (hr.mono (by decide)) (rn_worth T (zf.mono (by decide)) (zlo.mono (by decide)))) ea_nil)) (hr.mono (by decide)) (rn_uptoH T.toTx hy zl))) (fun h => ?_) (fun h => ?_))
    · rw [if_pos (of_decide_eq_true h)] at hgo
      rw [← hgo]
      exact bk_cons (bs_ret (ed_var (d := fr q.1) 3 rfl (.inl rfl) rfl) ⟨rfl, rfl⟩)
    · rw [if_neg (of_decide_eq_false h)] at hgo
      refine bk_nil ?_
      have eZ : (!(fr f.2).eqb (fr 0)) = decide (0 < f.2) := by
        rw [fr_eqb]
        by_cases h0 : f.2 = 0
        · rw [decide_eq_true h0, decide_eq_false (by rw [h0]; exact Rat.lt_irrefl)]; rfl
        · rw [decide_eq_false h0, decide_eq_true (by grind)]; rfl
      refine bk_cons (bs_if (t := decide (0 < f.2)) (s1 := s') (Cp.et (Cp.is (cp_ne hr (ed_ix (d := fr f.2) (ed_var (d := fp f) 6 rfl (.inl rfl) rfl) ed_int rfl) (ed_cst T.c_ZERO) (eqD.fr _).eqC (eqD.fr _).eqC) eZ)) (fun h2 => ?_) (fun h2 => ?_))
      · have h2 := of_decide_eq_true h2
        have zr := sz_div (zz.sub zf.1) zf.2 h2
        refine bk_cons (bs_set (d := fr ((z - f.1) / f.2)) (s1 := s') 7 nd rfl (.inl rfl) (ed_cl (ea_cons (ed_cl (ea_cons (ed_var (d := y) 2 rfl (.inl rfl) rfl) (ea_cons (ed_ix (d := fr f.1) (ed_var (d := fp f) 6 rfl (.inl rfl) rfl) ed_int rfl) ea_nil)) (hr.mono (by decide)) (rn_minusH T.toTx hy (zf.1.mono (by decide)))) (ea_cons (ed_ix (d := fr f.2) (ed_var (d := fp f) 6 rfl (.inl rfl) rfl) ed_int rfl) ea_nil)) (hr.mono (by decide)) (rn_over T ((zz.sub zf.1).mono (by decide)) (zf.2.mono (by decide)) h2)) ?_)
        show Bk _ _ ([.val (rowD K L n), .val (.int i), .val y, .val (fr q.1), .val (hqD q.2.1), .val (fmL q.2.2), .val (fp f), .val (fr ((z - f.1) / f.2))] : List Gh.G) s' _
        generalize (z - f.1) / f.2 = w at hgo zr
        refine bk_cons (bs_if (t := hiOk q.2.1 w) (s1 := s') ?tt (fun h3 => ?_) (fun h3 => ?_))
        case tt =>
          cases hh : q.2.1 with
          | none => exact Ew.et (ew_orT (Cp.et (Cp.is (cp_isN (ed_var (d := .non) 4 rfl (.inl rfl) rfl)) rfl)))
          | some u => exact Ew.et (ew_orF (Cp.et (Cp.is (cp_isN (ed_var (d := fr u) 4 rfl (.inl rfl) rfl)) rfl)) (ew_or1 (et_val (ed_cl (ea_cons (ed_var (d := fr w) 7 rfl (.inl rfl) rfl) (ea_cons (ed_var (d := fr u) 4 rfl (.inl rfl) rfl) ea_nil)) (hr.mono (by decide)) (rn_is_upto T.toTx (zr.mono (by decide)) ((zhi u hh).mono (by decide)))))))
        · rw [if_pos ⟨h2, h3⟩] at hgo
          rw [← hgo]
          exact bk_cons (bs_ret (ed_var (d := fr w) 7 rfl (.inl rfl) rfl) ⟨rfl, rfl⟩)
        · rw [if_neg fun z => by rw [z.2] at h3; cases h3] at hgo
          exact bk_nil (bk_nil (bk_nil ⟨rfl, hgo, _, _, _, _, _, rfl⟩))
      · have h2 := of_decide_eq_false h2
        rw [if_neg fun z => h2 z.1] at hgo
        exact bk_nil (bk_nil ⟨rfl, hgo, _, _, _, _, _, rfl⟩)
  · rintro ρ' s' ⟨rfl, hgo, g3, g4, g5, g6, g7, rfl⟩
    rw [List.drop_of_length_le (Nat.le_refl _)] at hgo
    rw [← hgo]
    exact bk_cons (bs_ret ed_non ⟨rfl, rfl⟩)
/-! tuples for lists -/
inductive Tp : Nat → D → D → Prop
  | int {n : Nat} (i : Int) : Tp n (.int i) (.int i)
  | non {n : Nat} : Tp n .non .non
  | tup {n : Nat} {xs ys : List D} : xs.length ≤ 1000 → xs.length = ys.length → (∀ (i : Nat) (x y : D), xs[i]? = some x → ys[i]? = some y → Tp n x y) → Tp (n + 1) (.tup xs) (.tup ys)
  | lst {n : Nat} {xs ys : List D} : xs.length ≤ 1000 → xs.length = ys.length → (∀ (i : Nat) (x y : D), xs[i]? = some x → ys[i]? = some y → Tp n x y) → Tp (n + 1) (.lst xs) (.tup ys)
theorem rn_tuples (T : Tx E) : ∀ {n : Nat} {x y : D}, Tp n x y → ∀ s : Sx, Rn E (n + 1) "_law_tuples" [x] s y s := by
  intro n
  induction n with
  | zero =>
    intro x y h s
    cases h with
    | int i =>
      refine T.d__law_tuples.rn sc__law_tuples rfl rfl fun fa cdv A outer sh H0 EX S0 p hr => ?_
      conv => arg 2; whnf
      exact bk_cons (bs_ret (ed_ifF (et_val ((ed_isiT T.bf (ed_var (d := .int i) 0 rfl (.inl rfl) rfl) rfl (cns_cons (cn_list T.bf) (cns_cons (cn_tuple T.bf) cns_nil))).is rfl)) (ed_var (d := .int i) 0 rfl (.inl rfl) rfl)) ⟨rfl, rfl⟩)
    | non =>
      refine T.d__law_tuples.rn sc__law_tuples rfl rfl fun fa cdv A outer sh H0 EX S0 p hr => ?_
      conv => arg 2; whnf
      exact bk_cons (bs_ret (ed_ifF (et_val ((ed_isiT T.bf (ed_var (d := .non) 0 rfl (.inl rfl) rfl) rfl (cns_cons (cn_list T.bf) (cns_cons (cn_tuple T.bf) cns_nil))).is rfl)) (ed_var (d := .non) 0 rfl (.inl rfl) rfl)) ⟨rfl, rfl⟩)
  | succ n ih =>
    intro x y h s
    have go : ∀ (x0 : D) (xs ys : List D), (x0 = .lst xs ∨ x0 = .tup xs) → (∀ k, x0.kind = some k → isK k .list = true ∨ isK k .tuple = true) → x0.kind.isSome = true → xs.length ≤ 1000 → xs.length = ys.length → (∀ (i : Nat) (x y : D), xs[i]? = some x → ys[i]? = some y → Tp n x y) → Rn E (n + 1 + 1) "_law_tuples" [x0] s (.tup ys) s := by
      intro x0 xs ys hx hk0 hk1 hl he hh
      obtain ⟨k, hk⟩ := Option.isSome_iff_exists.mp hk1
      refine T.d__law_tuples.rn sc__law_tuples rfl rfl fun fa cdv A outer sh H0 EX S0 p hr => ?_
      conv => arg 2; whnf
      have nd := sc__law_tuples.nd
      refine bk_cons (bs_ret (ed_ifT (et_val ((ed_isiT T.bf (ed_var (d := x0) 0 rfl (.inl rfl) rfl) hk (cns_cons (cn_list T.bf) (cns_cons (cn_tuple T.bf) cns_nil))).is ?kk)) (ed_tupleOf T.bf (El.ed (el_seqN (items := xs) (outs := ys) (st := fun _ => s) [("_law_part", 1)] xs.length rfl nd rfl he.symm hl rfl (ei_seq (ed_var (d := x0) 0 rfl (.inl rfl) rfl) hx) (blkOk_by rfl) (fun i d o hi ho => ⟨_, _, fun b => eg_name 1 nd rfl (.inl rfl), by decide, fun b => ed_cl (ea_cons (ed_var (d := d) 1 rfl (.inl rfl) rfl) ea_nil) hr (ih (hh i d o hi ho) s)⟩))) (.inl rfl))) ⟨rfl, rfl⟩)
      case kk =>
        refine congrArg D.bl ?_
        rcases hk0 k hk with z | z <;> simp [List.any, z]
    cases h with
    | int i =>
      refine Rn.mono (j := 1) ?_ (by omega)
      refine T.d__law_tuples.rn sc__law_tuples rfl rfl fun fa cdv A outer sh H0 EX S0 p hr => ?_
      conv => arg 2; whnf
      exact bk_cons (bs_ret (ed_ifF (et_val ((ed_isiT T.bf (ed_var (d := .int i) 0 rfl (.inl rfl) rfl) rfl (cns_cons (cn_list T.bf) (cns_cons (cn_tuple T.bf) cns_nil))).is rfl)) (ed_var (d := .int i) 0 rfl (.inl rfl) rfl)) ⟨rfl, rfl⟩)
    | non =>
      refine Rn.mono (j := 1) ?_ (by omega)
      refine T.d__law_tuples.rn sc__law_tuples rfl rfl fun fa cdv A outer sh H0 EX S0 p hr => ?_
      conv => arg 2; whnf
      exact bk_cons (bs_ret (ed_ifF (et_val ((ed_isiT T.bf (ed_var (d := .non) 0 rfl (.inl rfl) rfl) rfl (cns_cons (cn_list T.bf) (cns_cons (cn_tuple T.bf) cns_nil))).is rfl)) (ed_var (d := .non) 0 rfl (.inl rfl) rfl)) ⟨rfl, rfl⟩)
    | tup hl he hh => exact go _ _ _ (.inr rfl) (fun k e => by cases e; exact .inr rfl) rfl hl he hh
    | lst hl he hh => exact go _ _ _ (.inl rfl) (fun k e => by cases e; exact .inl rfl) rfl hl he hh
theorem tp_fr (q : Rat) : Tp 1 (fr q) (fr q) := .tup (by show 2 ≤ 1000; decide) rfl fun i x y hx hy => by
  rw [hx] at hy; cases hy
  have m := List.mem_of_getElem? hx
  rcases List.mem_cons.mp m with rfl | m
  · exact .int _
  · rw [List.mem_singleton.mp m]; exact .int _
theorem Tp.up {n : Nat} {x y : D} (h : Tp n x y) : Tp (n + 1) x y := by
  induction h with
  | int i => exact .int i
  | non => exact .non
  | tup a b c ih => exact .tup a b ih
  | lst a b c ih => exact .lst a b ih
theorem tp_fm (F : List Lin) (hl : F.length ≤ 100) : Tp 3 (fmL F) (fmL F) := .tup (by rw [List.length_map]; omega) rfl fun i x y hx hy => by
  rw [hx] at hy; cases hy
  obtain ⟨f, _, rfl⟩ := List.mem_map.mp (List.mem_of_getElem? hx)
  refine .tup (by show 2 ≤ 1000; decide) rfl fun i x y hx hy => ?_
  rw [hx] at hy; cases hy
  have m := List.mem_of_getElem? hx
  rcases List.mem_cons.mp m with rfl | m
  · exact tp_fr _
  · rw [List.mem_singleton.mp m]; exact tp_fr _
theorem tp_pc (p : Pc3) (hl : p.2.2.length ≤ 100) : Tp 4 (pcD p) (pcD p) := .tup (by show 3 ≤ 1000; decide) rfl fun i x y hx hy => by
  rw [hx] at hy; cases hy
  have m := List.mem_of_getElem? hx
  rcases List.mem_cons.mp m with rfl | m
  · exact (tp_fr _).up.up
  · rcases List.mem_cons.mp m with rfl | m
    · cases p.2.1 with
      | none => exact .non
      | some q => exact (tp_fr _).up.up
    · rw [List.mem_singleton.mp m]; exact tp_fm _ hl
theorem tp_pcs {P : List Pc3} {m : Nat} (h : Pr P m) (hm : m ≤ 100) : Tp 5 (.lst (P.map pcD)) (.tup (P.map pcD)) := .lst (by rw [List.length_map]; have := h.l; omega) rfl fun i x y hx hy => by
  rw [hx] at hy; cases hy
  obtain ⟨p, mp, rfl⟩ := List.mem_map.mp (List.mem_of_getElem? hx)
  exact tp_pc p (by rw [h.len p mp]; exact hm)
theorem eqD_hq (o : Option Rat) : eqD 1 (hqD o) := by
  cases o with
  | none => exact .non
  | some q => exact .fr q
theorem eqD_pcs (P : List Pc3) : eqD 5 (.tup (P.map pcD)) := eqDs.tup (n := 4) (eqDs.of fun x m => by
  obtain ⟨p, _, rfl⟩ := List.mem_map.mp m
  exact (eqDs.cons ((eqD.fr _).mono (by decide)) (eqDs.cons ((eqD_hq _).mono (by decide)) (eqDs.cons (eqD_fmL _) eqDs.nil))).tup)
end Law
set_option Elab.async false
set_option linter.all false
set_option maxRecDepth 100000
set_option maxHeartbeats 1000000
/-! pieces as a new list; both ends -/
namespace Law
open PySem PySem.Spec PyProof.Rows L2 Gh
variable {E : En} {s : Sx} {K : Addr} {g : Str → Addr}
theorem rn_mergedL (T : Tc E) {P : List Pc3} (hl : P.length ≤ 900) : RnL E 1 "merged_pieces" [.lst (P.map pcD)] s ((mrg P).map pcD) s := by
  refine T.d_merged_pieces.rnL sc_merged_pieces rfl rfl fun fa cdv A outer sh H0 EX S0 p hr => ?_
  conv => arg 2; whnf
  have nd := sc_merged_pieces.nd
  refine bkl_cons (bs_setOwn (ds := ((P.take 0).foldl mrgStep []).map pcD) 1 nd rfl (.inl rfl) (el_lst ea_nil) ?_)
  refine bkl_cons (bs_forM (s1 := s) pcD (xs := P) PassesOwn.never rfl (ei_seq (ed_var (d := .lst (P.map pcD)) 0 rfl (.inl rfl) rfl) (.inl rfl)) (fun i ρ s' => s' = s ∧ ∃ g2 g3 g4, ρ = [.val (.lst (P.map pcD)), .own (((P.take i).foldl mrgStep []).map pcD), g2, g3, g4]) ⟨rfl, _, _, _, rfl⟩ ?_ ?_)
  · rintro i q ρ' s' hi ⟨rfl, g2, g3, g4, rfl⟩
    have hF := mrg_len (P.take i) []
    rw [List.length_take, List.length_nil, Nat.zero_add] at hF
    rw [take_foldl hi]
    generalize (P.take i).foldl mrgStep [] = F at hF
    refine ⟨_, _, eg_tup rfl (egs_cons (eg_name 2 nd rfl (.inl rfl)) (egs_cons (eg_name 3 nd rfl (.inl rfl)) (egs_cons (eg_name 4 nd rfl (.inl rfl)) egs_nil))), ?_⟩
    show Bk _ _ ([.val (.lst (P.map pcD)), .own (F.map pcD), .val (fr q.1), .val (hqD q.2.1), .val (fmL q.2.2)] : List G) s' _
    have hFs : (F.map pcD).length < 1000 := by rw [List.length_map]; omega
    rcases last_cases F with rfl | ⟨A1, y, rfl⟩
    · refine bk_cons (bs_ifF (Ew.et (ew_andF (Cp.et (Cp.is (cp_neNil (xs := []) hr (ev_own 1 rfl (.inl rfl) rfl) (El.ev (el_lst ea_nil))) rfl)))) ?_)
      exact bk_cons (bs_append 1 (d := pcD q) (s1 := s') rfl (.inl rfl) rfl (ed_tup (ea_cons (ed_var (d := fr q.1) 2 rfl (.inl rfl) rfl) (ea_cons (ed_var (d := hqD q.2.1) 3 rfl (.inl rfl) rfl) (ea_cons (ed_var (d := fmL q.2.2) 4 rfl (.inl rfl) rfl) ea_nil)))) (by decide) (bk_nil (bk_nil ⟨rfl, _, _, _, rfl⟩)))
    · rw [List.map_append] at hFs
      rw [mrgStep_app, List.map_append]
      show Bk _ _ ([.val (.lst (P.map pcD)), .own (A1.map pcD ++ [pcD y]), .val (fr q.1), .val (hqD q.2.1), .val (fmL q.2.2)] : List G) s' _
      refine bk_cons (bs_if (t := decide (y.2.2 = q.2.2)) (s1 := s') (Ew.et (ew_andT (Cp.et (Cp.is (cp_neNil (xs := A1.map pcD ++ [pcD y]) hr (ev_own 1 rfl (.inl rfl) rfl) (El.ev (el_lst ea_nil))) (by cases A1 <;> rfl))) (ew_and1 (Cp.et (Cp.is (cp_eq hr (ed_ix (d := fmL y.2.2) (ed_ixV (d := pcD y) (ev_own 1 rfl (.inl rfl) rfl) (ed_neg ed_int) (L2.atI_last (A1.map pcD) (pcD y))) ed_int rfl) (ed_var (d := fmL q.2.2) 4 rfl (.inl rfl) rfl) (eqD_fmL _).eqC (eqD_fmL _).eqC) (fmL_eqb _ _)))))) (fun h => ?_) (fun h => ?_))
      · have h := of_decide_eq_true h
        rw [if_pos h]
        refine bk_cons (bs_stO 1 (n := pcD (y.1, q.2.1, q.2.2)) (s1 := s') (s2 := s') (l := -1) (j := (A1.map pcD).length) rfl (.inl rfl) rfl (ed_tup (ea_cons (ed_ix (d := fr y.1) (ed_ixV (d := pcD y) (ev_own 1 rfl (.inl rfl) rfl) (ed_neg ed_int) (L2.atI_last (A1.map pcD) (pcD y))) ed_int rfl) (ea_cons (ed_var (d := hqD q.2.1) 3 rfl (.inl rfl) rfl) (ea_cons (ed_var (d := fmL q.2.2) 4 rfl (.inl rfl) rfl) ea_nil)))) (ed_neg ed_int) (by rw [List.length_append]; exact ixN_last _) ?_)
        rw [set_last1]
        exact bk_nil (bk_nil ⟨rfl, _, _, _, by rw [List.map_append]; rfl⟩)
      · have h := of_decide_eq_false h
        rw [if_neg h]
        exact bk_cons (bs_append 1 (d := pcD q) (s1 := s') rfl (.inl rfl) rfl (ed_tup (ea_cons (ed_var (d := fr q.1) 2 rfl (.inl rfl) rfl) (ea_cons (ed_var (d := hqD q.2.1) 3 rfl (.inl rfl) rfl) (ea_cons (ed_var (d := fmL q.2.2) 4 rfl (.inl rfl) rfl) ea_nil)))) (sl1000 hFs) (bk_nil (bk_nil ⟨rfl, _, _, _, by rw [List.map_append, List.map_append]; rfl⟩)))
  · rintro ρ' s' ⟨rfl, g2, g3, g4, rfl⟩
    rw [List.take_length]
    exact bkl_retOwn 1 rfl (.inl rfl) rfl
theorem rn_pieces_betweenL (T : Tc E) {L : List LI} {n : Nat} {Cs : List Rat} {dg : D} (hC : ∀ q ∈ Cs, Sz 500 q) (hl : Cs.length ≤ 100) (ha : Ascd Cs)
    (A : ∀ r, 0 < r → Sz 1100 r → RnV E 11 dg [fr r] s (.lst ((formsQ L n r).map fp)) s) :
    RnL E 12 "pieces_between" [.lst (Cs.map fr), dg] s ((mrg (hiP (progRaw L n (0 :: Cs.filter fun q => decide (0 < q))))).map pcD) s := by
  refine T.d_pieces_between.rnL sc_pieces_between rfl rfl fun fa cdv A' outer sh H0 EX S0 p hr => ?_
  conv => arg 2; whnf
  have nd := sc_pieces_between.nd
  have hasc : Ascd (0 :: Cs.filter fun q => decide (0 < q)) := List.pairwise_cons.mpr ⟨fun q mq => of_decide_eq_true (List.mem_filter.mp mq).2, ha.filter _⟩
  have hz : ∀ q ∈ 0 :: Cs.filter fun q => decide (0 < q), Sz 500 q ∧ 0 ≤ q := fun q m => by
    rcases List.mem_cons.mp m with rfl | m
    · exact ⟨sz_zero, Rat.le_refl⟩
    · have := List.mem_filter.mp m
      exact ⟨hC q this.1, Rat.le_of_lt (of_decide_eq_true this.2)⟩
  have hel : (0 :: Cs.filter fun q => decide (0 < q)).length ≤ 101 := by
    rw [List.length_cons]
    have := List.length_filter_le (fun q => decide (0 < q)) Cs
    omega
  refine bkl_cons (bs_parOV 2 3 (d2 := .lst ((0 :: Cs.filter fun q => decide (0 < q)).map fr)) (s2 := s) rfl nd rfl rfl (by decide) rfl rfl (el_lst ea_nil) (El.ed (El.is (el_cat (sl1000 (by
    have := List.length_filter_le (fun q => decide (0 < q)) Cs
    rw [List.length_map, List.length_singleton]; omega)) (El.ed (el_lst (ea_cons (ed_cst T.c_ZERO) ea_nil))) (El.ed (el_filterM (s1 := s) [("room", 4)] fr fr (fun q : Rat => decide (0 < q)) (xs := Cs) rfl nd (ei_seq (ed_var (d := .lst (Cs.map fr)) 0 rfl (.inl rfl) rfl) (.inl rfl)) (blkOk_by rfl) (sl1000 (by omega)) (fun q mq => ⟨_, _, fun b => eg_name 4 nd rfl (.inl rfl), by decide, fun b => et_val (ed_cl (ea_cons (ed_cst T.c_ZERO) (ea_cons (ed_var (d := fr q) 4 rfl (.inl rfl) rfl) ea_nil)) (hr.mono (by decide)) (rn_pless T.toTx sz_zero ((hC q mq).mono (by decide)))), fun _ b => ed_var (d := fr q) 4 rfl (.inl rfl) rfl⟩)))) rfl)) ?_)
  generalize (0 :: Cs.filter fun q => decide (0 < q)) = Es at *
  show BkL _ _ ([.val (.lst (Cs.map fr)), .val dg, .own [], .val (.lst (Es.map fr)), .no, .no, .no, .no, .no] : List Gh.G) s _ _
  have el : (enumD (Es.map fr)).length = Es.length := by rw [enumD_length, List.length_map]
  have pl := progRaw_len (L := L) (n := n) (Es := Es)
  refine bkl_cons (bs_for (items := enumD (Es.map fr)) (s1 := s) PassesOwn.never rfl (ei_enum T.bf (ed_var (d := .lst (Es.map fr)) 3 rfl (.inl rfl) rfl)) (fun i ρ s' => s' = s ∧ ∃ g5 g6 g7 g8, ρ = [.val (.lst (Cs.map fr)), .val dg, .own (((hiP (progRaw L n Es)).take i).map pcD), .val (.lst (Es.map fr)), .no, g5, g6, g7, g8]) ⟨rfl, _, _, _, _, rfl⟩ ?_ ?_)
  · rintro i d ρ' s' hi ⟨rfl, g5, g6, g7, g8, rfl⟩
    have hlt : i < Es.length := by rw [← el]; exact (List.getElem?_eq_some_iff.mp hi).1
    have hb : Es[i]? = some Es[i] := List.getElem?_eq_getElem hlt
    rw [enumD_get (d := fr Es[i]) (by rw [List.getElem?_map, hb]; rfl)] at hi
    cases hi
    have hg := progRaw_get (L := L) (n := n) hb
    obtain ⟨zb, b0⟩ := hz _ (List.mem_of_getElem? hb)
    generalize Es[i] = b at *
    rw [List.take_add_one, hg, List.map_append]
    have hPl : ((hiP (progRaw L n Es)).take i).length ≤ 101 := by rw [List.length_take]; omega
    generalize (hiP (progRaw L n Es)).take i = P at hPl
    refine ⟨_, _, eg_tup rfl (egs_cons (eg_name 5 nd rfl (.inl rfl)) (egs_cons (eg_name 6 nd rfl (.inl rfl)) egs_nil)), ?_⟩
    show Bk _ _ ([.val (.lst (Cs.map fr)), .val dg, .own (P.map pcD), .val (.lst (Es.map fr)), .no, .val (.int (i : Int)), .val (fr b), g7, g8] : List Gh.G) s' _
    cases eo : Es[i + 1]? with
    | none =>
      have hge := List.getElem?_eq_none_iff.mp eo
      refine bk_cons (bs_set (d := .non) (s1 := s') 7 nd rfl (.inl rfl) (ed_ifF (Cp.et (Cp.is (cp_lt (ed_bin (ed_var (d := .int (i : Int)) 5 rfl (.inl rfl) rfl) ed_int rfl trivial) (ed_len T.bf (ed_var (d := .lst (Es.map fr)) 3 rfl (.inl rfl) rfl) rfl)) (decide_eq_false (by rw [List.length_map]; omega)))) ed_non) ?_)
      refine bk_cons (bs_set (d := fr (b + 1)) (s1 := s') 8 nd rfl (.inl rfl) (ed_ifT (Cp.et (Cp.is (cp_isN (ed_var (d := .non) 7 rfl (.inl rfl) rfl)) rfl)) (ed_cl (ea_cons (ed_var (d := fr b) 6 rfl (.inl rfl) rfl) (ea_cons (ed_cst T.c_ONE) ea_nil)) (hr.mono (by decide)) (rn_plus T.toTx (zb.mono (by decide)) (sz_nat (i := 1) (by decide))))) ?_)
      show Bk _ _ ([.val (.lst (Cs.map fr)), .val dg, .own (P.map pcD), .val (.lst (Es.map fr)), .no, .val (.int (i : Int)), .val (fr b), .val .non, .val (fr (b + 1))] : List Gh.G) s' _
      have AR := A (b + 1) (by grind) ((zb.add (sz_nat (i := 1) (m := 2) (by decide))).mono (by decide))
      refine bk_cons (bs_ifT (Ew.et (ew_orT (Cp.et (Cp.is (cp_isN (ed_var (d := .non) 7 rfl (.inl rfl) rfl)) rfl)))) ?_)
      exact bk_cons (bs_append 2 (d := pcD (b, none, formsQ L n (b + 1))) (s1 := s') rfl (.inl rfl) rfl (ed_tup (ea_cons (ed_var (d := fr b) 6 rfl (.inl rfl) rfl) (ea_cons (ed_var (d := .non) 7 rfl (.inl rfl) rfl) (ea_cons (ed_tupleOf T.bf (ed_clV 1 rfl (.inl rfl) rfl (ea_cons (ed_var (d := fr (b + 1)) 8 rfl (.inl rfl) rfl) ea_nil) (hr.mono (by decide)) AR) (.inl rfl)) ea_nil)))) (sl1000 (by rw [List.length_map]; omega)) (bk_nil (bk_nil ⟨rfl, _, _, _, _, rfl⟩)))
    | some l =>
      have hlt2 := (List.getElem?_eq_some_iff.mp eo).1
      obtain ⟨zl, l0⟩ := hz _ (List.mem_of_getElem? eo)
      have bl : b < l := by
        have h1 := (List.getElem?_eq_some_iff.mp hb).2
        have h2 := (List.getElem?_eq_some_iff.mp eo).2
        have := List.pairwise_iff_getElem.mp hasc i (i + 1) hlt hlt2 (by omega)
        rw [h1, h2] at this
        exact this
      have zh : Sz 2 (mkRat 1 2) := ⟨by decide, by decide⟩
      have hmid := half_mid bl
      refine bk_cons (bs_set (d := fr l) (s1 := s') 7 nd rfl (.inl rfl) (ed_ifT (Cp.et (Cp.is (cp_lt (ed_bin (ed_var (d := .int (i : Int)) 5 rfl (.inl rfl) rfl) ed_int rfl trivial) (ed_len T.bf (ed_var (d := .lst (Es.map fr)) 3 rfl (.inl rfl) rfl) rfl)) (decide_eq_true (by rw [List.length_map]; omega)))) (ed_ix (d := fr l) (ed_var (d := .lst (Es.map fr)) 3 rfl (.inl rfl) rfl) (ed_bin (ed_var (d := .int (i : Int)) 5 rfl (.inl rfl) rfl) ed_int rfl trivial) (atI_n (i := i + 1) (by rw [List.getElem?_map, eo]; rfl)))) ?_)
      refine bk_cons (bs_set (d := fr ((b + l) * mkRat 1 2)) (s1 := s') 8 nd rfl (.inl rfl) (ed_ifF (Cp.et (Cp.is (cp_isN (ed_var (d := fr l) 7 rfl (.inl rfl) rfl)) rfl)) (ed_cl (ea_cons (ed_cl (ea_cons (ed_var (d := fr b) 6 rfl (.inl rfl) rfl) (ea_cons (ed_var (d := fr l) 7 rfl (.inl rfl) rfl) ea_nil)) (hr.mono (by decide)) (rn_plus T.toTx (zb.mono (by decide)) (zl.mono (by decide)))) (ea_cons (Ed.is (y := fr (mkRat 1 2)) (ed_tup (ea_cons ed_int (ea_cons ed_int ea_nil))) half_fr.symm) ea_nil)) (hr.mono (by decide)) (rn_times T.toTx ((zb.add zl).mono (by decide)) (zh.mono (by decide))))) ?_)
      show Bk _ _ ([.val (.lst (Cs.map fr)), .val dg, .own (P.map pcD), .val (.lst (Es.map fr)), .no, .val (.int (i : Int)), .val (fr b), .val (fr l), .val (fr ((b + l) * mkRat 1 2))] : List Gh.G) s' _
      have AR := A ((b + l) * mkRat 1 2) (by grind) (((zb.add zl).mul zh).mono (by decide))
      refine bk_cons (bs_ifT (Ew.et (ew_orF (Cp.et (Cp.is (cp_isN (ed_var (d := fr l) 7 rfl (.inl rfl) rfl)) rfl)) (ew_or1 (et_val (Ed.is (ed_cl (ea_cons (ed_var (d := fr b) 6 rfl (.inl rfl) rfl) (ea_cons (ed_var (d := fr l) 7 rfl (.inl rfl) rfl) ea_nil)) (hr.mono (by decide)) (rn_pless T.toTx (zb.mono (by decide)) (zl.mono (by decide)))) (congrArg D.bl (decide_eq_true bl))))))) ?_)
      exact bk_cons (bs_append 2 (d := pcD (b, some l, formsQ L n ((b + l) * mkRat 1 2))) (s1 := s') rfl (.inl rfl) rfl (ed_tup (ea_cons (ed_var (d := fr b) 6 rfl (.inl rfl) rfl) (ea_cons (ed_var (d := fr l) 7 rfl (.inl rfl) rfl) (ea_cons (ed_tupleOf T.bf (ed_clV 1 rfl (.inl rfl) rfl (ea_cons (ed_var (d := fr ((b + l) * mkRat 1 2)) 8 rfl (.inl rfl) rfl) ea_nil) (hr.mono (by decide)) AR) (.inl rfl)) ea_nil)))) (sl1000 (by rw [List.length_map]; omega)) (bk_nil (bk_nil ⟨rfl, _, _, _, _, rfl⟩)))
  · rintro ρ' s' ⟨rfl, g5, g6, g7, g8, rfl⟩
    rw [el, ← pl, List.take_length]
    refine bkl_freeze 2 rfl ?_
    exact bkl_ret (el_cl (ea_cons (ed_var (d := .lst ((hiP (progRaw L n Es)).map pcD)) 2 rfl (.inl rfl) rfl) ea_nil) (hr.mono (by decide)) (rn_mergedL T (by omega)))
theorem rn_all_piecesL (T : Tc E) (B : Ro E K g) {c P c2 P2 : Addr} (Z : DmT E t_Row_forms_about (g "forms_about") "forms_about" "Row.forms_about" ["self", "room"] c P) (Z2 : DmT E t_Row_all_pieces (g "all_pieces") "all_pieces" "Row.all_pieces" ["self"] c2 P2) {L : List LI} {n : Nat} (hl : L.length ≤ 8) (h1 : 1 ≤ L.length) (ok : ∀ x ∈ L, Lq x) (hn : n ≤ 10) (hs : SxN s) :
    RnLA E 13 (g "all_pieces") [rowD K L n] s ((pcsP L n).map pcD) s := by
  refine Z2.rnL sc_Row_all_pieces rfl rfl fun A outer sh H0 EX S0 p hr TL => ?_
  conv => arg 2; whnf
  have nd := sc_Row_all_pieces.nd
  have okL : ∀ x ∈ L, LOk x := fun x m => (ok x m).ok
  have hcl := corn_len (n := n) (L := L) (by omega)
  have hil : (inOrd (cornQ L n)).length ≤ (cornQ L n).length := inOrd_len
  refine bkl_ret (el_clF (f := "pieces_between") (eaL_cons (ed_meth0 B.cls B.m_corners (ed_var (d := rowD K L n) 0 rfl (.inr (.inl rfl)) rfl) (by decide) (hr.mono (by decide)) (rn_corners T B (by omega) okL (by omega))) (eaL_one (ps := ["room"]) (fr := ["self"]) TL (free_by rfl))) (Cap.cons (d := rowD K L n) 0 rfl rfl rfl (.inl rfl) .nil) (cscope_by rfl) (hr.mono (by decide)) (rn_pieces_betweenL T (L := L) (n := n) (fun q m => (qz (n := 50) (corn_qn ok hl h1 hn q (inOrd_mem q m)) (by decide)).mono (by decide)) (by omega) (inOrd_spec _).1 fun r r0 zr => ?lam) (noCs_map pcD_nc _) hs)
  case lam =>
    refine rnV_clo (k := 10) (cscope_by rfl) rfl rfl (by rw [D.noCs, rowD_nc]; rfl) (by rw [D.noCs, fr_nc]; rfl) hs (fun cl pm cv ctv us h => by
      obtain ⟨u, rfl⟩ := cut1 us h
      rfl) (fun cl' c' f0 A outer sh H0 EX S0 p hr2 => ?_)
    exact ed_meth B.cls B.m_forms (ed_var (d := rowD K L n) 1 rfl (.inr (.inr rfl)) rfl) (by decide) (ea_cons (ed_var (d := fr r) 0 rfl (.inl rfl) rfl) ea_nil) hr2 (rn_forms_about T B Z (by omega) okL (by omega) zr hs)
theorem lsum_snoc (A : List Rat) (q : Rat) : lsum (A ++ [q]) = lsum A + q := by
  induction A with
  | nil => rw [List.nil_append, lsum_cons, lsum_nil]; grind
  | cons a A ih => rw [List.cons_append, lsum_cons, lsum_cons, ih]; grind
theorem held_fst {x : LI} (ok : LOk x) : (held 0 (x.b, 0) ((x.lo : Rat), 0) (hiQ x.hi)).1 = lclamp x x.b := by
  rw [← ev_flat, ev_held, clamp_cv ok]
  unfold cv hiR
  rw [ev_flat, ev_flat]
  congr 1
  cases x.hi with
  | none => rfl
  | some m =>
    show some (ev ((m : Rat), 0) 0) = some (m : Rat)
    rw [ev_flat]
theorem _root_.Gh.Ei.is {F : Fx} {ρ : List Gh.G} {s s1 : Sx} {tg e : Expr} {xs ys : List D} (h : Ei F ρ s tg e xs s1) (z : xs = ys) : Ei F ρ s tg e ys s1 := z ▸ h
def hAdd : Option Rat → Option Rat → Option Rat
  | some h, some q => some (h + q)
  | _, _ => none
/-- the greatest room with nothing left over -/
def highS (n : Int) (L : List LI) : Option Rat := if ∀ x ∈ L, (highQ x).isSome = true then some ((n : Rat) + lsum (L.map highD)) else none
theorem highS_snoc (n : Int) (A : List LI) (x : LI) : highS n (A ++ [x]) = hAdd (highS n A) (highQ x) := by
  unfold highS
  by_cases hA : ∀ x ∈ A, (highQ x).isSome = true
  · rw [if_pos hA]
    cases e : highQ x with
    | none =>
      rw [if_neg (fun z => by
        have := z x (List.mem_append_right _ List.mem_cons_self)
        rw [e] at this; cases this)]
      rfl
    | some q =>
      rw [if_pos fun y my => ?_]
      · rw [List.map_append]
        show some ((n : Rat) + lsum (A.map highD ++ [highD x])) = some ((n : Rat) + lsum (A.map highD) + q)
        rw [lsum_snoc]
        have : highD x = q := by unfold highD; rw [e]; rfl
        rw [this]
        congr 1
        grind
      · rcases List.mem_append.mp my with my | my
        · exact hA y my
        · rw [List.mem_singleton.mp my, e]; rfl
  · rw [if_neg hA, if_neg fun z => hA fun y my => z y (List.mem_append_left _ my)]
    cases highQ x <;> rfl
theorem low_if (x : LI) (ok : LOk x) : lowQ x = if 0 < x.w then (x.lo : Rat) else lclamp x x.b := rfl
theorem take_sum {L : List LI} {i : Nat} {x : LI} (e : L[i]? = some x) (f : LI → Rat) : lsum ((L.take (i + 1)).map f) = lsum ((L.take i).map f) + f x := by
  rw [List.take_add_one, e, List.map_append]
  exact lsum_snoc _ _
theorem rn_both_ends (T : Tc E) (B : Ro E K g) {L : List LI} {n : Nat} (R : Rok L n) : RnA E 6 (g "both_ends") [rowD K L n] s (.tup [fr (((gapsQ L n : Int) : Rat) + lsum (L.map lowQ)), hqD (highS (gapsQ L n) L)]) s := by
  have hl8 := R.l
  have hn := R.n
  have zg : Sz 40 ((gapsQ L n : Int) : Rat) := qz (gaps_qn R.l R.o R.n) (by decide)
  obtain ⟨fa0, hm, A0⟩ := ask_plain T
  have zlow : ∀ i, Sz 130 (((gapsQ L n : Int) : Rat) + lsum ((L.take i).map lowQ)) := fun i => by
    have := (rn_lsumQ (E := E) (s := s) T (qs := (L.take i).map lowQ) (fun q m => by obtain ⟨x, mx, rfl⟩ := List.mem_map.mp m; exact low_qn (R.q x (List.mem_of_mem_take mx))) (by rw [List.length_map, List.length_take]; omega)).1
    exact (zg.add this).mono (by omega)
  refine B.d_ends.rn sc_Row_both_ends rfl rfl fun cdv A outer sh H0 EX S0 p hr => ?_
  conv => arg 2; whnf
  have nd := sc_Row_both_ends.nd
  refine bk_cons (bs_par 1 2 (d1 := fr (((gapsQ L n : Int) : Rat) + lsum ((L.take 0).map lowQ))) (d2 := hqD (highS (gapsQ L n) (L.take 0))) (s1 := s) rfl nd rfl rfl (by decide) rfl rfl (ea_cons (Ed.is (ed_meth0 B.cls B.m_gaps (ed_var (d := rowD K L n) 0 rfl (.inl rfl) rfl) (by decide) (hr.mono (by decide)) (rn_all_gaps T B (by omega) (by omega))) (congrArg Gh.fr (by rw [List.take_zero, List.map_nil, lsum_nil]; grind))) (ea_cons (Ed.is (ed_meth0 B.cls B.m_gaps (ed_var (d := rowD K L n) 0 rfl (.inl rfl) rfl) (by decide) (hr.mono (by decide)) (rn_all_gaps T B (by omega) (by omega))) (by
    unfold highS
    rw [if_pos (by rw [List.take_zero]; exact fun x m => nomatch m), List.take_zero, List.map_nil, lsum_nil]
    exact congrArg Gh.fr (by grind))) ea_nil)) ?_)
  show Bk _ _ ([.val (rowD K L n), .val (fr (((gapsQ L n : Int) : Rat) + lsum ((L.take 0).map lowQ))), .val (hqD (highS (gapsQ L n) (L.take 0))), .no, .no, .no, .no, .no, .no] : List Gh.G) s _
  refine bk_cons (bs_forM (s1 := s) (fun x : LI => itD x.it) (xs := L) PassesOwn.never rfl (Ei.is (ei_seq (ed_cl (ea_cons (ed_fld (d := .lst (L.map liD)) B.cls B.n_items (ed_var (d := rowD K L n) 0 rfl (.inl rfl) rfl) rfl) ea_nil) (hr.mono (by decide)) (rn_item_forms T (by omega))) (.inl rfl)) (by rw [List.map_map]; rfl)) (fun i ρ s' => s' = s ∧ ∃ g3 g4 g5 g6 g7 g8, ρ = [.val (rowD K L n), .val (fr (((gapsQ L n : Int) : Rat) + lsum ((L.take i).map lowQ))), .val (hqD (highS (gapsQ L n) (L.take i))), g3, g4, g5, g6, g7, g8]) ⟨rfl, _, _, _, _, _, _, rfl⟩ ?_ ?_)
  · rintro i x ρ' s' hi ⟨rfl, g3, g4, g5, g6, g7, g8, rfl⟩
    have mx := List.mem_of_getElem? hi
    have okx := R.ok x mx
    have zi := okx.zi
    have z1 := zlow i
    rw [take_sum hi]
    have eT : L.take (i + 1) = L.take i ++ [x] := by rw [List.take_add_one, hi]; rfl
    rw [eT, highS_snoc]
    have zh : ∀ h, highS (gapsQ L n) (L.take i) = some h → Sz 130 h := fun h e => by
      unfold highS at e
      split at e
      · cases e
        have := (rn_lsumQ (E := E) (s := s') T (qs := (L.take i).map highD) (fun q m => by obtain ⟨x, mx, rfl⟩ := List.mem_map.mp m; exact high_qn (R.q x (List.mem_of_mem_take mx))) (by rw [List.length_map, List.length_take]; omega)).1
        exact (zg.add this).mono (by omega)
      · cases e
    rw [← Rat.add_assoc]
    generalize ((gapsQ L n : Int) : Rat) + lsum ((L.take i).map lowQ) = lw at z1
    generalize highS (gapsQ L n) (L.take i) = hg at zh
    have qx := R.q x mx
    have hf := held_fst okx
    have zhd : Zf 1500 (held 0 (x.b, 0) ((x.lo : Rat), 0) (hiQ x.hi)) := zf_held (zi.b.mono (by decide)) (zi.lo.mono (by decide)) fun m e => (zi.hi m e).mono (by decide)
    have RH := rn_held_form (s := s') T (A0 s') (r := 0) (n := 1500) (f := (x.b, 0)) (lo := ((x.lo : Rat), 0)) (hi := hiQ x.hi) (zi.b.mono (by decide)) (zi.lo.mono (by decide)) fun m e => (zi.hi m e).mono (by decide)
    generalize held 0 (x.b, 0) ((x.lo : Rat), 0) (hiQ x.hi) = hd at hf zhd RH
    refine ⟨_, _, eg_tup rfl (egs_cons (eg_name 3 nd rfl (.inl rfl)) (egs_cons (eg_name 4 nd rfl (.inl rfl)) (egs_cons (eg_name 5 nd rfl (.inl rfl)) (egs_cons (eg_name 6 nd rfl (.inl rfl)) (egs_cons (eg_name 7 nd rfl (.inl rfl)) egs_nil))))), ?_⟩
    show Bk _ _ ([.val (rowD K L n), .val (fr lw), .val (hqD hg), .val (fp (x.b, 0)), .val (.int x.g), .val (.int x.w), .val (fp ((x.lo : Rat), 0)), .val (hiD (hiQ x.hi)), g8] : List Gh.G) s' _
    refine bk_cons (bs_set (d := fp hd) (s1 := s') 8 nd rfl (.inl rfl) (ed_cl (ea_cons (ed_var (d := fp (x.b, 0)) 3 rfl (.inl rfl) rfl) (ea_cons (ed_var (d := fp ((x.lo : Rat), 0)) 6 rfl (.inl rfl) rfl) (ea_cons (ed_var (d := hiD (hiQ x.hi)) 7 rfl (.inl rfl) rfl) (ea_cons (ed_fn hm) ea_nil)))) (hr.mono (by decide)) RH) ?_)
    show Bk _ _ ([.val (rowD K L n), .val (fr lw), .val (hqD hg), .val (fp (x.b, 0)), .val (.int x.g), .val (.int x.w), .val (fp ((x.lo : Rat), 0)), .val (hiD (hiQ x.hi)), .val (fp hd)] : List Gh.G) s' _
    have zlq : Sz 3000 (lowQ x) := (qz (n := 60) (low_qn qx) (by decide)).mono (by decide)
    refine bk_cons (bs_set (d := fr (lw + lowQ x)) (s1 := s') 1 nd rfl (.inl rfl) (ed_cl (ea_cons (ed_var (d := fr lw) 1 rfl (.inl rfl) rfl) (ea_cons ?lo ea_nil)) (hr.mono (by decide)) (rn_plus T.toTx (z1.mono (by decide)) zlq)) ?_)
    case lo =>
      by_cases hw : 0 < x.w
      · exact Ed.is (ed_ifT (Cp.et (Cp.is (cp_gt (ed_var (d := .int x.w) 5 rfl (.inl rfl) rfl) ed_int) (decide_eq_true (by omega)))) (ed_ix (d := fr (x.lo : Rat)) (ed_var (d := fp ((x.lo : Rat), 0)) 6 rfl (.inl rfl) rfl) ed_int rfl)) (congrArg Gh.fr (by rw [low_if x okx, if_pos hw]))
      · exact Ed.is (ed_ifF (Cp.et (Cp.is (cp_gt (ed_var (d := .int x.w) 5 rfl (.inl rfl) rfl) ed_int) (decide_eq_false (by omega)))) (ed_ix (d := fr hd.1) (ed_var (d := fp hd) 8 rfl (.inl rfl) rfl) ed_int rfl)) (congrArg Gh.fr (by rw [low_if x okx, if_neg hw, hf]))
    show Bk _ _ ([.val (rowD K L n), .val (fr (lw + lowQ x)), .val (hqD hg), .val (fp (x.b, 0)), .val (.int x.g), .val (.int x.w), .val (fp ((x.lo : Rat), 0)), .val (hiD (hiQ x.hi)), .val (fp hd)] : List Gh.G) s' _
    by_cases hgx : x.g = 0
    · -- it cannot grow
      have eq : highQ x = some hd.1 := by unfold highQ; rw [if_pos hgx, hf]
      have zq : Sz 3000 hd.1 := zhd.1.mono (by decide)
      rw [eq]
      refine bk_cons (bs_ifF (Ew.et (ew_andF (Cp.et (Cp.is (cp_gt (ed_var (d := .int x.g) 4 rfl (.inl rfl) rfl) ed_int) (decide_eq_false (by omega)))))) ?_)
      cases hg with
      | none => exact bk_cons (bs_ifF (Cp.et (Cp.is (cp_notN (ed_var (d := .non) 2 rfl (.inl rfl) rfl)) rfl)) (bk_nil (bk_nil (bk_nil ⟨rfl, _, _, _, _, _, _, rfl⟩))))
      | some h => exact bk_cons (bs_ifT (Cp.et (Cp.is (cp_notN (ed_var (d := fr h) 2 rfl (.inl rfl) rfl)) rfl)) (bk_cons (bs_set (d := fr (h + hd.1)) (s1 := s') 2 nd rfl (.inl rfl) (ed_cl (ea_cons (ed_var (d := fr h) 2 rfl (.inl rfl) rfl) (ea_cons (ed_ifF (Cp.et (Cp.is (cp_gt (ed_var (d := .int x.g) 4 rfl (.inl rfl) rfl) ed_int) (decide_eq_false (by omega)))) (ed_ix (d := fr hd.1) (ed_var (d := fp hd) 8 rfl (.inl rfl) rfl) ed_int rfl)) ea_nil)) (hr.mono (by decide)) (rn_plus T.toTx ((zh h rfl).mono (by decide)) zq)) (bk_nil (bk_nil (bk_nil ⟨rfl, _, _, _, _, _, _, rfl⟩))))))
    · cases hh : x.hi with
      | none =>
        have eq : highQ x = none := by unfold highQ hiR; rw [if_neg hgx, hh]; rfl
        rw [eq]
        have e2 : hAdd hg none = none := by cases hg <;> rfl
        rw [e2]
        exact bk_cons (bs_ifT (Ew.et (ew_andT (Cp.et (Cp.is (cp_gt (ed_var (d := .int x.g) 4 rfl (.inl rfl) rfl) ed_int) (decide_eq_true (by omega)))) (ew_and1 (Cp.et (Cp.is (cp_isN (ed_var (d := .non) 7 rfl (.inl rfl) rfl)) rfl))))) (bk_cons (bs_set (d := .non) (s1 := s') 2 nd rfl (.inl rfl) ed_non (bk_nil (bk_nil ⟨rfl, _, _, _, _, _, _, rfl⟩)))))
      | some m =>
        have eq : highQ x = some (m : Rat) := by unfold highQ hiR; rw [if_neg hgx, hh]; rfl
        have zq : Sz 3000 (m : Rat) := (sz_nat (okx.hi m hh).2).mono (by decide)
        rw [eq]
        refine bk_cons (bs_ifF (Ew.et (ew_andT (Cp.et (Cp.is (cp_gt (ed_var (d := .int x.g) 4 rfl (.inl rfl) rfl) ed_int) (decide_eq_true (by omega)))) (ew_and1 (Cp.et (Cp.is (cp_isN (ed_var (d := fp ((m : Rat), 0)) 7 rfl (.inl rfl) (by rfl))) rfl))))) ?_)
        cases hg with
        | none => exact bk_cons (bs_ifF (Cp.et (Cp.is (cp_notN (ed_var (d := .non) 2 rfl (.inl rfl) rfl)) rfl)) (bk_nil (bk_nil (bk_nil ⟨rfl, _, _, _, _, _, _, rfl⟩))))
        | some h => exact bk_cons (bs_ifT (Cp.et (Cp.is (cp_notN (ed_var (d := fr h) 2 rfl (.inl rfl) rfl)) rfl)) (bk_cons (bs_set (d := fr (h + (m : Rat))) (s1 := s') 2 nd rfl (.inl rfl) (ed_cl (ea_cons (ed_var (d := fr h) 2 rfl (.inl rfl) rfl) (ea_cons (ed_ifT (Cp.et (Cp.is (cp_gt (ed_var (d := .int x.g) 4 rfl (.inl rfl) rfl) ed_int) (decide_eq_true (by omega)))) (ed_ix (d := fr (m : Rat)) (ed_var (d := fp ((m : Rat), 0)) 7 rfl (.inl rfl) (by rfl)) ed_int rfl)) ea_nil)) (hr.mono (by decide)) (rn_plus T.toTx ((zh h rfl).mono (by decide)) zq)) (bk_nil (bk_nil (bk_nil ⟨rfl, _, _, _, _, _, _, rfl⟩))))))
  · rintro ρ' s' ⟨rfl, g3, g4, g5, g6, g7, g8, rfl⟩
    rw [List.take_length]
    exact bk_cons (bs_ret (ed_tup (ea_cons (ed_var (d := fr (((gapsQ L n : Int) : Rat) + lsum (L.map lowQ))) 1 rfl (.inl rfl) rfl) (ea_cons (ed_var (d := hqD (highS (gapsQ L n) L)) 2 rfl (.inl rfl) rfl) ea_nil))) ⟨rfl, rfl⟩)
end Law
set_option Elab.async false
set_option linter.all false
set_option maxRecDepth 100000
set_option maxHeartbeats 1000000
/-! the law's body -/
namespace Law
open PySem PySem.Spec PyProof.Rows L2 Gh
variable {E : En} {s : Sx} {K : Addr} {g : Str → Addr}
theorem st_nc {n : Nat} {s : Sx} (h : St n s) : SxN s := by
  obtain ⟨ns, z, m, c, rfl, _⟩ := h
  intro xs e
  cases e
  rfl
theorem st_cal {n : Nat} {s : Sx} (h : St n s) : Cal s := by
  obtain ⟨ns, z, m, c, rfl, _⟩ := h
  intro xs e d m
  cases e
  rcases List.mem_cons.mp m with rfl | m
  · exact .inr ⟨_, rfl⟩
  · rcases List.mem_cons.mp m with rfl | m
    · exact .inl ⟨_, rfl⟩
    · rcases List.mem_cons.mp m with rfl | m
      · exact .inl ⟨_, rfl⟩
      · rw [List.mem_singleton.mp m]; exact .inl ⟨_, rfl⟩
theorem sm_hq (o : Option Rat) : Sm 1 (hqD o) := by
  cases o with
  | none => exact .non
  | some q => exact sm_fr q
/-- the ways in which a size is handed -/
theorem hz_of {q : Rat} (z : Sz 90 q) {y : D} (m : y ∈ [fr q, .lst [.int q.num, .int q.den], .tup [.int (q.num * 2), .int ((q.den : Int) * 2)]]) : Hz y q := by
  have hd := z.2
  have hn := z.1
  have d0 := q.den_pos
  have l1 : q.num.natAbs < 2 ^ 100 := Nat.lt_of_lt_of_le hn (by decide)
  have l2 : q.den < 2 ^ 100 := Nat.lt_of_lt_of_le hd (by decide)
  simp only [List.mem_cons, List.not_mem_nil, or_false] at m
  rcases m with rfl | rfl | rfl
  · exact ⟨⟨q.num, q.den, rfl, d0, l1, l2, (Rat.mkRat_self q).symm⟩, rfl⟩
  · exact ⟨⟨q.num, q.den, rfl, d0, l1, l2, (Rat.mkRat_self q).symm⟩, rfl⟩
  · refine ⟨⟨q.num * 2, q.den * 2, by rw [Int.natCast_mul]; rfl, by omega, ?_, ?_, ?_⟩, rfl⟩
    · rw [Int.natAbs_mul]
      calc q.num.natAbs * 2 < 2 ^ 90 * 2 := Nat.mul_lt_mul_of_pos_right hn (by decide)
        _ ≤ 2 ^ 100 := by decide
    · calc q.den * 2 < 2 ^ 90 * 2 := Nat.mul_lt_mul_of_pos_right hd (by decide)
        _ ≤ 2 ^ 100 := by decide
    · have := Rat.mkRat_mul_right (n := q.num) (d := q.den) (a := 2) (by decide)
      rw [Rat.mkRat_self] at this
      exact this.symm
theorem law_body (T : Tc E) (B : Ro E K g) {c P c2 P2 : Addr} (Z : DmT E t_Row_forms_about (g "forms_about") "forms_about" "Row.forms_about" ["self", "room"] c P) (Z2 : DmT E t_Row_all_pieces (g "all_pieces") "all_pieces" "Row.all_pieces" ["self"] c2 P2) {ns : List Int} (hns : ns.length ≤ 63) : LawBody E ["_law_script", "_law_stream", "_law_turn", "_law_items_here", "_law_gap", "_law_row", "_law_due", "_law_told", "_law_index", "_law_sizes_here", "_law_size_here", "_law_handed_here", "_law_lows", "_law_highs", "_law_item_here", "_law_ends"] t_law 14 ns := by
  intro fa cdv A outer sh0 H0 EX S0 p hr
  conv => arg 2; whnf
  have nd := sc_law.nd
  obtain ⟨ms, z, hms, hz, R0⟩ := rn_start T.toTx (ns := ns) (by omega)
  show Bk _ _ ([.val (.scr ns), .no, .no, .no, .no, .no, .no, .no, .no, .no, .no, .no, .no, .no, .no, .no] : List Gh.G) _ _
  refine bk_streamC 1 nd rfl (.inl rfl) (by show 1 < 16; decide) (ea_cons (ed_var (d := .scr ns) 0 rfl (.inl rfl) rfl) ea_nil) (hr.mono (by decide)) R0 rfl fun a1 b1 O H => ?_
  have h0 : St 0 (some (stD ms z 0 0)) := ⟨ms, z, 0, 0, rfl, hms, hz, Nat.le_refl _⟩
  show Bk _ _ ([.val (.scr ns), .val .mut, .no, .no, .no, .no, .no, .no, .no, .no, .no, .no, .no, .no, .no, .no] : List Gh.G) (some (stD ms z 0 0)) _
  generalize (some (stD ms z 0 0) : Sx) = s0 at h0 ⊢
  refine bk_cons (bs_for (items := rangeD 0 ((3 : Nat) : Int).toNat) (s1 := s0) PassesOwn.never rfl (ei_range1 (j := ((3 : Nat) : Int)) T.bf ed_int (by decide) (by decide)) (fun i ρ s' => i ≤ 3 ∧ St (1000 * i) s' ∧ ∃ g2 g3 g4 g5 g6 g7 g8 g9 g10 g11 g12 g13 g14 g15, ρ = [.val (.scr ns), .val .mut, g2, g3, g4, g5, g6, g7, g8, g9, g10, g11, g12, g13, g14, g15]) ⟨by decide, h0, _, _, _, _, _, _, _, _, _, _, _, _, _, _, rfl⟩ ?_ ?_)
  · rintro i d ρ' s0 hi ⟨_, h0, g2, g3, g4, g5, g6, g7, g8, g9, g10, g11, g12, g13, g14, g15, rfl⟩
    have hi3 : i < 3 := (List.getElem?_eq_some_iff.mp hi).1
    refine ⟨_, _, eg_name 2 nd rfl (.inl rfl), ?_⟩
    obtain ⟨m, s1, mm, h1, R1⟩ := rn_pickM T.toTx (fun k : Nat => D.int k) [3, 6, 8] h0 (by omega) (by simp) (by decide)
    have hm : 0 < m ∧ m ≤ 8 := by
      simp only [List.mem_cons, List.not_mem_nil, or_false] at mm
      omega
    obtain ⟨L, s2, ne0, ll0, okd, h2, R2⟩ := rn_items T h1 (by omega) hm.1 hm.2
    obtain ⟨n, s3, mn, h3, R3⟩ := rn_pickM T.toTx (fun k : Nat => D.int k) [0, 0, 1, 6] h2 (by omega) (by simp) (by decide)
    have hn : n ≤ 6 := by
      simp only [List.mem_cons, List.not_mem_nil, or_false] at mn
      omega
    have l1 : 1 ≤ L.length := by
      cases L with
      | nil => exact absurd rfl ne0
      | cons a b => simp
    have ok : ∀ x ∈ L, Lq x := fun x m => (okd x m).toLq
    have R : Rok L n := ⟨ok, by omega, l1, by omega⟩
    have hl8 : L.length ≤ 8 := by omega
    obtain ⟨y, s4, ys, hy, hyd, hys, h4, R4⟩ := rn_handed T h3 (by omega) (by omega) ok
    obtain ⟨ks, s5, hks, h5, R5⟩ := rn_mixed T.toTx (fun k : Nat => D.int k) (xs := List.range L.length) h4 (by rw [List.length_range]; omega) (by rw [List.length_range]; omega)
    rw [List.length_range] at h5
    show Bk _ _ ([.val (.scr ns), .val .mut, .val d, g3, g4, g5, g6, g7, g8, g9, g10, g11, g12, g13, g14, g15] : List Gh.G) s0 _
    refine bk_cons (bs_par 3 4 (d1 := .lst (L.map liD)) (d2 := .int n) (s1 := s3) rfl nd rfl rfl (by decide) rfl rfl (ea_cons (ed_cl (ea_cons (ed_var 1 rfl (.inl rfl) rfl) (ea_cons (ed_cl (ea_cons (ed_var 1 rfl (.inl rfl) rfl) (ea_cons (El.ed (el_lst (ea_cons ed_int (ea_cons ed_int (ea_cons ed_int ea_nil))))) ea_nil)) (hr.mono (by decide)) R1) ea_nil)) (hr.mono (by decide)) R2) (ea_cons (ed_cl (ea_cons (ed_var 1 rfl (.inl rfl) rfl) (ea_cons (El.ed (el_lst (ea_cons ed_int (ea_cons ed_int (ea_cons ed_int (ea_cons ed_int ea_nil)))))) ea_nil)) (hr.mono (by decide)) R3) ea_nil)) ?_)
    show Bk _ _ ([.val (.scr ns), .val .mut, .val d, .val (.lst (L.map liD)), .val (.int n), g5, g6, g7, g8, g9, g10, g11, g12, g13, g14, g15] : List Gh.G) s3 _
    have hP := pcsL_r R
    have AL := rn_all_piecesL (s := s4) T B Z Z2 R.l R.o R.q R.n (st_nc h4)
    have AD := rn_all_pieces (s := s4) T B Z Z2 R.l R.o R.q R.n (st_nc h4)
    rw [pcsP_eq R] at AL AD
    have LP := rn_law_pieces (s := s4) T R
    have RF := fun (i : Nat) (hi : i < L.length) (s : Sx) (n0 : Nat) (h : St n0 s) (y : D) (z : Rat) (hy : Hz y z) => rn_room_for (s := s) T B Z Z2 R hi hy (st_nc h)
    refine bk_cons (bs_par 5 6 (d1 := rowD K L n) (d2 := .lst ((pcsL L n).map pcD)) (s1 := s4) rfl nd rfl rfl (by decide) rfl rfl (ea_cons (ed_make (ea_cons (ed_cl (ea_cons (ed_var 1 rfl (.inl rfl) rfl) (ea_cons (ed_var (d := .lst (L.map liD)) 3 rfl (.inl rfl) rfl) ea_nil)) (hr.mono (by decide)) R4) (ea_cons (ed_var (d := .int n) 4 rfl (.inl rfl) rfl) ea_nil)) (hr.mono (by decide)) (rn_init T B ne0 (by omega) R.ok hy hyd hys)) (ea_cons (ed_cl (ea_cons (ed_var (d := .lst (L.map liD)) 3 rfl (.inl rfl) rfl) (ea_cons (ed_var (d := .int n) 4 rfl (.inl rfl) rfl) ea_nil)) (hr.mono (by decide)) LP) ea_nil)) ?_)
    generalize pcsL L n = PL at hP AL AD RF
    have lPL := hP.l
    show Bk _ _ ([.val (.scr ns), .val .mut, .val d, .val (.lst (L.map liD)), .val (.int n), .val (rowD K L n), .val (.lst (PL.map pcD)), g7, g8, g9, g10, g11, g12, g13, g14, g15] : List Gh.G) s4 _
    refine bk_cons (bs_setOwn (ds := PL.map pcD) 7 nd rfl (.inl rfl) (el_meth0 B.cls B.m_pieces (ed_var (d := rowD K L n) 5 rfl (.inl rfl) rfl) (by decide) (hr.mono (by decide)) AL) ?_)
    show Bk _ _ ([.val (.scr ns), .val .mut, .val d, .val (.lst (L.map liD)), .val (.int n), .val (rowD K L n), .val (.lst (PL.map pcD)), .own (PL.map pcD), g8, g9, g10, g11, g12, g13, g14, g15] : List Gh.G) s4 _
    have RT := rn_tuples T.toTx (tp_pcs hP (by omega)) s4
    refine bk_cons (bs_ifF (et_lendC 7 rfl (st_cal h4) (Ew.et (ew_orF (et_not (k := true) (et_val ((ed_isi T.bf (ed_var (d := .lst (PL.map pcD)) 7 rfl (.inl rfl) rfl) rfl (cn_list T.bf)).is rfl))) (ew_or1 (Cp.et (Cp.is (cp_ne (by exact hr) (ed_cl (ea_cons (ed_var (d := .lst (PL.map pcD)) 7 rfl (.inl rfl) rfl) ea_nil) (hr.mono (by decide)) RT) (Ed.is (y := .tup (PL.map pcD)) (ed_tupleOf T.bf (ed_var (d := .lst (PL.map pcD)) 6 rfl (.inl rfl) rfl) (.inl rfl)) rfl) (eqD_pcs _).eqC (eqD_pcs _).eqC) (by rw [(eqD_pcs PL).refl]; rfl))))))) (bk_nil ?_))
    refine bk_cons (bs_append 7 (d := .str "more") (s1 := s4) rfl (.inl rfl) rfl ed_str (sl1000 (by rw [List.length_map]; omega)) ?_)
    show Bk _ _ ([.val (.scr ns), .val .mut, .val d, .val (.lst (L.map liD)), .val (.int n), .val (rowD K L n), .val (.lst (PL.map pcD)), .own (PL.map pcD ++ [.str "more"]), g8, g9, g10, g11, g12, g13, g14, g15] : List Gh.G) s4 _
    refine bk_cons (bs_ifF (Cp.et (Cp.is (cp_ne hr (ed_cl (ea_cons (ed_meth0 B.cls B.m_pieces (ed_var (d := rowD K L n) 5 rfl (.inl rfl) rfl) (by decide) (hr.mono (by decide)) AD) ea_nil) (hr.mono (by decide)) RT) (Ed.is (y := .tup (PL.map pcD)) (ed_tupleOf T.bf (ed_var (d := .lst (PL.map pcD)) 6 rfl (.inl rfl) rfl) (.inl rfl)) rfl) (eqD_pcs _).eqC (eqD_pcs _).eqC) (by rw [(eqD_pcs PL).refl]; rfl))) (bk_nil ?_))
    have erg : rgD 0 (((L.map liD).length : Nat) : Int) = (List.range L.length).map (fun k : Nat => D.int k) := by
      unfold rgD
      have : ((((L.map liD).length : Nat) : Int) - 0).toNat = L.length := by rw [List.length_map]; omega
      rw [this]
      refine List.map_congr_left fun k _ => ?_
      show D.int (0 + (k : Int)) = D.int k
      rw [Int.zero_add]
    have cut2 : cutD (ks.map fun k : Nat => D.int k) none (some (2 : Int)) = (ks.take 2).map fun k : Nat => D.int k := by
      have := cutD_take (ks.map fun k : Nat => D.int k) 2
      rw [← List.map_take] at this
      exact this
    refine bk_cons (bs_forM (s1 := s5) (fun k : Nat => D.int k) (xs := ks.take 2) PassesOwn.never rfl (ei_seq (El.ed (El.is (el_slice (ed_cl (ea_cons (ed_var 1 rfl (.inl rfl) rfl) (ea_cons (Ed.is (El.ed (el_listRg1 T.bf rfl (ed_len T.bf (ed_var (d := .lst (L.map liD)) 3 rfl (.inl rfl) rfl) rfl) (by rw [List.length_map]; unfold RgOk; omega))) (congrArg D.lst erg)) ea_nil)) (hr.mono (by decide)) R5) .none (.some ed_int)) cut2)) (.inl rfl)) (fun j ρ s' => j ≤ 2 ∧ St (1000 * i + 300 + 20 * j) s' ∧ ∃ g8 g9 g10 g11, ρ = [.val (.scr ns), .val .mut, .val d, .val (.lst (L.map liD)), .val (.int n), .val (rowD K L n), .val (.lst (PL.map pcD)), .own (PL.map pcD ++ [.str "more"]), g8, g9, g10, g11, g12, g13, g14, g15]) ⟨by decide, h5.mono (by omega), _, _, _, _, rfl⟩ ?_ ?_)
    · rintro j k ρ' s6 hj ⟨_, h6, g8, g9, g10, g11, rfl⟩
      have hj2 : j < 2 := by
        have := (List.getElem?_eq_some_iff.mp hj).1
        rw [List.length_take] at this; omega
      have hk : k < L.length := List.mem_range.mp (hks.mem_iff.mp (List.mem_of_mem_take (List.mem_of_getElem? hj)))
      have hx : L[k]? = some L[k] := List.getElem?_eq_getElem hk
      have okx := (ok _ (List.mem_of_getElem? hx)).ok
      have hD : (D.lst (L.map liD)).at (k : Int) = some (liD L[k]) := atI_n (by rw [List.getElem?_map, hx]; rfl)
      generalize L[k] = x at okx hD
      obtain ⟨d1, s7, hd1, h7, RD1⟩ := rn_draw T.toTx h6 (by omega) (many := 60) (by decide) (by decide)
      obtain ⟨d2, s8, hd2, h8, RD2⟩ := rn_draw T.toTx h7 (by omega) (many := 4) (by decide) (by decide)
      have RL := rn_llow (s := s8) (t := (d1 : Int)) (b := 1 + (d2 : Int)) T.toTx (by omega) (Nat.lt_of_lt_of_le (show (1 + (d2 : Int)).natAbs < 2 ^ 8 by omega) (Nat.pow_le_pow_right (by decide) (by decide)))
      have zq0 : Sz 90 (mkRat (d1 : Int) (1 + (d2 : Int)).toNat) := (Sz.mk (n := 20) (by omega) (by omega) (by omega)).mono (by decide)
      generalize mkRat (d1 : Int) (1 + (d2 : Int)).toNat = q0 at RL zq0
      refine ⟨_, _, eg_name 8 nd rfl (.inl rfl), ?_⟩
      show Bk _ _ ([.val (.scr ns), .val .mut, .val d, .val (.lst (L.map liD)), .val (.int n), .val (rowD K L n), .val (.lst (PL.map pcD)), .own (PL.map pcD ++ [.str "more"]), .val (.int k), g9, g10, g11, g12, g13, g14, g15] : List Gh.G) s6 _
      refine bk_cons (bs_set (d := .lst ([q0, x.b, (x.lo : Rat), 0].map fr)) (s1 := s8) 9 nd rfl (.inl rfl) (El.ed (el_lst (ea_cons (ed_cl (ea_cons (ed_cl (ea_cons (ed_var 1 rfl (.inl rfl) rfl) (ea_cons ed_int ea_nil)) (hr.mono (by decide)) RD1) (ea_cons (ed_bin ed_int (ed_cl (ea_cons (ed_var 1 rfl (.inl rfl) rfl) (ea_cons ed_int ea_nil)) (hr.mono (by decide)) RD2) rfl trivial) ea_nil)) (hr.mono (by decide)) RL) (ea_cons (ed_ix (d := fr x.b) (ed_ix (d := liD x) (ed_var (d := .lst (L.map liD)) 3 rfl (.inl rfl) rfl) (ed_var (d := .int k) 8 rfl (.inl rfl) rfl) hD) ed_int rfl) (ea_cons (Ed.is (y := fr (x.lo : Rat)) (ed_tup (ea_cons (ed_ix (d := .int x.lo) (ed_ix (d := liD x) (ed_var (d := .lst (L.map liD)) 3 rfl (.inl rfl) rfl) (ed_var (d := .int k) 8 rfl (.inl rfl) rfl) hD) ed_int rfl) (ea_cons ed_int ea_nil))) (fr_nat x.lo).symm) (ea_cons (Ed.is (y := fr 0) (ed_tup (ea_cons ed_int (ea_cons ed_int ea_nil))) rfl) ea_nil)))))) ?_)
      show Bk _ _ ([.val (.scr ns), .val .mut, .val d, .val (.lst (L.map liD)), .val (.int n), .val (rowD K L n), .val (.lst (PL.map pcD)), .own (PL.map pcD ++ [.str "more"]), .val (.int k), .val (.lst ([q0, x.b, (x.lo : Rat), 0].map fr)), g10, g11, g12, g13, g14, g15] : List Gh.G) s8 _
      have zqs : ∀ q ∈ [q0, x.b, (x.lo : Rat), 0] ++ [((10000 : Nat) : Rat)], Sz 90 q := fun q m => by
        simp only [List.cons_append, List.nil_append, List.mem_cons, List.not_mem_nil, or_false] at m
        rcases m with rfl | rfl | rfl | rfl | rfl
        · exact zq0
        · exact okx.b.mono (by decide)
        · exact (sz_nat okx.lo).mono (by decide)
        · exact sz_zero
        · exact sz_nat (by decide)
      refine bk_cons (bs_forM (s1 := s8) fr (xs := [q0, x.b, (x.lo : Rat), 0] ++ [((10000 : Nat) : Rat)]) PassesOwn.never rfl (Ei.is (ei_seq (El.ed (el_cat (ys := [fr ((10000 : Nat) : Rat)]) (sl1000 (by show 4 + 1 ≤ 1000; decide)) (ed_var (d := .lst ([q0, x.b, (x.lo : Rat), 0].map fr)) 9 rfl (.inl rfl) rfl) (El.ed (el_lst (ea_cons (Ed.is (y := fr ((10000 : Nat) : Rat)) (ed_tup (ea_cons (ed_bin (z := .int 10000) ed_int ed_int rfl ⟨by decide, by decide, by decide⟩) (ea_cons ed_int ea_nil))) (fr_nat 10000).symm) ea_nil))))) (.inl rfl)) rfl) (fun l ρ s' => l ≤ 5 ∧ St (1000 * i + 300 + 20 * j + 2 + l) s' ∧ ∃ g10 g11, ρ = [.val (.scr ns), .val .mut, .val d, .val (.lst (L.map liD)), .val (.int n), .val (rowD K L n), .val (.lst (PL.map pcD)), .own (PL.map pcD ++ [.str "more"]), .val (.int k), .val (.lst ([q0, x.b, (x.lo : Rat), 0].map fr)), g10, g11, g12, g13, g14, g15]) ⟨by decide, h8, _, _, rfl⟩ ?_ ?_)
      · rintro l q ρ' s9 hl ⟨_, h9, g10, g11, rfl⟩
        have hl5 : l < 5 := (List.getElem?_eq_some_iff.mp hl).1
        have zq := zqs q (List.mem_of_getElem? hl)
        generalize [q0, x.b, (x.lo : Rat), 0].map fr = QS
        obtain ⟨y9, s10, my, h10, RY⟩ := rn_pick T.toTx h9 (by omega) (xs := [fr q, .lst [.int q.num, .int q.den], .tup [.int (q.num * 2), .int ((q.den : Int) * 2)]]) (by simp) (by show 3 < 2 ^ 60; decide)
        have hy9 := hz_of zq my
        refine ⟨_, _, eg_name 10 nd rfl (.inl rfl), ?_⟩
        show Bk _ _ ([.val (.scr ns), .val .mut, .val d, .val (.lst (L.map liD)), .val (.int n), .val (rowD K L n), .val (.lst (PL.map pcD)), .own (PL.map pcD ++ [.str "more"]), .val (.int k), .val (.lst QS), .val (fr q), g11, g12, g13, g14, g15] : List Gh.G) s9 _
        have m2 : ∀ z : Int, z.natAbs < 2 ^ 90 → CMulW z 2 := fun z h => wide_mul (a := 90) (b := 2) h (by decide) (by decide) (by decide) (by decide)
        refine bk_cons (bs_set (d := y9) (s1 := s10) 11 nd rfl (.inl rfl) (ed_cl (ea_cons (ed_var 1 rfl (.inl rfl) rfl) (ea_cons (El.ed (el_lst (ea_cons (ed_var (d := fr q) 10 rfl (.inl rfl) rfl) (ea_cons (El.ed (el_listOf T.bf (ed_var (d := fr q) 10 rfl (.inl rfl) rfl) (.inr rfl))) (ea_cons (ed_tup (ea_cons (ed_bin (ed_ix (d := .int q.num) (ed_var (d := fr q) 10 rfl (.inl rfl) rfl) ed_int rfl) ed_int rfl (m2 _ zq.1)) (ea_cons (ed_bin (ed_ix (d := .int q.den) (ed_var (d := fr q) 10 rfl (.inl rfl) rfl) ed_int rfl) ed_int rfl (m2 _ (by rw [Int.natAbs_natCast]; exact zq.2))) ea_nil))) ea_nil))))) ea_nil)) (hr.mono (by decide)) RY) ?_)
        show Bk _ _ ([.val (.scr ns), .val .mut, .val d, .val (.lst (L.map liD)), .val (.int n), .val (rowD K L n), .val (.lst (PL.map pcD)), .own (PL.map pcD ++ [.str "more"]), .val (.int k), .val (.lst QS), .val (fr q), .val y9, g12, g13, g14, g15] : List Gh.G) s10 _
        exact bk_cons (bs_ifF (et_not (k := true) (et_val (ed_cl (ea_cons (ed_meth B.cls B.m_room (ed_var (d := rowD K L n) 5 rfl (.inl rfl) rfl) (by decide) (ea_cons (ed_var (d := .int k) 8 rfl (.inl rfl) rfl) (ea_cons (ed_var (d := y9) 11 rfl (.inl rfl) rfl) ea_nil)) hr (RF k hk s10 _ h10 y9 q hy9)) (ea_cons (ed_cl (ea_cons (ed_var (d := .lst (PL.map pcD)) 6 rfl (.inl rfl) rfl) (ea_cons (ed_var (d := .int k) 8 rfl (.inl rfl) rfl) (ea_cons (ed_var (d := fr q) 10 rfl (.inl rfl) rfl) ea_nil))) (hr.mono (by decide)) (rn_law_room_for T hP hk (zq.mono (by decide)))) ea_nil)) (hr.mono (by decide)) (rn_same T.toTx (sm_hq _) s10)))) (bk_nil (bk_nil ⟨hl5, h10.mono (by omega), _, _, rfl⟩)))
      · rintro ρ' s9 ⟨_, h9, g10, g11, rfl⟩
        exact bk_nil ⟨hj2, h9.mono (by show 1000 * i + 300 + 20 * j + 2 + 5 ≤ 1000 * i + 300 + 20 * (j + 1); omega), _, _, _, _, rfl⟩
    · rintro ρ' s6 ⟨_, h6, g8, g9, g10, g11, rfl⟩
      have hl2 : (ks.take 2).length ≤ 2 := by rw [List.length_take]; omega
      have h6 : St (1000 * i + 400) s6 := h6.mono (by omega)
      obtain ⟨zlow, Rlow⟩ := rn_lsumQ (s := s6) T (qs := L.map lowQ) (fun q m => by obtain ⟨x, mx, rfl⟩ := List.mem_map.mp m; exact low_qn (R.q x mx)) (by rw [List.length_map]; omega)
      obtain ⟨zhigh, Rhigh⟩ := rn_lsumQ (s := s6) T (qs := L.map highD) (fun q m => by obtain ⟨x, mx, rfl⟩ := List.mem_map.mp m; exact high_qn (R.q x mx)) (by rw [List.length_map]; omega)
      have zg : Sz 40 ((gapsQ L n : Int) : Rat) := qz (gaps_qn R.l R.o R.n) (by decide)
      refine bk_cons (bs_par 12 13 (d1 := .lst ((L.map lowQ).map fr)) (d2 := .lst (L.map fun x => hqD (highQ x))) (s1 := s6) rfl nd rfl rfl (by decide) rfl rfl (ea_cons (Ed.is (El.ed (el_mapM (s1 := s6) [("_law_item_here", 14)] liD (fun x : LI => fr (lowQ x)) (xs := L) rfl nd (ei_seq (ed_var (d := .lst (L.map liD)) 3 rfl (.inl rfl) rfl) (.inl rfl)) (blkOk_by rfl) (sl1000 (by omega)) (fun x mx => ⟨_, _, fun b => eg_name 14 nd rfl (.inl rfl), by decide, fun b => ed_cl (ea_cons (ed_var (d := liD x) 14 rfl (.inl rfl) rfl) ea_nil) (hr.mono (by decide)) (rn_lleast T (R.ok x mx))⟩))) (by rw [List.map_map]; rfl)) (ea_cons (El.ed (el_mapM (s1 := s6) [("_law_item_here", 14)] liD (fun x : LI => hqD (highQ x)) (xs := L) rfl nd (ei_seq (ed_var (d := .lst (L.map liD)) 3 rfl (.inl rfl) rfl) (.inl rfl)) (blkOk_by rfl) (sl1000 (by omega)) (fun x mx => ⟨_, _, fun b => eg_name 14 nd rfl (.inl rfl), by decide, fun b => ed_cl (ea_cons (ed_var (d := liD x) 14 rfl (.inl rfl) rfl) ea_nil) (hr.mono (by decide)) (rn_lgreatest T (R.ok x mx))⟩))) ea_nil)) ?_)
      show Bk _ _ ([.val (.scr ns), .val .mut, .val d, .val (.lst (L.map liD)), .val (.int n), .val (rowD K L n), .val (.lst (PL.map pcD)), .own (PL.map pcD ++ [.str "more"]), g8, g9, g10, g11, .val (.lst ((L.map lowQ).map fr)), .val (.lst (L.map fun x => hqD (highQ x))), g14, g15] : List Gh.G) s6 _
      refine bk_cons (bs_set (d := .tup [fr (lsum (L.map lowQ) + ((gapsQ L n : Int) : Rat)), .non]) (s1 := s6) 15 nd rfl (.inl rfl) (ed_tup (ea_cons (ed_cl (ea_cons (ed_cl (ea_cons (ed_var (d := .lst ((L.map lowQ).map fr)) 12 rfl (.inl rfl) rfl) ea_nil) (hr.mono (by decide)) Rlow) (ea_cons (ed_cl (ea_cons (ed_var (d := .lst (L.map liD)) 3 rfl (.inl rfl) rfl) (ea_cons (ed_var (d := .int n) 4 rfl (.inl rfl) rfl) ea_nil)) (hr.mono (by decide)) (rn_lgaps T (by omega) (by omega))) ea_nil)) (hr.mono (by decide)) (rn_lplus T.toTx (zlow.mono (by decide)) (zg.mono (by decide)))) (ea_cons ed_non ea_nil))) ?_)
      show Bk _ _ ([.val (.scr ns), .val .mut, .val d, .val (.lst (L.map liD)), .val (.int n), .val (rowD K L n), .val (.lst (PL.map pcD)), .own (PL.map pcD ++ [.str "more"]), g8, g9, g10, g11, .val (.lst ((L.map lowQ).map fr)), .val (.lst (L.map fun x => hqD (highQ x))), g14, .val (.tup [fr (lsum (L.map lowQ) + ((gapsQ L n : Int) : Rat)), .non])] : List Gh.G) s6 _
      refine bk_via (fun ρ' s' => s' = s6 ∧ ∃ g13, ρ' = [.val (.scr ns), .val .mut, .val d, .val (.lst (L.map liD)), .val (.int n), .val (rowD K L n), .val (.lst (PL.map pcD)), .own (PL.map pcD ++ [.str "more"]), g8, g9, g10, g11, .val (.lst ((L.map lowQ).map fr)), g13, g14, .val (.tup [fr (((gapsQ L n : Int) : Rat) + lsum (L.map lowQ)), hqD (highS (gapsQ L n) L)])]) ?_ ?_
      · by_cases hs : ∀ x ∈ L, (highQ x).isSome = true
        · have hf := high_frs hs
          have eH : highS (gapsQ L n) L = some (lsum (L.map highD) + ((gapsQ L n : Int) : Rat)) := by unfold highS; rw [if_pos hs, Rat.add_comm]
          rw [eH, Rat.add_comm ((gapsQ L n : Int) : Rat)]
          refine bs_ifT (Cp.et (Cp.is (cp_notInV hr ed_non (ed_var (d := .lst (L.map fun x => hqD (highQ x))) 13 rfl (.inl rfl) rfl).ev eqC_non (eqDs_hq L).lst.eqC) (by rw [none_in, decide_eq_true hs]))) ?_
          exact bk_cons (bs_set (d := .tup [fr (lsum (L.map lowQ) + ((gapsQ L n : Int) : Rat)), fr (lsum (L.map highD) + ((gapsQ L n : Int) : Rat))]) (s1 := s6) 15 nd rfl (.inl rfl) (ed_tup (ea_cons (ed_ix (d := fr (lsum (L.map lowQ) + ((gapsQ L n : Int) : Rat))) (ed_var (d := .tup [fr (lsum (L.map lowQ) + ((gapsQ L n : Int) : Rat)), .non]) 15 rfl (.inl rfl) rfl) ed_int rfl) (ea_cons (ed_cl (ea_cons (ed_cl (ea_cons (ed_var (d := .lst ((L.map highD).map fr)) 13 rfl (.inl rfl) (by rw [← hf]; rfl)) ea_nil) (hr.mono (by decide)) Rhigh) (ea_cons (ed_cl (ea_cons (ed_var (d := .lst (L.map liD)) 3 rfl (.inl rfl) rfl) (ea_cons (ed_var (d := .int n) 4 rfl (.inl rfl) rfl) ea_nil)) (hr.mono (by decide)) (rn_lgaps T (by omega) (by omega))) ea_nil)) (hr.mono (by decide)) (rn_lplus T.toTx (zhigh.mono (by decide)) (zg.mono (by decide)))) ea_nil))) (bk_nil ⟨rfl, _, rfl⟩))
        · have eH : highS (gapsQ L n) L = none := by unfold highS; rw [if_neg hs]
          rw [eH, Rat.add_comm ((gapsQ L n : Int) : Rat)]
          exact bs_ifF (Cp.et (Cp.is (cp_notInV hr ed_non (ed_var (d := .lst (L.map fun x => hqD (highQ x))) 13 rfl (.inl rfl) rfl).ev eqC_non (eqDs_hq L).lst.eqC) (by rw [none_in, decide_eq_false hs]))) (bk_nil ⟨rfl, _, rfl⟩)
      · rintro ρ' s' ⟨rfl, g13, rfl⟩
        have RB := rn_both_ends (s := s') T B R
        have sm : Sm 2 (.tup [fr (((gapsQ L n : Int) : Rat) + lsum (L.map lowQ)), hqD (highS (gapsQ L n) L)]) := .tup (by show 2 ≤ 1000; decide) fun x m => by
          rcases List.mem_cons.mp m with rfl | m
          · exact sm_fr _
          · rw [List.mem_singleton.mp m]; exact sm_hq _
        generalize D.tup [fr (((gapsQ L n : Int) : Rat) + lsum (L.map lowQ)), hqD (highS (gapsQ L n) L)] = ED at RB sm
        exact bk_cons (bs_ifF (et_not (k := true) (et_val (ed_cl (ea_cons (ed_meth0 B.cls B.m_ends (ed_var (d := rowD K L n) 5 rfl (.inl rfl) rfl) (by decide) (hr.mono (by decide)) RB) (ea_cons (ed_var (d := ED) 15 rfl (.inl rfl) rfl) ea_nil)) (hr.mono (by decide)) (rn_same T.toTx sm s')))) (bk_nil (bk_nil ⟨hi3, h6.mono (by omega), _, _, _, _, _, _, _, _, _, _, _, _, _, _, rfl⟩)))
  · rintro ρ' s' ⟨_, _, g2, g3, g4, g5, g6, g7, g8, g9, g10, g11, g12, g13, g14, g15, rfl⟩
    exact bk_cons (bs_ret ed_bl ⟨rfl, rfl, rfl⟩)
end Law
set_option Elab.async false
set_option linter.all false
set_option maxRecDepth 100000
set_option maxHeartbeats 0
namespace Law
open PySem PySem.Spec PyProof.Rows L2 Gh LawH
theorem bf_of {K : PySem.W.Frag} {h : Heap} {mg : Str → Option Value} {w : World} (X : K.In h) (G : h.Ns mainGlobals mg) (c : He.SaysX fa fn ts tf ex w h K) : Bf mg :=
  ⟨He.free_ok X G (c.t.d.fact 64 (f := .free "len") rfl), He.free_ok X G (c.t.d.fact 65 (f := .free "isinstance") rfl), He.free_ok X G (c.t.d.fact 66 (f := .free "abs") rfl), He.free_ok X G (c.t.d.fact 67 (f := .free "min") rfl), He.free_ok X G (c.t.d.fact 68 (f := .free "max") rfl), He.free_ok X G (c.t.d.fact 69 (f := .free "sum") rfl), He.free_ok X G (c.t.d.fact 70 (f := .free "all") rfl), He.free_ok X G (c.t.d.fact 71 (f := .free "any") rfl), He.free_ok X G (c.t.d.fact 72 (f := .free "range") rfl), He.free_ok X G (c.t.d.fact 73 (f := .free "zip") rfl), He.free_ok X G (c.t.d.fact 74 (f := .free "enumerate") rfl), He.free_ok X G (c.t.d.fact 75 (f := .free "sorted") rfl), He.free_ok X G (c.t.d.fact 76 (f := .free "int") rfl), He.free_ok X G (c.t.d.fact 77 (f := .free "bool") rfl), He.free_ok X G (c.t.d.fact 78 (f := .free "str") rfl), He.free_ok X G (c.t.d.fact 79 (f := .free "list") rfl), He.free_ok X G (c.t.d.fact 80 (f := .free "tuple") rfl), He.free_ok X G (c.t.d.fact 81 (f := .free "dict") rfl), He.free_ok X G (c.t.d.fact 82 (f := .free "set") rfl)⟩
theorem tx_of {E : En} {h : Heap} (X : E.K.In h) (G : h.Ns mainGlobals E.mg) (c : He.SaysX fa fn ts tf ex E.w h E.K) : Tx E where
  bf := bf_of X G c
  d__wall := df_of X G (c.t.d.def_ 0 (d := d0) rfl) (c.t.d.fact 0 (f := .glo "_wall") rfl) fun _ _ _ _ _ _ us hl => match us, hl with | [_], _ => rfl
  d_is_list := df_of X G (c.t.d.def_ 1 (d := d4) rfl) (c.t.d.fact 1 (f := .glo "is_list") rfl) fun _ _ _ _ _ _ us hl => match us, hl with | [_], _ => rfl
  d_is_whole := df_of X G (c.t.d.def_ 2 (d := d5) rfl) (c.t.d.fact 2 (f := .glo "is_whole") rfl) fun _ _ _ _ _ _ us hl => match us, hl with | [_], _ => rfl
  d_is_natural := df_of X G (c.t.d.def_ 3 (d := d6) rfl) (c.t.d.fact 3 (f := .glo "is_natural") rfl) fun _ _ _ _ _ _ us hl => match us, hl with | [_], _ => rfl
  d_lowest := df_of X G (c.t.d.def_ 4 (d := d7) rfl) (c.t.d.fact 4 (f := .glo "lowest") rfl) fun _ _ _ _ _ _ us hl => match us, hl with | [_, _], _ => rfl
  d_is_frac := df_of X G (c.t.d.def_ 5 (d := d8) rfl) (c.t.d.fact 5 (f := .glo "is_frac") rfl) fun _ _ _ _ _ _ us hl => match us, hl with | [_], _ => rfl
  d_frac_of := df_of X G (c.t.d.def_ 6 (d := d9) rfl) (c.t.d.fact 6 (f := .glo "frac_of") rfl) fun _ _ _ _ _ _ us hl => match us, hl with | [_], _ => rfl
  d_is_width := df_of X G (c.t.d.def_ 7 (d := d10) rfl) (c.t.d.fact 7 (f := .glo "is_width") rfl) fun _ _ _ _ _ _ us hl => match us, hl with | [_], _ => rfl
  d_plus := df_of X G (c.t.d.def_ 8 (d := d11) rfl) (c.t.d.fact 8 (f := .glo "plus") rfl) fun _ _ _ _ _ _ us hl => match us, hl with | [_, _], _ => rfl
  d_minus := df_of X G (c.t.d.def_ 9 (d := d12) rfl) (c.t.d.fact 9 (f := .glo "minus") rfl) fun _ _ _ _ _ _ us hl => match us, hl with | [_, _], _ => rfl
  d_times := df_of X G (c.t.d.def_ 10 (d := d13) rfl) (c.t.d.fact 10 (f := .glo "times") rfl) fun _ _ _ _ _ _ us hl => match us, hl with | [_, _], _ => rfl
  d_over := df_of X G (c.t.d.def_ 11 (d := d14) rfl) (c.t.d.fact 11 (f := .glo "over") rfl) fun _ _ _ _ _ _ us hl => match us, hl with | [_, _], _ => rfl
  d_is_less := df_of X G (c.t.d.def_ 12 (d := d15) rfl) (c.t.d.fact 12 (f := .glo "is_less") rfl) fun _ _ _ _ _ _ us hl => match us, hl with | [_, _], _ => rfl
  d_is_upto := df_of X G (c.t.d.def_ 13 (d := d16) rfl) (c.t.d.fact 13 (f := .glo "is_upto") rfl) fun _ _ _ _ _ _ us hl => match us, hl with | [_, _], _ => rfl
  d_flat_form := df_of X G (c.t.d.def_ 14 (d := d25) rfl) (c.t.d.fact 14 (f := .glo "flat_form") rfl) fun _ _ _ _ _ _ us hl => match us, hl with | [_], _ => rfl
  d_plus_form := df_of X G (c.t.d.def_ 15 (d := d26) rfl) (c.t.d.fact 15 (f := .glo "plus_form") rfl) fun _ _ _ _ _ _ us hl => match us, hl with | [_, _], _ => rfl
  d_minus_form := df_of X G (c.t.d.def_ 16 (d := d27) rfl) (c.t.d.fact 16 (f := .glo "minus_form") rfl) fun _ _ _ _ _ _ us hl => match us, hl with | [_, _], _ => rfl
  d_scaled_form := df_of X G (c.t.d.def_ 17 (d := d28) rfl) (c.t.d.fact 17 (f := .glo "scaled_form") rfl) fun _ _ _ _ _ _ us hl => match us, hl with | [_, _], _ => rfl
  d_plain_ask := df_of X G (c.t.d.def_ 18 (d := d29) rfl) (c.t.d.fact 18 (f := .glo "plain_ask") rfl) fun _ _ _ _ _ _ us hl => match us, hl with | [_, _], _ => rfl
  d_worth_at := df_of X G (c.t.d.def_ 19 (d := d30) rfl) (c.t.d.fact 19 (f := .glo "worth_at") rfl) fun _ _ _ _ _ _ us hl => match us, hl with | [_, _], _ => rfl
  d_sum_of_forms := df_of X G (c.t.d.def_ 20 (d := d33) rfl) (c.t.d.fact 20 (f := .glo "sum_of_forms") rfl) fun _ _ _ _ _ _ us hl => match us, hl with | [_], _ => rfl
  d_held_form := df_of X G (c.t.d.def_ 21 (d := d34) rfl) (c.t.d.fact 21 (f := .glo "held_form") rfl) fun _ _ _ _ _ _ us hl => match us, hl with | [_, _, _, _], _ => rfl
  d_raw_size := df_of X G (c.t.d.def_ 22 (d := d35) rfl) (c.t.d.fact 22 (f := .glo "raw_size") rfl) fun _ _ _ _ _ _ us hl => match us, hl with | [_, _, _], _ => rfl
  d_held_size := df_of X G (c.t.d.def_ 23 (d := d36) rfl) (c.t.d.fact 23 (f := .glo "held_size") rfl) fun _ _ _ _ _ _ us hl => match us, hl with | [_, _, _, _], _ => rfl
  d_turning_levels := df_of X G (c.t.d.def_ 24 (d := d37) rfl) (c.t.d.fact 24 (f := .glo "turning_levels") rfl) fun _ _ _ _ _ _ us hl => match us, hl with | [_, _, _], _ => rfl
  d_total_at := df_of X G (c.t.d.def_ 25 (d := d38) rfl) (c.t.d.fact 25 (f := .glo "total_at") rfl) fun _ _ _ _ _ _ us hl => match us, hl with | [_, _, _, _], _ => rfl
  d_free_step := df_of X G (c.t.d.def_ 26 (d := d39) rfl) (c.t.d.fact 26 (f := .glo "free_step") rfl) fun _ _ _ _ _ _ us hl => match us, hl with | [_, _, _, _], _ => rfl
  d_levelled := df_of X G (c.t.d.def_ 27 (d := d40) rfl) (c.t.d.fact 27 (f := .glo "levelled") rfl) fun _ _ _ _ _ _ us hl => match us, hl with | [_, _, _], _ => rfl
  d_row_sizes := df_of X G (c.t.d.def_ 28 (d := d41) rfl) (c.t.d.fact 28 (f := .glo "row_sizes") rfl) fun _ _ _ _ _ _ us hl => match us, hl with | [_, _, _], _ => rfl
  d_merged_pieces := df_of X G (c.t.d.def_ 29 (d := d42) rfl) (c.t.d.fact 29 (f := .glo "merged_pieces") rfl) fun _ _ _ _ _ _ us hl => match us, hl with | [_], _ => rfl
  d_pieces_between := df_of X G (c.t.d.def_ 30 (d := d43) rfl) (c.t.d.fact 30 (f := .glo "pieces_between") rfl) fun _ _ _ _ _ _ us hl => match us, hl with | [_, _], _ => rfl
  d_sorted_rooms := df_of X G (c.t.d.def_ 31 (d := d44) rfl) (c.t.d.fact 31 (f := .glo "sorted_rooms") rfl) fun _ _ _ _ _ _ us hl => match us, hl with | [_], _ => rfl
  d_is_item := df_of X G (c.t.d.def_ 32 (d := d45) rfl) (c.t.d.fact 32 (f := .glo "is_item") rfl) fun _ _ _ _ _ _ us hl => match us, hl with | [_], _ => rfl
  d_item_forms := df_of X G (c.t.d.def_ 33 (d := d46) rfl) (c.t.d.fact 33 (f := .glo "item_forms") rfl) fun _ _ _ _ _ _ us hl => match us, hl with | [_], _ => rfl
  d__law_start := df_of X G (c.t.d.def_ 34 (d := d49) rfl) (c.t.d.fact 34 (f := .glo "_law_start") rfl) fun _ _ _ _ _ _ us hl => match us, hl with | [_], _ => rfl
  d__law_draw := df_of X G (c.t.d.def_ 35 (d := d50) rfl) (c.t.d.fact 35 (f := .glo "_law_draw") rfl) fun _ _ _ _ _ _ us hl => match us, hl with | [_, _], _ => rfl
  d__law_pick := df_of X G (c.t.d.def_ 36 (d := d51) rfl) (c.t.d.fact 36 (f := .glo "_law_pick") rfl) fun _ _ _ _ _ _ us hl => match us, hl with | [_, _], _ => rfl
  d__law_mixed := df_of X G (c.t.d.def_ 37 (d := d52) rfl) (c.t.d.fact 37 (f := .glo "_law_mixed") rfl) fun _ _ _ _ _ _ us hl => match us, hl with | [_, _], _ => rfl
  d__law_same := df_of X G (c.t.d.def_ 38 (d := d53) rfl) (c.t.d.fact 38 (f := .glo "_law_same") rfl) fun _ _ _ _ _ _ us hl => match us, hl with | [_, _], _ => rfl
  d__law_low := df_of X G (c.t.d.def_ 39 (d := d54) rfl) (c.t.d.fact 39 (f := .glo "_law_low") rfl) fun _ _ _ _ _ _ us hl => match us, hl with | [_, _], _ => rfl
  d__law_plus := df_of X G (c.t.d.def_ 40 (d := d55) rfl) (c.t.d.fact 40 (f := .glo "_law_plus") rfl) fun _ _ _ _ _ _ us hl => match us, hl with | [_, _], _ => rfl
  d__law_minus := df_of X G (c.t.d.def_ 41 (d := d56) rfl) (c.t.d.fact 41 (f := .glo "_law_minus") rfl) fun _ _ _ _ _ _ us hl => match us, hl with | [_, _], _ => rfl
  d__law_times := df_of X G (c.t.d.def_ 42 (d := d57) rfl) (c.t.d.fact 42 (f := .glo "_law_times") rfl) fun _ _ _ _ _ _ us hl => match us, hl with | [_, _], _ => rfl
  d__law_over := df_of X G (c.t.d.def_ 43 (d := d58) rfl) (c.t.d.fact 43 (f := .glo "_law_over") rfl) fun _ _ _ _ _ _ us hl => match us, hl with | [_, _], _ => rfl
  d__law_is_less := df_of X G (c.t.d.def_ 44 (d := d59) rfl) (c.t.d.fact 44 (f := .glo "_law_is_less") rfl) fun _ _ _ _ _ _ us hl => match us, hl with | [_, _], _ => rfl
  d__law_sum := df_of X G (c.t.d.def_ 45 (d := d60) rfl) (c.t.d.fact 45 (f := .glo "_law_sum") rfl) fun _ _ _ _ _ _ us hl => match us, hl with | [_], _ => rfl
  d__law_in_order := df_of X G (c.t.d.def_ 46 (d := d61) rfl) (c.t.d.fact 46 (f := .glo "_law_in_order") rfl) fun _ _ _ _ _ _ us hl => match us, hl with | [_], _ => rfl
  d__law_item := df_of X G (c.t.d.def_ 47 (d := d62) rfl) (c.t.d.fact 47 (f := .glo "_law_item") rfl) fun _ _ _ _ _ _ us hl => match us, hl with | [_], _ => rfl
  d__law_items := df_of X G (c.t.d.def_ 48 (d := d63) rfl) (c.t.d.fact 48 (f := .glo "_law_items") rfl) fun _ _ _ _ _ _ us hl => match us, hl with | [_, _], _ => rfl
  d__law_handed := df_of X G (c.t.d.def_ 49 (d := d64) rfl) (c.t.d.fact 49 (f := .glo "_law_handed") rfl) fun _ _ _ _ _ _ us hl => match us, hl with | [_, _], _ => rfl
  d__law_clamped := df_of X G (c.t.d.def_ 50 (d := d65) rfl) (c.t.d.fact 50 (f := .glo "_law_clamped") rfl) fun _ _ _ _ _ _ us hl => match us, hl with | [_, _], _ => rfl
  d__law_size := df_of X G (c.t.d.def_ 51 (d := d66) rfl) (c.t.d.fact 51 (f := .glo "_law_size") rfl) fun _ _ _ _ _ _ us hl => match us, hl with | [_, _], _ => rfl
  d__law_least := df_of X G (c.t.d.def_ 52 (d := d67) rfl) (c.t.d.fact 52 (f := .glo "_law_least") rfl) fun _ _ _ _ _ _ us hl => match us, hl with | [_], _ => rfl
  d__law_greatest := df_of X G (c.t.d.def_ 53 (d := d68) rfl) (c.t.d.fact 53 (f := .glo "_law_greatest") rfl) fun _ _ _ _ _ _ us hl => match us, hl with | [_], _ => rfl
  d__law_turns := df_of X G (c.t.d.def_ 54 (d := d69) rfl) (c.t.d.fact 54 (f := .glo "_law_turns") rfl) fun _ _ _ _ _ _ us hl => match us, hl with | [_], _ => rfl
  d__law_total := df_of X G (c.t.d.def_ 55 (d := d70) rfl) (c.t.d.fact 55 (f := .glo "_law_total") rfl) fun _ _ _ _ _ _ us hl => match us, hl with | [_, _], _ => rfl
  d__law_gaps := df_of X G (c.t.d.def_ 56 (d := d71) rfl) (c.t.d.fact 56 (f := .glo "_law_gaps") rfl) fun _ _ _ _ _ _ us hl => match us, hl with | [_, _], _ => rfl
  d__law_level := df_of X G (c.t.d.def_ 57 (d := d72) rfl) (c.t.d.fact 57 (f := .glo "_law_level") rfl) fun _ _ _ _ _ _ us hl => match us, hl with | [_, _], _ => rfl
  d__law_sizes := df_of X G (c.t.d.def_ 58 (d := d73) rfl) (c.t.d.fact 58 (f := .glo "_law_sizes") rfl) fun _ _ _ _ _ _ us hl => match us, hl with | [_, _, _], _ => rfl
  d__law_tuples := df_of X G (c.t.d.def_ 59 (d := d74) rfl) (c.t.d.fact 59 (f := .glo "_law_tuples") rfl) fun _ _ _ _ _ _ us hl => match us, hl with | [_], _ => rfl
  d__law_pieces := df_of X G (c.t.d.def_ 60 (d := d75) rfl) (c.t.d.fact 60 (f := .glo "_law_pieces") rfl) fun _ _ _ _ _ _ us hl => match us, hl with | [_, _], _ => rfl
  d__law_at := df_of X G (c.t.d.def_ 61 (d := d76) rfl) (c.t.d.fact 61 (f := .glo "_law_at") rfl) fun _ _ _ _ _ _ us hl => match us, hl with | [_, _], _ => rfl
  d__law_room_for := df_of X G (c.t.d.def_ 62 (d := d77) rfl) (c.t.d.fact 62 (f := .glo "_law_room_for") rfl) fun _ _ _ _ _ _ us hl => match us, hl with | [_, _, _], _ => rfl
  d_law := df_of X G (c.t.d.def_ 63 (d := d78) rfl) (c.t.d.fact 63 (f := .glo "law") rfl) fun _ _ _ _ _ _ us hl => match us, hl with | [_], _ => rfl
abbrev rr0 : He.Defn := ("Row", some "forms_about")
abbrev rq0 : Str := ("Row.forms_about" : Str) ++ ".<locals>." ++ "<lambda>"
abbrev rr1 : He.Defn := ("Row", some "all_pieces")
abbrev rq1 : Str := ("Row.all_pieces" : Str) ++ ".<locals>." ++ "<lambda>"
abbrev tT (K : PySem.W.Frag) : Ts := [((He.cT K rr0).2, rq0), ((He.cT K rr1).2, rq1)]
theorem dist01 {E : En} {h : Heap} (X : E.K.In h) (G : h.Ns mainGlobals E.mg) (c : He.SaysX fa fn ts tf ex E.w h E.K) : (He.cT E.K rr0).2 ≠ (He.cT E.K rr1).2 := by
  obtain ⟨z1, m⟩ := He.ba c.more
  obtain ⟨z2, m⟩ := He.ba m
  obtain ⟨z3, m⟩ := He.ba m
  obtain ⟨z4, z5⟩ := He.ba m
  exact of_decide_eq_true z1
theorem dist10 {E : En} {h : Heap} (X : E.K.In h) (G : h.Ns mainGlobals E.mg) (c : He.SaysX fa fn ts tf ex E.w h E.K) : (He.cT E.K rr1).2 ≠ (He.cT E.K rr0).2 := by
  obtain ⟨z1, m⟩ := He.ba c.more
  obtain ⟨z2, m⟩ := He.ba m
  obtain ⟨z3, m⟩ := He.ba m
  obtain ⟨z4, z5⟩ := He.ba m
  exact of_decide_eq_true z2
theorem tc_of {E : En} {h : Heap} (X : E.K.In h) (G : h.Ns mainGlobals E.mg) (c : He.SaysX fa fn ts tf ex E.w h E.K) : Tc E := by
  obtain ⟨z1, m⟩ := He.ba c.more
  obtain ⟨z2, m⟩ := He.ba m
  obtain ⟨z3, m⟩ := He.ba m
  obtain ⟨z4, z5⟩ := He.ba m
  have zero : ∀ p S H, Rp E.K p S H (.ref (He.ga E.K "ZERO")) (fr 0) := fun p S H => .tup (.inr (He.tupB_ok z3 _)) (.cons (.int 0) (.cons (.int 1) .nil))
  refine { tx_of X G c with c_ZERO := ?_, c_ONE := ?_, c_NOTHING := ?_ }
  · exact cst_tup X G (c.t.d.facts (f := .glo "ZERO") (by simp [fa, fa0, fa1, fa2])) z3 fun p S H => .cons (.int 0) (.cons (.int 1) .nil)
  · exact cst_tup X G (c.t.d.facts (f := .glo "ONE") (by simp [fa, fa0, fa1, fa2])) z4 fun p S H => .cons (.int 1) (.cons (.int 1) .nil)
  · exact cst_tup X G (c.t.d.facts (f := .glo "NOTHING") (by simp [fa, fa0, fa1, fa2])) z5 fun p S H => .cons (zero p S H) (.cons (zero p S H) .nil)
theorem dft0 {E : En} {h : Heap} (X : E.K.In h) (G : h.Ns mainGlobals E.mg) (c : He.SaysX fa fn ts tf ex E.w h E.K) (hB : LamX.TabB E.base E.mg (He.cT E.K rr0).1 (He.cT E.K rr0).2) (hT : E.T = tT E.K) :
    DmT E t_Row_forms_about (He.ma E.K (He.ga E.K "Row") "forms_about") "forms_about" "Row.forms_about" ["self", "room"] (He.cT E.K rr0).1 (He.cT E.K rr0).2 := by
  obtain ⟨fd, F⟩ := c.t.d.def_ 67 (d := d47_11) rfl
  have kp := F.kp
  have bb := F.bindsN (ps := ["self", "room"]) fun _ _ _ _ _ _ us hl => match us, hl with | [_, _], _ => rfl
  obtain ⟨oc, od, dV, kV, doc, pm, an, cdv, ct, osl, e, lk, hcd, hD, hK⟩ := F.ex
  obtain ⟨cc, rfl⟩ := He.codeIn_ref hcd
  have ec : (He.cT E.K rr0).1 = cc := He.codeOf_eq lk (by rw [e])
  refine ⟨⟨fd, oc, od, dV, kV, doc, pm, an, ct, osl, by rw [ec]; exact e, lk, by rw [ec]; exact hcd, kp, bb⟩, hB, by rw [hT]; exact (.head _), fun p hp hq => ?_⟩
  rw [hT] at hp
  simp only [tT, List.mem_cons, List.not_mem_nil, or_false] at hp
  rcases hp with rfl | rfl
  · rfl
  · exact absurd hq (dist10 X G c)
theorem dft1 {E : En} {h : Heap} (X : E.K.In h) (G : h.Ns mainGlobals E.mg) (c : He.SaysX fa fn ts tf ex E.w h E.K) (hB : LamX.TabB E.base E.mg (He.cT E.K rr1).1 (He.cT E.K rr1).2) (hT : E.T = tT E.K) :
    DmT E t_Row_all_pieces (He.ma E.K (He.ga E.K "Row") "all_pieces") "all_pieces" "Row.all_pieces" ["self"] (He.cT E.K rr1).1 (He.cT E.K rr1).2 := by
  obtain ⟨fd, F⟩ := c.t.d.def_ 68 (d := d47_12) rfl
  have kp := F.kp
  have bb := F.bindsN (ps := ["self"]) fun _ _ _ _ _ _ us hl => match us, hl with | [_], _ => rfl
  obtain ⟨oc, od, dV, kV, doc, pm, an, cdv, ct, osl, e, lk, hcd, hD, hK⟩ := F.ex
  obtain ⟨cc, rfl⟩ := He.codeIn_ref hcd
  have ec : (He.cT E.K rr1).1 = cc := He.codeOf_eq lk (by rw [e])
  refine ⟨⟨fd, oc, od, dV, kV, doc, pm, an, ct, osl, by rw [ec]; exact e, lk, by rw [ec]; exact hcd, kp, bb⟩, hB, by rw [hT]; exact (.tail _ (.head _)), fun p hp hq => ?_⟩
  rw [hT] at hp
  simp only [tT, List.mem_cons, List.not_mem_nil, or_false] at hp
  rcases hp with rfl | rfl
  · exact absurd hq (dist01 X G c)
  · rfl
theorem cls0_of {E : En} {h : Heap} (X : E.K.In h) (G : h.Ns mainGlobals E.mg) (c : He.SaysX fa fn ts tf ex E.w h E.K) : Ro E (He.ga E.K "Row") (fun m => He.ma E.K (He.ga E.K "Row") m) := by
  refine ⟨He.glo_ok X G (c.t.d.facts (f := .glo "Row") (by simp [fa, fa0, fa1, fa2])), He.cls_ok (c.t.d.facts (f := .cls "Row") (by simp [fa, fa0, fa1, fa2])), He.noat_ok (c.t.d.facts (f := .noat "Row" "own_items") (by simp [fa, fa0, fa1, fa2])), He.noat_ok (c.t.d.facts (f := .noat "Row" "gap_width") (by simp [fa, fa0, fa1, fa2])), He.mkr_ok (c.t.d.facts (f := .mkr "Row") (by simp [fa, fa0, fa1, fa2])), He.meth_ok (c.t.d.facts (f := .meth "Row" "all_gaps") (by simp [fa, fa0, fa1, fa2])), He.meth_ok (c.t.d.facts (f := .meth "Row" "all_corners") (by simp [fa, fa0, fa1, fa2])), He.meth_ok (c.t.d.facts (f := .meth "Row" "forms_about") (by simp [fa, fa0, fa1, fa2])), He.meth_ok (c.t.d.facts (f := .meth "Row" "all_pieces") (by simp [fa, fa0, fa1, fa2])), He.meth_ok (c.t.d.facts (f := .meth "Row" "room_for") (by simp [fa, fa0, fa1, fa2])), He.meth_ok (c.t.d.facts (f := .meth "Row" "both_ends") (by simp [fa, fa0, fa1, fa2])), ⟨?_⟩, ⟨?_⟩, ⟨?_⟩, ⟨?_⟩, ⟨?_⟩⟩
  · obtain ⟨fd, F⟩ := c.t.d.def_ 64 (d := d47_0) rfl
    exact ⟨fd, funq_of F, bindsQ F (fun z => by cases (show (1 : Nat) = 0 from congrArg List.length z)) fun _ _ _ _ _ _ _ us its h1 h2 => match us, its, h1, h2 with | [_, _, _], [_], _, _ => ⟨_, rfl, rfl⟩⟩
  · obtain ⟨fd, F⟩ := c.t.d.def_ 65 (d := d47_3) rfl
    exact ⟨fd, funq_of F, F.bindsN fun _ _ _ _ _ _ us hl => match us, hl with | [_], _ => rfl⟩
  · obtain ⟨fd, F⟩ := c.t.d.def_ 66 (d := d47_10) rfl
    exact ⟨fd, funq_of F, F.bindsN fun _ _ _ _ _ _ us hl => match us, hl with | [_], _ => rfl⟩
  · obtain ⟨fd, F⟩ := c.t.d.def_ 69 (d := d47_13) rfl
    exact ⟨fd, funq_of F, F.bindsN fun _ _ _ _ _ _ us hl => match us, hl with | [_, _, _], _ => rfl⟩
  · obtain ⟨fd, F⟩ := c.t.d.def_ 70 (d := d47_14) rfl
    exact ⟨fd, funq_of F, F.bindsN fun _ _ _ _ _ _ us hl => match us, hl with | [_], _ => rfl⟩
end Law
open PySem PySem.W PySem.Calls PyProof.Rows
theorem PySem.Challenge.cw_pagefall_k54_whole_all_rooms_holds : PySem.Challenge.rw_pagefall_k54_whole_all_rooms.Holds := by
  w_on; o_law
  refine HandSHeadRun.head_any (r := OpenLaw.row PySem.Challenge.rw_pagefall_k54_whole_all_rooms) (q := LawH.qv) (H := LawH.hk) (ob := LawH.ob) (M := 6000) (loose := LawH.loose) (d := HandSHeadRun.topDef (OpenLaw.row PySem.Challenge.rw_pagefall_k54_whole_all_rooms).prog 78) (kwd := []) LawH.ob_eq
    (by kernel_rfl) (fun s => by kernel_rfl) LawH.run (by kernel_rfl) (by kernel_rfl) (by kernel_rfl) (by rfl) (by first | assumption | decide +kernel) (by decide +kernel) ⟨rfl, rfl, rfl, rfl, rfl, by decide +kernel⟩ ?hw ?hc
  case hw => w_witness2
  case hc =>
    refine LamX.walk_ofTsE (l := PySem.Challenge.rw_pagefall_k54_whole_all_rooms) (n := 63) (k := 15) (x := "_law_script") (CX := fun _ => L2.CX0) rfl (by decide) (by kernel_rfl) ⟨rfl, by decide, by decide⟩ ?F (fun _ _ _ _ _ z => z)
    intro w mg fa h Y G hmg0
    obtain ⟨K, KX, c⟩ := Y
    have hmg : mg ("law" : PySem.Str) = some (.ref fa) := by
      have e : (HandSHeadRun.topDef (OpenLaw.row PySem.Challenge.rw_pagefall_k54_whole_all_rooms).prog 78).name = ("law" : PySem.Str) := by kernel_rfl
      rw [← e]
      exact hmg0
    obtain ⟨fd, F⟩ := c.t.d.def_ 63 (d := LawH.d78) rfl
    have e := hmg.symm.trans (He.glo_ok KX G (c.t.d.fact 63 (f := .glo "law") rfl))
    cases e
    have b := L2.FunD.bindsA (ps := ["_law_script"]) F fun _ _ _ _ _ _ us hl => match us, hl with | [_], _ => rfl
    refine ⟨K, KX, fd, [He.cT K Law.rr0, He.cT K Law.rr1], Gh.spLaw K (Law.tT K), fun p hp => ?_, fun p hp => ?_, fun p hp => ?_, fun s v => b s [v] rfl, fun H a ns hl _ hH hS => Gh.law_in hl hS (fun p hp => ?_), fun base KB GB TB => ?_⟩
    · simp only [List.mem_cons, List.not_mem_nil, or_false] at hp; rcases hp with rfl | rfl
      · exact c.empty _ (by simp [LawH.tf, Law.rr0])
      · exact c.empty _ (by simp [LawH.tf, Law.rr1])
    · simp only [List.mem_cons, List.not_mem_nil, or_false] at hp; rcases hp with rfl | rfl
      · exact c.out _ (by simp [LawH.tf, Law.rr0])
      · exact c.out _ (by simp [LawH.tf, Law.rr1])
    · simp only [List.mem_cons, List.not_mem_nil, or_false] at hp; rcases hp with rfl | rfl
      · exact PySem.W.codeHd_of_K KX (c.hd _ (by simp [LawH.tf, Law.rr0]))
      · exact PySem.W.codeHd_of_K KX (c.hd _ (by simp [LawH.tf, Law.rr1]))
    · simp only [List.mem_cons, List.not_mem_nil, or_false] at hp; rcases hp with rfl | rfl
      · exact LamX.TabS.nil (hH _ (.head _))
      · exact LamX.TabS.nil (hH _ (.tail _ (.head _)))
    · exact Gh.law_ok (E := ⟨PySem.Challenge.rw_pagefall_k54_whole_all_rooms.prog, w, K, mg, base, Law.tT K⟩) (st := Law.t_law) (Gh.fun_of F) Law.sc_law fun ns hl => Law.law_body (Law.tc_of (E := ⟨PySem.Challenge.rw_pagefall_k54_whole_all_rooms.prog, w, K, mg, base, Law.tT K⟩) KX G c) (Law.cls0_of (E := ⟨PySem.Challenge.rw_pagefall_k54_whole_all_rooms.prog, w, K, mg, base, Law.tT K⟩) KX G c) (Law.dft0 (E := ⟨PySem.Challenge.rw_pagefall_k54_whole_all_rooms.prog, w, K, mg, base, Law.tT K⟩) KX G c (TB _ (.head _)) rfl) (Law.dft1 (E := ⟨PySem.Challenge.rw_pagefall_k54_whole_all_rooms.prog, w, K, mg, base, Law.tT K⟩) KX G c (TB _ (.tail _ (.head _))) rfl) hl
