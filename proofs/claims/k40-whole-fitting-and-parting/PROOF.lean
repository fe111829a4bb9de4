import PyProof.Rows.All
import Wide.All
import OpenK.AllK
import Wide.FinOn
import Lean
import HandS.ForMost
import HandS.Wide
import HandS.WideMore
import HandS.IsInst
import HandS.Zip
import HandS.Flow
import HandS.Lambda
import HandS.Walk
import HandS.Zip0
import HandS.More
import HandS.CallLocal
import HandS.TupAny
import HandS.Style
import KE.GoesEnum
import HandS.Conv
import KE.KDictZip
import KE.KItemsList
import HandS.Keys
import HandS.TupLe
import HandS.Text
import HandS.SortInts
import HandS.NoneIn
import KE.KStateDown
import HandS.Words
import HandS.Head0
import HandS.Head1
import HandS.Head2
import HandS.HeadEnd
import HandS.HeadHook1
import HandS.HeadHook2
import HandS.HeadHook3
import HandS.HeadHook4
import PySem.Challenge.RW_pagefall_k40_whole_fitting_and_parting
set_option Elab.async false
set_option linter.all false
set_option maxRecDepth 100000
set_option maxHeartbeats 0
namespace Gh
open PySem PySem.Spec PyProof.Rows L2
/-- none of these keys is in the table -/
def absB (K : PySem.W.Frag) (a : Addr) (ks : List Str) : Bool := ks.all fun z => match PySem.W.nsIn K a z with
  | some none => true
  | _ => false
theorem absB_ok {K : PySem.W.Frag} {a : Addr} {ks : List Str} (h : absB K a ks = true) {z : Str} (m : z ∈ ks) : PySem.W.nsIn K a z = some none := by
  have h2 := List.all_eq_true.mp h z m
  cases e : PySem.W.nsIn K a z with
  | none => rw [e] at h2; cases h2
  | some r =>
    rw [e] at h2
    cases r with
    | none => rfl
    | some u => cases h2
end Gh
namespace Law
open PySem PySem.Spec PyProof.Rows L2 Gh
def top (i : Nat) : Stmt := PySem.Challenge.pw_pagefall_k40_whole_fitting_and_parting.main.body.getD i (.Pass ⟨0, 0, 0, 0⟩)
def sub (i j : Nat) : Stmt := match top i with | .ClassDef _ _ _ body _ _ _ _ _ _ _ => body.getD j (.Pass ⟨0, 0, 0, 0⟩) | s => s
end Law
namespace LawH
open PySem PySem.Spec PyProof.Rows L2 Gh Law
def d4 : He.DefD := ⟨("is_list", none), "is_list", "is_list", defArgs (top 4), defBody (top 4), defScope (top 4), [], []⟩
def d5 : He.DefD := ⟨("is_whole", none), "is_whole", "is_whole", defArgs (top 5), defBody (top 5), defScope (top 5), [], []⟩
def d6 : He.DefD := ⟨("is_natural", none), "is_natural", "is_natural", defArgs (top 6), defBody (top 6), defScope (top 6), [], []⟩
def d7 : He.DefD := ⟨("is_word", none), "is_word", "is_word", defArgs (top 7), defBody (top 7), defScope (top 7), [], []⟩
def d8 : He.DefD := ⟨("lowest", none), "lowest", "lowest", defArgs (top 8), defBody (top 8), defScope (top 8), [], []⟩
def d9 : He.DefD := ⟨("is_frac", none), "is_frac", "is_frac", defArgs (top 9), defBody (top 9), defScope (top 9), [], []⟩
def d10 : He.DefD := ⟨("frac_of", none), "frac_of", "frac_of", defArgs (top 10), defBody (top 10), defScope (top 10), [], []⟩
def d11 : He.DefD := ⟨("is_width", none), "is_width", "is_width", defArgs (top 11), defBody (top 11), defScope (top 11), [], []⟩
def d12 : He.DefD := ⟨("plus", none), "plus", "plus", defArgs (top 12), defBody (top 12), defScope (top 12), [], []⟩
def d13 : He.DefD := ⟨("minus", none), "minus", "minus", defArgs (top 13), defBody (top 13), defScope (top 13), [], []⟩
def d14 : He.DefD := ⟨("times", none), "times", "times", defArgs (top 14), defBody (top 14), defScope (top 14), [], []⟩
def d15 : He.DefD := ⟨("over", none), "over", "over", defArgs (top 15), defBody (top 15), defScope (top 15), [], []⟩
def d16 : He.DefD := ⟨("is_less", none), "is_less", "is_less", defArgs (top 16), defBody (top 16), defScope (top 16), [], []⟩
def d17 : He.DefD := ⟨("is_upto", none), "is_upto", "is_upto", defArgs (top 17), defBody (top 17), defScope (top 17), [], []⟩
def d18 : He.DefD := ⟨("least_of", none), "least_of", "least_of", defArgs (top 18), defBody (top 18), defScope (top 18), [], []⟩
def d25 : He.DefD := ⟨("flat_form", none), "flat_form", "flat_form", defArgs (top 25), defBody (top 25), defScope (top 25), [], []⟩
def d26 : He.DefD := ⟨("plus_form", none), "plus_form", "plus_form", defArgs (top 26), defBody (top 26), defScope (top 26), [], []⟩
def d27 : He.DefD := ⟨("minus_form", none), "minus_form", "minus_form", defArgs (top 27), defBody (top 27), defScope (top 27), [], []⟩
def d28 : He.DefD := ⟨("scaled_form", none), "scaled_form", "scaled_form", defArgs (top 28), defBody (top 28), defScope (top 28), [], []⟩
def d29 : He.DefD := ⟨("plain_ask", none), "plain_ask", "plain_ask", defArgs (top 29), defBody (top 29), defScope (top 29), [], []⟩
def d30 : He.DefD := ⟨("worth_at", none), "worth_at", "worth_at", defArgs (top 30), defBody (top 30), defScope (top 30), [], []⟩
def d34 : He.DefD := ⟨("is_tagged", none), "is_tagged", "is_tagged", defArgs (top 34), defBody (top 34), defScope (top 34), [], []⟩
def d35 : He.DefD := ⟨("is_length", none), "is_length", "is_length", defArgs (top 35), defBody (top 35), defScope (top 35), [], []⟩
def d36 : He.DefD := ⟨("is_letter_sign", none), "is_letter_sign", "is_letter_sign", defArgs (top 36), defBody (top 36), defScope (top 36), [], []⟩
def d37 : He.DefD := ⟨("is_spot", none), "is_spot", "is_spot", defArgs (top 37), defBody (top 37), defScope (top 37), [], []⟩
def d38 : He.DefD := ⟨("is_told_word", none), "is_told_word", "is_told_word", defArgs (top 38), defBody (top 38), defScope (top 38), [], []⟩
def d39 : He.DefD := ⟨("is_size", none), "is_size", "is_size", defArgs (top 39), defBody (top 39), defScope (top 39), [], []⟩
def d40 : He.DefD := ⟨("is_plain_value", none), "is_plain_value", "is_plain_value", defArgs (top 40), defBody (top 40), defScope (top 40), [], []⟩
def d46 : He.DefD := ⟨("checked_told", none), "checked_told", "checked_told", defArgs (top 46), defBody (top 46), defScope (top 46), [], []⟩
def d47 : He.DefD := ⟨("length_form", none), "length_form", "length_form", defArgs (top 47), defBody (top 47), defScope (top 47), [], []⟩
def d48 : He.DefD := ⟨("told_forms", none), "told_forms", "told_forms", defArgs (top 48), defBody (top 48), defScope (top 48), [], []⟩
def d49 : He.DefD := ⟨("held_form", none), "held_form", "held_form", defArgs (top 49), defBody (top 49), defScope (top 49), [], []⟩
def d50 : He.DefD := ⟨("margin_form", none), "margin_form", "margin_form", defArgs (top 50), defBody (top 50), defScope (top 50), [], []⟩
def d51 : He.DefD := ⟨("across_forms", none), "across_forms", "across_forms", defArgs (top 51), defBody (top 51), defScope (top 51), [], []⟩
def d52 : He.DefD := ⟨("forms_in", none), "forms_in", "forms_in", defArgs (top 52), defBody (top 52), defScope (top 52), [], []⟩
def d53 : He.DefD := ⟨("across_of", none), "across_of", "across_of", defArgs (top 53), defBody (top 53), defScope (top 53), [], []⟩
def d55 : He.DefD := ⟨("pieces_of", none), "pieces_of", "pieces_of", defArgs (top 55), defBody (top 55), defScope (top 55), [], []⟩
def d56 : He.DefD := ⟨("in_rooms", none), "in_rooms", "in_rooms", defArgs (top 56), defBody (top 56), defScope (top 56), [], []⟩
def d57 : He.DefD := ⟨("fits_from", none), "fits_from", "fits_from", defArgs (top 57), defBody (top 57), defScope (top 57), [], []⟩
def d58 : He.DefD := ⟨("parted_from", none), "parted_from", "parted_from", defArgs (top 58), defBody (top 58), defScope (top 58), [], []⟩
def d60 : He.DefD := ⟨("_law_source", none), "_law_source", "_law_source", defArgs (top 60), defBody (top 60), defScope (top 60), [], []⟩
def d61 : He.DefD := ⟨("_law_draw", none), "_law_draw", "_law_draw", defArgs (top 61), defBody (top 61), defScope (top 61), [], []⟩
def d62 : He.DefD := ⟨("_law_pick", none), "_law_pick", "_law_pick", defArgs (top 62), defBody (top 62), defScope (top 62), [], []⟩
def d63 : He.DefD := ⟨("_law_same", none), "_law_same", "_law_same", defArgs (top 63), defBody (top 63), defScope (top 63), [], []⟩
def d64 : He.DefD := ⟨("_law_lowest", none), "_law_lowest", "_law_lowest", defArgs (top 64), defBody (top 64), defScope (top 64), [], []⟩
def d65 : He.DefD := ⟨("_law_plus", none), "_law_plus", "_law_plus", defArgs (top 65), defBody (top 65), defScope (top 65), [], []⟩
def d66 : He.DefD := ⟨("_law_minus", none), "_law_minus", "_law_minus", defArgs (top 66), defBody (top 66), defScope (top 66), [], []⟩
def d67 : He.DefD := ⟨("_law_times", none), "_law_times", "_law_times", defArgs (top 67), defBody (top 67), defScope (top 67), [], []⟩
def d68 : He.DefD := ⟨("_law_over", none), "_law_over", "_law_over", defArgs (top 68), defBody (top 68), defScope (top 68), [], []⟩
def d69 : He.DefD := ⟨("_law_less", none), "_law_less", "_law_less", defArgs (top 69), defBody (top 69), defScope (top 69), [], []⟩
def d70 : He.DefD := ⟨("_law_sorted", none), "_law_sorted", "_law_sorted", defArgs (top 70), defBody (top 70), defScope (top 70), [], []⟩
def d71 : He.DefD := ⟨("_law_length", none), "_law_length", "_law_length", defArgs (top 71), defBody (top 71), defScope (top 71), [], []⟩
def d72 : He.DefD := ⟨("_law_told", none), "_law_told", "_law_told", defArgs (top 72), defBody (top 72), defScope (top 72), [], []⟩
def d73 : He.DefD := ⟨("_law_handed_told", none), "_law_handed_told", "_law_handed_told", defArgs (top 73), defBody (top 73), defScope (top 73), [], []⟩
def d74 : He.DefD := ⟨("_law_worth", none), "_law_worth", "_law_worth", defArgs (top 74), defBody (top 74), defScope (top 74), [], []⟩
def d75 : He.DefD := ⟨("_law_held", none), "_law_held", "_law_held", defArgs (top 75), defBody (top 75), defScope (top 75), [], []⟩
def d76 : He.DefD := ⟨("_law_across", none), "_law_across", "_law_across", defArgs (top 76), defBody (top 76), defScope (top 76), [], []⟩
def d77 : He.DefD := ⟨("_law_form", none), "_law_form", "_law_form", defArgs (top 77), defBody (top 77), defScope (top 77), [], []⟩
def d78 : He.DefD := ⟨("_law_corners", none), "_law_corners", "_law_corners", defArgs (top 78), defBody (top 78), defScope (top 78), [], []⟩
def d79 : He.DefD := ⟨("_law_pieces", none), "_law_pieces", "_law_pieces", defArgs (top 79), defBody (top 79), defScope (top 79), [], []⟩
def d80 : He.DefD := ⟨("_law_fits", none), "_law_fits", "_law_fits", defArgs (top 80), defBody (top 80), defScope (top 80), [], []⟩
def d81 : He.DefD := ⟨("_law_near", none), "_law_near", "_law_near", defArgs (top 81), defBody (top 81), defScope (top 81), [], []⟩
def d82 : He.DefD := ⟨("_law_parted", none), "_law_parted", "_law_parted", defArgs (top 82), defBody (top 82), defScope (top 82), [], []⟩
def d83 : He.DefD := ⟨("law", none), "law", "law", defArgs (top 83), defBody (top 83), defScope (top 83), [], []⟩
def d54_0 : He.DefD := ⟨("Behind", some "__init__"), "__init__", "Behind.__init__", defArgs (sub 54 0), defBody (sub 54 0), defScope (sub 54 0), [], []⟩
def d54_1 : He.DefD := ⟨("Behind", some "asked"), "asked", "Behind.asked", defArgs (sub 54 1), defBody (sub 54 1), defScope (sub 54 1), [], []⟩
def fn : List He.DefD := [d4, d5, d6, d7, d8, d9, d10, d11, d12, d13, d14, d15, d16, d17, d18, d25, d26, d27, d28, d29, d30, d34, d35, d36, d37, d38, d39, d40, d46, d47, d48, d49, d50, d51, d52, d53, d55, d56, d57, d58, d60, d61, d62, d63, d64, d65, d66, d67, d68, d69, d70, d71, d72, d73, d74, d75, d76, d77, d78, d79, d80, d81, d82, d83, d54_0, d54_1]
def fa0 : List He.Fa := [.glo "is_list", .glo "is_whole", .glo "is_natural", .glo "is_word", .glo "lowest", .glo "is_frac", .glo "frac_of", .glo "is_width", .glo "plus", .glo "minus", .glo "times", .glo "over", .glo "is_less", .glo "is_upto", .glo "least_of", .glo "flat_form", .glo "plus_form", .glo "minus_form", .glo "scaled_form", .glo "plain_ask", .glo "worth_at", .glo "is_tagged", .glo "is_length", .glo "is_letter_sign", .glo "is_spot", .glo "is_told_word", .glo "is_size", .glo "is_plain_value", .glo "checked_told", .glo "length_form"]
def fa1 : List He.Fa := [.glo "told_forms", .glo "held_form", .glo "margin_form", .glo "across_forms", .glo "forms_in", .glo "across_of", .glo "pieces_of", .glo "in_rooms", .glo "fits_from", .glo "parted_from", .glo "_law_source", .glo "_law_draw", .glo "_law_pick", .glo "_law_same", .glo "_law_lowest", .glo "_law_plus", .glo "_law_minus", .glo "_law_times", .glo "_law_over", .glo "_law_less", .glo "_law_sorted", .glo "_law_length", .glo "_law_told", .glo "_law_handed_told", .glo "_law_worth", .glo "_law_held", .glo "_law_across", .glo "_law_form", .glo "_law_corners", .glo "_law_pieces"]
def fa2 : List He.Fa := [.glo "_law_fits", .glo "_law_near", .glo "_law_parted", .glo "law", .free "len", .free "isinstance", .free "abs", .free "min", .free "max", .free "sum", .free "all", .free "any", .free "range", .free "zip", .free "enumerate", .free "sorted", .free "int", .free "bool", .free "str", .free "list", .free "tuple", .free "dict", .free "set", .free "super", .free "repr"]
def fa : List He.Fa := fa0 ++ fa1 ++ fa2 ++ [.glo "ZERO", .glo "ONE", .glo "HALF", .glo "FLAT_ZERO", .glo "ALL_ROOMS", .glo "ACROSS", .glo "MENUS", .glo "FIRSTS", .glo "Behind", .cls "Behind", .noat "Behind" "room", .noat "Behind" "corners", .mkr "Behind", .meth "Behind" "asked"]
def ln0 : List Str := ["LETTERS", "ZERO", "ONE", "is_list", "is_whole", "is_natural", "is_word", "lowest", "is_frac", "frac_of", "is_width", "plus", "minus", "times", "over", "is_less", "is_upto", "least_of", "PageError", "BadAcross", "BadRoom", "flat_form", "plus_form", "minus_form", "scaled_form", "plain_ask", "worth_at", "MENUS", "FIRSTS", "is_tagged"]
def ln1 : List Str := ["is_length", "is_letter_sign", "is_spot", "is_told_word", "is_size", "is_plain_value", "ACROSS", "FLAT_ZERO", "ALL_ROOMS", "HALF", "checked_told", "length_form", "told_forms", "held_form", "margin_form", "across_forms", "forms_in", "across_of", "Behind", "pieces_of", "in_rooms", "fits_from", "parted_from", "_law_source", "_law_draw", "_law_pick", "_law_same", "_law_lowest", "_law_plus", "_law_minus"]
def ln2 : List Str := ["_law_times", "_law_over", "_law_less", "_law_sorted", "_law_length", "_law_told", "_law_handed_told", "_law_worth", "_law_held", "_law_across", "_law_form", "_law_corners", "_law_pieces", "_law_fits", "_law_near", "_law_parted"]
def loose : List Str := ln0 ++ ln1 ++ ln2
abbrev R : PySem.W.OpenRow := PySem.W.OpenLaw.row PySem.Challenge.rw_pagefall_k40_whole_fitting_and_parting
abbrev qv : Program := PySem.W.view R.prog [83]
def ts : List He.Tab := [(fun K => He.ga K "MENUS", ["show", "side", "wrap", "align"]), (fun K => He.ga K "FIRSTS", ["show", "side", "width", "base", "height", "most", "shrink", "span", "wrap", "size", "align", "at", "fill", "ink"])]
def ex : PySem.W.Frag → Bool := fun K => He.tupB K "ZERO" [.int 0, .int 1] && (He.tupB K "ONE" [.int 1, .int 1] && (He.tupB K "HALF" [.int 1, .int 2] && (He.tupB K "FLAT_ZERO" [.glo "ZERO", .glo "ZERO"] && (He.tupB K "ALL_ROOMS" [.glo "ZERO", .glo "ONE"] && (He.tupB K "ACROSS" [.str "width", .str "least", .str "most", .str "mleft", .str "mright", .str "pleft", .str "pright"] &&
  (He.valsB K (He.ga K "FIRSTS") [("most", .str "none")] && (absB K (He.ga K "MENUS") ["width", "least", "most", "mleft", "mright", "pleft", "pright"] && (He.eqO (PySem.W.specialIn K (.ref (He.ma K (He.ga K "Behind") "asked")) "__get__") (some (some (.builtin "function.__get__"))) && (decide (PySem.W.takesIn K (.ref (He.ma K (He.ga K "Behind") "asked")) = some false) && PySem.W.fnIn K (He.ma K (He.ga K "Behind") "asked"))))))))))
abbrev hk : PySem.W.Hook := He.hookX 5 fa fn ts [] ex
def ob (s : PySem.W.SharedT) : He.AlX := He.obsX 5 fa fn ts [] ex (HandSHeadRun.getT s)
theorem ob_eq (s : PySem.W.SharedT) : ob s = hk.obs s.abs := He.obsX_eq (HandSHeadRun.getT_eq s)
theorem run_false (w : World) : HandSHeadRun.RunEq R qv hk ob 6000 loose (w.withFollow "special-get-raises" false) := by
  intro os
  kernel_rfl
theorem run_true (w : World) : HandSHeadRun.RunEq R qv hk ob 6000 loose (w.withFollow "special-get-raises" true) := by
  intro os
  kernel_rfl
theorem run (w : World) : HandSHeadRun.RunEq R qv hk ob 6000 loose w := PySem.W.byRow2 "special-get-raises" (P := fun w => HandSHeadRun.RunEq R qv hk ob 6000 loose w) run_false run_true w
end LawH
set_option Elab.async false
set_option linter.all false
set_option maxRecDepth 100000
/-! The ghost layer: what a def's names hold told as plain data; lists that a body owns; one stream of draws. -/
namespace Gh
open PySem PySem.Spec PyProof.Rows L2

/-- plain data -/
inductive D where
  | non | bl (b : Bool) | int (i : Int) | str (s : Str) | lst (xs : List D) | tup (xs : List D)
  | emp            -- an empty dict
  | scr (ns : List Int) -- the script: a list of ints that is only read
  | mut            -- the stream of draws
  | ty (n : String) -- a built-in class
  | ref (a : Addr) -- some object of which nothing is told
  | ins (C : Addr) (ks : List Str) (ds : List D) -- an instance of the class at C that is only read: its attributes
  | met (f : Addr) (d : D) -- a bound method: the def at f, of d
  | dK (ks : List Key) (ds : List D) -- a dict that is only read, keys ints and texts
  | dT (ks : List (List Key)) (ds : List D) -- .. keys tuples of these

/-- no code object's table -/
def NT (o : HO) : Prop := ∀ ps, o ≠ .tbl ps
theorem nt_lst {xs : List V} : NT (.lst xs) := fun ps z => by cases z
theorem nt_tup {xs : List V} : NT (.tup xs) := fun ps z => by cases z
theorem nt_frz {o : Obj} {u : HO} : NT (.frz o u) := fun ps z => by cases z
theorem nt_ins {C x : Addr} {fs : List (Str × V)} : NT (.ins C x fs) := fun ps z => by cases z
theorem nt_met {f x : Addr} : NT (.met f x) := fun ps z => by cases z
theorem nt_dK {kv : List (Key × V)} : NT (.dK kv) := fun ps z => by cases z
theorem nt_dT {kv : List (List Key × V)} : NT (.dT kv) := fun ps z => by cases z
theorem nt_own {x : Addr} : NT (.own x) := fun ps z => by cases z
theorem nt_xd {fs : List (Str × V)} : NT (.xd fs) := fun ps z => by cases z

def SL (K : PySem.W.Frag) (S : List Addr) (H : Hp) (a : Addr) (xs : List V) : Prop := (a ∉ S ∧ Rd H a (.lst xs)) ∨ SqL K (fun _ => none) a xs
def SU (K : PySem.W.Frag) (S : List Addr) (H : Hp) (a : Addr) (xs : List V) : Prop := (a ∉ S ∧ Rd H a (.tup xs)) ∨ SqT K (fun _ => none) a xs
theorem rd_none {a : Addr} {o : HO} : ¬ Rd (fun _ => none) a o := by
  rintro (h | ⟨_, h⟩) <;> cases h
theorem SL.sq {K : PySem.W.Frag} {S : List Addr} {H : Hp} {a : Addr} {xs : List V} (h : SL K S H a xs) : SqL K H a xs := by
  rcases h with ⟨_, h⟩ | h
  · exact .inl h
  · rcases h with h | h
    · exact (rd_none h).elim
    · exact .inr h
theorem SU.sq {K : PySem.W.Frag} {S : List Addr} {H : Hp} {a : Addr} {xs : List V} (h : SU K S H a xs) : SqT K H a xs := by
  rcases h with ⟨_, h⟩ | h
  · exact .inl h
  · rcases h with h | h
    · exact (rd_none h).elim
    · exact .inr h

mutual
inductive Rp (K : PySem.W.Frag) (p : Addr) (S : List Addr) (H : Hp) : V → D → Prop
  | non : Rp K p S H .non .non
  | bl (b : Bool) : Rp K p S H (.bl b) (.bl b)
  | int (i : Int) : Rp K p S H (.int i) (.int i)
  | str (x : Str) : Rp K p S H (.str x) (.str x)
  | lst {a : Addr} {xs : List V} {ds : List D} : a ∉ S → H a = some (.lst xs) → Rps K p S H xs ds → Rp K p S H (.ref a) (.lst ds)
  | scr {a : Addr} {ns : List Int} : SL K S H a (ns.map V.int) → Rp K p S H (.ref a) (.scr ns)
  | tup {a : Addr} {xs : List V} {ds : List D} : SU K S H a xs → Rps K p S H xs ds → Rp K p S H (.ref a) (.tup ds)
  | emp {a : Addr} : a ∉ S → H a = some (.dK []) → Rp K p S H (.ref a) .emp
  | mut : Rp K p S H (.ref p) .mut
  | ty (n : String) : Rp K p S H (.ty n) (.ty n)
  | ref (a : Addr) : Rp K p S H (.ref a) (.ref a)
  | ins {a dx C : Addr} {ks : List Str} {vs : List V} {ds : List D} : a ∉ S → H a = some (.ins C dx (ks.zip vs)) → Rps K p S H vs ds → ks.length = ds.length → Rp K p S H (.ref a) (.ins C ks ds)
  | met {a x f : Addr} {d : D} : a ∉ S → H a = some (.met f x) → Rp K p S H (.ref x) d → Rp K p S H (.ref a) (.met f d)
  | dK {a : Addr} {ks : List Key} {vs : List V} {ds : List D} : a ∉ S → H a = some (.dK (ks.zip vs)) → Rps K p S H vs ds → ks.length = ds.length → Rp K p S H (.ref a) (.dK ks ds)
  | dT {a : Addr} {ks : List (List Key)} {vs : List V} {ds : List D} : a ∉ S → H a = some (.dT (ks.zip vs)) → Rps K p S H vs ds → ks.length = ds.length → Rp K p S H (.ref a) (.dT ks ds)
inductive Rps (K : PySem.W.Frag) (p : Addr) (S : List Addr) (H : Hp) : List V → List D → Prop
  | nil : Rps K p S H [] []
  | cons {v : V} {vs : List V} {d : D} {ds : List D} : Rp K p S H v d → Rps K p S H vs ds → Rps K p S H (v :: vs) (d :: ds)
end

/-- all that stands is kept, but for S; what stands goes on to stand -/
def XT (S : List Addr) (H H' : Hp) : Prop := (∀ a o, a ∉ S → H a = some o → NT o → H' a = some o) ∧ ∀ a, H' a = none → H a = none
theorem XT.refl {S : List Addr} {H : Hp} : XT S H H := ⟨fun _ _ _ h _ => h, fun _ h => h⟩
theorem XT.trans {S : List Addr} {H H1 H2 : Hp} (a : XT S H H1) (b : XT S H1 H2) : XT S H H2 := ⟨fun x o n h t => b.1 x o n (a.1 x o n h t) t, fun x h => a.2 x (b.2 x h)⟩
theorem XT.mono {S S' : List Addr} {H H' : Hp} (x : XT S H H') (h : ∀ a ∈ S, a ∈ S') : XT S' H H' := ⟨fun a o n e => x.1 a o (fun m => n (h a m)) e, x.2⟩
theorem upd_none {H : Hp} {p a : Addr} {o : HO} (h : upd H p o a = none) : H a = none := by
  unfold upd at h
  split at h
  · cases h
  · exact h
theorem XT.new {S : List Addr} {H : Hp} {p : Addr} {o : HO} (h : H p = none) : XT S H (upd H p o) := ⟨fun a u _ e _ => by
  rw [upd_ne (ne_of_none e h)]; exact e, fun a h => upd_none h⟩
theorem rd_ext {S : List Addr} {H H' : Hp} {a : Addr} {u : HO} (x : XT S H H') (n : a ∉ S) (h : Rd H a u) (t : NT u) : Rd H' a u := by
  rcases h with h | ⟨o, h⟩
  · exact .inl (x.1 a _ n h t)
  · exact .inr ⟨o, x.1 a _ n h nt_frz⟩

section
variable {K : PySem.W.Frag} {p : Addr} {S S' : List Addr} {H H' : Hp}
mutual
theorem Rp.imp (hL : ∀ a xs, SL K S H a xs → SL K S' H' a xs) (hU : ∀ a xs, SU K S H a xs → SU K S' H' a xs) (hE : ∀ a o, a ∉ S → H a = some o → NT o → a ∉ S' ∧ H' a = some o) :
    ∀ (d : D) (v : V), Rp K p S H v d → Rp K p S' H' v d
  | .non, _, h => by cases h; exact .non
  | .bl _, _, h => by cases h; exact .bl _
  | .int _, _, h => by cases h; exact .int _
  | .str _, _, h => by cases h; exact .str _
  | .lst ds, _, h => by
    cases h with
    | lst h1 h2 h3 => exact .lst (hE _ _ h1 h2 nt_lst).1 (hE _ _ h1 h2 nt_lst).2 (Rps.imp hL hU hE ds _ h3)
  | .scr ns, _, h => by
    cases h with
    | scr h1 => exact .scr (hL _ _ h1)
  | .tup ds, _, h => by
    cases h with
    | tup h1 h2 => exact .tup (hU _ _ h1) (Rps.imp hL hU hE ds _ h2)
  | .emp, _, h => by
    cases h with
    | emp h1 h2 => exact .emp (hE _ _ h1 h2 nt_dK).1 (hE _ _ h1 h2 nt_dK).2
  | .mut, _, h => by cases h; exact .mut
  | .ty _, _, h => by cases h; exact .ty _
  | .ref _, _, h => by cases h; exact .ref _
  | .ins C ks ds, _, h => by
    cases h with
    | ins h1 h2 h3 h4 => exact .ins (hE _ _ h1 h2 nt_ins).1 (hE _ _ h1 h2 nt_ins).2 (Rps.imp hL hU hE ds _ h3) h4
  | .met f d, _, h => by
    cases h with
    | met h1 h2 h3 => exact .met (hE _ _ h1 h2 nt_met).1 (hE _ _ h1 h2 nt_met).2 (Rp.imp hL hU hE d _ h3)
  | .dK ks ds, _, h => by
    cases h with
    | dK h1 h2 h3 h4 => exact .dK (hE _ _ h1 h2 nt_dK).1 (hE _ _ h1 h2 nt_dK).2 (Rps.imp hL hU hE ds _ h3) h4
  | .dT ks ds, _, h => by
    cases h with
    | dT h1 h2 h3 h4 => exact .dT (hE _ _ h1 h2 nt_dT).1 (hE _ _ h1 h2 nt_dT).2 (Rps.imp hL hU hE ds _ h3) h4
theorem Rps.imp (hL : ∀ a xs, SL K S H a xs → SL K S' H' a xs) (hU : ∀ a xs, SU K S H a xs → SU K S' H' a xs) (hE : ∀ a o, a ∉ S → H a = some o → NT o → a ∉ S' ∧ H' a = some o) :
    ∀ (ds : List D) (vs : List V), Rps K p S H vs ds → Rps K p S' H' vs ds
  | [], _, h => by cases h; exact .nil
  | d :: ds, _, h => by
    cases h with
    | cons h1 h2 => exact .cons (Rp.imp hL hU hE d _ h1) (Rps.imp hL hU hE ds _ h2)
end
theorem Rp.ext {v : V} {d : D} (h : Rp K p S H v d) (x : XT S H H') : Rp K p S H' v d :=
  Rp.imp (fun a xs q => q.elim (fun ⟨n, r⟩ => .inl ⟨n, rd_ext x n r nt_lst⟩) .inr) (fun a xs q => q.elim (fun ⟨n, r⟩ => .inl ⟨n, rd_ext x n r nt_tup⟩) .inr) (fun a o n e t => ⟨n, x.1 a _ n e t⟩) d v h
theorem Rps.ext {vs : List V} {ds : List D} (h : Rps K p S H vs ds) (x : XT S H H') : Rps K p S H' vs ds :=
  Rps.imp (fun a xs q => q.elim (fun ⟨n, r⟩ => .inl ⟨n, rd_ext x n r nt_lst⟩) .inr) (fun a xs q => q.elim (fun ⟨n, r⟩ => .inl ⟨n, rd_ext x n r nt_tup⟩) .inr) (fun a o n e t => ⟨n, x.1 a _ n e t⟩) ds vs h
theorem Rp.weak {v : V} {d : D} (h : Rp K p S H v d) (s : ∀ a ∈ S', a ∈ S) : Rp K p S' H v d :=
  Rp.imp (fun a xs q => q.elim (fun ⟨n, r⟩ => .inl ⟨fun m => n (s a m), r⟩) .inr) (fun a xs q => q.elim (fun ⟨n, r⟩ => .inl ⟨fun m => n (s a m), r⟩) .inr) (fun a o n e _ => ⟨fun m => n (s a m), e⟩) d v h
theorem Rps.weak {vs : List V} {ds : List D} (h : Rps K p S H vs ds) (s : ∀ a ∈ S', a ∈ S) : Rps K p S' H vs ds :=
  Rps.imp (fun a xs q => q.elim (fun ⟨n, r⟩ => .inl ⟨fun m => n (s a m), r⟩) .inr) (fun a xs q => q.elim (fun ⟨n, r⟩ => .inl ⟨fun m => n (s a m), r⟩) .inr) (fun a o n e _ => ⟨fun m => n (s a m), e⟩) ds vs h
theorem rd_ne {a b : Addr} {u : HO} (h : Rd H a u) (e : H b = none) : a ≠ b := by
  rcases h with h | ⟨o, h⟩
  · exact ne_of_none h e
  · exact ne_of_none h e
/-- a new address is in no data -/
theorem Rp.fresh {v : V} {d : D} {b : Addr} (h : Rp K p S H v d) (e : H b = none) : Rp K p (b :: S) H v d :=
  Rp.imp (fun a xs q => q.elim (fun ⟨n, r⟩ => .inl ⟨fun m => (List.mem_cons.mp m).elim (rd_ne r e) n, r⟩) .inr) (fun a xs q => q.elim (fun ⟨n, r⟩ => .inl ⟨fun m => (List.mem_cons.mp m).elim (rd_ne r e) n, r⟩) .inr)
    (fun a o n q _ => ⟨fun m => (List.mem_cons.mp m).elim (ne_of_none q e) n, q⟩) d v h
theorem Rps.fresh {vs : List V} {ds : List D} {b : Addr} (h : Rps K p S H vs ds) (e : H b = none) : Rps K p (b :: S) H vs ds :=
  Rps.imp (fun a xs q => q.elim (fun ⟨n, r⟩ => .inl ⟨fun m => (List.mem_cons.mp m).elim (rd_ne r e) n, r⟩) .inr) (fun a xs q => q.elim (fun ⟨n, r⟩ => .inl ⟨fun m => (List.mem_cons.mp m).elim (rd_ne r e) n, r⟩) .inr)
    (fun a o n q _ => ⟨fun m => (List.mem_cons.mp m).elim (ne_of_none q e) n, q⟩) ds vs h
/-- other forbidden addresses: each is forbidden already, or new -/
theorem Rp.to {v : V} {d : D} (h : Rp K p S H v d) (e : ∀ b ∈ S', b ∈ S ∨ H b = none) : Rp K p S' H v d :=
  Rp.imp (fun a xs q => q.elim (fun ⟨n, r⟩ => .inl ⟨fun m => (e a m).elim n fun z => rd_ne r z rfl, r⟩) .inr) (fun a xs q => q.elim (fun ⟨n, r⟩ => .inl ⟨fun m => (e a m).elim n fun z => rd_ne r z rfl, r⟩) .inr)
    (fun a o n q _ => ⟨fun m => (e a m).elim n fun z => ne_of_none q z rfl, q⟩) d v h
theorem Rps.to {vs : List V} {ds : List D} (h : Rps K p S H vs ds) (e : ∀ b ∈ S', b ∈ S ∨ H b = none) : Rps K p S' H vs ds :=
  Rps.imp (fun a xs q => q.elim (fun ⟨n, r⟩ => .inl ⟨fun m => (e a m).elim n fun z => rd_ne r z rfl, r⟩) .inr) (fun a xs q => q.elim (fun ⟨n, r⟩ => .inl ⟨fun m => (e a m).elim n fun z => rd_ne r z rfl, r⟩) .inr)
    (fun a o n q _ => ⟨fun m => (e a m).elim n fun z => ne_of_none q z rfl, q⟩) ds vs h
theorem Rps.length : ∀ {vs : List V} {ds : List D}, Rps K p S H vs ds → vs.length = ds.length
  | _, [], h => by cases h; rfl
  | _, d :: ds, h => by
    cases h with
    | cons h1 h2 => simp [Rps.length h2]
theorem Rps.append : ∀ {vs ws : List V} {ds es : List D}, Rps K p S H vs ds → Rps K p S H ws es → Rps K p S H (vs ++ ws) (ds ++ es)
  | _, _, [], _, h, k => by cases h; exact k
  | _, _, d :: ds, _, h, k => by
    cases h with
    | cons h1 h2 => exact .cons h1 (Rps.append h2 k)
theorem Rps.one {v : V} {d : D} (h : Rp K p S H v d) : Rps K p S H [v] [d] := .cons h .nil
theorem Rps.get : ∀ {vs : List V} {ds : List D} {i : Nat} {d : D}, Rps K p S H vs ds → ds[i]? = some d → ∃ v, vs[i]? = some v ∧ Rp K p S H v d
  | _, [], _, _, h, e => by simp at e
  | _, c :: ds, 0, d, h, e => by
    cases h with
    | cons h1 h2 => simp at e; subst e; exact ⟨_, rfl, h1⟩
  | _, c :: ds, i + 1, d, h, e => by
    cases h with
    | cons h1 h2 => simpa using Rps.get (i := i) h2 (by simpa using e)
theorem Rps.getV : ∀ {vs : List V} {ds : List D} {i : Nat} {v : V}, Rps K p S H vs ds → vs[i]? = some v → ∃ d, ds[i]? = some d ∧ Rp K p S H v d
  | _, [], _, _, h, e => by cases h; simp at e
  | _, c :: ds, 0, v, h, e => by
    cases h with
    | cons h1 h2 => simp at e; subst e; exact ⟨_, rfl, h1⟩
  | _, c :: ds, i + 1, v, h, e => by
    cases h with
    | cons h1 h2 => simpa using Rps.getV (i := i) h2 (by simpa using e)
theorem Rps.take : ∀ {vs : List V} {ds : List D} (n : Nat), Rps K p S H vs ds → Rps K p S H (vs.take n) (ds.take n)
  | _, _, 0, _ => by simp; exact .nil
  | _, [], n + 1, h => by cases h; exact .nil
  | _, d :: ds, n + 1, h => by
    cases h with
    | cons h1 h2 => exact .cons h1 (Rps.take n h2)
theorem Rps.drop : ∀ {vs : List V} {ds : List D} (n : Nat), Rps K p S H vs ds → Rps K p S H (vs.drop n) (ds.drop n)
  | _, _, 0, h => by simpa using h
  | _, [], n + 1, h => by cases h; exact .nil
  | _, d :: ds, n + 1, h => by
    cases h with
    | cons h1 h2 => simpa using Rps.drop n h2
theorem Rps.reverse : ∀ {vs : List V} {ds : List D}, Rps K p S H vs ds → Rps K p S H vs.reverse ds.reverse
  | _, [], h => by cases h; exact .nil
  | _, d :: ds, h => by
    cases h with
    | cons h1 h2 => simpa using (Rps.reverse h2).append (.one h1)
theorem Rps.set : ∀ {vs : List V} {ds : List D} {v : V} {d : D} (i : Nat), Rps K p S H vs ds → Rp K p S H v d → Rps K p S H (vs.set i v) (ds.set i d)
  | _, [], _, _, _, h, _ => by cases h; exact .nil
  | _, c :: ds, _, _, 0, h, k => by
    cases h with
    | cons h1 h2 => exact .cons k h2
  | _, c :: ds, _, _, i + 1, h, k => by
    cases h with
    | cons h1 h2 => exact .cons h1 (Rps.set i h2 k)
theorem Rps.eraseIdx : ∀ {vs : List V} {ds : List D} (i : Nat), Rps K p S H vs ds → Rps K p S H (vs.eraseIdx i) (ds.eraseIdx i)
  | _, [], _, h => by cases h; exact .nil
  | _, c :: ds, 0, h => by
    cases h with
    | cons h1 h2 => exact h2
  | _, c :: ds, i + 1, h => by
    cases h with
    | cons h1 h2 => exact .cons h1 (Rps.eraseIdx i h2)
theorem Rps.dropLast {vs : List V} {ds : List D} (h : Rps K p S H vs ds) : Rps K p S H vs.dropLast ds.dropLast := by
  rw [List.dropLast_eq_take, List.dropLast_eq_take, h.length]; exact h.take _
theorem Rps.ints : ∀ {vs : List V} {ns : List Int}, Rps K p S H vs (ns.map D.int) → vs = ns.map V.int
  | _, [], h => by cases h; rfl
  | _, n :: ns, h => by
    cases h with
    | cons h1 h2 => cases h1; simp [Rps.ints h2]
theorem Rps.ofInts : ∀ (ns : List Int), Rps K p S H (ns.map V.int) (ns.map D.int)
  | [] => .nil
  | n :: ns => .cons (.int n) (Rps.ofInts ns)
theorem Rps.bls : ∀ {vs : List V} {bs : List Bool}, Rps K p S H vs (bs.map D.bl) → vs = bs.map V.bl
  | _, [], h => by cases h; rfl
  | _, n :: ns, h => by
    cases h with
    | cons h1 h2 => cases h1; simp [Rps.bls h2]
end

/-! ### slots and frames -/
/-- what a body made itself and may still change -/
inductive Ow where
  | lst
  | ins (x C dx : Addr) (ks : List Str) -- the instance at x
  | dK (ks : List Key)
  | dT (ks : List (List Key))
def Ow.ho : Ow → List V → HO
  | .lst, vs => .lst vs
  | .ins _ C dx ks, vs => .ins C dx (ks.zip vs)
  | .dK ks, vs => .dK (ks.zip vs)
  | .dT ks, vs => .dT (ks.zip vs)
def Ow.fit : Ow → Addr → List D → Prop
  | .lst, _, _ => True
  | .ins x _ _ ks, a, ds => x = a ∧ ks.length = ds.length
  | .dK ks, _, ds => ks.length = ds.length
  | .dT ks, _, ds => ks.length = ds.length
/-- frozen -/
def Ow.d : Ow → List D → D
  | .lst, ds => .lst ds
  | .ins _ C _ ks, ds => .ins C ks ds
  | .dK ks, ds => .dK ks ds
  | .dT ks, ds => .dT ks ds
theorem Ow.nt (w : Ow) (vs : List V) : NT (w.ho vs) := by
  cases w with
  | lst => exact nt_lst
  | ins x C dx ks => exact nt_ins
  | dK ks => exact nt_dK
  | dT ks => exact nt_dT
inductive G where
  | no
  | val (d : D)
  | ow (w : Ow) (ds : List D)
abbrev G.own (ds : List D) : G := .ow .lst ds
/-! the state: the stream, a list of data that changes -/
abbrev Sx := Option (List D)
/-- the tables of code objects: each with the name of the lambdas that it may tell -/
abbrev Ts := List (Addr × Str)
def StA (K : PySem.W.Frag) (T : Ts) (p : Addr) (S : List Addr) (H : Hp) : Sx → Prop
  | none => LamX.Tabs T H
  | some ds => LamX.Tabs T H ∧ p ∈ S ∧ ∃ vs, H p = some (.lst vs) ∧ Rps K p S H vs ds
theorem StA.tab {K : PySem.W.Frag} {T : Ts} {p : Addr} {S : List Addr} {H : Hp} {s : Sx} (h : StA K T p S H s) : LamX.Tabs T H := by
  cases s with
  | none => exact h
  | some ds => exact h.1
def XP (p : Addr) (s : Sx) (H H' : Hp) : Prop := (∀ a o, H a = some o → (s = none ∨ a ≠ p) → NT o → H' a = some o) ∧ ∀ a, H' a = none → H a = none
theorem XP.refl {p : Addr} {s : Sx} {H : Hp} : XP p s H H := ⟨fun _ _ h _ _ => h, fun _ h => h⟩
theorem XP.trans {p : Addr} {s : Sx} {H H1 H2 : Hp} (a : XP p s H H1) (b : XP p s H1 H2) : XP p s H H2 := ⟨fun x o h n t => b.1 x o (a.1 x o h n t) n t, fun x h => a.2 x (b.2 x h)⟩
theorem XP.kind {p : Addr} {s s' : Sx} {H H' : Hp} (x : XP p s H H') (k : s.isSome = s'.isSome) : XP p s' H H' := ⟨fun a o h n => x.1 a o h (n.elim (fun e => .inl (by
  subst e
  cases s with
  | none => rfl
  | some _ => cases k)) .inr), x.2⟩
theorem XP.xt {K : PySem.W.Frag} {T : Ts} {p : Addr} {s : Sx} {S : List Addr} {H H' : Hp} (x : XP p s H H') (h : StA K T p S H s) : XT S H H' := ⟨fun a o n e => x.1 a o e (by
  cases s with
  | none => exact .inl rfl
  | some xs => exact .inr fun z => n (z ▸ h.2.1)), x.2⟩
theorem XP.new {p b : Addr} {s : Sx} {H : Hp} {o : HO} (h : H b = none) : XP p s H (upd H b o) := ⟨fun a u e _ _ => by
  rw [upd_ne (ne_of_none e h)]; exact e, fun a h => upd_none h⟩
/-- the tables stay if all that is known stays -/
theorem tabs_new {T : Ts} {H : Hp} {b : Addr} {o : HO} (t : LamX.Tabs T H) (h : H b = none) : LamX.Tabs T (upd H b o) := t.ext fun c u e => by
  rw [upd_ne (ne_of_none e h)]; exact e

theorem tabs_upd {T : Ts} {H : Hp} {a : Addr} {u o : HO} (t : LamX.Tabs T H) (h : H a = some u) (nt : NT u) (nc : ∀ c q, u ≠ LamX.CodeO c q) : LamX.Tabs T (upd H a o) := by
  intro pq hp
  obtain ⟨ps, h1, h2, h3⟩ := t pq hp
  have ne : pq.1 ≠ a := fun z => by
    rw [z, h] at h1
    exact nt ps (Option.some.inj h1)
  refine ⟨ps, by rw [upd_ne ne]; exact h1, h2, fun pos cv hc => ?_⟩
  obtain ⟨c, e1, e2⟩ := h3 pos cv hc
  refine ⟨c, e1, ?_⟩
  rw [upd_ne fun z => ?_]
  · exact e2
  · rw [z, h] at e2
    exact nc _ _ (Option.some.inj e2)
theorem nc_lst {xs : List V} (c : Addr) (q : Str) : HO.lst xs ≠ LamX.CodeO c q := fun z => by
  unfold LamX.CodeO at z
  cases z
/-- a body: its context, the heap at its entry, the addresses that no data of it may hold, the stream's address, the tables -/
structure Fx where
  X : Cx
  H0 : Hp
  S0 : List Addr
  p : Addr
  act : Bool
  T : Ts
abbrev Fx.K (F : Fx) : PySem.W.Frag := F.X.K
/-- the state, seen by the body -/
abbrev Fx.Sa (F : Fx) (O : List Addr) (H : Hp) (s : Sx) : Prop := StA F.X.K F.T F.p (O ++ F.S0) H s
/-- an expression's step: all is kept but the stream -/
def XE (F : Fx) (H H' : Hp) : Prop := (∀ a o, ¬ (F.act = true ∧ a = F.p ∧ a ∈ F.S0) → H a = some o → NT o → H' a = some o) ∧ ∀ a, H' a = none → H a = none
theorem XE.refl {F : Fx} {H : Hp} : XE F H H := ⟨fun _ _ _ h _ => h, fun _ h => h⟩
theorem XE.trans {F : Fx} {H H1 H2 : Hp} (a : XE F H H1) (b : XE F H1 H2) : XE F H H2 := ⟨fun x o n h t => b.1 x o n (a.1 x o n h t) t, fun x h => a.2 x (b.2 x h)⟩
theorem XE.new {F : Fx} {H : Hp} {p : Addr} {o : HO} (h : H p = none) : XE F H (upd H p o) := ⟨fun a u _ e _ => by
  rw [upd_ne (ne_of_none e h)]; exact e, fun a h => upd_none h⟩
theorem XE.xt {F : Fx} {O : List Addr} {H H' : Hp} (x : XE F H H') : XT (O ++ F.S0) H H' := ⟨fun a o n h => x.1 a o (fun z => n (List.mem_append_right _ z.2.2)) h, x.2⟩
theorem XP.xe {F : Fx} {s : Sx} {H H' : Hp} (x : XP F.p s H H') (pm : s.isSome = true → F.p ∈ F.S0) (kd : s.isSome = F.act) : XE F H H' := ⟨fun a o n e => x.1 a o e (by
  cases s with
  | none => exact .inl rfl
  | some xs => exact .inr fun z => n ⟨kd.symm, z, z ▸ pm rfl⟩), x.2⟩
def Slot (K : PySem.W.Frag) (p : Addr) (S : List Addr) (H : Hp) (o : Option V) : G → Prop
  | .no => True
  | .val d => ∃ v, o = some v ∧ Rp K p S H v d
  | .ow w ds => ∃ a vs, o = some (.ref a) ∧ a ∈ S ∧ H a = some (w.ho vs) ∧ Rps K p S H vs ds ∧ w.fit a ds
structure Fm (F : Fx) (O : List Addr) (σ : L2.St) (H : Hp) (ρ : List G) (s : Sx) : Prop where
  ext : XP F.p s F.H0 H
  slot : ∀ (i : Nat) (g : G), ρ[i]? = some g → ∃ o, σ[i]? = some o ∧ Slot F.X.K F.p (O ++ F.S0) H o g
  own : ∀ (i : Nat) (w : Ow) (ds : List D) (a : Addr), ρ[i]? = some (.ow w ds) → σ[i]? = some (some (.ref a)) → a ∈ O
  dis : ∀ (i j : Nat) (w u : Ow) (ds es : List D) (a : Addr), i ≠ j → ρ[i]? = some (.ow w ds) → ρ[j]? = some (.ow u es) → σ[i]? = some (some (.ref a)) → σ[j]? ≠ some (some (.ref a))
  fre : ∀ a ∈ O, F.H0 a = none ∧ a ∉ F.S0
  trk : ∀ a ∈ O ++ F.S0, ∃ o, H a = some o
  st : F.Sa O H s
  pm : s.isSome = true → F.p ∈ F.S0
  kd : s.isSome = F.act
section
variable {F : Fx} {O : List Addr} {σ : L2.St} {H H' : Hp} {ρ : List G} {s s' : Sx}
/-- the heap grows, the stream turns -/
theorem Fm.grow (f : Fm F O σ H ρ s) (x : XP F.p s H H') (k : s.isSome = s'.isSome) (h : F.Sa O H' s') : Fm F O σ H' ρ s' := by
  have xt : XT (O ++ F.S0) H H' := x.xt f.st
  have np : ∀ a ∈ O, s = none ∨ a ≠ F.p := fun a ha => by
    have q := f.pm
    cases s with
    | none => exact .inl rfl
    | some xs => exact .inr fun z => (f.fre a ha).2 (z ▸ q rfl)
  refine ⟨(f.ext.trans x).kind k, fun i g hg => ?_, f.own, f.dis, f.fre, fun a ha => ?_, h, fun z => f.pm (k.trans z), k.symm.trans f.kd⟩
  · obtain ⟨o, ho, q⟩ := f.slot i g hg
    refine ⟨o, ho, ?_⟩
    cases g with
    | no => trivial
    | val d =>
      obtain ⟨v, e, r⟩ := q
      exact ⟨v, e, r.ext xt⟩
    | ow w ds =>
      obtain ⟨a, vs, e, m, ha, r, ft⟩ := q
      subst e
      exact ⟨a, vs, rfl, m, x.1 a _ ha (np a (f.own i w ds a hg ho)) (w.nt vs), r.ext xt, ft⟩
  · obtain ⟨o, e⟩ := f.trk a ha
    cases e' : H' a with
    | none => rw [x.2 a e'] at e; cases e
    | some o' => exact ⟨o', rfl⟩
theorem Fm.fresh (f : Fm F O σ H ρ s) {b : Addr} (h : H b = none) : b ∉ O ++ F.S0 := fun m => by
  obtain ⟨o, e⟩ := f.trk b m
  rw [h] at e; cases e
theorem Fm.new (f : Fm F O σ H ρ s) {b : Addr} {o : HO} (h : H b = none) : Fm F O σ (upd H b o) ρ s := by
  refine f.grow (XP.new h) rfl ?_
  have q := f.st
  cases s with
  | none => exact tabs_new q h
  | some ds =>
    obtain ⟨q1, q2, vs, q3, q4⟩ := q
    exact ⟨tabs_new q1 h, q2, vs, by rw [upd_ne (ne_of_none q3 h)]; exact q3, q4.ext (.new h)⟩
/-- a new list that is owned -/
theorem Fm.newO (f : Fm F O σ H ρ s) {b : Addr} {u : HO} (h : H b = none) : Fm F (b :: O) σ (upd H b u) ρ s := by
  have g := f.new (o := u) h
  have nb := f.fresh h
  refine ⟨g.ext, fun i q hq => ?_, fun i w ds a h1 h2 => List.mem_cons_of_mem _ (f.own i w ds a h1 h2), f.dis, fun a m => ?_, fun a m => ?_, ?_, g.pm, g.kd⟩
  · obtain ⟨o, ho, k⟩ := f.slot i q hq
    refine ⟨o, ho, ?_⟩
    cases q with
    | no => trivial
    | val d =>
      obtain ⟨v, e, r⟩ := k
      exact ⟨v, e, (r.fresh h).ext (.new h)⟩
    | ow w ds =>
      obtain ⟨a, ws, e, m, ha, r, ft⟩ := k
      exact ⟨a, ws, e, List.mem_cons_of_mem _ m, by rw [upd_ne (ne_of_none ha h)]; exact ha, (r.fresh h).ext (.new h), ft⟩
  · rcases List.mem_cons.mp m with rfl | m
    · exact ⟨f.ext.2 _ h, fun z => nb (List.mem_append_right _ z)⟩
    · exact f.fre a m
  · rcases List.mem_cons.mp m with rfl | m
    · exact ⟨_, upd_same⟩
    · exact g.trk a m
  · have q := f.st
    cases s with
    | none => exact tabs_new q h
    | some ds =>
      obtain ⟨q1, q2, vs, q3, q4⟩ := q
      exact ⟨tabs_new q1 h, List.mem_cons_of_mem _ q2, vs, by rw [upd_ne (ne_of_none q3 h)]; exact q3, (q4.fresh h).ext (.new h)⟩
theorem Fm.drop {a : Addr} (f : Fm F O σ H ρ s) (g : Fm F (a :: O) σ H' ρ s') : Fm F O σ H' ρ s' := by
  have e9 : F.Sa O H' s' := by
    have q := g.st
    have pm := g.pm
    cases s' with
    | none => exact q
    | some ds =>
      obtain ⟨q1, q2, vs, q3, q4⟩ := q
      exact ⟨q1, List.mem_append_right _ (pm rfl), vs, q3, q4.weak fun b m => List.mem_cons_of_mem _ m⟩
  refine ⟨g.ext, fun i q hq => ?_, f.own, f.dis, f.fre, fun b m => g.trk b (List.mem_cons_of_mem _ m), e9, g.pm, g.kd⟩
  obtain ⟨o, ho, k⟩ := g.slot i q hq
  refine ⟨o, ho, ?_⟩
  cases q with
  | no => trivial
  | val d =>
    obtain ⟨v, e, r⟩ := k
    exact ⟨v, e, r.weak fun b m => List.mem_cons_of_mem _ m⟩
  | ow w ds =>
    obtain ⟨b, ws, e, m, hb, r, ft⟩ := k
    subst e
    exact ⟨b, ws, rfl, List.mem_append_left _ (f.own i w ds b hq ho), hb, r.weak fun b m => List.mem_cons_of_mem _ m, ft⟩
end

/-! ### the weakest wishes -/
def WE (X : Cx) (e : Expr) : TE := fun σ H Q => ∀ pins s, Inv X pins σ H s → wpAny (model X.prog X.w) X.A (eval e X.env) (EP X pins σ Q) X.xe s
def WT (X : Cx) (e : Expr) : TT := fun σ H Q => ∀ pins s, Inv X pins σ H s → wpAny (model X.prog X.w) X.A (isTrue e X.env (eval e X.env)) (TP X pins σ Q) X.xe s
def WW (X : Cx) (e : Expr) : TT := fun σ H Q => ∀ whole pins s, Inv X pins σ H s → wpAny (model X.prog X.w) X.A (isTrue e X.env whole) (TP X pins σ Q) X.xe s
def WA (X : Cx) (es : List Expr) : TA := fun σ H Q => ∀ pos pins s, Inv X pins σ H s → wpAny (model X.prog X.w) X.A (spliced (backTo pos (starEach es X.env))) (AP X pins σ Q) X.xe s
def WS (X : Cx) (st : Stmt) : TS := fun D σ H => ∀ pins s, Inv X pins σ H s → wpAny (model X.prog X.w) X.A (exec st X.env) (SP X pins D) X.xe s
def WB (X : Cx) (st : List Stmt) : TS := fun D σ H => ∀ pins s, Inv X pins σ H s → wpAny (model X.prog X.w) X.A (execs st X.env) (SP X pins D) X.xe s
theorem pe_we {X : Cx} {e : Expr} : PE X e (WE X e) := ⟨fun pins s _ _ _ I h => h pins s I⟩
theorem pt_wt {X : Cx} {e : Expr} : PT X e (WT X e) := ⟨fun pins s _ _ _ I h => h pins s I⟩
theorem pw_ww {X : Cx} {e : Expr} : PW X e (WW X e) := ⟨fun whole pins s _ _ _ I h => h whole pins s I⟩
theorem pa_wa {X : Cx} {es : List Expr} : PA X es (WA X es) := ⟨fun pos pins s _ _ _ I h => h pos pins s I⟩
theorem ps_ws {X : Cx} {st : Stmt} : PS X st (WS X st) := ⟨fun pins s _ _ _ I h => h pins s I⟩
theorem pss_wb {X : Cx} {st : List Stmt} : PSs X st (WB X st) := ⟨fun pins s _ _ _ I h => h pins s I⟩
section
variable {X : Cx} {σ : L2.St} {H : Hp}
theorem we {e : Expr} {t : TE} {Q : VK} (p : PE X e t) (h : t σ H Q) : WE X e σ H Q := fun pins s I => p.run pins s σ H Q I h
theorem wt {e : Expr} {t : TT} {Q : Bool → Hp → Prop} (p : PT X e t) (h : t σ H Q) : WT X e σ H Q := fun pins s I => p.run pins s σ H Q I h
theorem ww {e : Expr} {t : TT} {Q : Bool → Hp → Prop} (p : PW X e t) (h : t σ H Q) : WW X e σ H Q := fun whole pins s I => p.run whole pins s σ H Q I h
theorem wa {es : List Expr} {t : TA} {Q : List V → Hp → Prop} (p : PA X es t) (h : t σ H Q) : WA X es σ H Q := fun pos pins s I => p.run pos pins s σ H Q I h
theorem ws {st : Stmt} {t : TS} {D : Ends} (p : PS X st t) (h : t D σ H) : WS X st D σ H := fun pins s I => p.run pins s σ H D I h
theorem wb {st : List Stmt} {t : TS} {D : Ends} (p : PSs X st t) (h : t D σ H) : WB X st D σ H := fun pins s I => p.run pins s σ H D I h
theorem WE.mono {e : Expr} {Q Q' : VK} (h : WE X e σ H Q) (k : ∀ v H', Q v H' → Q' v H') : WE X e σ H Q' := fun pins s I => thn (h pins s I) fun _ _ ⟨v, H', J, r, q⟩ => ⟨v, H', J, r, k v H' q⟩
end
end Gh
set_option Elab.async false
set_option linter.all false
set_option maxRecDepth 100000
namespace Gh
open PySem PySem.Spec PyProof.Rows L2

/-! ### the judgements: what an expression is worth -/
def Ed (F : Fx) (ρ : List G) (s : Sx) (e : Expr) (d : D) (s' : Sx) : Prop :=
  s.isSome = s'.isSome ∧ ∀ O σ H, Fm F O σ H ρ s → ∀ Q : VK, (∀ v H', Fm F O σ H' ρ s' → XE F H H' → Rp F.X.K F.p (O ++ F.S0) H' v d → Q v H') → WE F.X e σ H Q
def Ea (F : Fx) (ρ : List G) (s : Sx) (es : List Expr) (ds : List D) (s' : Sx) : Prop :=
  s.isSome = s'.isSome ∧ ∀ O σ H, Fm F O σ H ρ s → ∀ Q : List V → Hp → Prop, (∀ vs H', Fm F O σ H' ρ s' → XE F H H' → Rps F.X.K F.p (O ++ F.S0) H' vs ds → Q vs H') → WA F.X es σ H Q
/-- a new list -/
def El (F : Fx) (ρ : List G) (s : Sx) (e : Expr) (ds : List D) (s' : Sx) : Prop :=
  s.isSome = s'.isSome ∧ ∀ O σ H, Fm F O σ H ρ s → ∀ Q : VK, (∀ a vs H', Fm F (a :: O) σ H' ρ s' → XE F H H' → H a = none → H' a = some (.lst vs) → Rps F.X.K F.p (a :: (O ++ F.S0)) H' vs ds → Q (.ref a) H') → WE F.X e σ H Q
def Et (F : Fx) (ρ : List G) (s : Sx) (e : Expr) (b : Bool) (s' : Sx) : Prop :=
  s.isSome = s'.isSome ∧ ∀ O σ H, Fm F O σ H ρ s → ∀ Q : Bool → Hp → Prop, (∀ H', Fm F O σ H' ρ s' → XE F H H' → Q b H') → WT F.X e σ H Q
def Ew (F : Fx) (ρ : List G) (s : Sx) (e : Expr) (b : Bool) (s' : Sx) : Prop :=
  s.isSome = s'.isSome ∧ ∀ O σ H, Fm F O σ H ρ s → ∀ Q : Bool → Hp → Prop, (∀ H', Fm F O σ H' ρ s' → XE F H H' → Q b H') → WW F.X e σ H Q
/-- a two-place operation; a call, by data -/
def R2d (F : Fx) (ρ : List G) (s : Sx) (r : R2) (x y z : D) : Prop :=
  ∀ O σ H, Fm F O σ H ρ s → ∀ v w, Rp F.X.K F.p (O ++ F.S0) H v x → Rp F.X.K F.p (O ++ F.S0) H w y → ∀ Q : VK, (∀ u H', Fm F O σ H' ρ s → XE F H H' → Rp F.X.K F.p (O ++ F.S0) H' u z → Q u H') → r v w H Q
def R2l (F : Fx) (ρ : List G) (s : Sx) (r : R2) (x y : D) (zs : List D) : Prop :=
  ∀ O σ H, Fm F O σ H ρ s → ∀ v w, Rp F.X.K F.p (O ++ F.S0) H v x → Rp F.X.K F.p (O ++ F.S0) H w y → ∀ Q : VK, (∀ a vs H', Fm F (a :: O) σ H' ρ s → XE F H H' → H a = none → H' a = some (.lst vs) → Rps F.X.K F.p (a :: (O ++ F.S0)) H' vs zs → Q (.ref a) H') → r v w H Q
def CRd (F : Fx) (ρ : List G) (s : Sx) (r : List V → Hp → VK → Prop) (xs : List D) (z : D) : Prop :=
  ∀ O σ H, Fm F O σ H ρ s → ∀ vs, Rps F.X.K F.p (O ++ F.S0) H vs xs → ∀ Q : VK, (∀ u H', Fm F O σ H' ρ s → XE F H H' → Rp F.X.K F.p (O ++ F.S0) H' u z → Q u H') → r vs H Q
def CRl (F : Fx) (ρ : List G) (s : Sx) (r : List V → Hp → VK → Prop) (xs zs : List D) : Prop :=
  ∀ O σ H, Fm F O σ H ρ s → ∀ vs, Rps F.X.K F.p (O ++ F.S0) H vs xs → ∀ Q : VK, (∀ a ws H', Fm F (a :: O) σ H' ρ s → XE F H H' → H a = none → H' a = some (.lst ws) → Rps F.X.K F.p (a :: (O ++ F.S0)) H' ws zs → Q (.ref a) H') → r vs H Q

section
variable {F : Fx} {ρ : List G} {s s1 s2 s3 : Sx} {a b c e : Expr} {es : List Expr} {x y z d : D} {xs zs ds : List D} {pos p : Pos}

theorem El.ed (h : El F ρ s e ds s1) : Ed F ρ s e (.lst ds) s1 := ⟨h.1, fun O σ H f Q q => h.2 O σ H f Q fun a vs H' f' x' n h' r =>
  q _ _ (f.drop f') x' (.lst (f.fresh n) h' (r.weak fun a m => List.mem_cons_of_mem _ m))⟩

/-! names, constants -/
theorem ed_var (i : Nat) {x : Str} (hN : F.X.N[i]? = some x) (hv : Vis F.X.env.scope x) (hρ : ρ[i]? = some (.val d)) (hd : (x == ("__debug__" : Str)) = false := by decide) (hcd : (x == ("__classdict__" : Str)) = false := by decide) : Ed F ρ s (.Name x pos) d s :=
  ⟨rfl, fun O σ H f Q q => by
    obtain ⟨o, ho, v, e, r⟩ := f.slot i _ hρ
    subst e
    exact we (pe_var hN hv hd hcd) ⟨v, ho, q v H f .refl r⟩⟩
theorem ed_int {i : Int} {j} : Ed F ρ s (.Constant (.int i) j pos) (.int i) s := ⟨rfl, fun O σ H f Q q => we pe_int (q _ _ f .refl (.int i))⟩
theorem ed_bl {i : Bool} {j} : Ed F ρ s (.Constant (.bool i) j pos) (.bl i) s := ⟨rfl, fun O σ H f Q q => we pe_bl (q _ _ f .refl (.bl i))⟩
theorem ed_str {i : Str} {j} : Ed F ρ s (.Constant (.str i) j pos) (.str i) s := ⟨rfl, fun O σ H f Q q => we pe_str (q _ _ f .refl (.str i))⟩
theorem ed_non {j} : Ed F ρ s (.Constant .none j pos) .non s := ⟨rfl, fun O σ H f Q q => we pe_non (q _ _ f .refl .non)⟩
theorem ed_ty {x : Str} {n : String} (hg : Gl F.X x) (hm : F.X.mg x = none) (hv : bootBuiltins x = some (.type n)) (hn : x ≠ "__name__" := by decide) (hd : (x == ("__debug__" : Str)) = false := by decide) : Ed F ρ s (.Name x pos) (.ty n) s :=
  ⟨rfl, fun O σ H f Q q => we (pe_bltn (v := .ty n) hg hm hv rfl hn hd) (q _ _ f .refl (.ty n))⟩
theorem ed_glob {x : Str} {v : V} {u : Value} (hg : Gl F.X x) (hm : F.X.mg x = some u) (r : RelV v u) (hr : ∀ p S H, Rp F.X.K p S H v d) (hd : (x == ("__debug__" : Str)) = false := by decide) : Ed F ρ s (.Name x pos) d s :=
  ⟨rfl, fun O σ H f Q q => we (pe_glob hg hm r hd) (q _ _ f .refl (hr _ _ _))⟩

/-! lists of expressions, displays -/
theorem ea_nil : Ea F ρ s [] [] s := ⟨rfl, fun O σ H f Q q => wa pa_nil (q _ _ f .refl .nil)⟩
theorem ea_cons (ha : Ed F ρ s e d s1) (hr : Ea F ρ s1 es ds s2) (hs : starEach (e :: es) F.X.env = (false, eval e F.X.env) :: starEach es F.X.env := by rfl) : Ea F ρ s (e :: es) (d :: ds) s2 :=
  ⟨ha.1.trans hr.1, fun O σ H f Q q => wa (pa_cons pe_we pa_wa hs) (ha.2 O σ H f _ fun v H1 f1 x1 r1 => hr.2 O σ H1 f1 _ fun vs H2 f2 x2 r2 => q _ _ f2 (x1.trans x2) (.cons (r1.ext x2.xt) r2))⟩
theorem ed_tup {k} (h : Ea F ρ s es ds s1) (hl : ds.length ≤ sizeLine := by exact Nat.le_of_ble_eq_true rfl) : Ed F ρ s (.Tuple es k pos) (.tup ds) s1 :=
  ⟨h.1, fun O σ H f Q q => we (pe_tup pa_wa) (h.2 O σ H f _ fun vs H1 f1 x1 r1 => ⟨by rw [r1.length]; exact hl, fun a n => q _ _ (f1.new n) (x1.trans (.new n)) (.tup (.inl ⟨f1.fresh n, .inl upd_same⟩) (r1.ext (.new n)))⟩)⟩
theorem el_lst (h : Ea F ρ s es ds s1) (hl : ds.length ≤ sizeLine := by exact Nat.le_of_ble_eq_true rfl) : El F ρ s (.List es pos) ds s1 :=
  ⟨h.1, fun O σ H f Q q => we (pe_lst pa_wa) (h.2 O σ H f _ fun vs H1 f1 x1 r1 => ⟨by rw [r1.length]; exact hl, fun a n => q a vs _ (f1.newO n) (x1.trans (.new n)) (x1.2 a n) upd_same ((r1.fresh n).ext (.new n))⟩)⟩

/-! operators -/
theorem ed_op {op : Operator} {r : R2} (ho : OpR F.X (binaryOp op) r) (ha : Ed F ρ s a x s1) (hb : Ed F ρ s1 b y s2) (hr : R2d F ρ s2 r x y z) : Ed F ρ s (.BinOp a op b pos) z s2 :=
  ⟨ha.1.trans hb.1, fun O σ H f Q q => we (pe_op ho pe_we pe_we) (ha.2 O σ H f _ fun v H1 f1 x1 r1 => hb.2 O σ H1 f1 _ fun w H2 f2 x2 r2 => hr O σ H2 f2 v w (r1.ext x2.xt) r2 Q fun u H3 f3 x3 r3 => q u H3 f3 ((x1.trans x2).trans x3) r3)⟩
theorem el_op {op : Operator} {r : R2} (ho : OpR F.X (binaryOp op) r) (ha : Ed F ρ s a x s1) (hb : Ed F ρ s1 b y s2) (hr : R2l F ρ s2 r x y zs) : El F ρ s (.BinOp a op b pos) zs s2 :=
  ⟨ha.1.trans hb.1, fun O σ H f Q q => we (pe_op ho pe_we pe_we) (ha.2 O σ H f _ fun v H1 f1 x1 r1 => hb.2 O σ H1 f1 _ fun w H2 f2 x2 r2 => hr O σ H2 f2 v w (r1.ext x2.xt) r2 Q fun u vs H3 f3 x3 n3 h3 r3 => q u vs H3 f3 ((x1.trans x2).trans x3) (x1.2 u (x2.2 u n3)) h3 r3)⟩
/-- a comparison: as a value, as a test -/
def Cp (F : Fx) (ρ : List G) (s : Sx) (op : CmpOp) (a b : Expr) (k : Bool) (s' : Sx) : Prop := s.isSome = s'.isSome ∧ behindInMarks op b = false ∧ ∃ r, OpR F.X (compareOp op) r ∧
  ∀ O σ H, Fm F O σ H ρ s → ∀ Q : VK, (∀ H', Fm F O σ H' ρ s' → XE F H H' → Q (.bl k) H') → tOp r (WE F.X a) (WE F.X b) σ H Q
theorem Cp.ed {op : CmpOp} {k : Bool} (h : Cp F ρ s op a b k s1) : Ed F ρ s (.Compare a [op] [b] pos) (.bl k) s1 := by
  obtain ⟨kd, hm, r, ho, h⟩ := h
  exact ⟨kd, fun O σ H f Q q => we (pe_cmpR ho pe_we pe_we hm) (h O σ H f Q fun H' f' x' => q _ H' f' x' (.bl k))⟩
theorem Cp.et {op : CmpOp} {k : Bool} (h : Cp F ρ s op a b k s1) : Et F ρ s (.Compare a [op] [b] pos) k s1 := by
  obtain ⟨kd, hm, r, ho, h⟩ := h
  exact ⟨kd, fun O σ H f Q q => wt (pt_cmpR ho pe_we pe_we hm) (h O σ H f _ fun H' f' x' => ⟨k, rfl, q H' f' x'⟩)⟩
theorem cp_of {op : CmpOp} {r : R2} {k : Bool} (ho : OpR F.X (compareOp op) r) (ha : Ed F ρ s a x s1) (hb : Ed F ρ s1 b y s2) (hr : R2d F ρ s2 r x y (.bl k)) (hm : behindInMarks op b = false) : Cp F ρ s op a b k s2 :=
  ⟨ha.1.trans hb.1, hm, r, ho, fun O σ H f Q q => ha.2 O σ H f _ fun v H1 f1 x1 r1 => hb.2 O σ H1 f1 _ fun w H2 f2 x2 r2 => hr O σ H2 f2 v w (r1.ext x2.xt) r2 Q fun u H3 f3 x3 r3 => by cases r3; exact q H3 f3 ((x1.trans x2).trans x3)⟩
theorem r2_I0 {g : Int → Int → V} {i j : Int} (h : ∀ p S H, Rp F.X.K p S H (g i j) z) : R2d F ρ s (rI0 g) (.int i) (.int j) z := fun O σ H f v w r1 r2 Q q => by
  cases r1; cases r2; exact ⟨i, j, rfl, rfl, q _ _ f .refl (h _ _ _)⟩
theorem r2_I {C : Int → Int → Prop} {g : Int → Int → V} {i j : Int} (hc : C i j) (h : ∀ p S H, Rp F.X.K p S H (g i j) z) : R2d F ρ s (rI C g) (.int i) (.int j) z := fun O σ H f v w r1 r2 Q q => by
  cases r1; cases r2; exact ⟨i, j, rfl, rfl, hc, q _ _ f .refl (h _ _ _)⟩
section
variable {i j : Int}
theorem ed_add (ha : Ed F ρ s a (.int i) s1) (hb : Ed F ρ s1 b (.int j) s2) : Ed F ρ s (.BinOp a .Add b pos) (.int (i + j)) s2 := ed_op op_add ha hb (r2_I0 fun _ _ _ => .int _)
theorem ed_sub (ha : Ed F ρ s a (.int i) s1) (hb : Ed F ρ s1 b (.int j) s2) : Ed F ρ s (.BinOp a .Sub b pos) (.int (i - j)) s2 := ed_op op_sub ha hb (r2_I0 fun _ _ _ => .int _)
theorem ed_mul (hc : CMul i j) (ha : Ed F ρ s a (.int i) s1) (hb : Ed F ρ s1 b (.int j) s2) : Ed F ρ s (.BinOp a .Mult b pos) (.int (i * j)) s2 := ed_op op_mul ha hb (r2_I hc fun _ _ _ => .int _)
theorem ed_mulW (hc : CMulW i j) (ha : Ed F ρ s a (.int i) s1) (hb : Ed F ρ s1 b (.int j) s2) : Ed F ρ s (.BinOp a .Mult b pos) (.int (i * j)) s2 := ed_op op_mulW ha hb (r2_I hc fun _ _ _ => .int _)
theorem ed_fdiv (hc : CDivW i j) (ha : Ed F ρ s a (.int i) s1) (hb : Ed F ρ s1 b (.int j) s2) : Ed F ρ s (.BinOp a .FloorDiv b pos) (.int (i / j)) s2 := ed_op op_fdivW ha hb (r2_I hc fun _ _ _ => .int _)
theorem ed_mod (hc : 0 < j) (ha : Ed F ρ s a (.int i) s1) (hb : Ed F ρ s1 b (.int j) s2) : Ed F ρ s (.BinOp a .Mod b pos) (.int (i % j)) s2 := ed_op op_mod ha hb (r2_I hc fun _ _ _ => .int _)
theorem ed_pow (hc : CPow i j) (ha : Ed F ρ s a (.int i) s1) (hb : Ed F ρ s1 b (.int j) s2) : Ed F ρ s (.BinOp a .Pow b pos) (.int (i ^ j.toNat)) s2 := ed_op op_pow ha hb (r2_I hc fun _ _ _ => .int _)
theorem cp_lt (ha : Ed F ρ s a (.int i) s1) (hb : Ed F ρ s1 b (.int j) s2) : Cp F ρ s .Lt a b (decide (i < j)) s2 := cp_of op_lt ha hb (r2_I0 fun _ _ _ => .bl _) (nomark _)
theorem cp_le (ha : Ed F ρ s a (.int i) s1) (hb : Ed F ρ s1 b (.int j) s2) : Cp F ρ s .LtE a b (decide (i ≤ j)) s2 := cp_of op_le ha hb (r2_I0 fun _ _ _ => .bl _) (nomark _)
theorem cp_gt (ha : Ed F ρ s a (.int i) s1) (hb : Ed F ρ s1 b (.int j) s2) : Cp F ρ s .Gt a b (decide (j < i)) s2 := cp_of op_gt ha hb (r2_I0 fun _ _ _ => .bl _) (nomark _)
theorem cp_ge (ha : Ed F ρ s a (.int i) s1) (hb : Ed F ρ s1 b (.int j) s2) : Cp F ρ s .GtE a b (decide (j ≤ i)) s2 := cp_of op_ge ha hb (r2_I0 fun _ _ _ => .bl _) (nomark _)
end

/-! tests, and, or, not, if -/
theorem et_val {k : Bool} (h : Ed F ρ s e (.bl k) s1) (hs : ∀ (whole : Sem Value), PySem.isTrue e F.X.env whole = (do let v ← whole; standAt e.pos; holding [v] (truthy v)) := by intro _; rfl) : Et F ρ s e k s1 :=
  ⟨h.1, fun O σ H f Q q => wt (pt_val pe_we hs) (h.2 O σ H f _ fun v H1 f1 x1 r1 => by cases r1; exact ⟨k, rfl, q H1 f1 x1⟩)⟩
theorem Ew.et {k : Bool} (h : Ew F ρ s e k s1) : Et F ρ s e k s1 := ⟨h.1, fun O σ H f Q q => wt (PW.pt pw_ww) (h.2 O σ H f Q q)⟩
end
end Gh
set_option Elab.async false
set_option linter.all false
set_option maxRecDepth 100000
namespace Gh
open PySem PySem.Spec PyProof.Rows L2
section
variable {F : Fx} {ρ : List G} {s s1 s2 s3 : Sx} {a b c e : Expr} {es rest : List Expr} {x y z d : D} {xs zs ds : List D} {pos p : Pos} {k l : Bool}

/-! and, or, not as values -/
theorem ed_one {op} (h : Ed F ρ s e d s1) : Ed F ρ s (.BoolOp op [e] pos) d s1 := ⟨h.1, fun O σ H f Q q => we (pe_one pe_we) (h.2 O σ H f Q q)⟩
theorem ed_andT (ha : Ed F ρ s a (.bl true) s1) (hb : Ed F ρ s1 (.BoolOp .And (b :: rest) pos) d s2) : Ed F ρ s (.BoolOp .And (a :: b :: rest) pos) d s2 :=
  ⟨ha.1.trans hb.1, fun O σ H f Q q => we (pe_and pe_we pe_we) (ha.2 O σ H f _ fun v H1 f1 x1 r1 => by cases r1; exact ⟨true, rfl, iteT (hb.2 O σ H1 f1 Q fun v H2 f2 x2 r2 => q v H2 f2 (x1.trans x2) r2)⟩)⟩
theorem ed_andF (ha : Ed F ρ s a (.bl false) s1) : Ed F ρ s (.BoolOp .And (a :: b :: rest) pos) (.bl false) s1 :=
  ⟨ha.1, fun O σ H f Q q => we (pe_and pe_we pe_we) (ha.2 O σ H f _ fun v H1 f1 x1 r1 => by cases r1; exact ⟨false, rfl, iteF (q _ H1 f1 x1 (.bl false))⟩)⟩
theorem ed_orT (ha : Ed F ρ s a (.bl true) s1) : Ed F ρ s (.BoolOp .Or (a :: b :: rest) pos) (.bl true) s1 :=
  ⟨ha.1, fun O σ H f Q q => we (pe_or pe_we pe_we) (ha.2 O σ H f _ fun v H1 f1 x1 r1 => by cases r1; exact ⟨true, rfl, iteT (q _ H1 f1 x1 (.bl true))⟩)⟩
theorem ed_orF (ha : Ed F ρ s a (.bl false) s1) (hb : Ed F ρ s1 (.BoolOp .Or (b :: rest) pos) d s2) : Ed F ρ s (.BoolOp .Or (a :: b :: rest) pos) d s2 :=
  ⟨ha.1.trans hb.1, fun O σ H f Q q => we (pe_or pe_we pe_we) (ha.2 O σ H f _ fun v H1 f1 x1 r1 => by cases r1; exact ⟨false, rfl, iteF (hb.2 O σ H1 f1 Q fun v H2 f2 x2 r2 => q v H2 f2 (x1.trans x2) r2)⟩)⟩
/-- what is asked is not known, and nothing is drawn -/
theorem ed_and (ha : Ed F ρ s a (.bl k) s) (hb : k = true → Ed F ρ s (.BoolOp .And (b :: rest) pos) (.bl l) s) : Ed F ρ s (.BoolOp .And (a :: b :: rest) pos) (.bl (k && l)) s := by
  cases k with
  | true => exact ed_andT ha (hb rfl)
  | false => exact ed_andF ha
theorem ed_or (ha : Ed F ρ s a (.bl k) s) (hb : k = false → Ed F ρ s (.BoolOp .Or (b :: rest) pos) (.bl l) s) : Ed F ρ s (.BoolOp .Or (a :: b :: rest) pos) (.bl (k || l)) s := by
  cases k with
  | true => exact ed_orT ha
  | false => exact ed_orF ha (hb rfl)
theorem ed_not (ha : Ed F ρ s a (.bl k) s1) : Ed F ρ s (.UnaryOp .Not a pos) (.bl (!k)) s1 :=
  ⟨ha.1, fun O σ H f Q q => we (pe_not pe_we) (ha.2 O σ H f _ fun v H1 f1 x1 r1 => by cases r1; exact ⟨k, rfl, q _ H1 f1 x1 (.bl _)⟩)⟩
theorem ed_neg {i : Int} (ha : Ed F ρ s a (.int i) s1) : Ed F ρ s (.UnaryOp .USub a pos) (.int (-i)) s1 :=
  ⟨ha.1, fun O σ H f Q q => we (pe_un un_neg pe_we) (ha.2 O σ H f _ fun v H1 f1 x1 r1 => by cases r1; exact ⟨i, rfl, q _ H1 f1 x1 (.int _)⟩)⟩
/-! as tests -/
theorem et_not (ha : Et F ρ s a k s1) : Et F ρ s (.UnaryOp .Not a pos) (!k) s1 := ⟨ha.1, fun O σ H f Q q => wt (pt_not pt_wt) (ha.2 O σ H f _ fun H1 f1 x1 => q H1 f1 x1)⟩
theorem ew_and1 (ha : Et F ρ s a k s1) : Ew F ρ s (.BoolOp .And [a] pos) k s1 := ⟨ha.1, fun O σ H f Q q => ww (pw_and1 pt_wt) (ha.2 O σ H f Q q)⟩
theorem ew_or1 (ha : Et F ρ s a k s1) : Ew F ρ s (.BoolOp .Or [a] pos) k s1 := ⟨ha.1, fun O σ H f Q q => ww (pw_or1 pt_wt) (ha.2 O σ H f Q q)⟩
theorem ew_andT (ha : Et F ρ s a true s1) (hb : Ew F ρ s1 (.BoolOp .And (b :: rest) pos) k s2) : Ew F ρ s (.BoolOp .And (a :: b :: rest) pos) k s2 :=
  ⟨ha.1.trans hb.1, fun O σ H f Q q => ww (pw_and pt_wt pw_ww) (ha.2 O σ H f _ fun H1 f1 x1 => iteT (hb.2 O σ H1 f1 Q fun H2 f2 x2 => q H2 f2 (x1.trans x2)))⟩
theorem ew_andF (ha : Et F ρ s a false s1) : Ew F ρ s (.BoolOp .And (a :: b :: rest) pos) false s1 :=
  ⟨ha.1, fun O σ H f Q q => ww (pw_and pt_wt pw_ww) (ha.2 O σ H f _ fun H1 f1 x1 => iteF (q H1 f1 x1))⟩
theorem ew_orT (ha : Et F ρ s a true s1) : Ew F ρ s (.BoolOp .Or (a :: b :: rest) pos) true s1 :=
  ⟨ha.1, fun O σ H f Q q => ww (pw_or pt_wt pw_ww) (ha.2 O σ H f _ fun H1 f1 x1 => iteT (q H1 f1 x1))⟩
theorem ew_orF (ha : Et F ρ s a false s1) (hb : Ew F ρ s1 (.BoolOp .Or (b :: rest) pos) k s2) : Ew F ρ s (.BoolOp .Or (a :: b :: rest) pos) k s2 :=
  ⟨ha.1.trans hb.1, fun O σ H f Q q => ww (pw_or pt_wt pw_ww) (ha.2 O σ H f _ fun H1 f1 x1 => iteF (hb.2 O σ H1 f1 Q fun H2 f2 x2 => q H2 f2 (x1.trans x2)))⟩
theorem ew_and (ha : Et F ρ s a k s) (hb : k = true → Ew F ρ s (.BoolOp .And (b :: rest) pos) l s) : Ew F ρ s (.BoolOp .And (a :: b :: rest) pos) (k && l) s := by
  cases k with
  | true => exact ew_andT ha (hb rfl)
  | false => exact ew_andF ha
theorem ew_or (ha : Et F ρ s a k s) (hb : k = false → Ew F ρ s (.BoolOp .Or (b :: rest) pos) l s) : Ew F ρ s (.BoolOp .Or (a :: b :: rest) pos) (k || l) s := by
  cases k with
  | true => exact ew_orT ha
  | false => exact ew_orF ha (hb rfl)
/-- a if c else b -/
theorem ed_ifT (hc : Et F ρ s c true s1) (ha : Ed F ρ s1 a d s2) : Ed F ρ s (.IfExp c a b pos) d s2 :=
  ⟨hc.1.trans ha.1, fun O σ H f Q q => we (pe_ifExp pt_wt pe_we pe_we) (hc.2 O σ H f _ fun H1 f1 x1 => iteT (ha.2 O σ H1 f1 Q fun v H2 f2 x2 r2 => q v H2 f2 (x1.trans x2) r2))⟩
theorem ed_ifF (hc : Et F ρ s c false s1) (hb : Ed F ρ s1 b d s2) : Ed F ρ s (.IfExp c a b pos) d s2 :=
  ⟨hc.1.trans hb.1, fun O σ H f Q q => we (pe_ifExp pt_wt pe_we pe_we) (hc.2 O σ H f _ fun H1 f1 x1 => iteF (hb.2 O σ H1 f1 Q fun v H2 f2 x2 r2 => q v H2 f2 (x1.trans x2) r2))⟩
theorem ed_if (hc : Et F ρ s c k s1) (ha : k = true → Ed F ρ s1 a x s1) (hb : k = false → Ed F ρ s1 b y s1) : Ed F ρ s (.IfExp c a b pos) (if k then x else y) s1 := by
  cases k with
  | true => exact ed_ifT hc (ha rfl)
  | false => exact ed_ifF hc (hb rfl)

/-! items -/
theorem atI_rps {K : PySem.W.Frag} {q : Addr} {S : List Addr} {H : Hp} {vs : List V} {i : Int} (r : Rps K q S H vs xs) (h : atI xs i = some d) : ∃ v, atI vs i = some v ∧ Rp K q S H v d := by
  unfold atI at h ⊢
  rw [r.length]
  cases e : ixN xs.length i with
  | none => rw [e] at h; cases h
  | some j =>
    rw [e] at h
    exact r.get h
theorem ed_ixL {i : Int} (ha : Ed F ρ s a (.lst xs) s1) (hb : Ed F ρ s1 b (.int i) s2) (h : atI xs i = some d) (hs : PlainIx b := by exact fun _ _ => rfl) : Ed F ρ s (.Subscript a b pos) d s2 :=
  ⟨ha.1.trans hb.1, fun O σ H f Q q => we (pe_ix ix_list pe_we pe_we hs) (ha.2 O σ H f _ fun v H1 f1 x1 r1 => hb.2 O σ H1 f1 _ fun w H2 f2 x2 r2 => by
    cases r2
    cases r1.ext x2.xt with
    | lst n h1 h2 =>
      obtain ⟨v, e, r⟩ := atI_rps h2 h
      exact ⟨_, _, i, v, rfl, rfl, .inl (.inl h1), e, q v H2 f2 (x1.trans x2) r⟩)⟩
theorem ed_ixT {i : Int} (ha : Ed F ρ s a (.tup xs) s1) (hb : Ed F ρ s1 b (.int i) s2) (h : atI xs i = some d) (hs : PlainIx b := by exact fun _ _ => rfl) : Ed F ρ s (.Subscript a b pos) d s2 :=
  ⟨ha.1.trans hb.1, fun O σ H f Q q => we (pe_ix ix_tup pe_we pe_we hs) (ha.2 O σ H f _ fun v H1 f1 x1 r1 => hb.2 O σ H1 f1 _ fun w H2 f2 x2 r2 => by
    cases r2
    cases r1.ext x2.xt with
    | tup h1 h2 =>
      obtain ⟨v, e, r⟩ := atI_rps h2 h
      exact ⟨_, _, i, v, rfl, rfl, h1.sq, e, q v H2 f2 (x1.trans x2) r⟩)⟩
theorem ed_ixS {i n : Int} {ns : List Int} (ha : Ed F ρ s a (.scr ns) s1) (hb : Ed F ρ s1 b (.int i) s2) (h : atI ns i = some n) (hs : PlainIx b := by exact fun _ _ => rfl) : Ed F ρ s (.Subscript a b pos) (.int n) s2 :=
  ⟨ha.1.trans hb.1, fun O σ H f Q q => we (pe_ix ix_list pe_we pe_we hs) (ha.2 O σ H f _ fun v H1 f1 x1 r1 => hb.2 O σ H1 f1 _ fun w H2 f2 x2 r2 => by
    cases r2
    cases r1.ext x2.xt with
    | scr h1 =>
      have e : atI (ns.map V.int) i = some (.int n) := by
        unfold atI at h ⊢
        rw [List.length_map]
        cases e : ixN ns.length i with
        | none => rw [e] at h; cases h
        | some j => rw [e] at h; simp only [Option.bind_some] at h ⊢; rw [List.getElem?_map, h]; rfl
      exact ⟨_, _, i, _, rfl, rfl, h1.sq, e, q _ H2 f2 (x1.trans x2) (.int n)⟩)⟩

/-! calls of built-ins -/
theorem ed_callB {x : Str} {id : String} {r : List V → Hp → VK → Prop} (hc : CallR F.X (.builtin id) r) (hm : F.X.mg x = none) (hv : bootBuiltins x = some (.builtin id)) (ha : Ea F ρ s (e :: es) xs s1) (hr : CRd F ρ s1 r xs z) (hg : Gl F.X x := by rfl) (hn : x ≠ "__name__" := by decide) (hdb : (x == ("__debug__" : Str)) = false := by decide)
    (he : starEach (e :: es) F.X.env = (false, eval e F.X.env) :: starEach es F.X.env := by rfl) (hpl : (backTo pos (starEach es F.X.env)).any (·.1) = false := by rfl) : Ed F ρ s (.Call (.Name x p) (e :: es) [] pos) z s1 :=
  ⟨ha.1, fun O σ H f Q q => we (pe_callB hc hg hm hv pa_wa hn hdb he hpl) (ha.2 O σ H f _ fun vs H1 f1 x1 r1 => hr O σ H1 f1 vs r1 Q fun u H2 f2 x2 r2 => q u H2 f2 (x1.trans x2) r2)⟩
theorem ed_callTy {x : Str} {T : String} {r : List V → Hp → VK → Prop} (hc : CallR F.X (.type T) r) (hm : F.X.mg x = none) (hv : bootBuiltins x = some (.type T)) (ha : Ea F ρ s (e :: es) xs s1) (hr : CRd F ρ s1 r xs z) (hg : Gl F.X x := by rfl) (hn : x ≠ "__name__" := by decide) (hdb : (x == ("__debug__" : Str)) = false := by decide)
    (he : starEach (e :: es) F.X.env = (false, eval e F.X.env) :: starEach es F.X.env := by rfl) (hpl : (backTo pos (starEach es F.X.env)).any (·.1) = false := by rfl) : Ed F ρ s (.Call (.Name x p) (e :: es) [] pos) z s1 :=
  ⟨ha.1, fun O σ H f Q q => we (pe_callTy hc hg hm hv pa_wa hn hdb he hpl) (ha.2 O σ H f _ fun vs H1 f1 x1 r1 => hr O σ H1 f1 vs r1 Q fun u H2 f2 x2 r2 => q u H2 f2 (x1.trans x2) r2)⟩
theorem el_callTy {x : Str} {T : String} {r : List V → Hp → VK → Prop} (hc : CallR F.X (.type T) r) (hm : F.X.mg x = none) (hv : bootBuiltins x = some (.type T)) (ha : Ea F ρ s (e :: es) xs s1) (hr : CRl F ρ s1 r xs zs) (hg : Gl F.X x := by rfl) (hn : x ≠ "__name__" := by decide) (hdb : (x == ("__debug__" : Str)) = false := by decide)
    (he : starEach (e :: es) F.X.env = (false, eval e F.X.env) :: starEach es F.X.env := by rfl) (hpl : (backTo pos (starEach es F.X.env)).any (·.1) = false := by rfl) : El F ρ s (.Call (.Name x p) (e :: es) [] pos) zs s1 :=
  ⟨ha.1, fun O σ H f Q q => we (pe_callTy hc hg hm hv pa_wa hn hdb he hpl) (ha.2 O σ H f _ fun vs H1 f1 x1 r1 => hr O σ H1 f1 vs r1 Q fun u ws H2 f2 x2 n2 h2 r2 => q u ws H2 f2 (x1.trans x2) (x1.2 u n2) h2 r2)⟩
/-- the built-in names that the module leaves as they are -/
structure Bf (mg : Str → Option Value) : Prop where
  len : mg "len" = none
  isi : mg "isinstance" = none
  abs : mg "abs" = none
  min : mg "min" = none
  max : mg "max" = none
  sum : mg "sum" = none
  all : mg "all" = none
  any : mg "any" = none
  range : mg "range" = none
  zip : mg "zip" = none
  enum : mg "enumerate" = none
  sorted : mg "sorted" = none
  int : mg "int" = none
  bool : mg "bool" = none
  str : mg "str" = none
  list : mg "list" = none
  tuple : mg "tuple" = none
  dict : mg "dict" = none
  set : mg "set" = none
theorem boot_isi : bootBuiltins "isinstance" = some (.builtin "isinstance") := by decide +kernel
theorem boot_abs' : bootBuiltins "abs" = some (.builtin "abs") := by decide +kernel
theorem boot_min' : bootBuiltins "min" = some (.builtin "min") := by decide +kernel
theorem boot_max' : bootBuiltins "max" = some (.builtin "max") := by decide +kernel
theorem boot_sum' : bootBuiltins "sum" = some (.builtin "sum") := by decide +kernel
theorem boot_all' : bootBuiltins "all" = some (.builtin "all") := by decide +kernel
theorem boot_any' : bootBuiltins "any" = some (.builtin "any") := by decide +kernel
theorem boot_sorted' : bootBuiltins "sorted" = some (.builtin "sorted") := by decide +kernel
theorem boot_int' : bootBuiltins "int" = some (.type "int") := by decide +kernel
theorem boot_bool' : bootBuiltins "bool" = some (.type "bool") := by decide +kernel
theorem boot_str' : bootBuiltins "str" = some (.type "str") := by decide +kernel
theorem boot_list' : bootBuiltins "list" = some (.type "list") := by decide +kernel
theorem boot_tuple' : bootBuiltins "tuple" = some (.type "tuple") := by decide +kernel
theorem boot_dict' : bootBuiltins "dict" = some (.type "dict") := by decide +kernel

/-! len -/
def D.size : D → Option Nat
  | .lst xs => some xs.length
  | .tup xs => some xs.length
  | .scr ns => some ns.length
  | _ => none
theorem ed_len {n : Nat} (B : Bf F.X.mg) (ha : Ed F ρ s a x s1) (h : x.size = some n) (hg : Gl F.X "len" := by rfl) (he : starEach [a] F.X.env = (false, eval a F.X.env) :: starEach [] F.X.env := by rfl) : Ed F ρ s (.Call (.Name "len" p) [a] [] pos) (.int n) s1 :=
  ed_callB call_len_seq B.len boot_len (ea_cons ha ea_nil he) (fun O σ H f vs r Q q => by
    cases r with
    | cons r1 r2 =>
      cases r2
      cases x with
      | lst xs =>
        cases r1 with
        | lst m h1 h2 =>
          obtain rfl : xs.length = n := Option.some.inj h
          refine ⟨_, _, rfl, .inl (.inl (.inl h1)), ?_⟩
          rw [h2.length]
          exact q _ _ f .refl (.int _)
      | tup xs =>
        cases r1 with
        | tup h1 h2 =>
          obtain rfl : xs.length = n := Option.some.inj h
          refine ⟨_, _, rfl, .inr h1.sq, ?_⟩
          rw [h2.length]
          exact q _ _ f .refl (.int _)
      | scr ns =>
        cases r1 with
        | scr h1 =>
          obtain rfl : ns.length = n := Option.some.inj h
          refine ⟨_, _, rfl, .inl h1.sq, ?_⟩
          rw [List.length_map]
          exact q _ _ f .refl (.int _)
      | _ => cases h) hg (by decide) (by decide) he rfl
theorem ed_abs {i : Int} (B : Bf F.X.mg) (ha : Ed F ρ s a (.int i) s1) (hg : Gl F.X "abs" := by rfl) (he : starEach [a] F.X.env = (false, eval a F.X.env) :: starEach [] F.X.env := by rfl) : Ed F ρ s (.Call (.Name "abs" p) [a] [] pos) (.int i.natAbs) s1 :=
  ed_callB call_abs B.abs boot_abs' (ea_cons ha ea_nil he) (fun O σ H f vs r Q q => by
    cases r with
    | cons r1 r2 =>
      cases r2; cases r1
      refine ⟨i, rfl, ?_⟩
      have e : (if i < 0 then -i else i) = (i.natAbs : Int) := by split <;> omega
      rw [e]
      exact q _ _ f .refl (.int _)) hg (by decide) (by decide) he rfl
theorem ed_intI {i : Int} (B : Bf F.X.mg) (ha : Ed F ρ s a (.int i) s1) (hg : Gl F.X "int" := by rfl) (he : starEach [a] F.X.env = (false, eval a F.X.env) :: starEach [] F.X.env := by rfl) : Ed F ρ s (.Call (.Name "int" p) [a] [] pos) (.int i) s1 :=
  ed_callTy call_int1 B.int boot_int' (ea_cons ha ea_nil he) (fun O σ H f vs r Q q => by
    cases r with
    | cons r1 r2 => cases r2; cases r1; exact .inl ⟨i, rfl, q _ _ f .refl (.int _)⟩) hg (by decide) (by decide) he rfl
theorem ed_max2 {i j : Int} (B : Bf F.X.mg) (hc : F.X.calm = true) (ha : Ed F ρ s a (.int i) s1) (hb : Ed F ρ s1 b (.int j) s2) (hg : Gl F.X "max" := by rfl) (he : starEach [a, b] F.X.env = (false, eval a F.X.env) :: starEach [b] F.X.env := by rfl) (hf : starEach [b] F.X.env = (false, eval b F.X.env) :: starEach [] F.X.env := by rfl) (hpl : (backTo pos (starEach [b] F.X.env)).any (·.1) = false := by rfl) :
    Ed F ρ s (.Call (.Name "max" p) [a, b] [] pos) (.int (max i j)) s2 :=
  ed_callB (call_max2 hc) B.max boot_max' (ea_cons ha (ea_cons hb ea_nil hf) he) (fun O σ H f vs r Q q => by
    cases r with
    | cons r1 r2 =>
      cases r2 with
      | cons r2 r3 =>
        cases r3; cases r1; cases r2
        refine ⟨i, j, rfl, ?_⟩
        have e : (if j > i then j else i) = max i j := by split <;> omega
        rw [e]
        exact q _ _ f .refl (.int _)) hg (by decide) (by decide) he hpl
theorem ed_min2 {i j : Int} (B : Bf F.X.mg) (hc : F.X.calm = true) (ha : Ed F ρ s a (.int i) s1) (hb : Ed F ρ s1 b (.int j) s2) (hg : Gl F.X "min" := by rfl) (he : starEach [a, b] F.X.env = (false, eval a F.X.env) :: starEach [b] F.X.env := by rfl) (hf : starEach [b] F.X.env = (false, eval b F.X.env) :: starEach [] F.X.env := by rfl) (hpl : (backTo pos (starEach [b] F.X.env)).any (·.1) = false := by rfl) :
    Ed F ρ s (.Call (.Name "min" p) [a, b] [] pos) (.int (min i j)) s2 :=
  ed_callB (call_min2 hc) B.min boot_min' (ea_cons ha (ea_cons hb ea_nil hf) he) (fun O σ H f vs r Q q => by
    cases r with
    | cons r1 r2 =>
      cases r2 with
      | cons r2 r3 =>
        cases r3; cases r1; cases r2
        refine ⟨i, j, rfl, ?_⟩
        have e : (if j < i then j else i) = min i j := by split <;> omega
        rw [e]
        exact q _ _ f .refl (.int _)) hg (by decide) (by decide) he hpl
theorem ed_sum {ns : List Int} (B : Bf F.X.mg) (hc : F.X.calm = true) (ha : Ed F ρ s a (.lst (ns.map D.int)) s1) (hg : Gl F.X "sum" := by rfl) (he : starEach [a] F.X.env = (false, eval a F.X.env) :: starEach [] F.X.env := by rfl) : Ed F ρ s (.Call (.Name "sum" p) [a] [] pos) (.int ns.sum) s1 :=
  ed_callB (cr_sum hc) B.sum boot_sum' (ea_cons ha ea_nil he) (fun O σ H f vs r Q q => by
    cases r with
    | cons r1 r2 =>
      cases r2
      cases r1 with
      | lst m h1 h2 =>
        have e := h2.ints
        subst e
        exact ⟨_, ns, rfl, .inl (.inl h1), q _ _ f .refl (.int _)⟩) hg (by decide) (by decide) he rfl
theorem ed_all {bs : List Bool} (B : Bf F.X.mg) (hc : F.X.calm = true) (ha : Ed F ρ s a (.lst (bs.map D.bl)) s1) (hg : Gl F.X "all" := by rfl) (he : starEach [a] F.X.env = (false, eval a F.X.env) :: starEach [] F.X.env := by rfl) : Ed F ρ s (.Call (.Name "all" p) [a] [] pos) (.bl (bs.all id)) s1 :=
  ed_callB (cr_all hc) B.all boot_all' (ea_cons ha ea_nil he) (fun O σ H f vs r Q q => by
    cases r with
    | cons r1 r2 =>
      cases r2
      cases r1 with
      | lst m h1 h2 =>
        have e := h2.bls
        subst e
        exact ⟨_, bs, rfl, .inl (.inl h1), q _ _ f .refl (.bl _)⟩) hg (by decide) (by decide) he rfl
theorem ed_any {bs : List Bool} (B : Bf F.X.mg) (hc : F.X.calm = true) (ha : Ed F ρ s a (.lst (bs.map D.bl)) s1) (hg : Gl F.X "any" := by rfl) (he : starEach [a] F.X.env = (false, eval a F.X.env) :: starEach [] F.X.env := by rfl) : Ed F ρ s (.Call (.Name "any" p) [a] [] pos) (.bl (bs.any id)) s1 :=
  ed_callB (cr_any hc) B.any boot_any' (ea_cons ha ea_nil he) (fun O σ H f vs r Q q => by
    cases r with
    | cons r1 r2 =>
      cases r2
      cases r1 with
      | lst m h1 h2 =>
        have e := h2.bls
        subst e
        exact ⟨_, bs, rfl, .inl (.inl h1), q _ _ f .refl (.bl _)⟩) hg (by decide) (by decide) he rfl
/-! list(x), tuple(x) -/
theorem el_listOf (B : Bf F.X.mg) (ha : Ed F ρ s a x s1) (h : x = .lst xs ∨ x = .tup xs) (hg : Gl F.X "list" := by rfl) (he : starEach [a] F.X.env = (false, eval a F.X.env) :: starEach [] F.X.env := by rfl) : El F ρ s (.Call (.Name "list" p) [a] [] pos) xs s1 :=
  el_callTy call_list_of B.list boot_list' (ea_cons ha ea_nil he) (fun O σ H f vs r Q q => by
    cases r with
    | cons r1 r2 =>
      cases r2
      rcases h with rfl | rfl
      · cases r1 with
        | lst m h1 h2 => exact ⟨_, _, rfl, .inl (.inl (.inl h1)), fun l n => q l _ _ (f.newO n) (.new n) n upd_same ((h2.fresh n).ext (.new n))⟩
      · cases r1 with
        | tup h1 h2 => exact ⟨_, _, rfl, .inr h1.sq, fun l n => q l _ _ (f.newO n) (.new n) n upd_same ((h2.fresh n).ext (.new n))⟩) hg (by decide) (by decide) he rfl
theorem ed_tupleOf (B : Bf F.X.mg) (ha : Ed F ρ s a x s1) (h : x = .lst xs ∨ x = .tup xs) (hg : Gl F.X "tuple" := by rfl) (he : starEach [a] F.X.env = (false, eval a F.X.env) :: starEach [] F.X.env := by rfl) : Ed F ρ s (.Call (.Name "tuple" p) [a] [] pos) (.tup xs) s1 :=
  ed_callTy call_tuple_of B.tuple boot_tuple' (ea_cons ha ea_nil he) (fun O σ H f vs r Q q => by
    cases r with
    | cons r1 r2 =>
      cases r2
      rcases h with rfl | rfl
      · cases r1 with
        | lst m h1 h2 => exact ⟨_, _, rfl, .inl ⟨.inl (.inl h1), fun l n => q _ _ (f.new n) (.new n) (.tup (.inl ⟨f.fresh n, .inl upd_same⟩) (h2.ext (.new n)))⟩⟩
      · cases r1 with
        | tup h1 h2 => exact ⟨_, _, rfl, .inr ⟨h1.sq, q _ _ f .refl (.tup h1 h2)⟩⟩) hg (by decide) (by decide) he rfl
end
end Gh
set_option Elab.async false
set_option linter.all false
set_option maxRecDepth 100000
namespace Gh
open PySem PySem.Spec PyProof.Rows L2
/-! isinstance -/
inductive Kn where
  | none | bool | int | str | list | tuple | dict
  deriving DecidableEq
def Kn.name : Kn → String
  | .none => "NoneType" | .bool => "bool" | .int => "int" | .str => "str" | .list => "list" | .tuple => "tuple" | .dict => "dict"
def D.kind : D → Option Kn
  | .non => some .none | .bl _ => some .bool | .int _ => some .int | .str _ => some .str | .lst _ => some .list | .scr _ => some .list | .tup _ => some .tuple | .emp => some .dict
  | .mut => Option.none | .ref _ => Option.none | .ty _ => Option.none | .ins .. => Option.none | .met .. => Option.none | .dK .. => some .dict | .dT .. => some .dict
/-- is what is of the first kind of the second class -/
def isK : Kn → Kn → Bool
  | .none, .none => true | .bool, .bool => true | .bool, .int => true | .int, .int => true | .str, .str => true | .list, .list => true | .tuple, .tuple => true | .dict, .dict => true
  | _, _ => false
theorem kit_isK {K : PySem.W.Frag} (k c : Kn) (hc : c ≠ .none) : PySem.W.kitOne K (.type k.name) (.type c.name) = some (isK k c) := by
  refine kit_ty ?_
  cases k <;> cases c <;> first | exact absurd rfl hc | decide +kernel
theorem kitAny_isK {K : PySem.W.Frag} (k : Kn) : ∀ (cs : List Kn), (∀ c ∈ cs, c ≠ .none) → PySem.W.kitAny K (.type k.name) (cs.map fun c => Value.type c.name) = some (cs.any (isK k))
  | [], _ => rfl
  | c :: cs, h => by
    have h1 := kit_isK (K := K) k c (h c List.mem_cons_self)
    have h2 := kitAny_isK (K := K) k cs fun d m => h d (List.mem_cons_of_mem _ m)
    refine kitAny_cons h1 (fun e => ?_) fun e => ?_
    · rw [h2, List.any_cons, e, Bool.false_or]
    · rw [List.any_cons, e, Bool.true_or]
theorem sqK_list {K : PySem.W.Frag} {a : Addr} {xs : List V} (h : SqL K (fun _ => none) a xs) : ∃ o, K.lookup a = some o ∧ o.cls = .type "list" := by
  rcases h with h | ⟨o, _, _, h1, h2, _⟩
  · exact (rd_none h).elim
  · exact ⟨o, h1, h2⟩
theorem sqK_tup {K : PySem.W.Frag} {a : Addr} {xs : List V} (h : SqT K (fun _ => none) a xs) : ∃ o, K.lookup a = some o ∧ o.cls = .type "tuple" := by
  rcases h with h | ⟨o, _, _, h1, h2, _⟩
  · exact (rd_none h).elim
  · exact ⟨o, h1, h2⟩
theorem tyx_of {K : PySem.W.Frag} {p : Addr} {S : List Addr} {H : Hp} {v : V} {d : D} {k : Kn} (r : Rp K p S H v d) (h : d.kind = some k) : TyX K H v (.type k.name) := by
  cases r with
  | non => cases h; exact .base .non
  | bl b => cases h; exact .base (.bl b)
  | int i => cases h; exact .base (.int i)
  | str x => cases h; exact .base (.str x)
  | lst m h1 h2 => cases h; exact .base (.lst h1)
  | scr h1 =>
    cases h
    rcases h1 with ⟨_, h1 | ⟨o, h1⟩⟩ | h1
    · exact .base (.lst h1)
    · exact .base (.frz h1)
    · obtain ⟨o, e, c⟩ := sqK_list h1
      exact .kList e c
  | tup h1 h2 =>
    cases h
    rcases h1 with ⟨_, h1 | ⟨o, h1⟩⟩ | h1
    · exact .base (.tup h1)
    · exact .fTuple h1
    · obtain ⟨o, e, c⟩ := sqK_tup h1
      exact .kTuple e c
  | emp m h1 => cases h; exact .base (.dK h1)
  | dK m h1 => cases h; exact .base (.dK h1)
  | dT m h1 => cases h; exact .base (.dT h1)
  | _ => cases h
section
variable {F : Fx} {ρ : List G} {s s1 s2 s3 : Sx} {a b c e : Expr} {es rest : List Expr} {x y z d : D} {xs zs ds : List D} {pos p : Pos} {k l : Bool}
/-- a class's name -/
def Cn (F : Fx) (e : Expr) (c : Kn) : Prop := ∀ ρ s, Ed F ρ s e (.ty c.name) s
theorem cn_list (B : Bf F.X.mg) (hg : Gl F.X "list" := by rfl) : Cn F (.Name "list" p) .list := fun ρ s => ed_ty hg B.list boot_list'
theorem cn_tuple (B : Bf F.X.mg) (hg : Gl F.X "tuple" := by rfl) : Cn F (.Name "tuple" p) .tuple := fun ρ s => ed_ty hg B.tuple boot_tuple'
theorem cn_int (B : Bf F.X.mg) (hg : Gl F.X "int" := by rfl) : Cn F (.Name "int" p) .int := fun ρ s => ed_ty hg B.int boot_int'
theorem cn_bool (B : Bf F.X.mg) (hg : Gl F.X "bool" := by rfl) : Cn F (.Name "bool" p) .bool := fun ρ s => ed_ty hg B.bool boot_bool'
theorem cn_str (B : Bf F.X.mg) (hg : Gl F.X "str" := by rfl) : Cn F (.Name "str" p) .str := fun ρ s => ed_ty hg B.str boot_str'
theorem cn_dict (B : Bf F.X.mg) (hg : Gl F.X "dict" := by rfl) : Cn F (.Name "dict" p) .dict := fun ρ s => ed_ty hg B.dict boot_dict'
/-- isinstance(a, T) -/
theorem ed_isi {t : Expr} {c k : Kn} (B : Bf F.X.mg) (ha : Ed F ρ s a x s1) (hk : x.kind = some k) (ht : Cn F t c) (hc : c ≠ .none := by decide) (hg : Gl F.X "isinstance" := by rfl) (he : starEach [a, t] F.X.env = (false, eval a F.X.env) :: starEach [t] F.X.env := by rfl)
    (hf : starEach [t] F.X.env = (false, eval t F.X.env) :: starEach [] F.X.env := by rfl) (hpl : (backTo pos (starEach [t] F.X.env)).any (·.1) = false := by rfl) : Ed F ρ s (.Call (.Name "isinstance" p) [a, t] [] pos) (.bl (isK k c)) s1 :=
  ed_callB call_isi B.isi boot_isi (ea_cons ha (ea_cons (ht ρ s1) ea_nil hf) he) (fun O σ H f vs r Q q => by
    cases r with
    | cons r1 r2 =>
      cases r2 with
      | cons r2 r3 =>
        cases r3; cases r2
        exact ⟨_, _, _, _, isK k c, rfl, .ty _, tyx_of r1 hk, kit_isK k c hc, q _ _ f .refl (.bl _)⟩) hg (by decide) (by decide) he hpl
/-- (T1, T2, ..): the names of classes -/
inductive Cns (F : Fx) : List Expr → List Kn → Prop
  | nil : Cns F [] []
  | cons {t : Expr} {ts : List Expr} {c : Kn} {cs : List Kn} : Cn F t c → starEach (t :: ts) F.X.env = (false, eval t F.X.env) :: starEach ts F.X.env → Cns F ts cs → Cns F (t :: ts) (c :: cs)
theorem Cns.ea {ts : List Expr} {cs : List Kn} (h : Cns F ts cs) : ∀ ρ s, Ea F ρ s ts (cs.map fun c => D.ty c.name) s := by
  induction h with
  | nil => intro ρ s; exact ea_nil
  | cons h1 h2 h3 ih => intro ρ s; exact ea_cons (h1 ρ s) (ih ρ s) h2
theorem rps_tys {K : PySem.W.Frag} {q : Addr} {S : List Addr} {H : Hp} : ∀ {cs : List Kn} {vs : List V}, Rps K q S H vs (cs.map fun c => D.ty c.name) → Paired ClsV vs (cs.map fun c => Value.type c.name)
  | [], _, h => by cases h; exact .nil
  | c :: cs, _, h => by
    cases h with
    | cons h1 h2 => cases h1; exact .cons (.ty _) (rps_tys h2)
theorem rps_len {K : PySem.W.Frag} {q : Addr} {S : List Addr} {H : Hp} {cs : List Kn} {vs : List V} (h : Rps K q S H vs (cs.map fun c => D.ty c.name)) : vs.length = cs.length := by rw [h.length, List.length_map]
theorem ed_isiT {ts : List Expr} {cs : List Kn} {k : Kn} {kk} {tpos : Pos} (B : Bf F.X.mg) (ha : Ed F ρ s a x s1) (hk : x.kind = some k) (ht : Cns F ts cs) (hc : ∀ c ∈ cs, c ≠ .none := by decide) (hl : cs.length ≤ sizeLine := by decide) (hg : Gl F.X "isinstance" := by rfl)
    (he : starEach [a, .Tuple ts kk tpos] F.X.env = (false, eval a F.X.env) :: starEach [.Tuple ts kk tpos] F.X.env := by rfl)
    (hf : starEach [.Tuple ts kk tpos] F.X.env = (false, eval (.Tuple ts kk tpos) F.X.env) :: starEach [] F.X.env := by rfl) (hpl : (backTo pos (starEach [.Tuple ts kk tpos] F.X.env)).any (·.1) = false := by rfl) :
    Ed F ρ s (.Call (.Name "isinstance" p) [a, .Tuple ts kk tpos] [] pos) (.bl (cs.any (isK k))) s1 :=
  ⟨ha.1, fun O σ H f Q q => we (pe_callB call_isiT hg B.isi boot_isi (pa_cons pe_we (pa_cons (pe_tup pa_wa) pa_nil hf) he) (by decide) (by decide) he hpl) (ha.2 O σ H f _ fun v H1 f1 x1 r1 =>
    (ht.ea ρ s1).2 O σ H1 f1 _ fun vs H2 f2 x2 r2 => ⟨by rw [rps_len r2]; exact hl, fun t n => ⟨v, t, vs, _, _, cs.any (isK k), rfl, upd_same, rps_tys r2, tyx_of ((r1.ext x2.xt).ext (.new n)) hk, kitAny_isK k cs hc, q _ _ (f2.new n) ((x1.trans x2).trans (.new n)) (.bl _)⟩⟩)⟩
theorem cns_nil : Cns F [] [] := .nil
theorem cns_cons {t : Expr} {ts : List Expr} {c : Kn} {cs : List Kn} (h1 : Cn F t c) (h2 : Cns F ts cs) (h : starEach (t :: ts) F.X.env = (false, eval t F.X.env) :: starEach ts F.X.env := by rfl) : Cns F (t :: ts) (c :: cs) := .cons h1 h h2
end

/-! ### calls of defs -/
/-- a def's promise: for these data, this state of the stream: that, and that state behind -/
def spOf (K : PySem.W.Frag) (T : Ts) (ds : List D) (s : Sx) (d : D) (s' : Sx) : Sp := fun vs H Q _ => ∃ (p : Addr) (S : List Addr), Rps K p S H vs ds ∧ (∀ a ∈ S, ∃ o, H a = some o) ∧ StA K T p S H s ∧
  ∀ v H', Rp K p S H' v d → XP p s H H' → StA K T p S H' s' → Q v H'
structure En where
  P : Program
  w : World
  K : PySem.W.Frag
  mg : Str → Option Value
  base : Heap
  T : Ts := []
/-- the def f, called with these data, hands back that -/
structure Rn (E : En) (k : Nat) (f : Str) (ds : List D) (s : Sx) (d : D) (s' : Sx) : Prop where
  kd : s.isSome = s'.isSome
  ok : ∃ fa fd ps, E.mg f = some (.ref fa) ∧ PySem.W.keepIn E.K (.ref fa) = true ∧ Binds E.K fd ps [] ∧ FnOk E.P E.w E.K E.mg E.base CX0 k fa fd ps (spOf E.K E.T ds s d s')
abbrev Fx.en (F : Fx) : En := ⟨F.X.prog, F.X.w, F.X.K, F.X.mg, F.X.base, F.T⟩
theorem Rn.is {E : En} {k : Nat} {f : Str} {ds : List D} {s s' : Sx} {d d' : D} (r : Rn E k f ds s d s') (h : d = d') : Rn E k f ds s d' s' := h ▸ r
theorem Rn.mono {E : En} {j k : Nat} {f : Str} {ds : List D} {s s' : Sx} {d : D} (r : Rn E j f ds s d s') (h : j ≤ k) : Rn E k f ds s d s' := by
  obtain ⟨kd, fa, fd, ps, h1, h2, h3, h4⟩ := r
  exact ⟨kd, fa, fd, ps, h1, h2, h3, h4.mono h⟩
section
variable {F : Fx} {ρ : List G} {s s1 s2 s3 : Sx} {e : Expr} {es : List Expr} {d : D} {ds : List D} {pos p : Pos}
theorem ed_call {f : Str} {k : Nat} (R : Rn F.en k f ds s1 d s2) (hr : Room k F.X.A) (ha : Ea F ρ s (e :: es) ds s1) (hg : Gl F.X f := by rfl) (hdb : (f == ("__debug__" : Str)) = false := by decide)
    (he : starEach (e :: es) F.X.env = (false, eval e F.X.env) :: starEach es F.X.env := by rfl) (hpl : (backTo pos (starEach es F.X.env)).any (·.1) = false := by rfl) : Ed F ρ s (.Call (.Name f p) (e :: es) [] pos) d s2 := by
  obtain ⟨kd, fa, fd, ps, h1, h2, h3, h4⟩ := R
  refine ⟨ha.1.trans kd, fun O σ H fm Q q => we (pe_call h4 hr hg h1 h2 h3 .nil pass0 pa_wa hdb he hpl) (ha.2 O σ H fm _ fun vs H1 f1 x1 r1 => ?_)⟩
  rw [List.append_nil]
  exact ⟨F.p, O ++ F.S0, r1, f1.trk, f1.st, fun v H2 r2 x2 t2 => q v H2 (f1.grow x2 kd t2) (x1.trans (x2.xe f1.pm f1.kd)) r2⟩
theorem ed_call0 {f : Str} {k : Nat} (R : Rn F.en k f [] s d s2) (hr : Room k F.X.A) (hg : Gl F.X f := by rfl) (hdb : (f == ("__debug__" : Str)) = false := by decide) : Ed F ρ s (.Call (.Name f p) [] [] pos) d s2 := by
  obtain ⟨kd, fa, fd, ps, h1, h2, h3, h4⟩ := R
  refine ⟨kd, fun O σ H fm Q q => we (pe_call0 h4 hr hg h1 h2 h3 .nil pass0 hdb) ?_⟩
  exact ⟨F.p, O ++ F.S0, .nil, fm.trk, fm.st, fun v H2 r2 x2 t2 => q v H2 (fm.grow x2 kd t2) (x2.xe fm.pm fm.kd) r2⟩
end

/-! ### statements -/
/-- an exception: its class's name, its field, what that holds -/
structure Xv where
  c : Str
  f : Str
  d : D
structure GE where
  nx : List G → Sx → Prop
  rt : D → Sx → Prop
  bk : List G → Sx → Prop := fun _ _ => False
  ct : List G → Sx → Prop := fun _ _ => False
  xc : Xv → List G → Sx → Prop := fun _ _ _ => False
/-- what the body's context takes in the air -/
def Fx.wx (F : Fx) : WX := fun cls d σ H => ∀ u s', L2.XE F.X (fun c' d' σ' H' => c' = cls ∧ d' = d ∧ σ' = σ ∧ H' = H) u s' → F.X.xe u s'
theorem Fx.takes (F : Fx) : Takes F.X F.wx := fun u s' ⟨a, B, sI, pins, σ, H, cls, d, e, I, nb, up, sky, na, os, ag, w⟩ =>
  w u s' ⟨a, B, sI, pins, σ, H, cls, d, e, I, nb, up, sky, na, os, ag, rfl, rfl, rfl, rfl⟩
/-- the exception as it lies in the heap -/
def Xat (K : PySem.W.Frag) (mg : Str → Option Value) (p : Addr) (S : List Addr) (H : Hp) (cls : Value) (dd : Addr) (x : Xv) : Prop :=
  ∃ C fs v, cls = .ref C ∧ mg x.c = some (.ref C) ∧ H dd = some (.xd fs) ∧ fs.lookup x.f = some v ∧ Rp K p S H v x.d
theorem Xat.weak {K : PySem.W.Frag} {mg : Str → Option Value} {p : Addr} {S S' : List Addr} {H : Hp} {cls : Value} {dd : Addr} {x : Xv} (h : Xat K mg p S H cls dd x) (s : ∀ a ∈ S', a ∈ S) : Xat K mg p S' H cls dd x := by
  obtain ⟨C, fs, v, h1, h2, h3, h4, h5⟩ := h
  exact ⟨C, fs, v, h1, h2, h3, h4, h5.weak s⟩
/-- from a block's start to its end: data are kept, owned ones that came are new -/
structure Step (F : Fx) (O : List Addr) (H : Hp) (O' : List Addr) (H' : Hp) : Prop where
  xt : XT (O ++ F.S0) H H'
  gr : ∀ a ∈ O', a ∈ O ∨ H a = none
theorem Step.refl {F : Fx} {O : List Addr} {H : Hp} : Step F O H O H := ⟨.refl, fun _ m => .inl m⟩
theorem Step.of {F : Fx} {O : List Addr} {H H' : Hp} (x : XT (O ++ F.S0) H H') : Step F O H O H' := ⟨x, fun _ m => .inl m⟩
theorem Step.trans {F : Fx} {O O1 O2 : List Addr} {H H1 H2 : Hp} (a : Step F O H O1 H1) (b : Step F O1 H1 O2 H2) : Step F O H O2 H2 := by
  refine ⟨⟨fun x o n h t => b.xt.1 x o (fun m => ?_) (a.xt.1 x o n h t) t, fun x h => a.xt.2 x (b.xt.2 x h)⟩, fun x m => ?_⟩
  · rcases List.mem_append.mp m with m | m
    · rcases a.gr x m with m | z
      · exact n (List.mem_append_left _ m)
      · rw [z] at h; cases h
    · exact n (List.mem_append_right _ m)
  · rcases b.gr x m with m | z
    · exact a.gr x m
    · exact .inr (a.xt.2 x z)
structure GE.ok (k : GE) (F : Fx) (O : List Addr) (H : Hp) (E : Ends) : Prop where
  nx : ∀ O' σ' H' ρ' s', Fm F O' σ' H' ρ' s' → Step F O H O' H' → k.nx ρ' s' → E.nx σ' H'
  rt : ∀ v H d s, Rp F.X.K F.p F.S0 H v d → XP F.p s F.H0 H → F.Sa [] H s → k.rt d s → E.rt v H
  bk : ∀ O' σ' H' ρ' s', Fm F O' σ' H' ρ' s' → Step F O H O' H' → k.bk ρ' s' → E.bk σ' H'
  ct : ∀ O' σ' H' ρ' s', Fm F O' σ' H' ρ' s' → Step F O H O' H' → k.ct ρ' s' → E.ct σ' H'
  xc : ∀ O' σ' H' ρ' s' cls dd x, Fm F O' σ' H' ρ' s' → Step F O H O' H' → Xat F.X.K F.X.mg F.p (O' ++ F.S0) H' cls dd x → k.xc x ρ' s' → F.wx cls (some dd) σ' H'
theorem GE.ok.to {k : GE} {F : Fx} {O O1 : List Addr} {H H1 : Hp} {E : Ends} (h : k.ok F O H E) (t : Step F O H O1 H1) : k.ok F O1 H1 E :=
  ⟨fun O' σ' H' ρ' s' f st q => h.nx O' σ' H' ρ' s' f (t.trans st) q, h.rt, fun O' σ' H' ρ' s' f st q => h.bk O' σ' H' ρ' s' f (t.trans st) q, fun O' σ' H' ρ' s' f st q => h.ct O' σ' H' ρ' s' f (t.trans st) q, fun O' σ' H' ρ' s' cls dd x f st a q => h.xc O' σ' H' ρ' s' cls dd x f (t.trans st) a q⟩
theorem Fm.sa0 {F : Fx} {O : List Addr} {σ : L2.St} {H : Hp} {ρ : List G} {s : Sx} (f : Fm F O σ H ρ s) : F.Sa [] H s := by
  have q := f.st
  have pm := f.pm
  cases s with
  | none => exact q
  | some ds =>
    obtain ⟨q1, q2, vs, q3, q4⟩ := q
    exact ⟨q1, pm rfl, vs, q3, q4.weak fun b m => List.mem_append_right _ m⟩
/-- the block, from these names' data, ends as k says -/
def Bk (F : Fx) (sts : List Stmt) (ρ : List G) (s : Sx) (k : GE) : Prop := ∀ O σ H, Fm F O σ H ρ s → ∀ E : Ends, k.ok F O H E → WB F.X sts E σ H
def Bs (F : Fx) (st : Stmt) (ρ : List G) (s : Sx) (k : GE) : Prop := ∀ O σ H, Fm F O σ H ρ s → ∀ E : Ends, k.ok F O H E → WS F.X st E σ H
section
variable {F : Fx} {ρ : List G} {s s1 s2 s3 : Sx} {c e : Expr} {es : List Expr} {d : D} {ds : List D} {pos p : Pos} {k : GE} {st : Stmt} {sts : List Stmt}
theorem bk_nil (h : k.nx ρ s) : Bk F [] ρ s k := fun O σ H f E q => wb pss_nil (q.nx O σ H ρ s f .refl h)
theorem bk_cons (h1 : Bs F st ρ s { k with nx := fun ρ' s' => Bk F sts ρ' s' k }) : Bk F (st :: sts) ρ s k := fun O σ H f E q => wb (pss_cons ps_ws pss_wb) (h1 O σ H f _
  ⟨fun O' σ' H' ρ' s' f' st h' => h' O' σ' H' f' E (q.to st), q.rt, q.bk, q.ct, q.xc⟩)
theorem bs_pass (h : k.nx ρ s) : Bs F (.Pass pos) ρ s k := fun O σ H f E q => ws ps_pass (q.nx O σ H ρ s f .refl h)
theorem bs_break (h : k.bk ρ s) : Bs F (.Break pos) ρ s k := fun O σ H f E q => ws ps_break (q.bk O σ H ρ s f .refl h)
theorem bs_continue (h : k.ct ρ s) : Bs F (.Continue pos) ρ s k := fun O σ H f E q => ws ps_continue (q.ct O σ H ρ s f .refl h)
theorem bs_ret (h : Ed F ρ s e d s1) (hk : k.rt d s1) : Bs F (.Return (some e) pos) ρ s k := fun O σ H f E q => ws (ps_ret pe_we) (h.2 O σ H f _ fun v H1 f1 x1 r1 =>
  q.rt v H1 d s1 (r1.weak fun a m => List.mem_append_right _ m) f1.ext f1.sa0 hk)
theorem bs_retN (hk : k.rt .non s) : Bs F (.Return none pos) ρ s k := fun O σ H f E q => ws ps_retN (q.rt .non H .non s .non f.ext f.sa0 hk)
theorem bs_expr (h : Ed F ρ s e d s1) (hk : k.nx ρ s1) (hs : swapsWith e none pos.line F.X.env = pure false := by rfl) : Bs F (.Expr e pos) ρ s k := fun O σ H f E q => ws (ps_expr pe_we hs) (h.2 O σ H f _ fun v H1 f1 x1 r1 => q.nx O σ H1 ρ s1 f1 (.of x1.xt) hk)
theorem bs_ifT {a b : List Stmt} (hc : Et F ρ s c true s1) (h : Bk F a ρ s1 k) : Bs F (.If c a b pos) ρ s k := fun O σ H f E q => ws (ps_if pt_wt pss_wb pss_wb) (hc.2 O σ H f _ fun H1 f1 x1 => iteT (h O σ H1 f1 E (q.to (.of x1.xt))))
theorem bs_ifF {a b : List Stmt} (hc : Et F ρ s c false s1) (h : Bk F b ρ s1 k) : Bs F (.If c a b pos) ρ s k := fun O σ H f E q => ws (ps_if pt_wt pss_wb pss_wb) (hc.2 O σ H f _ fun H1 f1 x1 => iteF (h O σ H1 f1 E (q.to (.of x1.xt))))
theorem bs_if {a b : List Stmt} {t : Bool} (hc : Et F ρ s c t s1) (h1 : t = true → Bk F a ρ s1 k) (h2 : t = false → Bk F b ρ s1 k) : Bs F (.If c a b pos) ρ s k := by
  cases t with
  | true => exact bs_ifT hc (h1 rfl)
  | false => exact bs_ifF hc (h2 rfl)
/-- a name gets data -/
theorem Fm.set {O : List Addr} {σ : L2.St} {H : Hp} {v : V} {i : Nat} (f : Fm F O σ H ρ s) (r : Rp F.X.K F.p (O ++ F.S0) H v d) : Fm F O (σ.set i (some v)) H (ρ.set i (.val d)) s := by
  have key : ∀ (j : Nat) (g : G), (ρ.set i (.val d))[j]? = some g → (j = i ∧ g = .val d ∧ j < ρ.length) ∨ (j ≠ i ∧ ρ[j]? = some g) := fun j g h => by
    by_cases e : i = j
    · subst e
      by_cases hl : i < ρ.length
      · rw [List.getElem?_set_self hl] at h; exact .inl ⟨rfl, (Option.some.inj h).symm, hl⟩
      · rw [List.getElem?_eq_none (by simpa using hl)] at h; cases h
    · rw [List.getElem?_set_ne e] at h; exact .inr ⟨fun z => e z.symm, h⟩
  have own : ∀ (j : Nat) (w : Ow) (es : List D), (ρ.set i (.val d))[j]? = some (.ow w es) → j ≠ i ∧ ρ[j]? = some (.ow w es) := fun j w es h => by
    rcases key j _ h with ⟨_, z, _⟩ | q
    · cases z
    · exact q
  refine ⟨f.ext, fun j g hg => ?_, fun j w es a hg ha => ?_, fun j l w u es fs a hne h1 h2 h3 => ?_, f.fre, f.trk, f.st, f.pm, f.kd⟩
  · rcases key j g hg with ⟨rfl, rfl, hl⟩ | ⟨hne, hg⟩
    · have : j < σ.length := by
        have hx : ρ[j]? = some ρ[j] := List.getElem?_eq_getElem hl
        obtain ⟨o, ho, _⟩ := f.slot j _ hx
        exact (List.getElem?_eq_some_iff.mp ho).1
      exact ⟨some v, List.getElem?_set_self this, v, rfl, r⟩
    · obtain ⟨o, ho, q⟩ := f.slot j g hg
      exact ⟨o, by rw [List.getElem?_set_ne (Ne.symm hne)]; exact ho, q⟩
  · obtain ⟨hne, hg⟩ := own j w es hg
    rw [List.getElem?_set_ne (Ne.symm hne)] at ha
    exact f.own j w es a hg ha
  · obtain ⟨n1, h1⟩ := own j w es h1
    obtain ⟨n2, h2⟩ := own l u fs h2
    rw [List.getElem?_set_ne (Ne.symm n1)] at h3
    rw [List.getElem?_set_ne (Ne.symm n2)]
    exact f.dis j l w u es fs a hne h1 h2 h3
theorem bs_set (i : Nat) {x : Str} {pos' : Pos} (hN : F.X.N.Nodup) (hi : F.X.N[i]? = some x) (hx : Loc F.X.env.scope x) (h : Ed F ρ s e d s1) (hk : k.nx (ρ.set i (.val d)) s1) (hs : swapsWith e (some (.Name x pos')) pos.line F.X.env = pure false := by rfl)
    (hf : F.X.fn x = true ∨ F.X.env.scope.names.lookup x = some .local := by first | exact .inl rfl | exact .inr rfl | assumption) : Bs F (.Assign [.Name x pos'] e pos) ρ s k :=
  fun O σ H f E q => ws (ps_set hN hi hx pe_we hs hf) (h.2 O σ H f _ fun v H1 f1 x1 r1 => q.nx O _ H1 _ s1 (f1.set r1) (.of x1.xt) hk)
end

/-! ### a def's body -/
/-- the data at the entry -/
def gStart (N : List Str) (ds : List D) : List G := ds.map G.val ++ List.replicate (N.length - ds.length) .no
theorem fm_start {F : Fx} {N : List Str} {vs : List V} {ds : List D} {s : Sx} (r : Rps F.X.K F.p F.S0 F.H0 vs ds) (tr : ∀ a ∈ F.S0, ∃ o, F.H0 a = some o) (t : F.Sa [] F.H0 s) (kd : s.isSome = F.act) : Fm F [] (L2.start N vs) F.H0 (gStart N ds) s := by
  have hl := r.length
  have no : ∀ (i : Nat) (w : Ow) (es : List D), (gStart N ds)[i]? ≠ some (.ow w es) := fun i w es h => by
    unfold gStart at h
    by_cases hi : i < ds.length
    · rw [List.getElem?_append_left (by simpa using hi), List.getElem?_map] at h
      cases e : ds[i]? with
      | none => rw [e] at h; cases h
      | some z => rw [e] at h; cases h
    · rw [List.getElem?_append_right (by simpa using hi), List.getElem?_replicate] at h
      split at h <;> cases h
  refine ⟨.refl, fun i g hg => ?_, fun i w es a h => absurd h (no i w es), fun i j w u es fs a _ h => absurd h (no i w es), fun a m => absurd m (by simp), fun a m => tr a (by simpa using m), t, fun z => ?_, kd⟩
  case refine_2 =>
    cases s with
    | none => cases z
    | some ds => exact t.2.1
  unfold gStart at hg
  unfold L2.start
  by_cases hi : i < ds.length
  · rw [List.getElem?_append_left (by simpa using hi), List.getElem?_map] at hg
    rw [List.getElem?_append_left (by simpa [hl] using hi), List.getElem?_map]
    cases e : ds[i]? with
    | none => rw [e] at hg; cases hg
    | some z =>
      rw [e] at hg
      cases hg
      obtain ⟨v, e1, e2⟩ := r.get e
      exact ⟨some v, by rw [e1]; rfl, v, rfl, by simpa using e2⟩
  · rw [List.getElem?_append_right (by simpa using hi), List.getElem?_replicate] at hg
    rw [List.getElem?_append_right (by simpa [hl] using hi), List.getElem?_replicate]
    simp only [List.length_map] at hg ⊢
    rw [hl]
    split at hg
    · cases hg
      exact ⟨none, by simp_all, trivial⟩
    · cases hg
section
variable {E : En}
/-- THE RULE for a def: the body's context is cxOf ..; the entry's data and state; what is handed back -/
theorem rn_of {x : Str} {st : Stmt} {fa : Addr} {fd : FuncData} {N ps : List Str} {k : Nat} {ds : List D} {s s' : Sx} {d : D} (T : Fun E.K x x st fa fd) (S : FnScope N ps (defScope st)) (hm : E.mg x = some (.ref fa)) (hb : Binds E.K fd ps []) (kd : s.isSome = s'.isSome) (hl : ds.length = ps.length)
    (body : ∀ (cdv : Value) (A : Around) (outer : List Env) (sh : Shared) (H0 : Hp) (EX : XK) (S0 : List Addr) (p : Addr), Room k (A.deeper (envOfC x (defScope st) sh.heap.objs.size fa cdv)) →
      Bk ⟨(cxOf CX0 E.P E.w E.K E.mg E.base N x (defScope st) fa cdv A outer sh H0 EX).nox, H0, S0, p, s.isSome, E.T⟩ (defBody st) (gStart N ds) s { nx := fun _ t => d = .non ∧ t = s', rt := fun r t => r = d ∧ t = s' }) : Rn E (k + 1) x ds s d s' := by
  refine ⟨kd, fa, fd, ps, hm, T.kp, hb, T.ok S (fun vs H Q EX h => ?_) fun cdv A outer sh H vs Q EX hr h => ?_⟩
  · obtain ⟨p, S, r, _⟩ := h
    rw [r.length, hl]
  · obtain ⟨p, S0, r, tr, t, q⟩ := h
    refine ⟨_, pss_wb, body cdv A outer sh H EX S0 p hr [] (L2.start N vs) H (fm_start (F := ⟨(cxOf CX0 E.P E.w E.K E.mg E.base N x (defScope st) fa cdv A outer sh H EX).nox, H, S0, p, s.isSome, E.T⟩) r tr t rfl) _ ⟨fun O σ H' ρ t' f st h => ?_, fun v H' r' t' rv xp ta h => ?_, fun O σ H' ρ t' f st h => h.elim, fun O σ H' ρ t' f st h => h.elim, fun O σ H' ρ t' cls dd x f st a h => h.elim⟩⟩
    · obtain ⟨rfl, rfl⟩ := h
      exact q .non H' .non (f.ext.kind kd.symm) f.sa0
    · obtain ⟨rfl, rfl⟩ := h
      exact q v H' rv (xp.kind kd.symm) ta
end
end Gh
set_option Elab.async false
set_option linter.all false
set_option maxRecDepth 100000
namespace Gh
open PySem PySem.Spec PyProof.Rows L2
/-! ### operators by data -/
/-- what a op b is worth -/
def D.bin : Operator → D → D → Option D
  | .Add, .int i, .int j => some (.int (i + j))
  | .Sub, .int i, .int j => some (.int (i - j))
  | .Mult, .int i, .int j => some (.int (i * j))
  | .FloorDiv, .int i, .int j => some (.int (i / j))
  | .Mod, .int i, .int j => some (.int (i % j))
  | .Pow, .int i, .int j => some (.int (i ^ j.toNat))
  | .Add, .tup xs, .tup ys => some (.tup (xs ++ ys))
  | .Add, .str x, .str y => some (.str (x ++ y))
  | _, _, _ => none
/-- what it asks -/
def D.binC : Operator → D → D → Prop
  | .Mult, .int i, .int j => CMulW i j
  | .FloorDiv, .int i, .int j => CDivW i j
  | .Mod, .int _, .int j => 0 < j
  | .Pow, .int i, .int j => CPow i j
  | .Add, .tup xs, .tup ys => xs ≠ [] ∧ xs.length + ys.length ≤ sizeLine
  | .Add, .str x, .str y => x.length + y.length ≤ sizeLine
  | _, _, _ => True
section
variable {F : Fx} {ρ : List G} {s s1 s2 s3 : Sx} {a b c e : Expr} {es rest : List Expr} {x y z d : D} {xs ys zs ds : List D} {pos p : Pos} {k l : Bool}
theorem ed_addT (hx : xs ≠ []) (hl : xs.length + ys.length ≤ sizeLine) (ha : Ed F ρ s a (.tup xs) s1) (hb : Ed F ρ s1 b (.tup ys) s2) : Ed F ρ s (.BinOp a .Add b pos) (.tup (xs ++ ys)) s2 :=
  ed_op op_catT ha hb fun O σ H f v w r1 r2 Q q => by
    cases r1 with
    | tup h1 h2 =>
      cases r2 with
      | tup h3 h4 =>
        refine ⟨_, _, _, _, rfl, rfl, h1.sq, h3.sq, fun z => hx ?_, by rw [h2.length, h4.length]; exact hl, fun z => ?_, fun z t n => ?_⟩
        · subst z; cases h2; rfl
        · subst z; cases h4; rw [List.append_nil] at q; exact q _ _ f .refl (.tup h1 h2)
        · exact q _ _ (f.new n) (.new n) (.tup (.inl ⟨f.fresh n, .inl upd_same⟩) ((h2.append h4).ext (.new n)))
theorem ed_addS {i j : Str} (hl : i.length + j.length ≤ sizeLine) (ha : Ed F ρ s a (.str i) s1) (hb : Ed F ρ s1 b (.str j) s2) : Ed F ρ s (.BinOp a .Add b pos) (.str (i ++ j)) s2 :=
  ed_op op_add_str ha hb fun O σ H f v w r1 r2 Q q => by cases r1; cases r2; exact ⟨i, j, rfl, rfl, hl, q _ _ f .refl (.str _)⟩
theorem ed_bin {op : Operator} (ha : Ed F ρ s a x s1) (hb : Ed F ρ s1 b y s2) (h : D.bin op x y = some z) (hc : D.binC op x y) : Ed F ρ s (.BinOp a op b pos) z s2 := by
  unfold D.bin at h
  split at h
  all_goals first | cases h | skip
  · exact ed_add ha hb
  · exact ed_sub ha hb
  · exact ed_mulW hc ha hb
  · exact ed_fdiv hc ha hb
  · exact ed_mod hc ha hb
  · exact ed_pow hc ha hb
  · exact ed_addT hc.1 hc.2 ha hb
  · exact ed_addS hc ha hb
/-- a new list by + and * -/
theorem el_cat (hl : xs.length + ys.length ≤ sizeLine) (ha : Ed F ρ s a (.lst xs) s1) (hb : Ed F ρ s1 b (.lst ys) s2) : El F ρ s (.BinOp a .Add b pos) (xs ++ ys) s2 :=
  el_op op_cat ha hb fun O σ H f v w r1 r2 Q q => by
    cases r1 with
    | lst m1 h1 h2 =>
      cases r2 with
      | lst m3 h3 h4 => exact ⟨_, _, _, _, rfl, rfl, h1, h3, by rw [h2.length, h4.length]; exact hl, fun t n => q t _ _ (f.newO n) (.new n) n upd_same (((h2.append h4).fresh n).ext (.new n))⟩
theorem rps_rep {K : PySem.W.Frag} {q : Addr} {S : List Addr} {H : Hp} {vs : List V} (r : Rps K q S H vs xs) : ∀ n : Nat, Rps K q S H (List.replicate n vs).flatten (List.replicate n xs).flatten
  | 0 => .nil
  | n + 1 => by rw [List.replicate_succ, List.replicate_succ, List.flatten_cons, List.flatten_cons]; exact r.append (rps_rep r n)

/-! ### comparisons by data -/
mutual
def D.py : D → PyData
  | .non => .none
  | .bl b => .bool b
  | .int i => .int i
  | .str x => .str x
  | .lst xs => .list (D.pys xs)
  | .tup xs => .tuple (D.pys xs)
  | .scr ns => .list (ns.map PyData.int)
  | _ => .dict []
def D.pys : List D → List PyData
  | [] => []
  | x :: xs => x.py :: D.pys xs
end
mutual
/-- None, truths, ints, texts, and lists and tuples of these -/
def D.pure : D → Bool
  | .non => true
  | .bl _ => true
  | .int _ => true
  | .str _ => true
  | .lst xs => D.pures xs
  | .tup xs => D.pures xs
  | .scr _ => true
  | _ => false
def D.pures : List D → Bool
  | [] => true
  | x :: xs => x.pure && D.pures xs
end
section
variable {K : PySem.W.Frag} {q : Addr} {S : List Addr} {H : Hp}
theorem dpAll_ints : ∀ ns : List Int, DpAll K H (ns.map V.int) (ns.map PyData.int)
  | [] => .nil
  | n :: ns => .cons (.int n) (dpAll_ints ns)
mutual
theorem Rp.dp : ∀ (d : D) (v : V), Rp K q S H v d → d.pure = true → Dp K H v d.py
  | .non, _, h, _ => by cases h; unfold D.py; exact .non
  | .bl _, _, h, _ => by cases h; unfold D.py; exact .bl _
  | .int _, _, h, _ => by cases h; unfold D.py; exact .int _
  | .str _, _, h, _ => by cases h; unfold D.py; exact .str _
  | .lst xs, _, h, p => by
    cases h with
    | lst m h1 h2 => unfold D.py; exact .lst (.inl (.inl h1)) (Rps.dp xs _ h2 (by unfold D.pure at p; exact p))
  | .tup xs, _, h, p => by
    cases h with
    | tup h1 h2 => unfold D.py; exact .tup h1.sq (Rps.dp xs _ h2 (by unfold D.pure at p; exact p))
  | .scr ns, _, h, p => by
    cases h with
    | scr h1 => unfold D.py; exact .lst h1.sq (dpAll_ints ns)
  | .emp, _, _, p => by unfold D.pure at p; cases p
  | .mut, _, _, p => by unfold D.pure at p; cases p
  | .ref _, _, _, p => by unfold D.pure at p; cases p
  | .ty _, _, _, p => by unfold D.pure at p; cases p
theorem Rps.dp : ∀ (ds : List D) (vs : List V), Rps K q S H vs ds → D.pures ds = true → DpAll K H vs (D.pys ds)
  | [], _, h, _ => by cases h; unfold D.pys; exact .nil
  | d :: ds, _, h, p => by
    cases h with
    | cons h1 h2 =>
      unfold D.pures at p
      obtain ⟨p1, p2⟩ := Bool.and_eq_true_iff.mp p
      unfold D.pys
      exact .cons (Rp.dp d _ h1 p1) (Rps.dp ds _ h2 p2)
end
end
/-- what == asks of both sides -/
def D.eqC (x : D) : Prop := x.pure = true ∧ SeqAt.shaped x.py = true
def D.eqb (x y : D) : Bool := PyData.eqv x.py y.py
theorem cp_eq {n : Nat} (hr : Room n F.X.A) (ha : Ed F ρ s a x s1) (hb : Ed F ρ s1 b y s2) (hx : x.eqC) (hy : y.eqC) : Cp F ρ s .Eq a b (x.eqb y) s2 :=
  cp_of (op_eqD hr.units) ha hb (fun O σ H f v w r1 r2 Q q => ⟨_, _, Rp.dp x v r1 hx.1, Rp.dp y w r2 hy.1, hx.2, hy.2, q _ _ f .refl (.bl _)⟩) (nomark _)
theorem cp_ne {n : Nat} (hr : Room n F.X.A) (ha : Ed F ρ s a x s1) (hb : Ed F ρ s1 b y s2) (hx : x.eqC) (hy : y.eqC) : Cp F ρ s .NotEq a b (!x.eqb y) s2 :=
  cp_of (op_neD hr.units) ha hb (fun O σ H f v w r1 r2 Q q => ⟨_, _, Rp.dp x v r1 hx.1, Rp.dp y w r2 hy.1, hx.2, hy.2, q _ _ f .refl (.bl _)⟩) (nomark _)
def D.isNon : D → Bool
  | .non => true
  | _ => false
theorem rp_non {K : PySem.W.Frag} {q : Addr} {S : List Addr} {H : Hp} {v : V} (r : Rp K q S H v x) : decide (v = .non) = x.isNon := by cases r <;> rfl
theorem cp_isN {j} {p2 : Pos} (ha : Ed F ρ s a x s1) : Cp F ρ s .Is a (.Constant .none j p2) x.isNon s1 :=
  cp_of op_isN ha ed_non (fun O σ H f v w r1 r2 Q q => by cases r2; exact ⟨rfl, by rw [rp_non r1]; exact q _ _ f .refl (.bl _)⟩) (nomark _)
theorem cp_notN {j} {p2 : Pos} (ha : Ed F ρ s a x s1) : Cp F ρ s .IsNot a (.Constant .none j p2) (!x.isNon) s1 :=
  cp_of op_notN ha ed_non (fun O σ H f v w r1 r2 Q q => by cases r2; exact ⟨rfl, by rw [rp_non r1]; exact q _ _ f .refl (.bl _)⟩) (nomark _)
/-! in: flat things in a list or tuple of flat things -/
def D.flat : D → Option V
  | .non => some .non
  | .bl b => some (.bl b)
  | .int i => some (.int i)
  | .str x => some (.str x)
  | _ => none
def D.flats : List D → Option (List V)
  | [] => some []
  | x :: xs => match x.flat, D.flats xs with
    | some v, some vs => some (v :: vs)
    | _, _ => none
theorem rp_flat {K : PySem.W.Frag} {q : Addr} {S : List Addr} {H : Hp} {v w : V} (r : Rp K q S H v x) (h : x.flat = some w) : v = w ∧ flatV w = true := by
  cases r <;> first | (cases h; exact ⟨rfl, rfl⟩) | cases h
theorem rps_flat {K : PySem.W.Frag} {q : Addr} {S : List Addr} {H : Hp} : ∀ {xs : List D} {vs ws : List V}, Rps K q S H vs xs → D.flats xs = some ws → vs = ws ∧ ws.all flatV = true
  | [], _, _, r, h => by cases r; cases h; exact ⟨rfl, rfl⟩
  | x :: xs, _, _, r, h => by
    cases r with
    | cons r1 r2 =>
      unfold D.flats at h
      cases e1 : x.flat with
      | none => rw [e1] at h; cases h
      | some w =>
        cases e2 : D.flats xs with
        | none => rw [e1, e2] at h; cases h
        | some ws =>
          rw [e1, e2] at h
          cases h
          obtain ⟨h1, h2⟩ := rp_flat r1 e1
          obtain ⟨h3, h4⟩ := rps_flat r2 e2
          subst h1 h3
          exact ⟨rfl, by rw [List.all_cons, h2, h4]; rfl⟩
theorem cp_in {w : V} {ws : List V} (ha : Ed F ρ s a x s1) (hb : Ed F ρ s1 b y s2) (hy : y = .lst ys ∨ y = .tup ys) (hx : x.flat = some w) (hys : D.flats ys = some ws) (hm : behindInMarks .In b = false := by rfl) : Cp F ρ s .In a b (inV w ws) s2 :=
  cp_of op_in_seq ha hb (fun O σ H f v u r1 r2 Q q => by
    obtain ⟨e1, h1⟩ := rp_flat r1 hx
    subst e1
    rcases hy with rfl | rfl
    · cases r2 with
      | lst m h2 h3 =>
        obtain ⟨e2, h4⟩ := rps_flat h3 hys
        subst e2
        exact ⟨_, _, rfl, .inl (.inl (.inl h2)), h1, h4, q _ _ f .refl (.bl _)⟩
    · cases r2 with
      | tup h2 h3 =>
        obtain ⟨e2, h4⟩ := rps_flat h3 hys
        subst e2
        exact ⟨_, _, rfl, .inr h2.sq, h1, h4, q _ _ f .refl (.bl _)⟩) hm
theorem cp_notIn {w : V} {ws : List V} (ha : Ed F ρ s a x s1) (hb : Ed F ρ s1 b y s2) (hy : y = .lst ys ∨ y = .tup ys) (hx : x.flat = some w) (hys : D.flats ys = some ws) (hm : behindInMarks .NotIn b = false := by rfl) : Cp F ρ s .NotIn a b (!inV w ws) s2 :=
  cp_of op_notIn_seq ha hb (fun O σ H f v u r1 r2 Q q => by
    obtain ⟨e1, h1⟩ := rp_flat r1 hx
    subst e1
    rcases hy with rfl | rfl
    · cases r2 with
      | lst m h2 h3 =>
        obtain ⟨e2, h4⟩ := rps_flat h3 hys
        subst e2
        exact ⟨_, _, rfl, .inl (.inl (.inl h2)), h1, h4, q _ _ f .refl (.bl _)⟩
    · cases r2 with
      | tup h2 h3 =>
        obtain ⟨e2, h4⟩ := rps_flat h3 hys
        subst e2
        exact ⟨_, _, rfl, .inr h2.sq, h1, h4, q _ _ f .refl (.bl _)⟩) hm
/-! items by data -/
def D.at (x : D) (i : Int) : Option D := match x with
  | .lst xs => atI xs i
  | .tup xs => atI xs i
  | .scr ns => (atI ns i).map D.int
  | _ => none
theorem ed_ix {i : Int} (ha : Ed F ρ s a x s1) (hb : Ed F ρ s1 b (.int i) s2) (h : x.at i = some d) (hs : PlainIx b := by exact fun _ _ => rfl) : Ed F ρ s (.Subscript a b pos) d s2 := by
  cases x with
  | lst xs => exact ed_ixL ha hb h hs
  | tup xs => exact ed_ixT ha hb h hs
  | scr ns =>
    have h : (atI ns i).map D.int = some d := h
    cases e : atI ns i with
    | none => rw [e] at h; cases h
    | some n => rw [e] at h; cases h; exact ed_ixS ha hb e hs
  | _ => cases h
/-! slices -/
def cutD {α : Type} (xs : List α) (lo hi : Option Int) : List α := (xs.drop (HT.sIx xs.length 0 lo)).take (HT.sIx xs.length xs.length hi - HT.sIx xs.length 0 lo)
theorem rps_cut {K : PySem.W.Frag} {q : Addr} {S : List Addr} {H : Hp} {vs : List V} (r : Rps K q S H vs xs) (lo hi : Option Int) : Rps K q S H (cutV vs lo hi) (cutD xs lo hi) := by
  unfold cutV cutD
  rw [r.length]
  exact (r.drop _).take _
/-- a slice's end -/
inductive Eo (F : Fx) (ρ : List G) (s : Sx) : Option Expr → Option Int → Sx → Prop
  | none : Eo F ρ s none none s
  | some {e : Expr} {i : Int} {s1 : Sx} : Ed F ρ s e (.int i) s1 → Eo F ρ s (some e) (some i) s1
theorem el_slice {lo hi : Option Expr} {i j : Option Int} {p2 : Pos} (ha : Ed F ρ s a (.lst xs) s1) (hl : Eo F ρ s1 lo i s2) (hh : Eo F ρ s2 hi j s3) : El F ρ s (.Subscript a (.Slice lo hi none p2) pos) (cutD xs i j) s3 := by
  have fin : ∀ O σ H H3, Fm F O σ H ρ s → Fm F O σ H3 ρ s3 → XE F H H3 → ∀ v, Rp F.X.K F.p (O ++ F.S0) H3 v (.lst xs) → ∀ Q : VK, (∀ a vs H', Fm F (a :: O) σ H' ρ s3 → XE F H H' → H a = none → H' a = some (.lst vs) → Rps F.X.K F.p (a :: (O ++ F.S0)) H' vs (cutD xs i j) → Q (.ref a) H') → rSlL F.X.K v i j H3 Q := by
    intro O σ H H3 f f3 x3 v r Q q
    cases r with
    | lst m h1 h2 => exact ⟨_, _, rfl, .inl (.inl h1), fun t n => q t _ _ (f3.newO n) (x3.trans (.new n)) (x3.2 t n) upd_same (((rps_cut h2 i j).fresh n).ext (.new n))⟩
  cases hl with
  | none =>
    cases hh with
    | none => exact ⟨ha.1, fun O σ H f Q q => we (pe_slice sl_list pe_we po_none po_none) (ha.2 O σ H f _ fun v H1 f1 x1 r1 => fin O σ H H1 f f1 x1 v r1 Q q)⟩
    | some hb => exact ⟨ha.1.trans hb.1, fun O σ H f Q q => we (pe_slice sl_list pe_we po_none (po_some pe_we)) (ha.2 O σ H f _ fun v H1 f1 x1 r1 => hb.2 O σ H1 f1 _ fun w H2 f2 x2 r2 => by
        cases r2; exact ⟨_, rfl, fin O σ H H2 f f2 (x1.trans x2) v (r1.ext x2.xt) Q q⟩)⟩
  | some hc =>
    cases hh with
    | none => exact ⟨ha.1.trans hc.1, fun O σ H f Q q => we (pe_slice sl_list pe_we (po_some pe_we) po_none) (ha.2 O σ H f _ fun v H1 f1 x1 r1 => hc.2 O σ H1 f1 _ fun w H2 f2 x2 r2 => by
        cases r2; exact ⟨_, rfl, fin O σ H H2 f f2 (x1.trans x2) v (r1.ext x2.xt) Q q⟩)⟩
    | some hb => exact ⟨(ha.1.trans hc.1).trans hb.1, fun O σ H f Q q => we (pe_slice sl_list pe_we (po_some pe_we) (po_some pe_we)) (ha.2 O σ H f _ fun v H1 f1 x1 r1 => hc.2 O σ H1 f1 _ fun w H2 f2 x2 r2 => by
        cases r2
        exact ⟨_, rfl, hb.2 O σ H2 f2 _ fun w H3 f3 x3 r3 => by cases r3; exact ⟨_, rfl, fin O σ H H3 f f3 ((x1.trans x2).trans x3) v ((r1.ext x2.xt).ext x3.xt) Q q⟩⟩)⟩
end
end Gh
set_option Elab.async false
set_option linter.all false
set_option maxRecDepth 100000
namespace Gh
open PySem PySem.Spec PyProof.Rows L2
/-! ### what is walked -/
def WI (X : Cx) (tg iter : Expr) : TI := fun σ H R => ∀ pins s, Inv X pins σ H s →
  wpAny (model X.prog X.w) X.A (eval iter X.env) (fun v s1 => wpAny (model X.prog X.w) X.A (pyIter v) (PIE X pins σ tg R) X.xe s1) X.xe s
theorem pi_wi {X : Cx} {tg iter : Expr} : PI X tg iter (WI X tg iter) := ⟨fun pins s _ _ _ I h => h pins s I⟩
theorem wi {X : Cx} {tg iter : Expr} {w : TI} {σ : L2.St} {H : Hp} {R : It → Hp → Prop} (p : PI X tg iter w) (h : w σ H R) : WI X tg iter σ H R := fun pins s I => p.run pins s σ H R I h
/-- at each turn the next of these data, whatever else has come to the heap; it holds none of what is owned then -/
def Yd (F : Fx) (O : List Addr) (H1 : Hp) (items : List D) : Nat → Hp → V → Hp → Prop := fun i H x H' => (∀ a o, H a = some o → H' a = some o) ∧
  ∃ d, items[i]? = some d ∧ ∀ O' : List Addr, (∀ a ∈ O', (a ∈ O ∨ H1 a = none) ∧ ∃ o, H a = some o) → Rp F.X.K F.p (O' ++ F.S0) H' x d
def Ei (F : Fx) (ρ : List G) (s : Sx) (tg iter : Expr) (items : List D) (s' : Sx) : Prop :=
  s.isSome = s'.isSome ∧ ∀ O σ H, Fm F O σ H ρ s → ∀ R : It → Hp → Prop, (∀ J H', Fm F O σ H' ρ s' → XE F H H' → Walk J items.length (fun H2 => XT (O ++ F.S0) H' H2) (Yd F O H' items) → R J H') → WI F.X tg iter σ H R
theorem rp_later {F : Fx} {O O' : List Addr} {H1 H2 : Hp} {v : V} {d : D} (r : Rp F.X.K F.p (O ++ F.S0) H1 v d) (x : XT (O ++ F.S0) H1 H2) (h : ∀ a ∈ O', a ∈ O ∨ H1 a = none) : Rp F.X.K F.p (O' ++ F.S0) H2 v d := by
  have r1 : Rp F.X.K F.p (O ++ (O' ++ F.S0)) H1 v d := r.to fun b m => by
    rcases List.mem_append.mp m with m | m
    · exact .inl (List.mem_append_left _ m)
    · rcases List.mem_append.mp m with m | m
      · exact (h b m).imp (fun m => List.mem_append_left _ m) id
      · exact .inl (List.mem_append_right _ m)
  refine (r1.ext (x.mono fun a m => ?_)).weak fun a m => List.mem_append_right _ m
  rcases List.mem_append.mp m with m | m
  · exact List.mem_append_left _ m
  · exact List.mem_append_right _ (List.mem_append_right _ m)
section
variable {F : Fx} {ρ : List G} {s s1 s2 s3 : Sx} {tg a b e : Expr} {es : List Expr} {x y d : D} {xs ys ds items : List D} {pos p : Pos}
theorem all_ext {H H' : Hp} : H' = H → ∀ a o, H a = some o → H' a = some o := fun e a o h => by rw [e]; exact h
theorem ei_seq (ha : Ed F ρ s a x s1) (hx : x = .lst xs ∨ x = .tup xs) : Ei F ρ s tg a xs s1 := by
  rcases hx with rfl | rfl
  · refine ⟨ha.1, fun O σ H f R q => wi (pi_list pe_we) (ha.2 O σ H f _ fun v H1 f1 x1 r1 => ?_)⟩
    cases r1 with
    | lst m h1 h2 =>
      refine ⟨_, rfl, ⟨_, .inl (.inl h1)⟩, q _ _ f1 x1 ?_⟩
      rw [← h2.length]
      refine walk_list.mono (fun H2 x2 => .inl (.inl (x2.1 _ _ m h1 nt_lst))) fun i H2 z H3 hi x2 y => ?_
      obtain ⟨e, y⟩ := y
      subst e
      obtain ⟨d, e1, e2⟩ := h2.getV y
      exact ⟨fun _ _ h => h, d, e1, fun O' g => rp_later e2 x2 fun a m => (g a m).1⟩
  · refine ⟨ha.1, fun O σ H f R q => wi (pi_tup pe_we) (ha.2 O σ H f _ fun v H1 f1 x1 r1 => ?_)⟩
    cases r1 with
    | tup h1 h2 =>
      refine ⟨_, rfl, ⟨_, h1.sq⟩, q _ _ f1 x1 ?_⟩
      rw [← h2.length]
      refine walk_tup.mono (fun H2 x2 => ?_) fun i H2 z H3 hi x2 y => ?_
      · rcases h1 with ⟨m, h1⟩ | h1
        · exact .inl (rd_ext x2 m h1 (by first | exact nt_tup | exact nt_lst))
        · exact (SU.sq (S := []) (.inr h1))
      · obtain ⟨e, y⟩ := y
        subst e
        obtain ⟨d, e1, e2⟩ := h2.getV y
        exact ⟨fun _ _ h => h, d, e1, fun O' g => rp_later e2 x2 fun a m => (g a m).1⟩
theorem ei_scr {ns : List Int} (ha : Ed F ρ s a (.scr ns) s1) : Ei F ρ s tg a (ns.map D.int) s1 := by
  refine ⟨ha.1, fun O σ H f R q => wi (pi_list pe_we) (ha.2 O σ H f _ fun v H1 f1 x1 r1 => ?_)⟩
  cases r1 with
  | scr h1 =>
    refine ⟨_, rfl, ⟨_, h1.sq⟩, q _ _ f1 x1 ?_⟩
    have hl : (ns.map D.int).length = (ns.map V.int).length := by simp
    rw [hl]
    refine walk_list.mono (fun H2 x2 => ?_) fun i H2 z H3 hi x2 y => ?_
    · rcases h1 with ⟨m, h1⟩ | h1
      · exact .inl (rd_ext x2 m h1 (by first | exact nt_tup | exact nt_lst))
      · exact (SL.sq (S := []) (.inr h1))
    · obtain ⟨e, y⟩ := y
      subst e
      rw [List.getElem?_map] at y
      cases e : ns[i]? with
      | none => rw [e] at y; cases y
      | some n =>
        rw [e] at y
        cases y
        exact ⟨fun _ _ h => h, .int n, by rw [List.getElem?_map, e]; rfl, fun _ _ => .int n⟩
/-- lo, lo + 1, .. -/
def rangeD (lo : Int) (n : Nat) : List D := (List.range n).map fun (i : Nat) => D.int (lo + i)
theorem rangeD_get {lo : Int} {n i : Nat} (h : i < n) : (rangeD lo n)[i]? = some (.int (lo + i)) := by
  unfold rangeD
  rw [List.getElem?_map, List.getElem?_range h]
  rfl
theorem rangeD_length {lo : Int} {n : Nat} : (rangeD lo n).length = n := by simp [rangeD]
theorem ei_range1 {j : Int} (B : Bf F.X.mg) (ha : Ed F ρ s a (.int j) s1) (h1 : -(2 ^ 62) ≤ j) (h2 : j < 2 ^ 62) (hg : Gl F.X "range" := by rfl) (he : starEach [a] F.X.env = [(false, eval a F.X.env)] := by rfl) : Ei F ρ s tg (.Call (.Name "range" p) [a] [] pos) (rangeD 0 j.toNat) s1 := by
  refine ⟨ha.1, fun O σ H f R q => wi (pi_range1 hg B.range (pa_cons pe_we pa_nil (by rw [he]; rfl)) he) (ha.2 O σ H f _ fun v H1 f1 x1 r1 => ?_)⟩
  cases r1
  refine ⟨j, rfl, h1, h2, q _ _ f1 x1 ?_⟩
  rw [rangeD_length]
  refine walk_range.mono (fun _ _ => trivial) fun i H2 z H3 hi x2 y => ?_
  obtain ⟨e, rfl⟩ := y
  subst e
  exact ⟨fun _ _ h => h, _, rangeD_get hi, fun _ _ => .int _⟩
theorem ei_range2 {i j : Int} (B : Bf F.X.mg) (ha : Ed F ρ s a (.int i) s1) (hb : Ed F ρ s1 b (.int j) s2) (h : -(2 ^ 62) ≤ i ∧ i < 2 ^ 62 ∧ -(2 ^ 62) ≤ j ∧ j < 2 ^ 62) (hg : Gl F.X "range" := by rfl) (he : starEach [a, b] F.X.env = [(false, eval a F.X.env), (false, eval b F.X.env)] := by rfl) (he2 : starEach [b] F.X.env = [(false, eval b F.X.env)] := by rfl) :
    Ei F ρ s tg (.Call (.Name "range" p) [a, b] [] pos) (rangeD i (j - i).toNat) s2 := by
  refine ⟨ha.1.trans hb.1, fun O σ H f R q => wi (pi_range2 hg B.range (pa_cons pe_we (pa_cons pe_we pa_nil (by rw [he2]; rfl)) (by rw [he, he2])) he he2) (ha.2 O σ H f _ fun v H1 f1 x1 r1 => hb.2 O σ H1 f1 _ fun w H2 f2 x2 r2 => ?_)⟩
  cases r1
  cases r2
  refine ⟨i, j, rfl, h, q _ _ f2 (x1.trans x2) ?_⟩
  rw [rangeD_length]
  refine walk_range.mono (fun _ _ => trivial) fun i H2 z H3 hi x2 y => ?_
  obtain ⟨e, rfl⟩ := y
  subst e
  exact ⟨fun _ _ h => h, _, rangeD_get hi, fun _ _ => .int _⟩
/-- zip of two lists -/
def zipD (xs ys : List D) : List D := List.zipWith (fun x y => D.tup [x, y]) xs ys
theorem ei_zip {kk : Nat} {tpos : Pos} {elts : List Expr} (B : Bf F.X.mg) (ha : Ed F ρ s a (.lst xs) s1) (hb : Ed F ρ s1 b (.lst ys) s2) (hg : Gl F.X "zip" := by rfl) (he : starEach [a, b] F.X.env = (false, eval a F.X.env) :: starEach [b] F.X.env := by rfl)
    (he2 : starEach [b] F.X.env = (false, eval b F.X.env) :: starEach [] F.X.env := by rfl) (hpl : (backTo pos (starEach [b] F.X.env)).any (·.1) = false := by rfl) : Ei F ρ s (.Tuple elts kk tpos) (.Call (.Name "zip" p) [a, b] [] pos) (zipD xs ys) s2 := by
  refine ⟨ha.1.trans hb.1, fun O σ H f R q => wi (pi_zip hg B.zip (pa_cons pe_we (pa_cons pe_we pa_nil he2) he) he hpl) (ha.2 O σ H f _ fun v H1 f1 x1 r1 => hb.2 O σ H1 f1 _ fun w H2 f2 x2 r2 => ?_)⟩
  cases r1.ext x2.xt with
  | lst m1 h1 h2 =>
    cases r2 with
    | lst m3 h3 h4 =>
      refine ⟨_, _, _, _, rfl, .inl (.inl h1), .inl (.inl h3), q _ _ f2 (x1.trans x2) ?_⟩
      refine (walk_zip (n := (zipD xs ys).length) (by simp [zipD, h2.length, h4.length])).mono (fun H3 x3 => ⟨.inl (.inl (x3.1 _ _ m1 h1 nt_lst)), .inl (.inl (x3.1 _ _ m3 h3 nt_lst))⟩) fun i H3 z H4 hi x3 y => ?_
      obtain ⟨T, u, t, rfl, n, rfl, e1, e2⟩ := y
      obtain ⟨d1, g1, k1⟩ := h2.getV e1
      obtain ⟨d2, g2, k2⟩ := h4.getV e2
      refine ⟨fun c o h => by rw [upd_ne (ne_of_none h n)]; exact h, .tup [d1, d2], by simp [zipD, List.getElem?_zipWith, g1, g2], fun O' g => ?_⟩
      have nT : T ∉ O' ++ F.S0 := fun m => by
        rcases List.mem_append.mp m with m | m
        · obtain ⟨_, o, ho⟩ := g T m
          rw [n] at ho; cases ho
        · exact f2.fresh (x3.2 T n) (List.mem_append_right _ m)
      exact .tup (.inl ⟨nT, .inl upd_same⟩) (.cons ((rp_later k1 x3 fun a m => (g a m).1).ext (.new n)) (.cons ((rp_later k2 x3 fun a m => (g a m).1).ext (.new n)) .nil))
/-- enumerate of a list -/
def enumD (xs : List D) : List D := List.zipWith (fun (i : Nat) x => D.tup [.int i, x]) (List.range xs.length) xs
theorem enumD_length (xs : List D) : (enumD xs).length = xs.length := by simp [enumD]
theorem enumD_get {xs : List D} {i : Nat} {d : D} (h : xs[i]? = some d) : (enumD xs)[i]? = some (.tup [.int i, d]) := by
  have hi : i < xs.length := (List.getElem?_eq_some_iff.mp h).1
  simp [enumD, List.getElem?_zipWith, List.getElem?_range hi, h]
theorem ei_enum {kk : Nat} {tpos : Pos} {elts : List Expr} (B : Bf F.X.mg) (ha : Ed F ρ s a (.lst xs) s1) (hg : Gl F.X "enumerate" := by rfl) (he : starEach [a] F.X.env = [(false, eval a F.X.env)] := by rfl) :
    Ei F ρ s (.Tuple elts kk tpos) (.Call (.Name "enumerate" p) [a] [] pos) (enumD xs) s1 := by
  refine ⟨ha.1, fun O σ H f R q => wi (pi_enum hg B.enum (pa_cons pe_we pa_nil (by rw [he]; rfl)) he) (ha.2 O σ H f _ fun v H1 f1 x1 r1 => ?_)⟩
  cases r1 with
  | lst m1 h1 h2 =>
    refine ⟨_, _, rfl, .inl (.inl h1), q _ _ f1 x1 ?_⟩
    rw [enumD_length, ← h2.length]
    refine walk_enum.mono (fun H3 x3 => .inl (.inl (x3.1 _ _ m1 h1 nt_lst))) fun i H3 z H4 hi x3 y => ?_
    obtain ⟨T, u, t, rfl, n, rfl, e1, e2⟩ := y
    cases e1
    obtain ⟨d2, g2, k2⟩ := h2.getV e2
    refine ⟨fun c o h => by rw [upd_ne (ne_of_none h n)]; exact h, _, enumD_get g2, fun O' g => ?_⟩
    have nT : T ∉ O' ++ F.S0 := fun m => by
      rcases List.mem_append.mp m with m | m
      · obtain ⟨_, o, ho⟩ := g T m
        rw [n] at ho; cases ho
      · exact f1.fresh (x3.2 T n) (List.mem_append_right _ m)
    exact .tup (.inl ⟨nT, .inl upd_same⟩) (.cons (.int _) (.cons ((rp_later k2 x3 fun a m => (g a m).1).ext (.new n)) .nil))
end
end Gh
set_option Elab.async false
set_option linter.all false
set_option maxRecDepth 100000
namespace Gh
open PySem PySem.Spec PyProof.Rows L2
/-! ### a list that is only looked at: of data, or owned -/
def Ev (F : Fx) (ρ : List G) (s : Sx) (e : Expr) (ds : List D) (s' : Sx) : Prop :=
  s.isSome = s'.isSome ∧ ∀ O σ H, Fm F O σ H ρ s → ∀ Q : VK, (∀ a vs H', Fm F O σ H' ρ s' → XE F H H' → H' a = some (.lst vs) → ¬ (F.act = true ∧ a = F.p ∧ a ∈ F.S0) → Rps F.X.K F.p (O ++ F.S0) H' vs ds → Q (.ref a) H') → WE F.X e σ H Q
section
variable {F : Fx} {ρ : List G} {s s1 s2 s3 : Sx} {tg a b c e : Expr} {es : List Expr} {x y d : D} {xs ys ds items : List D} {pos p : Pos} {k : GE}
theorem Ed.ev (h : Ed F ρ s e (.lst ds) s1) : Ev F ρ s e ds s1 := ⟨h.1, fun O σ H f Q q => h.2 O σ H f Q fun v H1 f1 x1 r1 => by
  cases r1 with
  | lst m h1 h2 => exact q _ _ _ f1 x1 h1 (fun z => m (List.mem_append_right _ z.2.2)) h2⟩
theorem El.ev (h : El F ρ s e ds s1) : Ev F ρ s e ds s1 := h.ed.ev
theorem ev_own (i : Nat) {x : Str} (hN : F.X.N[i]? = some x) (hv : Vis F.X.env.scope x) (hρ : ρ[i]? = some (.own ds)) (hd : (x == ("__debug__" : Str)) = false := by decide) (hcd : (x == ("__classdict__" : Str)) = false := by decide) : Ev F ρ s (.Name x pos) ds s :=
  ⟨rfl, fun O σ H f Q q => by
    obtain ⟨o, ho, a, vs, e, m, h, r, _⟩ := f.slot i _ hρ
    subst e
    exact we (pe_var hN hv hd hcd) ⟨_, ho, q a vs H f .refl h (fun z => (f.fre a (f.own i _ ds a hρ ho)).2 z.2.2) r⟩⟩
theorem ed_lenV (B : Bf F.X.mg) (ha : Ev F ρ s a xs s1) (hg : Gl F.X "len" := by rfl) (he : starEach [a] F.X.env = (false, eval a F.X.env) :: starEach [] F.X.env := by rfl) : Ed F ρ s (.Call (.Name "len" p) [a] [] pos) (.int xs.length) s1 :=
  ⟨ha.1, fun O σ H f Q q => we (pe_callB call_len_seq hg B.len boot_len (pa_cons pe_we pa_nil he) (by decide) (by decide) he rfl) (ha.2 O σ H f _ fun a vs H1 f1 x1 h1 n r => ⟨_, _, rfl, .inl (.inl (.inl h1)), by rw [r.length]; exact q _ _ f1 x1 (.int _)⟩)⟩
theorem ed_ixV {i : Int} (ha : Ev F ρ s a xs s1) (hb : Ed F ρ s1 b (.int i) s2) (h : atI xs i = some d) (hs : PlainIx b := by exact fun _ _ => rfl) : Ed F ρ s (.Subscript a b pos) d s2 :=
  ⟨ha.1.trans hb.1, fun O σ H f Q q => we (pe_ix ix_list pe_we pe_we hs) (ha.2 O σ H f _ fun a vs H1 f1 x1 h1 n r1 => hb.2 O σ H1 f1 _ fun w H2 f2 x2 r2 => by
    cases r2
    obtain ⟨v, e, r⟩ := atI_rps (r1.ext x2.xt) h
    exact ⟨_, _, i, v, rfl, rfl, .inl (.inl (x2.1 _ _ n h1 nt_lst)), e, q v H2 f2 (x1.trans x2) r⟩)⟩
theorem el_sliceV {lo hi : Option Expr} {i j : Option Int} {p2 : Pos} (ha : Ev F ρ s a xs s1) (hl : Eo F ρ s1 lo i s2) (hh : Eo F ρ s2 hi j s3) : El F ρ s (.Subscript a (.Slice lo hi none p2) pos) (cutD xs i j) s3 := by
  have fin : ∀ O σ H H3, Fm F O σ H ρ s → Fm F O σ H3 ρ s3 → XE F H H3 → ∀ a vs, H3 a = some (.lst vs) → Rps F.X.K F.p (O ++ F.S0) H3 vs xs → ∀ Q : VK, (∀ a vs H', Fm F (a :: O) σ H' ρ s3 → XE F H H' → H a = none → H' a = some (.lst vs) → Rps F.X.K F.p (a :: (O ++ F.S0)) H' vs (cutD xs i j) → Q (.ref a) H') → rSlL F.X.K (.ref a) i j H3 Q := by
    intro O σ H H3 f f3 x3 a vs h1 h2 Q q
    exact ⟨_, _, rfl, .inl (.inl h1), fun t n => q t _ _ (f3.newO n) (x3.trans (.new n)) (x3.2 t n) upd_same (((rps_cut h2 i j).fresh n).ext (.new n))⟩
  cases hl with
  | none =>
    cases hh with
    | none => exact ⟨ha.1, fun O σ H f Q q => we (pe_slice sl_list pe_we po_none po_none) (ha.2 O σ H f _ fun v vs H1 f1 x1 h1 n r1 => fin O σ H H1 f f1 x1 v vs h1 r1 Q q)⟩
    | some hb => exact ⟨ha.1.trans hb.1, fun O σ H f Q q => we (pe_slice sl_list pe_we po_none (po_some pe_we)) (ha.2 O σ H f _ fun v vs H1 f1 x1 h1 n r1 => hb.2 O σ H1 f1 _ fun w H2 f2 x2 r2 => by
        cases r2; exact ⟨_, rfl, fin O σ H H2 f f2 (x1.trans x2) v vs (x2.1 _ _ n h1 nt_lst) (r1.ext x2.xt) Q q⟩)⟩
  | some hc =>
    cases hh with
    | none => exact ⟨ha.1.trans hc.1, fun O σ H f Q q => we (pe_slice sl_list pe_we (po_some pe_we) po_none) (ha.2 O σ H f _ fun v vs H1 f1 x1 h1 n r1 => hc.2 O σ H1 f1 _ fun w H2 f2 x2 r2 => by
        cases r2; exact ⟨_, rfl, fin O σ H H2 f f2 (x1.trans x2) v vs (x2.1 _ _ n h1 nt_lst) (r1.ext x2.xt) Q q⟩)⟩
    | some hb => exact ⟨(ha.1.trans hc.1).trans hb.1, fun O σ H f Q q => we (pe_slice sl_list pe_we (po_some pe_we) (po_some pe_we)) (ha.2 O σ H f _ fun v vs H1 f1 x1 h1 n r1 => hc.2 O σ H1 f1 _ fun w H2 f2 x2 r2 => by
        cases r2
        exact ⟨_, rfl, hb.2 O σ H2 f2 _ fun w H3 f3 x3 r3 => by cases r3; exact ⟨_, rfl, fin O σ H H3 f f3 ((x1.trans x2).trans x3) v vs (x3.1 _ _ n (x2.1 _ _ n h1 nt_lst) nt_lst) ((r1.ext x2.xt).ext x3.xt) Q q⟩⟩)⟩
theorem el_catV (hl : xs.length + ys.length ≤ sizeLine) (ha : Ev F ρ s a xs s1) (hb : Ev F ρ s1 b ys s2) : El F ρ s (.BinOp a .Add b pos) (xs ++ ys) s2 :=
  ⟨ha.1.trans hb.1, fun O σ H f Q q => we (pe_op op_cat pe_we pe_we) (ha.2 O σ H f _ fun v vs H1 f1 x1 h1 n1 r1 => hb.2 O σ H1 f1 _ fun w ws H2 f2 x2 h2 n2 r2 =>
    ⟨_, _, _, _, rfl, rfl, x2.1 _ _ n1 h1 nt_lst, h2, by rw [r1.length, r2.length]; exact hl, fun t n => q t _ _ (f2.newO n) ((x1.trans x2).trans (.new n)) (x1.2 t (x2.2 t n)) upd_same ((((r1.ext x2.xt).append r2).fresh n).ext (.new n))⟩)⟩
theorem cp_eqV {n : Nat} (hr : Room n F.X.A) (ha : Ev F ρ s a xs s1) (hb : Ev F ρ s1 b ys s2) (hx : (D.lst xs).eqC) (hy : (D.lst ys).eqC) : Cp F ρ s .Eq a b ((D.lst xs).eqb (.lst ys)) s2 :=
  ⟨ha.1.trans hb.1, nomark _, _, op_eqD hr.units, fun O σ H f Q q => ha.2 O σ H f _ fun v vs H1 f1 x1 h1 n1 r1 => hb.2 O σ H1 f1 _ fun w ws H2 f2 x2 h2 n2 r2 =>
    ⟨.list (D.pys xs), .list (D.pys ys), .lst (.inl (.inl (x2.1 _ _ n1 h1 nt_lst))) (Rps.dp xs _ (r1.ext x2.xt) (by have := hx.1; unfold D.pure at this; exact this)), .lst (.inl (.inl h2)) (Rps.dp ys _ r2 (by have := hy.1; unfold D.pure at this; exact this)),
      by have := hx.2; unfold D.py at this; exact this, by have := hy.2; unfold D.py at this; exact this, by
        have e : (D.lst xs).eqb (.lst ys) = PyData.eqv (.list (D.pys xs)) (.list (D.pys ys)) := by unfold D.eqb; rw [D.py.eq_def, D.py.eq_def]
        rw [← e]
        exact q _ f2 (x1.trans x2)⟩⟩
theorem cp_neV {n : Nat} (hr : Room n F.X.A) (ha : Ev F ρ s a xs s1) (hb : Ev F ρ s1 b ys s2) (hx : (D.lst xs).eqC) (hy : (D.lst ys).eqC) : Cp F ρ s .NotEq a b (!(D.lst xs).eqb (.lst ys)) s2 :=
  ⟨ha.1.trans hb.1, nomark _, _, op_neD hr.units, fun O σ H f Q q => ha.2 O σ H f _ fun v vs H1 f1 x1 h1 n1 r1 => hb.2 O σ H1 f1 _ fun w ws H2 f2 x2 h2 n2 r2 =>
    ⟨.list (D.pys xs), .list (D.pys ys), .lst (.inl (.inl (x2.1 _ _ n1 h1 nt_lst))) (Rps.dp xs _ (r1.ext x2.xt) (by have := hx.1; unfold D.pure at this; exact this)), .lst (.inl (.inl h2)) (Rps.dp ys _ r2 (by have := hy.1; unfold D.pure at this; exact this)),
      by have := hx.2; unfold D.py at this; exact this, by have := hy.2; unfold D.py at this; exact this, by
        have e : (D.lst xs).eqb (.lst ys) = PyData.eqv (.list (D.pys xs)) (.list (D.pys ys)) := by unfold D.eqb; rw [D.py.eq_def, D.py.eq_def]
        rw [← e]
        exact q _ f2 (x1.trans x2)⟩⟩


/-! ### targets -/
def WG (X : Cx) (tg : Expr) : TG := fun v σ H Q => ∀ pins s u, Inv X pins σ H s → RelV v u → wpAny (model X.prog X.w) X.A (assign tg X.env u) (fun _ s' => ∃ σ' H', Inv X pins σ' H' s' ∧ Q σ' H') X.xe s
theorem pg_wg {X : Cx} {tg : Expr} : PG X tg (WG X tg) := ⟨fun pins s _ _ _ u _ I r h => h pins s u I r⟩
theorem wg {X : Cx} {tg : Expr} {g : TG} {v : V} {σ : L2.St} {H : Hp} {Q : L2.St → Hp → Prop} (p : PG X tg g) (h : g v σ H Q) : WG X tg v σ H Q := fun pins s u I r => p.run pins s σ H v u Q I r h
def WGs (X : Cx) (ts : List Expr) : TGs := fun vs σ H Q => ∀ pins s us, Inv X pins σ H s → Vals vs us → wpAny (model X.prog X.w) X.A (assignInOrder ((assignEach ts X.env).map (·.2)) us) (fun _ s' => ∃ σ' H', Inv X pins σ' H' s' ∧ Q σ' H') X.xe s
theorem pgs_wgs {X : Cx} {ts : List Expr} : PGs X ts (WGs X ts) := ⟨fun pins s _ _ _ us _ I r h => h pins s us I r⟩
theorem wgs {X : Cx} {ts : List Expr} {g : TGs} {vs : List V} {σ : L2.St} {H : Hp} {Q : L2.St → Hp → Prop} (p : PGs X ts g) (h : g vs σ H Q) : WGs X ts vs σ H Q := fun pins s us I r => p.run pins s σ H vs us Q I r h
/-- tg = a thing worth d: the names' data behind it; js: the slots that are stored -/
def Eg (F : Fx) (tg : Expr) (d : D) (ρ ρ' : List G) (js : List Nat) : Prop := ∀ O σ H v s, Fm F O σ H ρ s → Rp F.X.K F.p (O ++ F.S0) H v d → ∀ Q : L2.St → Hp → Prop,
  (∀ σ', Fm F O σ' H ρ' s → σ'.length = σ.length → (∀ j, j ∉ js → σ'[j]? = σ[j]?) → Q σ' H) → WG F.X tg v σ H Q
def Egs (F : Fx) (ts : List Expr) (ds : List D) (ρ ρ' : List G) (js : List Nat) : Prop := ∀ O σ H vs s, Fm F O σ H ρ s → Rps F.X.K F.p (O ++ F.S0) H vs ds → ∀ Q : L2.St → Hp → Prop,
  (∀ σ', Fm F O σ' H ρ' s → σ'.length = σ.length → (∀ j, j ∉ js → σ'[j]? = σ[j]?) → Q σ' H) → WGs F.X ts vs σ H Q
theorem eg_name (i : Nat) {x : Str} {ρ : List G} (hN : F.X.N.Nodup) (hi : F.X.N[i]? = some x) (hx : Loc F.X.env.scope x) (hf : F.X.fn x = true ∨ F.X.env.scope.names.lookup x = some .local := by first | exact .inl rfl | exact .inr rfl | assumption) : Eg F (.Name x pos) d ρ (ρ.set i (.val d)) [i] :=
  fun O σ H v s f r Q q => wg (pg_name hN hi hx hf) (q _ (f.set r) (by simp) fun j m => by rw [List.getElem?_set_ne (fun z => m (by simp [z]))])
theorem egs_nil {ρ : List G} : Egs F [] [] ρ ρ [] := fun O σ H vs s f r Q q => by
  cases r
  exact wgs pgs_nil ⟨rfl, q σ f rfl fun _ _ => rfl⟩
theorem egs_cons {t : Expr} {ts : List Expr} {ρ ρ1 ρ2 : List G} {js ks : List Nat} (h1 : Eg F t d ρ ρ1 js) (h2 : Egs F ts ds ρ1 ρ2 ks) (hs : (assignEach (t :: ts) F.X.env).map (·.2) = assign t F.X.env :: (assignEach ts F.X.env).map (·.2) := by rfl) : Egs F (t :: ts) (d :: ds) ρ ρ2 (js ++ ks) := fun O σ H vs s f r Q q => by
  cases r with
  | cons r1 r2 =>
    refine wgs (pgs_cons pg_wg pgs_wgs hs) ⟨_, _, rfl, h1 O σ H _ s f r1 _ fun σ1 f1 l1 e1 => h2 O σ1 H _ s f1 r2 _ fun σ2 f2 l2 e2 => q σ2 f2 (l2.trans l1) fun j m => ?_⟩
    rw [e2 j fun z => m (List.mem_append_right _ z), e1 j fun z => m (List.mem_append_left _ z)]
theorem eg_tup {ts : List Expr} {kk : Nat} {ρ ρ' : List G} {js : List Nat} (hc : F.X.calm = true) (h : Egs F ts ds ρ ρ' js) (hn : (assignEach ts F.X.env).length = ds.length := by rfl) (hst : (assignEach ts F.X.env).findIdx? (·.1) = none := by rfl) : Eg F (.Tuple ts kk pos) (.tup ds) ρ ρ' js := fun O σ H v s f r Q q => by
  cases r with
  | tup h1 h2 => exact wg (pg_tup hc pgs_wgs hn hst) ⟨_, _, rfl, h1.sq, h2.length, h O σ H _ s f h2 Q q⟩
/-- tg = e -/
theorem bs_asg {ρ' : List G} {js : List Nat} (h : Ed F ρ s e d s1) (hg : Eg F tg d ρ ρ' js) (hk : k.nx ρ' s1) (hs : swapsWithSole [tg] e pos.line F.X.env = pure false := by rfl) (hw : swappedStores [tg] e F.X.env = pure none := by rfl)
    (h1 : (assignEach [tg] F.X.env).map (·.2) = [assign tg F.X.env] := by rfl) : Bs F (.Assign [tg] e pos) ρ s k :=
  fun O σ H f E q => ws (ps_asg pe_we pg_wg hs hw h1) (h.2 O σ H f _ fun v H1 f1 x1 r1 => hg O σ H1 v s1 f1 r1 _ fun σ' f' _ _ => q.nx O σ' H1 ρ' s1 f' (.of x1.xt) hk)
/-- a, b = e1, e2 -/
theorem bs_par (i j : Nat) {x y : Str} {px py pt : Pos} {kt k2} {pt2 : Pos} {d1 d2 : D} (hc : F.X.calm = true) (hN : F.X.N.Nodup) (hi : F.X.N[i]? = some x) (hj : F.X.N[j]? = some y) (hij : i ≠ j) (hx : F.X.env.scope.names.lookup x = some .local) (hy : F.X.env.scope.names.lookup y = some .local)
    (ha : Ea F ρ s [a, b] [d1, d2] s1) (hk : k.nx ((ρ.set i (.val d1)).set j (.val d2)) s1) (hw : swappedStores [.Tuple [.Name x px, .Name y py] kt pt] (.Tuple [a, b] k2 pt2) F.X.env = pure (some [x, y]) := by rfl) (hs : swapsWithSole [.Tuple [.Name x px, .Name y py] kt pt] (.Tuple [a, b] k2 pt2) pos.line F.X.env = pure false := by rfl) :
    Bs F (.Assign [.Tuple [.Name x px, .Name y py] kt pt] (.Tuple [a, b] k2 pt2) pos) ρ s k :=
  fun O σ H f E q => ws (ps_par hc hN hi hj hij hx hy pa_wa hw hs) (ha.2 O σ H f _ fun vs H1 f1 x1 r1 => by
    cases r1 with
    | cons r1 r2 =>
      cases r2 with
      | cons r2 r3 =>
        cases r3
        exact ⟨_, _, rfl, q.nx O _ H1 _ s1 ((f1.set r1).set r2) (.of x1.xt) hk⟩)

theorem Fm.all {O : List Addr} {σ : L2.St} {H H' : Hp} (f : Fm F O σ H ρ s) (h : ∀ a o, H a = some o → H' a = some o) : Fm F O σ H' ρ s := by
  have xn : ∀ a, H' a = none → H a = none := fun a e => by
    cases e' : H a with
    | none => rfl
    | some o => rw [h a o e'] at e; cases e
  refine f.grow ⟨fun a o e _ _ => h a o e, xn⟩ rfl ?_
  have q := f.st
  cases s with
  | none => exact LamX.Tabs.ext q h
  | some ds =>
    obtain ⟨q1, q2, vs, q3, q4⟩ := q
    exact ⟨LamX.Tabs.ext q1 h, q2, vs, h _ _ q3, q4.ext ⟨fun a o _ e _ => h a o e, xn⟩⟩
theorem xt_all {S : List Addr} {H H' : Hp} (h : ∀ a o, H a = some o → H' a = some o) : XT S H H' := ⟨fun a o _ e _ => h a o e, fun a e => by
  cases e' : H a with
  | none => rfl
  | some o => rw [h a o e'] at e; cases e⟩
theorem bs_for {body : List Stmt} (hp : PassesOwn (model F.X.prog F.X.w) F.X.A F.X.env F.X.xe) (hc : F.X.calm = true) (hi : Ei F ρ s tg e items s1) (I : Nat → List G → Sx → Prop) (h0 : I 0 ρ s1)
    (turn : ∀ i d ρ' s', items[i]? = some d → I i ρ' s' → ∃ ρ2 js, Eg F tg d ρ' ρ2 js ∧ Bk F body ρ2 s' { nx := I (i + 1), ct := I (i + 1), bk := k.nx, rt := k.rt, xc := k.xc })
    (hd : ∀ ρ' s', I items.length ρ' s' → k.nx ρ' s') (hs : ∀ x, foldedSetIterable e F.X.env x = pure x := by intro _; rfl) : Bs F (.For tg e body [] pos) ρ s k :=
  fun O σ H f E q => ws (ps_for hp hc pi_wi pg_wg pss_wb hs) (hi.2 O σ H f _ fun J H1 f1 x1 w => by
    refine for_it w (fun i σ' H' => ∃ O' ρ' s', Fm F O' σ' H' ρ' s' ∧ Step F O H1 O' H' ∧ I i ρ' s') ⟨O, ρ, s1, f1, .refl, h0⟩ (fun i σ' H' _ ⟨O', ρ', s', f', t, _⟩ => t.xt) ?_ ?_
    · rintro i v σ' H' H2 hi ⟨O', ρ', s', f', t, iv⟩ ⟨ha, d, hd', hr⟩
      obtain ⟨ρ2, js, hg, hb⟩ := turn i d ρ' s' hd' iv
      have f2 := f'.all ha
      have t2 : Step F O H1 O' H2 := t.trans (.of (xt_all ha))
      refine hg O' σ' H2 v s' f2 (hr O' fun a m => ⟨t.gr a m, f'.trk a (List.mem_append_left _ m)⟩) _ fun σ3 f3 _ _ => hb O' σ3 H2 f3 _ ⟨fun O4 σ4 H4 ρ4 s4 f4 t4 h4 => ⟨O4, ρ4, s4, f4, t2.trans t4, h4⟩, q.rt, fun O4 σ4 H4 ρ4 s4 f4 t4 h4 => ?_, fun O4 σ4 H4 ρ4 s4 f4 t4 h4 => ⟨O4, ρ4, s4, f4, t2.trans t4, h4⟩, fun O4 σ4 H4 ρ4 s4 cls dd x f4 t4 a4 h4 => q.xc O4 σ4 H4 ρ4 s4 cls dd x f4 ((Step.of x1.xt).trans (t2.trans t4)) a4 h4⟩
      exact q.nx O4 σ4 H4 ρ4 s4 f4 ((Step.of x1.xt).trans (t2.trans t4)) h4
    · rintro σ' H' ⟨O', ρ', s', f', t, iv⟩
      exact q.nx O' σ' H' ρ' s' f' ((Step.of x1.xt).trans t) (hd ρ' s' iv))
theorem bs_while {body : List Stmt} (hp : PassesOwn (model F.X.prog F.X.w) F.X.A F.X.env F.X.xe) (I : List G → Sx → Prop) (μ : List G → Sx → Nat) (h0 : I ρ s)
    (turn : ∀ ρ' s', I ρ' s' → ∃ t s2, Et F ρ' s' c t s2 ∧ (t = true → Bk F body ρ' s2 { nx := fun ρ2 s3 => I ρ2 s3 ∧ μ ρ2 s3 < μ ρ' s', ct := fun ρ2 s3 => I ρ2 s3 ∧ μ ρ2 s3 < μ ρ' s', bk := k.nx, rt := k.rt, xc := k.xc }) ∧ (t = false → k.nx ρ' s2)) : Bs F (.While c body [] pos) ρ s k :=
  fun O σ H f E q => ws (ps_while hp pt_wt pss_wb) ⟨fun m σ' H' => ∃ O' ρ' s', Fm F O' σ' H' ρ' s' ∧ Step F O H O' H' ∧ I ρ' s' ∧ μ ρ' s' = m, ⟨_, O, ρ, s, f, .refl, h0, rfl⟩, by
    rintro m σ' H' ⟨O', ρ', s', f', t, iv, em⟩
    obtain ⟨b, s2, ht, h1, h2⟩ := turn ρ' s' iv
    refine ht.2 O' σ' H' f' _ fun H2 f2 x2 => ?_
    have t2 : Step F O H O' H2 := t.trans (.of x2.xt)
    cases b with
    | true =>
      refine iteT ⟨fun σ3 H3 => ∃ O3 ρ3 s3, Fm F O3 σ3 H3 ρ3 s3 ∧ Step F O H O3 H3 ∧ I ρ3 s3 ∧ μ ρ3 s3 < m, fun σ3 H3 ⟨O3, ρ3, s3, f3, t3, i3, l3⟩ => ⟨_, l3, O3, ρ3, s3, f3, t3, i3, rfl⟩, h1 rfl O' σ' H2 f2 _ ⟨?_, q.rt, ?_, ?_, fun O4 σ4 H4 ρ4 s4 cls dd x f4 t4 a4 h4 => q.xc O4 σ4 H4 ρ4 s4 cls dd x f4 (t2.trans t4) a4 h4⟩⟩
      · rintro O4 σ4 H4 ρ4 s4 f4 t4 ⟨h4, l4⟩
        exact ⟨O4, ρ4, s4, f4, t2.trans t4, h4, by omega⟩
      · intro O4 σ4 H4 ρ4 s4 f4 t4 h4
        exact q.nx O4 σ4 H4 ρ4 s4 f4 (t2.trans t4) h4
      · rintro O4 σ4 H4 ρ4 s4 f4 t4 ⟨h4, l4⟩
        exact ⟨O4, ρ4, s4, f4, t2.trans t4, h4, by omega⟩
    | false => exact iteF (q.nx O' σ' H2 ρ' s2 f2 t2 (h2 rfl))⟩

/-! ### owned lists -/
theorem Fm.setOw {O : List Addr} {σ : L2.St} {H : Hp} {v : Addr} {vs : List V} {i : Nat} {w : Ow} (f : Fm F O σ H ρ s) (mv : v ∈ O) (nv : ∀ (j : Nat) (u : Ow) (es : List D), ρ[j]? = some (.ow u es) → σ[j]? ≠ some (some (.ref v))) (h : H v = some (w.ho vs)) (r : Rps F.X.K F.p (O ++ F.S0) H vs ds) (ft : w.fit v ds) : Fm F O (σ.set i (some (.ref v))) H (ρ.set i (.ow w ds)) s := by
  have key : ∀ (j : Nat) (g : G), (ρ.set i (.ow w ds))[j]? = some g → (j = i ∧ g = .ow w ds ∧ j < ρ.length) ∨ (j ≠ i ∧ ρ[j]? = some g) := fun j g h => by
    by_cases e : i = j
    · subst e
      by_cases hl : i < ρ.length
      · rw [List.getElem?_set_self hl] at h; exact .inl ⟨rfl, (Option.some.inj h).symm, hl⟩
      · rw [List.getElem?_eq_none (by simpa using hl)] at h; cases h
    · rw [List.getElem?_set_ne e] at h; exact .inr ⟨fun z => e z.symm, h⟩
  have slen : ∀ j, j < ρ.length → j < σ.length := fun j hl => by
    have hx : ρ[j]? = some ρ[j] := List.getElem?_eq_getElem hl
    obtain ⟨o, ho, _⟩ := f.slot j _ hx
    exact (List.getElem?_eq_some_iff.mp ho).1
  have at_ : ∀ j, j < ρ.length → j = i → (σ.set i (some (.ref v)))[j]? = some (some (.ref v)) := fun j hl e => by subst e; exact List.getElem?_set_self (slen j hl)
  refine ⟨f.ext, fun j g hg => ?_, fun j u es a hg ha => ?_, fun j l u u' es fs a hne h1 h2 h3 => ?_, f.fre, f.trk, f.st, f.pm, f.kd⟩
  · rcases key j g hg with ⟨e, rfl, hl⟩ | ⟨hne, hg⟩
    · exact ⟨_, at_ j hl e, v, vs, rfl, List.mem_append_left _ mv, h, r, ft⟩
    · obtain ⟨o, ho, q⟩ := f.slot j g hg
      exact ⟨o, by rw [List.getElem?_set_ne (Ne.symm hne)]; exact ho, q⟩
  · rcases key j _ hg with ⟨e, z, hl⟩ | ⟨hne, hg⟩
    · rw [at_ j hl e] at ha; cases ha; exact mv
    · rw [List.getElem?_set_ne (Ne.symm hne)] at ha; exact f.own j u es a hg ha
  · rcases key j _ h1 with ⟨e1, z1, l1⟩ | ⟨n1, h1⟩
    · rcases key l _ h2 with ⟨e2, z2, l2⟩ | ⟨n2, h2⟩
      · exact absurd (e1.trans e2.symm) hne
      · rw [at_ j l1 e1] at h3
        cases h3
        rw [List.getElem?_set_ne (Ne.symm n2)]
        exact nv l u' fs h2
    · rw [List.getElem?_set_ne (Ne.symm n1)] at h3
      rcases key l _ h2 with ⟨e2, z2, l2⟩ | ⟨n2, h2⟩
      · rw [at_ l l2 e2]
        intro z
        cases z
        exact nv j u es h1 h3
      · rw [List.getElem?_set_ne (Ne.symm n2)]
        exact f.dis j l u u' es fs a hne h1 h2 h3
theorem Fm.setOwn {O : List Addr} {σ : L2.St} {H : Hp} {v : Addr} {vs : List V} {i : Nat} (f : Fm F O σ H ρ s) (mv : v ∈ O) (nv : ∀ (j : Nat) (u : Ow) (es : List D), ρ[j]? = some (.ow u es) → σ[j]? ≠ some (some (.ref v))) (h : H v = some (.lst vs)) (r : Rps F.X.K F.p (O ++ F.S0) H vs ds) : Fm F O (σ.set i (some (.ref v))) H (ρ.set i (.own ds)) s :=
  f.setOw (w := .lst) mv nv h r trivial
theorem Fm.notOwn {O : List Addr} {σ : L2.St} {H : Hp} {v : Addr} (f : Fm F O σ H ρ s) (n : H v = none) : ∀ (j : Nat) (u : Ow) (es : List D), ρ[j]? = some (.ow u es) → σ[j]? ≠ some (some (.ref v)) := fun j u es h z =>
  f.fresh n (List.mem_append_left _ (f.own j u es v h z))
/-- x = a new list, owned from now on -/
theorem bs_setOwn (i : Nat) {x : Str} {pos' : Pos} (hN : F.X.N.Nodup) (hi : F.X.N[i]? = some x) (hx : Loc F.X.env.scope x) (h : El F ρ s e ds s1) (hk : k.nx (ρ.set i (.own ds)) s1) (hs : swapsWith e (some (.Name x pos')) pos.line F.X.env = pure false := by rfl)
    (hf : F.X.fn x = true ∨ F.X.env.scope.names.lookup x = some .local := by first | exact .inl rfl | exact .inr rfl | assumption) : Bs F (.Assign [.Name x pos'] e pos) ρ s k :=
  fun O σ H f E q => ws (ps_set hN hi hx pe_we hs hf) (h.2 O σ H f _ fun v vs H1 f1 x1 n1 h1 r1 => q.nx (v :: O) _ H1 _ s1 (f1.setOwn List.mem_cons_self (f.notOwn n1) h1 r1)
    ⟨x1.xt, fun a m => (List.mem_cons.mp m).elim (fun z => .inr (z ▸ n1)) .inl⟩ hk)
/-- a, b = e1, e2: the first, the second, both new lists -/
theorem bs_parOV (i j : Nat) {x y : Str} {px py pt : Pos} {kt k2} {pt2 : Pos} {d2 : D} (hc : F.X.calm = true) (hN : F.X.N.Nodup) (hi : F.X.N[i]? = some x) (hj : F.X.N[j]? = some y) (hij : i ≠ j) (hx : F.X.env.scope.names.lookup x = some .local) (hy : F.X.env.scope.names.lookup y = some .local)
    (ha : El F ρ s a ds s1) (hb : Ed F ρ s1 b d2 s2) (hk : k.nx ((ρ.set i (.own ds)).set j (.val d2)) s2) (hw : swappedStores [.Tuple [.Name x px, .Name y py] kt pt] (.Tuple [a, b] k2 pt2) F.X.env = pure (some [x, y]) := by rfl) (hs : swapsWithSole [.Tuple [.Name x px, .Name y py] kt pt] (.Tuple [a, b] k2 pt2) pos.line F.X.env = pure false := by rfl)
    (he : starEach [a, b] F.X.env = (false, eval a F.X.env) :: starEach [b] F.X.env := by rfl) (hf : starEach [b] F.X.env = (false, eval b F.X.env) :: starEach [] F.X.env := by rfl) :
    Bs F (.Assign [.Tuple [.Name x px, .Name y py] kt pt] (.Tuple [a, b] k2 pt2) pos) ρ s k :=
  fun O σ H f E q => ws (ps_par hc hN hi hj hij hx hy (pa_cons pe_we (pa_cons pe_we pa_nil hf) he) hw hs) (ha.2 O σ H f _ fun v vs H1 f1 x1 n1 h1 r1 => hb.2 (v :: O) σ H1 f1 _ fun w H2 f2 x2 r2 => by
    have nv : ¬ (F.act = true ∧ v = F.p ∧ v ∈ F.S0) := fun z => (f1.fre v List.mem_cons_self).2 z.2.2
    exact ⟨_, _, rfl, q.nx (v :: O) _ H2 _ s2 ((f2.setOwn List.mem_cons_self (f.notOwn n1) (x2.1 _ _ nv h1 nt_lst) (r1.ext (x2.xt (O := v :: O)))).set r2) ⟨(x1.trans x2).xt, fun a m => (List.mem_cons.mp m).elim (fun z => .inr (z ▸ n1)) .inl⟩ hk⟩)
theorem bs_parVO (i j : Nat) {x y : Str} {px py pt : Pos} {kt k2} {pt2 : Pos} {d2 : D} (hc : F.X.calm = true) (hN : F.X.N.Nodup) (hi : F.X.N[i]? = some x) (hj : F.X.N[j]? = some y) (hij : i ≠ j) (hx : F.X.env.scope.names.lookup x = some .local) (hy : F.X.env.scope.names.lookup y = some .local)
    (ha : Ed F ρ s a d2 s1) (hb : El F ρ s1 b ds s2) (hk : k.nx ((ρ.set i (.val d2)).set j (.own ds)) s2) (hw : swappedStores [.Tuple [.Name x px, .Name y py] kt pt] (.Tuple [a, b] k2 pt2) F.X.env = pure (some [x, y]) := by rfl) (hs : swapsWithSole [.Tuple [.Name x px, .Name y py] kt pt] (.Tuple [a, b] k2 pt2) pos.line F.X.env = pure false := by rfl)
    (he : starEach [a, b] F.X.env = (false, eval a F.X.env) :: starEach [b] F.X.env := by rfl) (hf : starEach [b] F.X.env = (false, eval b F.X.env) :: starEach [] F.X.env := by rfl) :
    Bs F (.Assign [.Tuple [.Name x px, .Name y py] kt pt] (.Tuple [a, b] k2 pt2) pos) ρ s k :=
  fun O σ H f E q => ws (ps_par hc hN hi hj hij hx hy (pa_cons pe_we (pa_cons pe_we pa_nil hf) he) hw hs) (ha.2 O σ H f _ fun w H1 f1 x1 r1 => hb.2 O σ H1 f1 _ fun v vs H2 f2 x2 n2 h2 r2 => by
    have r3 : Rp F.X.K F.p (v :: O ++ F.S0) H2 w d2 := (r1.fresh n2).ext (x2.xt (O := v :: O))
    have f3 := f2.set (i := i) r3
    refine ⟨_, _, rfl, q.nx (v :: O) _ H2 _ s2 (f3.setOwn List.mem_cons_self ?_ h2 r2) ⟨(x1.trans x2).xt, fun a m => (List.mem_cons.mp m).elim (fun z => .inr (z ▸ x1.2 v n2)) .inl⟩ hk⟩
    intro l u es h z
    by_cases e : i = l
    · subst e
      by_cases hl : i < ρ.length
      · rw [List.getElem?_set_self hl] at h; cases h
      · rw [List.getElem?_eq_none (by simpa using hl)] at h; cases h
    · rw [List.getElem?_set_ne e] at h z
      exact f1.notOwn n2 l u es h z)
theorem bs_parOO (i j : Nat) {x y : Str} {px py pt : Pos} {kt k2} {pt2 : Pos} (hc : F.X.calm = true) (hN : F.X.N.Nodup) (hi : F.X.N[i]? = some x) (hj : F.X.N[j]? = some y) (hij : i ≠ j) (hx : F.X.env.scope.names.lookup x = some .local) (hy : F.X.env.scope.names.lookup y = some .local)
    (ha : El F ρ s a xs s1) (hb : El F ρ s1 b ds s2) (hk : k.nx ((ρ.set i (.own xs)).set j (.own ds)) s2) (hw : swappedStores [.Tuple [.Name x px, .Name y py] kt pt] (.Tuple [a, b] k2 pt2) F.X.env = pure (some [x, y]) := by rfl) (hs : swapsWithSole [.Tuple [.Name x px, .Name y py] kt pt] (.Tuple [a, b] k2 pt2) pos.line F.X.env = pure false := by rfl)
    (he : starEach [a, b] F.X.env = (false, eval a F.X.env) :: starEach [b] F.X.env := by rfl) (hf : starEach [b] F.X.env = (false, eval b F.X.env) :: starEach [] F.X.env := by rfl) :
    Bs F (.Assign [.Tuple [.Name x px, .Name y py] kt pt] (.Tuple [a, b] k2 pt2) pos) ρ s k :=
  fun O σ H f E q => ws (ps_par hc hN hi hj hij hx hy (pa_cons pe_we (pa_cons pe_we pa_nil hf) he) hw hs) (ha.2 O σ H f _ fun w us H1 f1 x1 n1 h1 r1 => hb.2 (w :: O) σ H1 f1 _ fun v vs H2 f2 x2 n2 h2 r2 => by
    have nw : ¬ (F.act = true ∧ w = F.p ∧ w ∈ F.S0) := fun z => (f1.fre w List.mem_cons_self).2 z.2.2
    have hne : w ≠ v := ne_of_none h1 n2
    have r3 : Rps F.X.K F.p (v :: w :: O ++ F.S0) H2 us xs := (r1.fresh n2).ext (x2.xt (O := v :: w :: O))
    have f3 := f2.setOwn (i := i) (List.mem_cons_of_mem _ List.mem_cons_self) (f.notOwn n1) (x2.1 _ _ nw h1 nt_lst) r3
    refine ⟨_, _, rfl, q.nx (v :: w :: O) _ H2 _ s2 (f3.setOwn List.mem_cons_self ?_ h2 r2) ⟨(x1.trans x2).xt, fun a m => ?_⟩ hk⟩
    · intro l u es h z
      by_cases e : i = l
      · subst e
        by_cases hl : i < σ.length
        · rw [List.getElem?_set_self hl] at z; cases z; exact hne rfl
        · rw [List.getElem?_eq_none (by simpa using hl)] at z; cases z
      · rw [List.getElem?_set_ne e] at h z
        exact f1.notOwn n2 l u es h z
    · rcases List.mem_cons.mp m with rfl | m
      · exact .inr (x1.2 _ n2)
      · rcases List.mem_cons.mp m with rfl | m
        · exact .inr n1
        · exact .inl m)
/-- what is owned is turned -/
theorem Fm.mutO {O : List Addr} {σ : L2.St} {H : Hp} {a : Addr} {vs : List V} {i : Nat} {w w' : Ow} (f : Fm F O σ H ρ s) (hρ : ρ[i]? = some (.ow w xs)) (ho : σ[i]? = some (some (.ref a))) (r : Rps F.X.K F.p (O ++ F.S0) H vs ds) (ft : w'.fit a ds) (ht : ∃ u, H a = some u ∧ NT u) : Fm F O σ (upd H a (w'.ho vs)) (ρ.set i (.ow w' ds)) s ∧ XT (O ++ F.S0) H (upd H a (w'.ho vs)) := by
  have ma : a ∈ O := f.own i w xs a hρ ho
  have x : XT (O ++ F.S0) H (upd H a (w'.ho vs)) := ⟨fun b o n h _ => by rw [upd_ne (show b ≠ a from fun z => n (by rw [z]; exact List.mem_append_left _ ma))]; exact h, fun b h => upd_none h⟩
  have key : ∀ (j : Nat) (g : G), (ρ.set i (.ow w' ds))[j]? = some g → (j = i ∧ g = .ow w' ds) ∨ (j ≠ i ∧ ρ[j]? = some g) := fun j g h => by
    by_cases e : i = j
    · subst e
      by_cases hl : i < ρ.length
      · rw [List.getElem?_set_self hl] at h; exact .inl ⟨rfl, (Option.some.inj h).symm⟩
      · rw [List.getElem?_eq_none (by simpa using hl)] at h; cases h
    · rw [List.getElem?_set_ne e] at h; exact .inr ⟨fun z => e z.symm, h⟩
  have own : ∀ (j : Nat) (u : Ow) (es : List D), (ρ.set i (.ow w' ds))[j]? = some (.ow u es) → ∃ u' es', ρ[j]? = some (.ow u' es') := fun j u es h => by
    rcases key j _ h with ⟨rfl, _⟩ | ⟨_, h⟩
    · exact ⟨w, xs, hρ⟩
    · exact ⟨u, es, h⟩
  obtain ⟨u0, hu0, nt0⟩ := ht
  have tab : ∀ T, LamX.Tabs T H → LamX.Tabs T (upd H a (w'.ho vs)) := fun T tt => by
    have ne : ∀ P ps, H P = some (.tbl ps) → P ≠ a := fun P ps e z => by
      rw [z, hu0] at e
      exact nt0 ps (Option.some.inj e)
    intro pq hp
    obtain ⟨ps, h1, h2, h3⟩ := tt pq hp
    refine ⟨ps, by rw [upd_ne (ne _ _ h1)]; exact h1, h2, fun pos cv hc => ?_⟩
    obtain ⟨c, e1, e2⟩ := h3 pos cv hc
    refine ⟨c, e1, ?_⟩
    by_cases z : c = a
    · exfalso
      subst z
      obtain ⟨o, ho2, q⟩ := f.slot i _ hρ
      rw [ho] at ho2
      cases ho2
      obtain ⟨b, ws, e, m, hb, _⟩ := q
      cases e
      rw [e2] at hb
      have := Option.some.inj hb
      unfold LamX.CodeO at this
      cases w <;> cases this
    · rw [upd_ne z]; exact e2
  refine ⟨⟨⟨fun b o h n _ => ?_, fun b h => f.ext.2 b (upd_none h)⟩, fun j g hg => ?_, fun j u es b hg hb => ?_, fun j l u u' es fs b hne h1 h2 h3 => ?_, f.fre, fun b m => ?_, ?_, f.pm, f.kd⟩, x⟩
  · rw [upd_ne fun z => ?_]
    · exact f.ext.1 b o h n (by assumption)
    · rw [z, (f.fre a ma).1] at h; cases h
  · rcases key j g hg with ⟨rfl, rfl⟩ | ⟨hne, hg⟩
    · exact ⟨_, ho, a, vs, rfl, List.mem_append_left _ ma, upd_same, r.ext x, ft⟩
    · obtain ⟨o, ho', q⟩ := f.slot j g hg
      refine ⟨o, ho', ?_⟩
      cases g with
      | no => trivial
      | val d =>
        obtain ⟨v, e, r'⟩ := q
        exact ⟨v, e, r'.ext x⟩
      | ow u es =>
        obtain ⟨b, ws, e, m, hb, r', ft'⟩ := q
        subst e
        refine ⟨b, ws, rfl, m, ?_, r'.ext x, ft'⟩
        rw [upd_ne fun z => ?_]
        · exact hb
        · subst z
          exact f.dis i j w u xs es b (Ne.symm hne) hρ hg ho ho'
  · obtain ⟨u2, es', h⟩ := own j u es hg
    exact f.own j u2 es' b h hb
  · obtain ⟨u2, es', h1⟩ := own j u es h1
    obtain ⟨u3, fs', h2⟩ := own l u' fs h2
    exact f.dis j l u2 u3 es' fs' b hne h1 h2 h3
  · obtain ⟨o, e⟩ := f.trk b m
    by_cases z : b = a
    · rw [z]; exact ⟨_, upd_same⟩
    · exact ⟨o, by rw [upd_ne z]; exact e⟩
  · have q := f.st
    have pm := f.pm
    cases s with
    | none => exact tab _ q
    | some ys =>
      obtain ⟨q1, q2, ws, q3, q4⟩ := q
      exact ⟨tab _ q1, q2, ws, by rw [upd_ne (show F.p ≠ a from fun z => (f.fre a ma).2 (by rw [← z]; exact pm rfl))]; exact q3, q4.ext x⟩
theorem Fm.mut {O : List Addr} {σ : L2.St} {H : Hp} {a : Addr} {vs : List V} {i : Nat} (f : Fm F O σ H ρ s) (hρ : ρ[i]? = some (.own xs)) (ho : σ[i]? = some (some (.ref a))) (r : Rps F.X.K F.p (O ++ F.S0) H vs ds) : Fm F O σ (upd H a (.lst vs)) (ρ.set i (.own ds)) s ∧ XT (O ++ F.S0) H (upd H a (.lst vs)) := by
  refine f.mutO (w := .lst) (w' := .lst) hρ ho r trivial ?_
  obtain ⟨o, ho2, b, ws, e, m, hb, _⟩ := f.slot i _ hρ
  rw [ho] at ho2
  cases ho2
  cases e
  exact ⟨_, hb, nt_lst⟩
/-- x.append(e), x owned -/
theorem bs_append (i : Nat) {x : Str} {px pa : Pos} {cpos : Pos} (hi : F.X.N[i]? = some x) (hv : Vis F.X.env.scope x) (hρ : ρ[i]? = some (.own xs)) (h : Ed F ρ s e d s1) (hl : xs.length < sizeLine) (hk : k.nx (ρ.set i (.own (xs ++ [d]))) s1)
    (hd : (x == ("__debug__" : Str)) = false := by decide) (hcd : (x == ("__classdict__" : Str)) = false := by decide) (he : starEach [e] F.X.env = (false, eval e F.X.env) :: starEach [] F.X.env := by rfl)
    (hb : attributeBase (.Name x px) "append" F.X.env (eval (.Name x px) F.X.env) = eval (.Name x px) F.X.env := by rfl) (hline : (pa.endLine == cpos.line) = true := by rfl) (hpl : (backTo cpos (starEach [] F.X.env)).any (·.1) = false := by rfl)
    (hfew : ((backTo cpos (starEach [e] F.X.env)).all (fun x => !x.1) && (backToKw cpos (keywordEach [] F.X.env)).all (fun x => x.1.isSome) && decide ([e].length + ([] : List Keyword).length + (if ([] : List Keyword).isEmpty then 0 else 1) < 30)) = true := by rfl)
    (hs : swapsWith (.Call (.Attribute (.Name x px) "append" pa) [e] [] cpos) none pos.line F.X.env = pure false := by rfl) : Bs F (.Expr (.Call (.Attribute (.Name x px) "append" pa) [e] [] cpos) pos) ρ s k :=
  fun O σ H f E q => ws (ps_expr (pe_bm PySem.F.plainAttrs_list PySem.F.slot_list_append PySem.F.type_list_append mt_append (pe_var hi hv hd hcd) (pa_cons pe_we pa_nil he) hb hfew hline he hpl) hs) (by
    obtain ⟨o, ho, a, vs, eo, m, h1, r, _⟩ := f.slot i _ hρ
    subst eo
    have na : ¬ (F.act = true ∧ a = F.p ∧ a ∈ F.S0) := fun z => (f.fre a (f.own i _ xs a hρ ho)).2 z.2.2
    refine ⟨_, ho, .inl ⟨rfl, _, .inl (.inl h1)⟩, h.2 O σ H f _ fun w H1 f1 x1 r1 => ?_⟩
    refine ⟨a, vs, w, rfl, rfl, x1.1 _ _ na h1 nt_lst, by rw [r.length]; exact hl, ?_⟩
    obtain ⟨f2, x2⟩ := f1.mut hρ ho ((r.ext x1.xt).append (.one r1))
    exact q.nx O σ _ _ s1 f2 (.of (x1.xt.trans x2)) hk)
theorem Ow.rp {K : PySem.W.Frag} {p : Addr} {S : List Addr} {H : Hp} {a : Addr} {vs : List V} {w : Ow} (n : a ∉ S) (h : H a = some (w.ho vs)) (r : Rps K p S H vs ds) (ft : w.fit a ds) : Rp K p S H (.ref a) (w.d ds) := by
  cases w with
  | lst => exact .lst n h r
  | ins x C dx ks => exact .ins n h r ft.2
  | dK ks => exact .dK n h r ft
  | dT ks => exact .dT n h r ft
/-- what is owned is data from now on -/
theorem Fm.freezeO {O : List Addr} {σ : L2.St} {H : Hp} {i : Nat} {w : Ow} (f : Fm F O σ H ρ s) (hρ : ρ[i]? = some (.ow w xs)) : ∃ O', Fm F O' σ H (ρ.set i (.val (w.d xs))) s ∧ ∀ a ∈ O', a ∈ O := by
  obtain ⟨o, ho, a, vs, eo, m, h1, r, ft⟩ := f.slot i _ hρ
  subst eo
  have sub : ∀ b ∈ O.filter (· ≠ a) ++ F.S0, b ∈ O ++ F.S0 := fun b m => by
    rcases List.mem_append.mp m with m | m
    · exact List.mem_append_left _ (List.mem_filter.mp m).1
    · exact List.mem_append_right _ m
  have key : ∀ (j : Nat) (g : G), (ρ.set i (.val (w.d xs)))[j]? = some g → (j = i ∧ g = .val (w.d xs)) ∨ (j ≠ i ∧ ρ[j]? = some g) := fun j g h => by
    by_cases e : i = j
    · subst e
      by_cases hl : i < ρ.length
      · rw [List.getElem?_set_self hl] at h; exact .inl ⟨rfl, (Option.some.inj h).symm⟩
      · rw [List.getElem?_eq_none (by simpa using hl)] at h; cases h
    · rw [List.getElem?_set_ne e] at h; exact .inr ⟨fun z => e z.symm, h⟩
  have own : ∀ (j : Nat) (u : Ow) (es : List D), (ρ.set i (.val (w.d xs)))[j]? = some (.ow u es) → j ≠ i ∧ ρ[j]? = some (.ow u es) := fun j u es h => by
    rcases key j _ h with ⟨_, z⟩ | h
    · cases z
    · exact h
  have st : F.Sa (O.filter (· ≠ a)) H s := by
    have q := f.st
    have pm := f.pm
    cases s with
    | none => exact q
    | some ys =>
      obtain ⟨q1, q2, ws, q3, q4⟩ := q
      exact ⟨q1, List.mem_append_right _ (pm rfl), ws, q3, q4.weak sub⟩
  refine ⟨O.filter (· ≠ a), ⟨f.ext, fun j g hg => ?_, fun j u es b hg hb => ?_, fun j l u u' es fs b hne h1 h2 h3 => ?_, fun b m => f.fre b (List.mem_filter.mp m).1, fun b m => f.trk b (sub b m), st, f.pm, f.kd⟩, fun b m => (List.mem_filter.mp m).1⟩
  · rcases key j g hg with ⟨rfl, rfl⟩ | ⟨hne, hg⟩
    · refine ⟨_, ho, _, rfl, Ow.rp (fun m => ?_) h1 (r.weak sub) ft⟩
      rcases List.mem_append.mp m with m | m
      · simpa using (List.mem_filter.mp m).2
      · exact (f.fre a (f.own j w xs a hρ ho)).2 m
    · obtain ⟨o, ho', q⟩ := f.slot j g hg
      refine ⟨o, ho', ?_⟩
      cases g with
      | no => trivial
      | val d =>
        obtain ⟨v, e, r'⟩ := q
        exact ⟨v, e, r'.weak sub⟩
      | ow u es =>
        obtain ⟨b, ws, e, m, hb, r', ft'⟩ := q
        subst e
        refine ⟨b, ws, rfl, ?_, hb, r'.weak sub, ft'⟩
        refine List.mem_append_left _ (List.mem_filter.mpr ⟨f.own j u es b hg ho', ?_⟩)
        simp only [ne_eq, decide_not, Bool.not_eq_eq_eq_not, Bool.not_true, decide_eq_false_iff_not]
        intro z
        subst z
        exact f.dis i j w u xs es b (Ne.symm hne) hρ hg ho ho'
  · obtain ⟨hne, hg⟩ := own j u es hg
    refine List.mem_filter.mpr ⟨f.own j u es b hg hb, ?_⟩
    simp only [ne_eq, decide_not, Bool.not_eq_eq_eq_not, Bool.not_true, decide_eq_false_iff_not]
    intro z
    subst z
    exact f.dis i j w u xs es b (Ne.symm hne) hρ hg ho hb
  · exact f.dis j l u u' es fs b hne (own j u es h1).2 (own l u' fs h2).2 h3
theorem Fm.freeze {O : List Addr} {σ : L2.St} {H : Hp} {i : Nat} (f : Fm F O σ H ρ s) (hρ : ρ[i]? = some (.own xs)) : ∃ O', Fm F O' σ H (ρ.set i (.val (.lst xs))) s ∧ ∀ a ∈ O', a ∈ O := f.freezeO (w := .lst) hρ
theorem bk_freezeO (i : Nat) {w : Ow} {sts : List Stmt} (hρ : ρ[i]? = some (.ow w xs)) (h : Bk F sts (ρ.set i (.val (w.d xs))) s k) : Bk F sts ρ s k := fun O σ H f E q => by
  obtain ⟨O', f', hs⟩ := f.freezeO hρ
  exact h O' σ H f' E (q.to ⟨.refl, fun a m => .inl (hs a m)⟩)
theorem bk_freeze (i : Nat) {sts : List Stmt} (hρ : ρ[i]? = some (.own xs)) (h : Bk F sts (ρ.set i (.val (.lst xs))) s k) : Bk F sts ρ s k := fun O σ H f E q => by
  obtain ⟨O', f', hs⟩ := f.freeze hρ
  exact h O' σ H f' E (q.to ⟨.refl, fun a m => .inl (hs a m)⟩)
end
end Gh
set_option Elab.async false
set_option linter.all false
set_option maxRecDepth 100000
namespace Gh
open PySem PySem.Spec PyProof.Rows L2
/-! ### list comprehensions -/
/-- the block's contexts -/
structure Bx where
  s : Shared
  H : Hp
  C : Addr
  cl : List (Str × Addr)
  fp : List Addr
abbrev Fx.blk (F : Fx) (scope : Scope) (c : Bx) : Fx := ⟨F.X.blk c.s c.H scope (compEnvC scope c.cl c.C F.X.env) c.fp, F.H0, F.S0, F.p, F.act, F.T⟩
def gwipe (ρ : List G) : List Nat → List G
  | [] => ρ
  | v :: vs => (gwipe ρ vs).set v .no
section
variable {F : Fx} {ρ : List G} {s s1 s2 s3 : Sx} {tg a b c e elt iter : Expr} {ifs : List Expr} {x y d : D} {xs ys ds items : List D} {pos p : Pos} {k : GE} {scope : Scope}
theorem Fm.setNo {O : List Addr} {σ : L2.St} {H : Hp} {i : Nat} (f : Fm F O σ H ρ s) : Fm F O (σ.set i none) H (ρ.set i .no) s := by
  have key : ∀ (j : Nat) (g : G), (ρ.set i .no)[j]? = some g → (j = i ∧ g = .no ∧ j < ρ.length) ∨ (j ≠ i ∧ ρ[j]? = some g) := fun j g h => by
    by_cases e : i = j
    · subst e
      by_cases hl : i < ρ.length
      · rw [List.getElem?_set_self hl] at h; exact .inl ⟨rfl, (Option.some.inj h).symm, hl⟩
      · rw [List.getElem?_eq_none (by simpa using hl)] at h; cases h
    · rw [List.getElem?_set_ne e] at h; exact .inr ⟨fun z => e z.symm, h⟩
  have own : ∀ (j : Nat) (w : Ow) (es : List D), (ρ.set i .no)[j]? = some (.ow w es) → j ≠ i ∧ ρ[j]? = some (.ow w es) := fun j w es h => by
    rcases key j _ h with ⟨_, z, _⟩ | q
    · cases z
    · exact q
  refine ⟨f.ext, fun j g hg => ?_, fun j w es a hg ha => ?_, fun j l w u es fs a hne h1 h2 h3 => ?_, f.fre, f.trk, f.st, f.pm, f.kd⟩
  · rcases key j g hg with ⟨rfl, rfl, hl⟩ | ⟨hne, hg⟩
    · have : j < σ.length := by
        have hx : ρ[j]? = some ρ[j] := List.getElem?_eq_getElem hl
        obtain ⟨o, ho, _⟩ := f.slot j _ hx
        exact (List.getElem?_eq_some_iff.mp ho).1
      exact ⟨none, List.getElem?_set_self this, trivial⟩
    · obtain ⟨o, ho, q⟩ := f.slot j g hg
      exact ⟨o, by rw [List.getElem?_set_ne (Ne.symm hne)]; exact ho, q⟩
  · obtain ⟨hne, hg⟩ := own j w es hg
    rw [List.getElem?_set_ne (Ne.symm hne)] at ha
    exact f.own j w es a hg ha
  · obtain ⟨n1, h1⟩ := own j w es h1
    obtain ⟨n2, h2⟩ := own l u fs h2
    rw [List.getElem?_set_ne (Ne.symm n1)] at h3
    rw [List.getElem?_set_ne (Ne.symm n2)]
    exact f.dis j l w u es fs a hne h1 h2 h3
theorem Fm.wipe {O : List Addr} {σ : L2.St} {H : Hp} (f : Fm F O σ H ρ s) : ∀ vs : List Nat, Fm F O (L2.wipe σ vs) H (gwipe ρ vs) s
  | [] => f
  | v :: vs => (f.wipe vs).setNo
theorem Fm.blk {O : List Addr} {σ : L2.St} {H : Hp} {c : Bx} (f : Fm F O σ H ρ s) : Fm (F.blk scope c) O σ H ρ s := ⟨f.ext, f.slot, f.own, f.dis, f.fre, f.trk, f.st, f.pm, f.kd⟩
theorem Fm.unblk {O : List Addr} {σ : L2.St} {H : Hp} {c : Bx} (f : Fm (F.blk scope c) O σ H ρ s) : Fm F O σ H ρ s := ⟨f.ext, f.slot, f.own, f.dis, f.fre, f.trk, f.st, f.pm, f.kd⟩
theorem wipe_get {σ : L2.St} : ∀ (vs : List Nat) (j : Nat), j ∈ vs → j < σ.length → (L2.wipe σ vs)[j]? = some none
  | [], _, m, _ => absurd m (by simp)
  | v :: vs, j, m, hl => by
    unfold L2.wipe
    by_cases e : v = j
    · subst e
      exact List.getElem?_set_self (by rw [wipe_length]; exact hl)
    · rw [List.getElem?_set_ne e]
      exact wipe_get vs j ((List.mem_cons.mp m).resolve_left fun z => e z.symm) hl
theorem wipe_eq {σ σ2 : L2.St} {vs js : List Nat} (hl : σ2.length = σ.length) (hj : ∀ j ∈ js, j ∈ vs) (h : ∀ j, j ∉ js → σ2[j]? = (L2.wipe σ vs)[j]?) : L2.wipe σ2 vs = L2.wipe σ vs := by
  apply List.ext_getElem?
  intro j
  by_cases m : j ∈ vs
  · by_cases l : j < σ.length
    · rw [wipe_get vs j m l, wipe_get vs j m (by omega)]
    · rw [List.getElem?_eq_none (by rw [wipe_length]; omega), List.getElem?_eq_none (by rw [wipe_length]; omega)]
  · rw [wipe_out m, h j fun z => m (hj j z)]
/-- the tests of the clause -/
def Eifs (F : Fx) (ρ : List G) (s : Sx) (ifs : List Expr) (b : Bool) (s' : Sx) : Prop := (ifs = [] ∧ b = true ∧ s' = s) ∨ ∃ c, ifs = [c] ∧ Et F ρ s c b s'
def wgB (X : Cx) (scope : Scope) (tg : Expr) : TG := fun v σ H Q => ∀ c : Bx, WG (X.blk c.s c.H scope (compEnvC scope c.cl c.C X.env) c.fp) tg v σ H Q
def WTs (X : Cx) (ifs : List Expr) : TT := fun σ H Q => ∀ pins s, Inv X pins σ H s →
    wpAny (model X.prog X.w) X.A (forIn ifs true fun c r => if r = true then do let ok ← isTrue c X.env (eval c X.env); pure (ForInStep.yield ok) else pure (ForInStep.yield r)) (TP X pins σ Q) X.xe s
theorem pts_w {X : Cx} {ifs : List Expr} : PTs X ifs (WTs X ifs) := ⟨fun pins s _ _ _ I h => h pins s I⟩
theorem wts {X : Cx} {ifs : List Expr} {t : TT} {σ : L2.St} {H : Hp} {Q : Bool → Hp → Prop} (p : PTs X ifs t) (h : t σ H Q) : WTs X ifs σ H Q := fun pins s I => p.run pins s σ H Q I h
def wtB (X : Cx) (scope : Scope) (ifs : List Expr) : TT := fun σ H Q => ∀ c : Bx, WTs (X.blk c.s c.H scope (compEnvC scope c.cl c.C X.env) c.fp) ifs σ H Q
def weB (X : Cx) (scope : Scope) (e : Expr) : TE := fun σ H Q => ∀ c : Bx, WE (X.blk c.s c.H scope (compEnvC scope c.cl c.C X.env) c.fp) e σ H Q
/-- the turns: out i is what has been made ahead of turn i, st i the stream's state there -/
structure Comp (F : Fx) (ρ : List G) (scope : Scope) (vs : List Nat) (tg : Expr) (ifs : List Expr) (elt : Expr) (items : List D) (out : Nat → List D) (st : Nat → Sx) : Prop where
  nil : out 0 = []
  len : ∀ i, i ≤ items.length → (out i).length ≤ sizeLine
  turn : ∀ i d, items[i]? = some d → ∃ ρ2 js, (∀ c, Eg (F.blk scope c) tg d (gwipe ρ vs) ρ2 js) ∧ (∀ j ∈ js, j ∈ vs) ∧ ∃ b s2, (∀ c, Eifs (F.blk scope c) ρ2 (st i) ifs b s2) ∧
    (b = true → ∃ y, (∀ c, Ed (F.blk scope c) ρ2 s2 elt y (st (i + 1))) ∧ out (i + 1) = out i ++ [y]) ∧ (b = false → st (i + 1) = s2 ∧ out (i + 1) = out i)
theorem comp_run {out : Nat → List D} {st : Nat → Sx} {own : List (Str × Nat)} (hi : Ei F ρ s tg iter items (st 0)) (hcmp : Comp F ρ scope (own.map (·.2)) tg ifs elt items out st) :
    ∀ O σ H, Fm F O σ H ρ s → ∀ Q : VK, (∀ a vs H', Fm F (a :: O) σ H' ρ (st items.length) → XE F H H' → H a = none → H' a = some (.lst vs) → Rps F.X.K F.p (a :: (O ++ F.S0)) H' vs (out items.length) → Q (.ref a) H') →
      tLc (WI F.X tg iter) (wgB F.X scope tg) (wtB F.X scope ifs) (weB F.X scope elt) (own.map (·.2)) σ H Q := by
  intro O σ H f Q q
  refine hi.2 O σ H f _ fun J H1 f1 x1 w A nA => ?_
  refine lc_it w (fun i H' => Fm F (A :: O) σ H' ρ (st i) ∧ XE F H1 H' ∧ ∃ vs, H' A = some (.lst vs) ∧ Rps F.X.K F.p (A :: (O ++ F.S0)) H' vs (out i)) ?_ ?_ ?_ ?_
  · exact ⟨f1.newO nA, .new nA, [], upd_same, by rw [hcmp.nil]; exact .nil⟩
  · rintro i H' _ ⟨_, x2, _⟩
    exact x2.xt
  · rintro i v H' H2 hi' ⟨f2, x2, ws, hA, rA⟩ ⟨ha, d, hd, hr⟩
    obtain ⟨ρ2, js, hg, hj, b, s2, ht, hy, hn⟩ := hcmp.turn i d hd
    have f3 := f2.all ha
    have x3 : XE F H1 H2 := x2.trans ⟨fun a o _ e _ => ha a o e, (xt_all (S := []) ha).2⟩
    have nA' : ¬ (F.act = true ∧ A = F.p ∧ A ∈ F.S0) := fun z => (f2.fre A List.mem_cons_self).2 z.2.2
    have r3 := hr (A :: O) fun a m => ⟨(List.mem_cons.mp m).elim (fun z => .inr (z ▸ nA)) .inl, f2.trk a (List.mem_append_left _ m)⟩
    have back : ∀ H4 s4, XE F H2 H4 → F.Sa (A :: O) H4 s4 → s4.isSome = F.act → Fm F (A :: O) σ H4 ρ s4 := fun H4 s4 x4 t4 k4 => by
      refine f3.grow ⟨fun a o e n nt => x4.1 a o (fun z => ?_) e nt, x4.2⟩ (f3.kd.trans k4.symm) t4
      rcases n with n | n
      · have q1 := f3.kd
        rw [n] at q1
        rw [← q1] at z
        cases z.1
      · exact n z.2.1
    have wf : Fm F (A :: O) (L2.wipe σ (own.map (·.2))) H2 (gwipe ρ (own.map (·.2))) (st i) := f3.wipe _
    intro c
    refine hg c (A :: O) _ H2 v (st i) wf.blk r3 _ fun σ2 f4 l4 e4 => ⟨wipe_eq (by rw [l4, wipe_length]) hj e4, fun c2 => ?_⟩
    have f4 : Fm F (A :: O) σ2 H2 ρ2 (st i) := f4.unblk
    have key : ∀ H3, Fm F (A :: O) σ2 H3 ρ2 s2 → XE F H2 H3 → (if b = true then weB F.X scope elt σ2 H3 fun y H4 => ∃ acc, H4 A = some (.lst acc) ∧ acc.length < sizeLine ∧ (Fm F (A :: O) σ (upd H4 A (.lst (acc ++ [y]))) ρ (st (i + 1)) ∧ XE F H1 (upd H4 A (.lst (acc ++ [y]))) ∧ ∃ vs, (upd H4 A (.lst (acc ++ [y]))) A = some (.lst vs) ∧ Rps F.X.K F.p (A :: (O ++ F.S0)) (upd H4 A (.lst (acc ++ [y]))) vs (out (i + 1)))
        else (Fm F (A :: O) σ H3 ρ (st (i + 1)) ∧ XE F H1 H3 ∧ ∃ vs, H3 A = some (.lst vs) ∧ Rps F.X.K F.p (A :: (O ++ F.S0)) H3 vs (out (i + 1)))) := by
      intro H3 f5 x5
      cases b with
      | true =>
        obtain ⟨y, hy1, hy2⟩ := hy rfl
        refine iteT fun c3 => (hy1 c3).2 (A :: O) σ2 H3 f5.blk _ fun u H4 f6 x6 r6 => ?_
        have f6 : Fm F (A :: O) σ2 H4 ρ2 (st (i + 1)) := f6.unblk
        have x6 : XE F H3 H4 := x6
        have x7 : XE F H2 H4 := x5.trans x6
        have hA4 : H4 A = some (.lst ws) := x7.1 _ _ nA' (ha _ _ hA) nt_lst
        have rA4 : Rps F.X.K F.p (A :: (O ++ F.S0)) H4 ws (out i) := (rA.ext (xt_all ha)).ext (x7.xt (O := A :: O))
        have hlen := hcmp.len (i + 1) (by have := (List.getElem?_eq_some_iff.mp hd).1; omega)
        refine ⟨ws, hA4, ?_, ?_⟩
        · rw [hy2, List.length_append] at hlen
          rw [rA4.length]
          exact Nat.lt_of_succ_le (by simpa using hlen)
        · have f7 := back H4 (st (i + 1)) x7 f6.st f6.kd
          have xm : XT (A :: O ++ F.S0) H4 (upd H4 A (.lst (ws ++ [u]))) := ⟨fun b o n h _ => by rw [upd_ne (show b ≠ A from fun z => n (by rw [z]; exact List.mem_cons_self))]; exact h, fun b h => upd_none h⟩
          refine ⟨?_, ?_, _, upd_same, ?_⟩
          · -- the new list holds one more
            refine ⟨⟨fun b o h n nt => ?_, fun b h => f7.ext.2 b (upd_none h)⟩, fun j g hgj => ?_, f7.own, f7.dis, f7.fre, fun b m => ?_, ?_, f7.pm, f7.kd⟩
            · rw [upd_ne (show b ≠ A from fun z => ?_)]
              · exact f7.ext.1 b o h n nt
              · rw [z, (f7.fre A List.mem_cons_self).1] at h; cases h
            · obtain ⟨o, ho, qs⟩ := f7.slot j g hgj
              refine ⟨o, ho, ?_⟩
              cases g with
              | no => trivial
              | val d =>
                obtain ⟨v, e, r'⟩ := qs
                exact ⟨v, e, r'.ext xm⟩
              | ow u es =>
                obtain ⟨b, us, e, m, hb, r', ft⟩ := qs
                subst e
                refine ⟨b, us, rfl, m, ?_, r'.ext xm, ft⟩
                rw [upd_ne (show b ≠ A from fun z => ?_)]
                · exact hb
                · have mo := f1.own j u es b hgj ho
                  rw [z] at mo
                  exact f1.fresh nA (List.mem_append_left _ mo)
            · obtain ⟨o, e⟩ := f7.trk b m
              by_cases z : b = A
              · rw [z]; exact ⟨_, upd_same⟩
              · exact ⟨o, by rw [upd_ne z]; exact e⟩
            · have qs := f7.st
              have pm := f7.pm
              revert qs pm
              cases st (i + 1) with
              | none => exact fun qs _ => tabs_upd qs hA4 nt_lst nc_lst
              | some ys =>
                rintro ⟨q1, q2, ws', q3, q4⟩ pm
                exact ⟨tabs_upd q1 hA4 nt_lst nc_lst, q2, ws', by rw [upd_ne (show F.p ≠ A from fun z => (f7.fre A List.mem_cons_self).2 (by rw [← z]; exact pm rfl))]; exact q3, q4.ext xm⟩
          · have x8 := x3.trans x7
            exact ⟨fun b o n h nt => by rw [upd_ne (show b ≠ A from fun z => by rw [z, nA] at h; cases h)]; exact x8.1 b o n h nt, fun b h => x8.2 b (upd_none h)⟩
          · rw [hy2]
            exact (rA4.append (.one r6)).ext xm
      | false =>
        obtain ⟨hn1, hn2⟩ := hn rfl
        refine iteF ⟨?_, x3.trans x5, ws, x5.1 _ _ nA' (ha _ _ hA) nt_lst, ?_⟩
        · rw [hn1]; exact back H3 s2 x5 f5.st f5.kd
        · rw [hn2]; exact (rA.ext (xt_all ha)).ext (x5.xt (O := A :: O))
    rcases ht c2 with ⟨e1, e2, e3⟩ | ⟨c3, e1, e2⟩
    · subst e1
      have z := key H2 (by rw [e3]; exact f4) .refl
      subst e2
      exact wts pts_nil z
    · subst e1
      exact wts (pts_one pt_wt) (e2.2 (A :: O) σ2 H2 f4.blk _ fun H3 f5 x5 => key H3 f5.unblk x5)
  · rintro H' ⟨f2, x2, ws, hA, rA⟩
    exact q A ws H' f2 (x1.trans x2) (x1.2 A nA) hA rA
/-- [elt for tg in iter if ..], a new list -/
theorem el_comp {out : Nat → List D} {st : Nat → Sx} (own : List (Str × Nat)) (hc : F.X.calm = true) (hN : F.X.N.Nodup) (hi : Ei F ρ s tg iter items (st 0)) (ok : BlkOk F.X.N F.X.env.scope scope own) (hcmp : Comp F ρ scope (own.map (·.2)) tg ifs elt items out st)
    (kd : s.isSome = (st items.length).isSome) (hs : ∀ x, foldedSetIterable iter F.X.env x = pure x := by intro _; rfl) : El F ρ s (.ListComp elt [⟨tg, iter, ifs, 0⟩] scope pos) (out items.length) (st items.length) :=
  ⟨kd, fun O σ H f Q q => we (pe_lc hc hN pi_wi ok (fun s H C cl fp => ⟨fun pins s' σ H' v u Q I r h => h ⟨s, H, C, cl, fp⟩ pins s' u I r⟩) (fun s H C cl fp => ⟨fun pins s' σ H' Q I h => h ⟨s, H, C, cl, fp⟩ pins s' I⟩)
    (fun s H C cl fp => ⟨fun pins s' σ H' Q I h => h ⟨s, H, C, cl, fp⟩ pins s' I⟩) hs) (comp_run hi hcmp O σ H f Q q)⟩
/-- y = [elt for tg in iter if ..] -/
theorem bs_setLc (i : Nat) {y : Str} {py spos : Pos} {out : Nat → List D} {st : Nat → Sx} (own : List (Str × Nat)) (hc : F.X.calm = true) (hN : F.X.N.Nodup) (hy : F.X.N[i]? = some y) (hyl : F.X.env.scope.names.lookup y = some .local) (hsw : swapsWith (.ListComp elt [⟨tg, iter, ifs, 0⟩] scope pos) (some (.Name y py)) spos.line F.X.env = pure true)
    (hi : Ei F ρ s tg iter items (st 0)) (ok : BlkOk F.X.N F.X.env.scope scope own) (hcmp : Comp F ρ scope (own.map (·.2)) tg ifs elt items out st) (hk : k.nx (ρ.set i (.own (out items.length))) (st items.length)) (hs : ∀ x, foldedSetIterable iter F.X.env x = pure x := by intro _; rfl) :
    Bs F (.Assign [.Name y py] (.ListComp elt [⟨tg, iter, ifs, 0⟩] scope pos) spos) ρ s k :=
  fun O σ H f E q => ws (ps_setLc hc hN hy hyl hsw pi_wi ok (fun s H C cl fp => ⟨fun pins s' σ H' v u Q I r h => h ⟨s, H, C, cl, fp⟩ pins s' u I r⟩) (fun s H C cl fp => ⟨fun pins s' σ H' Q I h => h ⟨s, H, C, cl, fp⟩ pins s' I⟩)
    (fun s H C cl fp => ⟨fun pins s' σ H' Q I h => h ⟨s, H, C, cl, fp⟩ pins s' I⟩) hs) (comp_run hi hcmp O σ H f _ fun v vs H1 f1 x1 n1 h1 r1 => q.nx (v :: O) _ H1 _ _ (f1.setOwn List.mem_cons_self (f.notOwn n1) h1 r1)
      ⟨x1.xt, fun a m => (List.mem_cons.mp m).elim (fun z => .inr (z ▸ n1)) .inl⟩ hk)
/-- plain turns: each item d gives f d; nothing is drawn -/
theorem Comp.map {vs : List Nat} (f : D → D) (hl : items.length ≤ sizeLine) (h : ∀ (i : Nat) (d : D), items[i]? = some d → ∃ ρ2 js, (∀ c, Eg (F.blk scope c) tg d (gwipe ρ vs) ρ2 js) ∧ (∀ j ∈ js, j ∈ vs) ∧ ∀ c, Ed (F.blk scope c) ρ2 s elt (f d) s) :
    Comp F ρ scope vs tg [] elt items (fun i => (items.take i).map f) (fun _ => s) := by
  refine ⟨rfl, fun i hi => by simp; omega, fun i d hd => ?_⟩
  obtain ⟨ρ2, js, h1, h2, h3⟩ := h i d hd
  refine ⟨ρ2, js, h1, h2, true, s, fun c => .inl ⟨rfl, rfl, rfl⟩, fun _ => ⟨f d, h3, ?_⟩, fun z => by cases z⟩
  rw [List.take_add_one, hd]
  simp
/-- with a test -/
theorem Comp.filter {vs : List Nat} {c : Expr} (f : D → D) (g : D → Bool) (hl : items.length ≤ sizeLine) (h : ∀ (i : Nat) (d : D), items[i]? = some d → ∃ ρ2 js, (∀ c, Eg (F.blk scope c) tg d (gwipe ρ vs) ρ2 js) ∧ (∀ j ∈ js, j ∈ vs) ∧ (∀ b, Et (F.blk scope b) ρ2 s c (g d) s) ∧ (g d = true → ∀ c, Ed (F.blk scope c) ρ2 s elt (f d) s)) :
    Comp F ρ scope vs tg [c] elt items (fun i => ((items.take i).filter g).map f) (fun _ => s) := by
  refine ⟨rfl, fun i hi => ?_, fun i d hd => ?_⟩
  · have h1 := List.length_filter_le g (items.take i)
    have h2 := List.length_take_le' i items
    simp only [List.length_map]
    omega
  · obtain ⟨ρ2, js, h1, h2, h3, h4⟩ := h i d hd
    refine ⟨ρ2, js, h1, h2, g d, s, fun b => .inr ⟨c, rfl, h3 b⟩, fun e => ⟨f d, h4 e, ?_⟩, fun e => ⟨rfl, ?_⟩⟩
    · rw [List.take_add_one, hd]
      simp [e]
    · rw [List.take_add_one, hd]
      simp [e]
theorem take_all {α : Type} {l : List α} : l.take l.length = l := List.take_length
end
end Gh
set_option Elab.async false
set_option linter.all false
set_option maxRecDepth 100000
set_option maxHeartbeats 2000000
/-! zip of any two of lists and tuples; enumerate of a tuple -/
namespace Zm
open PySem PySem.Spec PyProof.Rows L2
/-- t: a tuple's, else a list's -/
def Src (t : Bool) (h : Heap) (l : Addr) (xs : Array Value) : Prop := if t = true then h.IsTuple l xs else h.IsList l xs
def Run (t : Bool) (h : Heap) (i l : Addr) (k : Nat) : Prop := if t = true then h.IsTupleIter i l k else h.IsListIter i l k
section
variable {t : Bool} {h h' : Heap} {i l b : Addr} {k : Nat} {xs : Array Value}
theorem Src.but (x : Src t h l xs) (e : Heap.ExtBut b h h') (n : l ≠ b) : Src t h' l xs := by
  cases t with
  | true => exact Heap.IsTuple.extBut x e n
  | false => exact Heap.IsList.extBut x e n
theorem Run.but (x : Run t h i l k) (e : Heap.ExtBut b h h') (n : i ≠ b) : Run t h' i l k := by
  cases t with
  | true => exact Heap.IsTupleIter.extBut x e n
  | false => exact Heap.IsListIter.extBut x e n
theorem Run.to (x : Run t h i l k) (e : ∀ o, h.get? i = some o → h'.get? i = some o) : Run t h' i l k := by
  cases t with
  | true => exact Heap.IsTupleIter.at x e
  | false => exact Heap.IsListIter.at x e
theorem Run.obj (x : Run t h i l k) : ∃ o vs, h.get? i = some o ∧ o.data = .fields vs := by
  cases t with
  | true => obtain ⟨o, e, _, d⟩ := (show h.IsTupleIter i l k from x); exact ⟨o, _, e, d⟩
  | false => obtain ⟨o, e, _, d⟩ := (show h.IsListIter i l k from x); exact ⟨o, _, e, d⟩
theorem Run.lt (x : Run t h i l k) : i < h.objs.size := by
  obtain ⟨o, _, e, _⟩ := x.obj
  exact Heap.lt_size e
end
section
variable {prog : Program} {w : World} {A : Around} {E : Value → Shared → Prop} {s : Shared}
theorem next_item {t : Bool} {i l : Addr} {k : Nat} {xs : Array Value} {x : Value} {Q : Value → Shared → Prop} (hi : Run t s.heap i l k) (hl : Src t s.heap l xs) (hx : xs[k]? = some x)
    (q : ∀ h', Run t h' i l (k + 1) → Heap.SameBut i s.heap h' → Q x { s with heap := h' }) : wpAny (model prog w) A (Builtin.SmallTypes.nextOf (.ref i)) Q E s := by
  cases t with
  | true => exact RZ.nextOf_tuple_item hi hl hx q
  | false => exact wpAny_nextOf_list_item hi hl hx q
theorem next_end {t : Bool} {i l : Addr} {k : Nat} {xs : Array Value} {Q : Value → Shared → Prop} (hh : A.handled = none) (hi : Run t s.heap i l k) (hl : Src t s.heap l xs) (hx : xs[k]? = none)
    (q : ∀ h' e, Heap.ExtBut i s.heap h' → (∃ o, h'.get? e = some o ∧ o.cls = .type "StopIteration") → E (.ref e) { s with heap := h' }) : wpAny (model prog w) A (Builtin.SmallTypes.nextOf (.ref i)) Q E s := by
  cases t with
  | true => exact RZ.nextOf_tuple_end hh hi hl hx q
  | false => exact wpAny_nextOf_list_end hh hi hl hx q
variable {t u : Bool} {z TI TO i1 i2 l1 l2 : Addr} {k1 k2 : Nat} {xs ys : Array Value} {a b : Value}
/-- a turn that gives a pair -/
theorem zip_item {x y : Value} {Q : Value → Shared → Prop} (D : ZipApart z TI TO i1 i2 l1 l2) (hz : IsZip s.heap z TI TO .none) (hTI : IsPair s.heap TI (.ref i1) (.ref i2)) (hTO : IsPair s.heap TO a b) (h1 : Run t s.heap i1 l1 k1) (h2 : Run u s.heap i2 l2 k2)
    (hl1 : Src t s.heap l1 xs) (hl2 : Src u s.heap l2 ys) (hx : xs[k1]? = some x) (hy : ys[k2]? = some y)
    (hQ : ∀ h', IsZip h' z TI TO (rawInt s.heap.objs.size) → IsPair h' TO x y → Run t h' i1 l1 (k1 + 1) → Run u h' i2 l2 (k2 + 1) → IsPair h' s.heap.objs.size x y → h'.objs.size = s.heap.objs.size + 1 →
      (∀ c o, c ≠ z → c ≠ TO → c ≠ i1 → c ≠ i2 → s.heap.get? c = some o → h'.get? c = some o) → Q (.ref s.heap.objs.size) { s with heap := h' }) :
    wpAny (model prog w) A (Builtin.«zip.__next__» ⟨[.ref z], []⟩) (fun fin s' => ∃ v, fin = .done (.ret v) ∧ Q v s') E s := by
  show wpAny _ _ (field (.ref z) 2 >>= _) _ _ _
  refine wpAny_bind (wpAny_field hz rfl (x := .bool false) rfl ?_)
  show wpAny _ _ (field (.ref z) 3 >>= _) _ _ _
  refine wpAny_bind (wpAny_field hz rfl (x := .ref TI) rfl (wpAny_bind (wpAny_seqItems hTI rfl ?_)))
  show wpAny _ _ (Builtin.SmallTypes.ownedTupleIsFree (.ref z) >>= _) _ _ _
  refine wpAny_bind ?_
  unfold Builtin.SmallTypes.ownedTupleIsFree
  refine wpAny_bind (wpAny_field hz rfl (x := .none) rfl (wpAny_pure ?_))
  simp only [if_true]
  refine wpAny_bind (wpAny_rule (wpAny_bind (wpAny_field hz rfl (x := .ref TO) rfl (wpAny_bind (wpAny_setField_rec hz (by simp) fun g1 z1 s1 => ?_)))))
  replace z1 : IsZip g1 z TI TO .ellipsis := z1
  refine wpAny_bind ?_
  simp only [List.zipIdx_cons, List.zipIdx_nil, List.forIn_cons, List.forIn_nil]
  refine wpAny_bind (wpAny_bind (wpAny_onRaise ?_))
  show wpAny _ _ (Builtin.SmallTypes.nextOf (.ref i1) >>= _) _ _ _
  refine wpAny_bind (next_item (h1.but s1.extBut D.i1z) (hl1.but s1.extBut D.l1z) hx fun g2 r2 s2 => wpAny_pure ?_)
  have p2 : IsPair g2 TO a b := s2.extBut _ _ D.TOi1 (s1.extBut _ _ D.TOz hTO)
  refine wpAny_bind (wpAny_seqItems p2 rfl (wpAny_bind (wpAny_updateSeq_pair p2 fun g3 p3 s3 => ?_)))
  replace p3 : IsPair g3 TO x b := p3
  refine wpAny_bind (wpAny_letGo (wpAny_pure (wpAny_bind (wpAny_bind (wpAny_onRaise ?_)))))
  show wpAny _ _ (Builtin.SmallTypes.nextOf (.ref i2) >>= _) _ _ _
  refine wpAny_bind (next_item (((h2.but s1.extBut D.i2z).but s2.extBut D.i12.symm).but s3.extBut D.TOi2.symm) (((hl2.but s1.extBut D.l2z).but s2.extBut D.l2i1).but s3.extBut D.l2TO) hy fun g4 r4 s4 => wpAny_pure ?_)
  have p4 : IsPair g4 TO x b := s4.extBut _ _ D.TOi2 p3
  refine wpAny_bind (wpAny_seqItems p4 rfl (wpAny_bind (wpAny_updateSeq_pair p4 fun g5 p5 s5 => ?_)))
  replace p5 : IsPair g5 TO x y := p5
  refine wpAny_bind (wpAny_letGo (wpAny_pure (wpAny_pure (wpAny_bind (wpAny_seqItems p5 rfl (wpAny_bind (wpAny_newTuple ?_)))))))
  have sz : g5.objs.size = s.heap.objs.size := by rw [s5.1, s4.1, s3.1, s2.1, s1.1]
  have z5 : IsZip g5 z TI TO .ellipsis := s5.extBut _ _ D.TOz.symm (s4.extBut _ _ D.i2z.symm (s3.extBut _ _ D.TOz.symm (s2.extBut _ _ D.i1z.symm z1)))
  have r1' : Run t g5 i1 l1 (k1 + 1) := ((r2.but s3.extBut D.TOi1.symm).but s4.extBut D.i12).but s5.extBut D.TOi1.symm
  have r2' : Run u g5 i2 l2 (k2 + 1) := r4.but s5.extBut D.TOi2.symm
  have zlt : z < g5.objs.size := Heap.lt_size z5
  show wpAny _ _ (Builtin.SmallTypes.ownedTupleHandOut (.ref z) (.ref g5.objs.size) >>= _) _ _ _
  refine wpAny_bind ?_
  unfold Builtin.SmallTypes.ownedTupleHandOut
  have z6 : IsZip (g5.push { cls := .type "tuple", data := .seq #[x, y] }) z TI TO .ellipsis := Heap.get?_push_of_some _ z5
  refine wpAny_bind (wpAny_setField_rec z6 (by simp) fun g7 z7 s7 => ?_)
  replace z7 : IsZip g7 z TI TO (rawInt g5.objs.size) := z7
  refine wpAny_setField_rec z7 (by simp) fun g8 z8 s8 => ?_
  replace z8 : IsZip g8 z TI TO (rawInt g5.objs.size) := z8
  have up : ∀ c o, c ≠ z → g5.get? c = some o → g8.get? c = some o := fun c o n e => s8.extBut _ _ n (s7.extBut _ _ n (Heap.get?_push_of_some _ e))
  have p8 : IsPair g8 g5.objs.size x y := s8.extBut _ _ (Nat.ne_of_gt zlt) (s7.extBut _ _ (Nat.ne_of_gt zlt) (Heap.get?_push_size _ rfl))
  have sz8 : g8.objs.size = g5.objs.size + 1 := by rw [s8.1, s7.1, Heap.size_push]
  rw [sz] at z8 p8 sz8
  refine wpAny_pure ⟨_, rfl, ?_⟩
  show Q (.ref g5.objs.size) _
  rw [sz]
  exact hQ g8 z8 (up _ _ D.TOz p5) (r1'.to fun o e => up _ o D.i1z e) (r2'.to fun o e => up _ o D.i2z e) p8 sz8 fun c o n1 n2 n3 n4 e =>
    up c o n1 (s5.extBut _ _ n2 (s4.extBut _ _ n4 (s3.extBut _ _ n2 (s2.extBut _ _ n3 (s1.extBut _ _ n1 e)))))
/-- the turn at which one of both is through -/
theorem zip_end {Q : Fin → Shared → Prop} (hh : A.handled = none) (D : ZipApart z TI TO i1 i2 l1 l2) (hz : IsZip s.heap z TI TO .none) (hTI : IsPair s.heap TI (.ref i1) (.ref i2)) (hTO : IsPair s.heap TO a b) (h1 : Run t s.heap i1 l1 k1) (h2 : Run u s.heap i2 l2 k2)
    (hl1 : Src t s.heap l1 xs) (hl2 : Src u s.heap l2 ys) (hend : xs[k1]? = none ∨ ys[k2]? = none)
    (hE : ∀ h' e, (∀ c o, c ≠ z → c ≠ TO → c ≠ i1 → c ≠ i2 → s.heap.get? c = some o → h'.get? c = some o) → (∃ o, h'.get? e = some o ∧ o.cls = .type "StopIteration") → E (.ref e) { s with heap := h' }) :
    wpAny (model prog w) A (Builtin.«zip.__next__» ⟨[.ref z], []⟩) Q E s := by
  show wpAny _ _ (field (.ref z) 2 >>= _) _ _ _
  refine wpAny_bind (wpAny_field hz rfl (x := .bool false) rfl ?_)
  show wpAny _ _ (field (.ref z) 3 >>= _) _ _ _
  refine wpAny_bind (wpAny_field hz rfl (x := .ref TI) rfl (wpAny_bind (wpAny_seqItems hTI rfl ?_)))
  show wpAny _ _ (Builtin.SmallTypes.ownedTupleIsFree (.ref z) >>= _) _ _ _
  refine wpAny_bind ?_
  unfold Builtin.SmallTypes.ownedTupleIsFree
  refine wpAny_bind (wpAny_field hz rfl (x := .none) rfl (wpAny_pure ?_))
  simp only [if_true]
  refine wpAny_bind (wpAny_rule (wpAny_bind (wpAny_field hz rfl (x := .ref TO) rfl (wpAny_bind (wpAny_setField_rec hz (by simp) fun g1 z1 s1 => ?_)))))
  replace z1 : IsZip g1 z TI TO .ellipsis := z1
  refine wpAny_bind ?_
  simp only [List.zipIdx_cons, List.zipIdx_nil, List.forIn_cons, List.forIn_nil]
  refine wpAny_bind (wpAny_bind (wpAny_onRaise ?_))
  show wpAny _ _ (Builtin.SmallTypes.nextOf (.ref i1) >>= _) _ _ _
  cases hx : xs[k1]? with
  | none =>
    refine wpAny_bind (next_end hh (h1.but s1.extBut D.i1z) (hl1.but s1.extBut D.l1z) hx fun g2 e s2 he => ?_)
    obtain ⟨oe, hoe, hce⟩ := he
    have z2 : IsZip g2 z TI TO .ellipsis := s2 _ _ D.i1z.symm z1
    have ne : e ≠ z := fun q => by subst q; rw [z2] at hoe; cases hoe; simp at hce
    exact wpAny_setField_rec z2 (by simp) fun g3 _ s3 => hE g3 e (fun c o n1 _ n3 _ q => s3.extBut _ _ n1 (s2 _ _ n3 (s1.extBut _ _ n1 q))) ⟨oe, s3.extBut _ _ ne hoe, hce⟩
  | some x =>
    have hy : ys[k2]? = none := by rcases hend with h | h; rw [hx] at h; cases h; exact h
    refine wpAny_bind (next_item (h1.but s1.extBut D.i1z) (hl1.but s1.extBut D.l1z) hx fun g2 r2 s2 => wpAny_pure ?_)
    have p2 : IsPair g2 TO a b := s2.extBut _ _ D.TOi1 (s1.extBut _ _ D.TOz hTO)
    refine wpAny_bind (wpAny_seqItems p2 rfl (wpAny_bind (wpAny_updateSeq_pair p2 fun g3 p3 s3 => ?_)))
    refine wpAny_bind (wpAny_letGo (wpAny_pure (wpAny_bind (wpAny_bind (wpAny_onRaise ?_)))))
    show wpAny _ _ (Builtin.SmallTypes.nextOf (.ref i2) >>= _) _ _ _
    refine wpAny_bind (next_end hh (((h2.but s1.extBut D.i2z).but s2.extBut D.i12.symm).but s3.extBut D.TOi2.symm) (((hl2.but s1.extBut D.l2z).but s2.extBut D.l2i1).but s3.extBut D.l2TO) hy fun g4 e s4 he => ?_)
    obtain ⟨oe, hoe, hce⟩ := he
    have z4 : IsZip g4 z TI TO .ellipsis := s4 _ _ D.i2z.symm (s3.extBut _ _ D.TOz.symm (s2.extBut _ _ D.i1z.symm z1))
    have ne : e ≠ z := fun q => by subst q; rw [z4] at hoe; cases hoe; simp at hce
    exact wpAny_setField_rec z4 (by simp) fun g5 _ s5 => hE g5 e (fun c o n1 n2 n3 n4 q => s5.extBut _ _ n1 (s4 _ _ n4 (s3.extBut _ _ n2 (s2.extBut _ _ n3 (s1.extBut _ _ n1 q))))) ⟨oe, s5.extBut _ _ ne hoe, hce⟩
theorem py_item {x y : Value} {Q : Option Value → Shared → Prop} (D : ZipApart z TI TO i1 i2 l1 l2) (hz : IsZip s.heap z TI TO .none) (hTI : IsPair s.heap TI (.ref i1) (.ref i2)) (hTO : IsPair s.heap TO a b) (h1 : Run t s.heap i1 l1 k1) (h2 : Run u s.heap i2 l2 k2)
    (hl1 : Src t s.heap l1 xs) (hl2 : Src u s.heap l2 ys) (hx : xs[k1]? = some x) (hy : ys[k2]? = some y)
    (hQ : ∀ h', IsZip h' z TI TO (rawInt s.heap.objs.size) → IsPair h' TO x y → Run t h' i1 l1 (k1 + 1) → Run u h' i2 l2 (k2 + 1) → IsPair h' s.heap.objs.size x y → h'.objs.size = s.heap.objs.size + 1 →
      (∀ c o, c ≠ z → c ≠ TO → c ≠ i1 → c ≠ i2 → s.heap.get? c = some o → h'.get? c = some o) → Q (some (.ref s.heap.objs.size)) { s with heap := h' }) : wpAny (model prog w) A (pyNext (.ref z)) Q E s := by
  have hT : s.TypeIs (.ref z) "zip" := ⟨_, hz, rfl⟩
  unfold pyNext
  refine wpAny_bind (wpAny_attempt (wpAny_callSpecial?_slot (name := Str.ofString "__next__") hT F.slot_zip_next (wpAny_call_entry F.slot_zip_next hT F.entry_zip_next ?_ (F.args_zip_next_1 _))))
  exact zip_item D hz hTI hTO h1 h2 hl1 hl2 hx hy fun h' a1 a2 a3 a4 a5 a6 a7 => wpAny_pure (hQ h' a1 a2 a3 a4 a5 a6 a7)
theorem py_end {Q : Option Value → Shared → Prop} (hh : A.handled = none) (D : ZipApart z TI TO i1 i2 l1 l2) (hz : IsZip s.heap z TI TO .none) (hTI : IsPair s.heap TI (.ref i1) (.ref i2)) (hTO : IsPair s.heap TO a b) (h1 : Run t s.heap i1 l1 k1) (h2 : Run u s.heap i2 l2 k2)
    (hl1 : Src t s.heap l1 xs) (hl2 : Src u s.heap l2 ys) (hend : xs[k1]? = none ∨ ys[k2]? = none) (hQ : ∀ h', (∀ c o, c ≠ z → c ≠ TO → c ≠ i1 → c ≠ i2 → s.heap.get? c = some o → h'.get? c = some o) → Q none { s with heap := h' }) : wpAny (model prog w) A (pyNext (.ref z)) Q E s := by
  have hT : s.TypeIs (.ref z) "zip" := ⟨_, hz, rfl⟩
  unfold pyNext
  refine wpAny_bind (wpAny_attempt (wpAny_callSpecial?_slot (name := Str.ofString "__next__") hT F.slot_zip_next (wpAny_call_entry F.slot_zip_next hT F.entry_zip_next ?_ (F.args_zip_next_1 _))))
  refine zip_end hh D hz hTI hTO h1 h2 hl1 hl2 hend fun h' e hk he => ?_
  obtain ⟨o, ho, hc⟩ := he
  exact wpAny_bind (wpAny_isInstance (T := "StopIteration") (b := true) ⟨o, ho, hc⟩ isSubtype_stop (wpAny_pure (hQ _ hk)))
end
/-! the making -/
def itN (t : Bool) : String := if t = true then "tuple_iterator" else "list_iterator"
abbrev m1 (t : Bool) (h : Heap) (l1 : Addr) : Heap := h.push { cls := .type (itN t), data := .fields #[.ref l1, .int 0 0] }
abbrev m2 (t u : Bool) (h : Heap) (l1 l2 : Addr) : Heap := (m1 t h l1).push { cls := .type (itN u), data := .fields #[.ref l2, .int 0 0] }
abbrev m3 (t u : Bool) (h : Heap) (l1 l2 : Addr) : Heap := (m2 t u h l1 l2).push { cls := .type "tuple", data := .seq #[.ref h.objs.size, .ref (m1 t h l1).objs.size] }
abbrev m4 (t u : Bool) (h : Heap) (l1 l2 : Addr) : Heap := (m3 t u h l1 l2).push { cls := .type "tuple", data := .seq #[.none, .none] }
abbrev m5 (t u : Bool) (h : Heap) (l1 l2 : Addr) : Heap := (m4 t u h l1 l2).push { cls := .type "zip", data := .fields #[.none, .bool false, .bool false, .ref (m2 t u h l1 l2).objs.size, .ref (m3 t u h l1 l2).objs.size] }
theorem made (t u : Bool) (l1 l2 : Addr) (xs ys : Array Value) : Meets (Builtin.«zip.__new__» ⟨[.type "zip", .ref l1, .ref l2], []⟩) (fun _ R s => Src t s.heap l1 xs ∧ Src u s.heap l2 ys ∧ R (.ok (.ret (.ref (m4 t u s.heap l1 l2).objs.size))) { s with heap := m5 t u s.heap l1 l2 }) :=
  .of_wp fun prog w A R s h => by
    obtain ⟨hp, g, d, tk, os⟩ := s; obtain ⟨hl1, hl2, h⟩ := h
    have hsub := sub_zip
    cases t with
    | true =>
      have e1 : Heap.IsTuple (Shared.heap ⟨hp, g, d, tk, os⟩) l1 xs := hl1
      cases u with
      | true =>
        have e2 : Heap.IsTuple (Shared.heap ⟨hp.push { cls := .type "tuple_iterator", data := .fields #[.ref l1, .int 0 0] }, g, d, tk, os⟩) l2 ys := Heap.IsTuple.push hl2 _
        wp_walk using wpAny_pyIter_tuple e1, wpAny_pyIter_tuple e2
        exact ⟨_, rfl, h⟩
      | false =>
        have e2 : Heap.IsList (Shared.heap ⟨hp.push { cls := .type "tuple_iterator", data := .fields #[.ref l1, .int 0 0] }, g, d, tk, os⟩) l2 ys := Heap.IsList.push hl2 _
        wp_walk using wpAny_pyIter_tuple e1, wpAny_pyIter_list e2
        exact ⟨_, rfl, h⟩
    | false =>
      have e1 : Heap.IsList (Shared.heap ⟨hp, g, d, tk, os⟩) l1 xs := hl1
      cases u with
      | true =>
        have e2 : Heap.IsTuple (Shared.heap ⟨hp.push { cls := .type "list_iterator", data := .fields #[.ref l1, .int 0 0] }, g, d, tk, os⟩) l2 ys := Heap.IsTuple.push hl2 _
        wp_walk using wpAny_pyIter_list e1, wpAny_pyIter_tuple e2
        exact ⟨_, rfl, h⟩
      | false =>
        have e2 : Heap.IsList (Shared.heap ⟨hp.push { cls := .type "list_iterator", data := .fields #[.ref l1, .int 0 0] }, g, d, tk, os⟩) l2 ys := Heap.IsList.push hl2 _
        wp_walk using wpAny_pyIter_list e1, wpAny_pyIter_list e2
        exact ⟨_, rfl, h⟩
theorem run0 {t : Bool} {h : Heap} {i l : Addr} (e : h.get? i = some { cls := .type (itN t), data := .fields #[.ref l, .int 0 0] }) : Run t h i l 0 := by
  cases t with
  | true => exact ⟨_, e, rfl, rfl⟩
  | false => exact ⟨_, e, rfl, rfl⟩
section
variable {prog : Program} {w : World} {A : Around} {E : Value → Shared → Prop} {s : Shared}
theorem call_zip {t u : Bool} {l1 l2 : Addr} {xs ys : Array Value} {Q : Value → Shared → Prop} (hl1 : Src t s.heap l1 xs) (hl2 : Src u s.heap l2 ys)
    (h : ∀ h', IsZip h' (s.heap.objs.size + 4) (s.heap.objs.size + 2) (s.heap.objs.size + 3) .none → IsPair h' (s.heap.objs.size + 2) (.ref s.heap.objs.size) (.ref (s.heap.objs.size + 1)) → IsPair h' (s.heap.objs.size + 3) .none .none →
      Run t h' s.heap.objs.size l1 0 → Run u h' (s.heap.objs.size + 1) l2 0 → h'.objs.size = s.heap.objs.size + 5 → (∀ c o, s.heap.get? c = some o → h'.get? c = some o) → Q (.ref (s.heap.objs.size + 4)) { s with heap := h' }) :
    wpAny (model prog w) A (call (.type "zip") [.ref l1, .ref l2]) Q E s := by
  refine callType_new F.called_zip (by decide) (F.typeCall_zip_2 _ _) (F.newCall_zip_2 _ _) (fun obj => F.args_object_init_3 obj _ _) F.entry_zip_new (made t u l1 l2 xs ys) ⟨hl1, hl2, ?_⟩
  have n1 : (m1 t s.heap l1).objs.size = s.heap.objs.size + 1 := Heap.size_push ..
  have n2 : (m2 t u s.heap l1 l2).objs.size = s.heap.objs.size + 2 := by rw [Heap.size_push, n1]
  have n3 : (m3 t u s.heap l1 l2).objs.size = s.heap.objs.size + 3 := by rw [Heap.size_push, n2]
  have n4 : (m4 t u s.heap l1 l2).objs.size = s.heap.objs.size + 4 := by rw [Heap.size_push, n3]
  have n5 : (m5 t u s.heap l1 l2).objs.size = s.heap.objs.size + 5 := by rw [Heap.size_push, n4]
  have q5 : (m5 t u s.heap l1 l2).get? (m4 t u s.heap l1 l2).objs.size = some _ := Heap.get?_push_size _ rfl
  have q4 : (m5 t u s.heap l1 l2).get? (m3 t u s.heap l1 l2).objs.size = some _ := Heap.get?_push_of_some _ (Heap.get?_push_size _ rfl)
  have q3 : (m5 t u s.heap l1 l2).get? (m2 t u s.heap l1 l2).objs.size = some _ := Heap.get?_push_of_some _ (Heap.get?_push_of_some _ (Heap.get?_push_size _ rfl))
  have q2 : (m5 t u s.heap l1 l2).get? (m1 t s.heap l1).objs.size = some _ := Heap.get?_push_of_some _ (Heap.get?_push_of_some _ (Heap.get?_push_of_some _ (Heap.get?_push_size _ rfl)))
  have q1 : (m5 t u s.heap l1 l2).get? s.heap.objs.size = some _ := Heap.get?_push_of_some _ (Heap.get?_push_of_some _ (Heap.get?_push_of_some _ (Heap.get?_push_of_some _ (Heap.get?_push_size _ rfl))))
  show _ ∧ _
  rw [n2, n3, n4] at q5
  rw [n1, n2] at q3
  rw [n3] at q4
  rw [n1] at q2
  rw [n4]
  exact ⟨⟨_, q5, rfl⟩, h _ q5 q3 q4 (run0 q1) (run0 q2) n5 fun c o x => Heap.get?_push_of_some _ (Heap.get?_push_of_some _ (Heap.get?_push_of_some _ (Heap.get?_push_of_some _ (Heap.get?_push_of_some _ x))))⟩
end
/-! the walk over the layer -/
def Sq (t : Bool) (K : PySem.W.Frag) (H : Hp) (a : Addr) (xs : List V) : Prop := if t = true then SqT K H a xs else SqL K H a xs
section
variable {X : Cx} {pins : List (Addr × Obj)} {σ : L2.St} {H : Hp} {s : Shared}
theorem Sq.get {t : Bool} {a : Addr} {xs : List V} (I : Inv X pins σ H s) (h : Sq t X.K H a xs) : ∃ its, Vals xs its ∧ Src t s.heap a its.toArray ∧ a < s.heap.objs.size := by
  cases t with
  | true =>
    obtain ⟨its, rv, p, _⟩ := I.tuple (show SqT X.K H a xs from h)
    obtain ⟨o, ho, _⟩ := id p
    exact ⟨its, rv, p, Heap.lt_size ho⟩
  | false =>
    obtain ⟨its, rv, p, _⟩ := I.list (show SqL X.K H a xs from h)
    exact ⟨its, rv, p.isList, p.lt⟩
theorem Sq.inj {t : Bool} {a : Addr} {xs ys : List V} (I : Inv X pins σ H s) (h : Sq t X.K H a xs) (h' : Sq t X.K H a ys) : xs = ys := by
  cases t with
  | true => exact I.tuple_inj h h'
  | false => exact I.list_inj h h'
end
def Itm (t u : Bool) (K : PySem.W.Frag) (a b : Addr) : It :=
  ⟨fun i H => ∃ (xs ys : List V) (x y : V), Sq t K H a xs ∧ Sq u K H b ys ∧ xs[i]? = some x ∧ ys[i]? = some y,
    fun i H v H' => ∃ T x y, v = .ref T ∧ H T = none ∧ H' = upd H T (.tup [x, y]) ∧ (∀ xs, Sq t K H a xs → xs[i]? = some x) ∧ ∀ ys, Sq u K H b ys → ys[i]? = some y,
    fun i H => ∃ xs ys : List V, Sq t K H a xs ∧ Sq u K H b ys ∧ (xs.length ≤ i ∨ ys.length ≤ i)⟩
theorem turn {P : Program} {w : World} {K : PySem.W.Frag} {elts : List Expr} {kk : Nat} {tpos : Pos} {t u : Bool} {a b z TI TO i1 i2 : Addr} (D : ZipApart z TI TO i1 i2 a b) :
    Turn P w K (.Tuple elts kk tpos) (Itm t u K a b) [z, TI, TO, i1, i2] z (fun i h => IsZip h z TI TO .none ∧ IsPair h TI (.ref i1) (.ref i2) ∧ (∃ x y, IsPair h TO x y) ∧ Run t h i1 a i ∧ Run u h i2 b i) where
  mem := by simp
  obj := fun i h st c hc => by
    obtain ⟨hz, hTI, ⟨x, y, hTO⟩, r1, r2⟩ := st
    obtain ⟨o1, f1, e1, d1⟩ := r1.obj
    obtain ⟨o2, f2, e2, d2⟩ := r2.obj
    simp only [List.mem_cons, List.not_mem_nil, or_false] at hc
    rcases hc with q | q | q | q | q
    · rw [q]; exact ⟨_, hz, fun v q => nomatch q⟩
    · rw [q]; exact ⟨_, hTI, fun v q => nomatch q⟩
    · rw [q]; exact ⟨_, hTO, fun v q => nomatch q⟩
    · rw [q]; exact ⟨o1, e1, fun v q => by rw [d1] at q; cases q⟩
    · rw [q]; exact ⟨o2, e2, fun v q => by rw [d2] at q; cases q⟩
  keep := fun i h h' st k => by
    obtain ⟨hz, hTI, ⟨x, y, hTO⟩, h1, h2⟩ := st
    exact ⟨k z (by simp) _ hz, k TI (by simp) _ hTI, ⟨x, y, k TO (by simp) _ hTO⟩, h1.to fun o q => k i1 (by simp) o q, h2.to fun o q => k i2 (by simp) o q⟩
  item := by
    intro X hP hw hK hc i pins s σ H E I hf st hg
    subst hP hw hK
    obtain ⟨hz, hTI, ⟨x0, y0, hTO⟩, h1, h2⟩ := st
    obtain ⟨xs, ys, x, y, hqx, hqy, hx, hy⟩ := hg
    obtain ⟨its, rv, p, _⟩ := hqx.get I
    obtain ⟨its2, rv2, p2, _⟩ := hqy.get I
    obtain ⟨v1, hu, ru⟩ := rv.get hx
    obtain ⟨v2, hu2, ru2⟩ := rv2.get hy
    have zl : z < s.heap.objs.size := Heap.lt_size hz
    refine py_item D hz hTI hTO h1 h2 p p2 (x := v1) (y := v2) (by simpa using hu) (by simpa using hu2) fun h' z' TO' h1' h2' hT hsz hk => ?_
    refine ⟨_, rfl, wpAny_letOwnedTupleGo_zip (s := { s with heap := h' }) z' fun h'' z'' sb => ?_⟩
    have hT2 : h''.get? s.heap.objs.size = some { cls := .type "tuple", data := .seq #[v1, v2] } := (sb.2 _ (Nat.ne_of_gt zl)).trans hT
    have new : ObjOk X.prog X.w (upd H s.heap.objs.size (.tup [x, y])) h'' s.heap.objs.size (.tup [x, y]) := ⟨by show 2 ≤ sizeLine; decide, [v1, v2], .cons ru (.cons ru2 .nil), ⟨_, hT2, rfl, _, rfl⟩⟩
    have I1 : Inv X pins σ (upd H s.heap.objs.size (.tup [x, y])) { s with heap := h'' } := I.turnedNew (t' := s.toks) (ch := [z, TI, TO, i1, i2])
      (fun c o hb q => (sb.2 c (fun q' => hb (by simp [q']))).trans (hk c o (fun q' => hb (by simp [q'])) (fun q' => hb (by simp [q'])) (fun q' => hb (by simp [q'])) (fun q' => hb (by simp [q'])) q)) hf (Nat.le_refl _) new
    refine ⟨.ref s.heap.objs.size, _, I1, rfl, ⟨_, x, y, rfl, I.hok.fresh (Nat.le_refl _), rfl, fun l hl => by rw [hl.inj I hqx]; exact hx, fun l hl => by rw [hl.inj I hqy]; exact hy⟩, ⟨z'', ?_, ⟨v1, v2, ?_⟩, ?_, ?_⟩, fun c hcm => ?_⟩
    · exact (sb.2 _ D.TIz).trans (hk _ _ D.TIz D.TITO D.TIi1 D.TIi2 hTI)
    · exact (sb.2 _ D.TOz).trans TO'
    · exact h1'.to fun o q => (sb.2 _ D.i1z).trans q
    · exact h2'.to fun o q => (sb.2 _ D.i2z).trans q
    · have hlt : c < s.heap.objs.size := by
        simp only [List.mem_cons, List.not_mem_nil, or_false] at hcm
        rcases hcm with q | q | q | q | q
        · rw [q]; exact zl
        · rw [q]; exact Heap.lt_size hTI
        · rw [q]; exact Heap.lt_size hTO
        · rw [q]; exact h1.lt
        · rw [q]; exact h2.lt
      rw [upd_ne (Nat.ne_of_lt hlt)]
      exact (hf c hcm).1
  done := by
    intro X hP hw hK hc i pins s σ H E I hf st hg
    subst hP hw hK
    obtain ⟨hz, hTI, ⟨x0, y0, hTO⟩, h1, h2⟩ := st
    obtain ⟨xs, ys, hqx, hqy, hend⟩ := hg
    obtain ⟨its, rv, p, _⟩ := hqx.get I
    obtain ⟨its2, rv2, p2, _⟩ := hqy.get I
    have l1 := rv.length
    have l2 := rv2.length
    have he : its.toArray[i]? = none ∨ its2.toArray[i]? = none := by
      rcases hend with q | q
      · exact .inl (by simp; omega)
      · exact .inr (by simp; omega)
    exact py_end (I.ok.hd hc) D hz hTI hTO h1 h2 p p2 he fun h' hk => ⟨rfl, I.turnedL (t' := s.toks) (ch := [z, TI, TO, i1, i2]) (fun c o hb q =>
      hk c o (fun q' => hb (by simp [q'])) (fun q' => hb (by simp [q'])) (fun q' => hb (by simp [q'])) (fun q' => hb (by simp [q'])) q) hf⟩
  self := fun A i s Q E st h => wpAny_pyIter_zip st.1 h
def iZipM (K : PySem.W.Frag) (ta : TA) : TI := fun σ H R => ta σ H fun vs H1 => ∃ t u a b xs ys, vs = [.ref a, .ref b] ∧ Sq t K H1 a xs ∧ Sq u K H1 b ys ∧ R (Itm t u K a b) H1
theorem pi_zipM {X : Cx} {e e2 : Expr} {ta : TA} {p pos tpos : Pos} {elts : List Expr} {kk : Nat} (hg : Gl X "zip") (hm : X.mg "zip" = none) (ha : PA X [e, e2] ta)
    (hs : starEach [e, e2] X.env = (false, eval e X.env) :: starEach [e2] X.env := by rfl) (hpl : (backTo pos (starEach [e2] X.env)).any (·.1) = false := by rfl) : PI X (.Tuple elts kk tpos) (.Call (.Name "zip" p) [e, e2] [] pos) (iZipM X.K ta) := by
  refine ⟨fun pins s σ H R I h => ?_⟩
  refine Call_ (ld_blt I hg hm PyProof.Rows.boot_zip (PyProof.Rows.callWith_type1 (thn (ha.run pos pins s σ H _ I h) fun us s1 ⟨vs, H1, I1, r1, q1⟩ => ?_) hs hpl))
  obtain ⟨t, u, a, b, xs, ys, ex, hqx, hqy, q⟩ := q1
  subst ex
  cases r1 with
  | cons r rr =>
    cases rr with
    | cons r' rr =>
      cases rr; cases r; cases r'
      obtain ⟨its, rv, p1, la⟩ := hqx.get I1
      obtain ⟨its2, rv2, p2, lb⟩ := hqy.get I1
      refine call_zip p1 p2 fun h' hz hTI hTO h1 h2 hsz hk => wpAny_pyIter_zip hz ?_
      have I2 : Inv X pins σ H1 { s1 with heap := h' } := I1.kept (t' := s1.toks) hk
      refine ⟨s1.heap.objs.size + 4, [s1.heap.objs.size + 4, s1.heap.objs.size + 2, s1.heap.objs.size + 3, s1.heap.objs.size, s1.heap.objs.size + 1], _, _, H1, rfl, I2, turn (PySem.W.ktu_apart s1.heap.objs.size a b la lb), ⟨hz, hTI, ⟨_, _, hTO⟩, h1, h2⟩, fun c hcm => ?_, q⟩
      have hle : s1.heap.objs.size ≤ c := by
        simp only [List.mem_cons, List.not_mem_nil, or_false] at hcm
        rcases hcm with z | z | z | z | z <;> rw [z] <;> first | exact Nat.le_add_right _ _ | exact Nat.le_refl _
      exact I1.fpOk hle (I1.hok.fresh hle)
theorem walk {t u : Bool} {K : PySem.W.Frag} {a b : Addr} {xs ys : List V} {n : Nat} (hn : n = min xs.length ys.length) : Walk (Itm t u K a b) n (fun H => Sq t K H a xs ∧ Sq u K H b ys) (YPair (fun i => xs[i]?) (fun i => ys[i]?)) := by
  subst hn
  refine ⟨fun i _ hi q => ?_, fun _ q => ⟨xs, ys, q.1, q.2, by omega⟩, fun i H v H' _ q y => ?_⟩
  · have h1 : i < xs.length := by omega
    have h2 : i < ys.length := by omega
    exact ⟨xs, ys, xs[i], ys[i], q.1, q.2, by simp [h1], by simp [h2]⟩
  · obtain ⟨T, x, z, h1, h2, h3, h4, h5⟩ := y
    exact ⟨T, x, z, h1, h2, h3, h4 xs q.1, h5 ys q.2⟩
end Zm
namespace Gh
open PySem PySem.Spec PyProof.Rows L2
section
variable {F : Fx} {ρ : List G} {s s1 s2 s3 : Sx} {a b e : Expr} {x y d : D} {xs ys : List D} {pos p : Pos}
theorem rp_sq {K : PySem.W.Frag} {q : Addr} {S : List Addr} {H1 : Hp} {v : V} (r : Rp K q S H1 v x) (hx : x = .lst xs ∨ x = .tup xs) : ∃ (t : Bool) (c : Addr) (vs : List V), v = .ref c ∧ Rps K q S H1 vs xs ∧ Zm.Sq t K H1 c vs ∧ ∀ H2, XT S H1 H2 → Zm.Sq t K H2 c vs := by
  rcases hx with rfl | rfl
  · cases r with
    | lst m h1 h2 => exact ⟨false, _, _, rfl, h2, .inl (.inl h1), fun H2 x2 => .inl (.inl (x2.1 _ _ m h1 nt_lst))⟩
  · cases r with
    | tup h1 h2 =>
      refine ⟨true, _, _, rfl, h2, h1.sq, fun H2 x2 => ?_⟩
      rcases h1 with ⟨m, h1⟩ | h1
      · exact .inl (rd_ext x2 m h1 (by first | exact nt_tup | exact nt_lst))
      · exact SU.sq (S := []) (.inr h1)
/-- zip of any two of lists and tuples -/
theorem ei_zipM {kk : Nat} {tpos : Pos} {elts : List Expr} (B : Bf F.X.mg) (ha : Ed F ρ s a x s1) (hx : x = .lst xs ∨ x = .tup xs) (hb : Ed F ρ s1 b y s2) (hy : y = .lst ys ∨ y = .tup ys) (hg : Gl F.X "zip" := by rfl) (he : starEach [a, b] F.X.env = (false, eval a F.X.env) :: starEach [b] F.X.env := by rfl)
    (he2 : starEach [b] F.X.env = (false, eval b F.X.env) :: starEach [] F.X.env := by rfl) (hpl : (backTo pos (starEach [b] F.X.env)).any (·.1) = false := by rfl) : Ei F ρ s (.Tuple elts kk tpos) (.Call (.Name "zip" p) [a, b] [] pos) (zipD xs ys) s2 := by
  refine ⟨ha.1.trans hb.1, fun O σ H f R q => wi (Zm.pi_zipM hg B.zip (pa_cons pe_we (pa_cons pe_we pa_nil he2) he) he hpl) (ha.2 O σ H f _ fun v H1 f1 x1 r1 => hb.2 O σ H1 f1 _ fun w H2 f2 x2 r2 => ?_)⟩
  obtain ⟨t, c1, vs, rfl, h2, q1, w1⟩ := rp_sq (r1.ext x2.xt) hx
  obtain ⟨u, c2, us, rfl, h4, q2, w2⟩ := rp_sq r2 hy
  refine ⟨t, u, c1, c2, vs, us, rfl, q1, q2, q _ _ f2 (x1.trans x2) ?_⟩
  refine (Zm.walk (n := (zipD xs ys).length) (by simp [zipD, h2.length, h4.length])).mono (fun H3 x3 => ⟨w1 H3 x3, w2 H3 x3⟩) fun i H3 z H4 hi x3 y => ?_
  obtain ⟨T, u, t, rfl, n, rfl, e1, e2⟩ := y
  obtain ⟨d1, g1, k1⟩ := h2.getV e1
  obtain ⟨d2, g2, k2⟩ := h4.getV e2
  refine ⟨fun c o h => by rw [upd_ne (ne_of_none h n)]; exact h, .tup [d1, d2], by simp [zipD, List.getElem?_zipWith, g1, g2], fun O' g => ?_⟩
  have nT : T ∉ O' ++ F.S0 := fun m => by
    rcases List.mem_append.mp m with m | m
    · obtain ⟨_, o, ho⟩ := g T m
      rw [n] at ho; cases ho
    · exact f2.fresh (x3.2 T n) (List.mem_append_right _ m)
  exact .tup (.inl ⟨nT, .inl upd_same⟩) (.cons ((rp_later k1 x3 fun a m => (g a m).1).ext (.new n)) (.cons ((rp_later k2 x3 fun a m => (g a m).1).ext (.new n)) .nil))

/-! constants of the module -/
structure Cst (E : En) (x : Str) (d : D) : Prop where
  ok : ∃ v u, E.mg x = some u ∧ RelV v u ∧ ∀ p S H, Rp E.K p S H v d
theorem ed_cst {x : Str} (c : Cst F.en x d) (hg : Gl F.X x := by rfl) (hd : (x == ("__debug__" : Str)) = false := by decide) : Ed F ρ s (.Name x pos) d s := by
  obtain ⟨v, u, h1, h2, h3⟩ := c.ok
  exact ed_glob hg h1 h2 h3 hd
/-- a dict of the module with text keys: what a key stands for, if anything -/
structure Kdt (E : En) (x : Str) (at_ : Str → Option (Option D)) : Prop where
  ok : ∃ d es n, E.mg x = some (.ref d) ∧ KDict E.K E.w d es n ∧ ∀ z o, at_ z = some o → ∃ r, PySem.W.nsIn E.K d z = some r ∧ (match o with
    | none => r = none
    | some y => ∃ u v, r = some u ∧ RelV v u ∧ ∀ p S H, Rp E.K p S H v y)
theorem cp_inKD {x z : Str} {at_ : Str → Option (Option D)} {o : Option D} (k : Kdt F.en x at_) (ha : Ed F ρ s a (.str z) s1) (ho : at_ z = some o) (hg : Gl F.X x := by rfl) (hd : (x == ("__debug__" : Str)) = false := by decide) (hm : behindInMarks .In (.Name x p) = false := by rfl) : Cp F ρ s .In a (.Name x p) o.isSome s1 := by
  obtain ⟨d, es, n, h1, h2, h3⟩ := k.ok
  obtain ⟨r, h4, h5⟩ := h3 z o ho
  have e : r.isSome = o.isSome := by
    cases o with
    | none => rw [h5]; rfl
    | some y => obtain ⟨u, v, e, _⟩ := h5; rw [e]; rfl
  refine cp_of (y := .ref d) (op_in_kd h2) ha (ed_glob (v := .ref d) hg h1 rfl (fun _ _ _ => .ref d) hd) (fun O σ H f v w r1 r2 Q q => ?_) hm
  cases r1; cases r2
  exact ⟨z, r, rfl, rfl, h4, by rw [e]; exact q _ _ f .refl (.bl _)⟩
theorem ed_ixKD {x z : Str} {at_ : Str → Option (Option D)} {y : D} (k : Kdt F.en x at_) (hb : Ed F ρ s b (.str z) s1) (ho : at_ z = some (some y)) (hg : Gl F.X x := by rfl) (hd : (x == ("__debug__" : Str)) = false := by decide) (hs : PlainIx b := by exact fun _ _ => rfl) : Ed F ρ s (.Subscript (.Name x p) b pos) y s1 := by
  obtain ⟨d, es, n, h1, h2, h3⟩ := k.ok
  obtain ⟨r, h4, u, v, e, hu, hv⟩ := h3 z _ ho
  subst e
  refine ⟨hb.1, fun O σ H f Q q => we (pe_ix ix_kdict (pe_glob (v := .ref d) hg h1 rfl hd) pe_we hs) (hb.2 O σ H f _ fun w H1 f1 x1 r1 => ?_)⟩
  cases r1
  exact ⟨d, z, v, rfl, rfl, ⟨es, n, u, h2.at_, h2.lit, h4, hu⟩, q _ _ f1 x1 (hv _ _ _)⟩
/-! a def as a value, and its call by a local name -/
/-- the name holds the def f of the text -/
structure Hf (E : En) (f : Str) (a : Addr) : Prop where
  mg : E.mg f = some (.ref a)
theorem ed_fun {f : Str} {c : Addr} (h : Hf F.en f c) (hg : Gl F.X f := by rfl) (hd : (f == ("__debug__" : Str)) = false := by decide) : Ed F ρ s (.Name f pos) (.ref c) s := ed_glob (v := .ref c) hg h.mg rfl (fun _ _ _ => .ref c) hd
theorem ed_clL (i : Nat) {x f : Str} {c : Addr} {k : Nat} {es : List Expr} {ds : List D} (h : Hf F.en f c) (hN : F.X.N[i]? = some x) (hv : Vis F.X.env.scope x) (hρ : ρ[i]? = some (.val (.ref c))) (ha : Ea F ρ s (e :: es) ds s1) (hr : Room k F.X.A) (R : Rn F.en k f ds s1 d s2)
    (hdb : (x == ("__debug__" : Str)) = false := by decide) (hcd : (x == ("__classdict__" : Str)) = false := by decide) (he : starEach (e :: es) F.X.env = (false, eval e F.X.env) :: starEach es F.X.env := by rfl) (hpl : (backTo pos (starEach es F.X.env)).any (·.1) = false := by rfl) :
    Ed F ρ s (.Call (.Name x p) (e :: es) [] pos) d s2 := by
  obtain ⟨kd, fa, fd, ps, h1, h2, h3, h4⟩ := R
  obtain rfl : fa = c := by
    have z := h1.symm.trans h.mg
    cases z; rfl
  refine ⟨ha.1.trans kd, fun O σ H fm Q q => we (pe_callL h4 hr hN hv h2 h3 .nil pass0 pa_wa hdb hcd he hpl) ?_⟩
  obtain ⟨o, ho, v, eo, r⟩ := fm.slot i _ hρ
  subst eo
  cases r
  refine ⟨ho, ha.2 O σ H fm _ fun vs H1 f1 x1 r1 => ?_⟩
  rw [List.append_nil]
  exact ⟨F.p, O ++ F.S0, r1, f1.trk, f1.st, fun v H2 r2 x2 t2 => q v H2 (f1.grow x2 kd t2) (x1.trans (x2.xe f1.pm f1.kd)) r2⟩
end
end Gh
set_option Elab.async false
set_option linter.all false
set_option maxRecDepth 100000
set_option maxHeartbeats 4000000
namespace Gh
open PySem PySem.Spec PyProof.Rows L2
section
variable {F : Fx} {ρ : List G} {s s1 s2 s3 : Sx} {a b c e : Expr} {es : List Expr} {x y z d : D} {xs ys zs ds : List D} {pos p : Pos} {k : GE}
/-! tuples -/
theorem ed_catT (hl : xs.length + ys.length ≤ sizeLine) (ha : Ed F ρ s a (.tup xs) s1) (hb : Ed F ρ s1 b (.tup ys) s2) : Ed F ρ s (.BinOp a .Add b pos) (.tup (xs ++ ys)) s2 :=
  ed_op op_catA ha hb (fun O σ H f v w r1 r2 Q q => by
    cases r1 with
    | tup h1 h2 =>
      cases r2 with
      | tup h3 h4 =>
        refine ⟨_, _, _, _, rfl, rfl, h1.sq, h3.sq, by rw [h2.length, h4.length]; exact hl, fun z => ?_, fun _ z => ?_, fun _ _ t n => ?_⟩
        · subst z; cases h2; exact q _ _ f .refl (.tup h3 h4)
        · subst z; cases h4; exact q _ _ f .refl (by rw [List.append_nil]; exact .tup h1 h2)
        · exact q _ _ (f.new n) (.new n) (.tup (.inl ⟨f.fresh n, .inl upd_same⟩) ((h2.append h4).ext (.new n))))
theorem ed_sliceT {lo hi : Option Expr} {i j : Option Int} {p2 : Pos} (ha : Ed F ρ s a (.tup xs) s1) (hl : Eo F ρ s1 lo i s2) (hh : Eo F ρ s2 hi j s3) : Ed F ρ s (.Subscript a (.Slice lo hi none p2) pos) (.tup (cutD xs i j)) s3 := by
  have fin : ∀ O σ H H3, Fm F O σ H ρ s → Fm F O σ H3 ρ s3 → XE F H H3 → ∀ v, Rp F.X.K F.p (O ++ F.S0) H3 v (.tup xs) → ∀ Q : VK, (∀ v H', Fm F O σ H' ρ s3 → XE F H H' → Rp F.X.K F.p (O ++ F.S0) H' v (.tup (cutD xs i j)) → Q v H') → rSlA F.X.K v i j H3 Q := by
    intro O σ H H3 f f3 x3 v r Q q
    cases r with
    | tup h1 h2 =>
      refine ⟨_, _, rfl, h1.sq, fun z => q _ _ f3 x3 ?_, fun z t n => q _ _ (f3.new n) (x3.trans (.new n)) (.tup (.inl ⟨f3.fresh n, .inl upd_same⟩) ((rps_cut h2 i j).ext (.new n)))⟩
      have e : cutD xs i j = xs := by
        rw [h2.length] at z
        unfold cutD
        rw [z.1, z.2, List.drop_zero, Nat.sub_zero, List.take_length]
      rw [e]
      exact .tup h1 h2
  cases hl with
  | none =>
    cases hh with
    | none => exact ⟨ha.1, fun O σ H f Q q => we (pe_slice sl_tupA pe_we po_none po_none) (ha.2 O σ H f _ fun v H1 f1 x1 r1 => fin O σ H H1 f f1 x1 v r1 Q q)⟩
    | some hb => exact ⟨ha.1.trans hb.1, fun O σ H f Q q => we (pe_slice sl_tupA pe_we po_none (po_some pe_we)) (ha.2 O σ H f _ fun v H1 f1 x1 r1 => hb.2 O σ H1 f1 _ fun w H2 f2 x2 r2 => by
        cases r2; exact ⟨_, rfl, fin O σ H H2 f f2 (x1.trans x2) v (r1.ext x2.xt) Q q⟩)⟩
  | some hc =>
    cases hh with
    | none => exact ⟨ha.1.trans hc.1, fun O σ H f Q q => we (pe_slice sl_tupA pe_we (po_some pe_we) po_none) (ha.2 O σ H f _ fun v H1 f1 x1 r1 => hc.2 O σ H1 f1 _ fun w H2 f2 x2 r2 => by
        cases r2; exact ⟨_, rfl, fin O σ H H2 f f2 (x1.trans x2) v (r1.ext x2.xt) Q q⟩)⟩
    | some hb => exact ⟨(ha.1.trans hc.1).trans hb.1, fun O σ H f Q q => we (pe_slice sl_tupA pe_we (po_some pe_we) (po_some pe_we)) (ha.2 O σ H f _ fun v H1 f1 x1 r1 => hc.2 O σ H1 f1 _ fun w H2 f2 x2 r2 => by
        cases r2
        exact ⟨_, rfl, hb.2 O σ H2 f2 _ fun w H3 f3 x3 r3 => by cases r3; exact ⟨_, rfl, fin O σ H H3 f f3 ((x1.trans x2).trans x3) v ((r1.ext x2.xt).ext x3.xt) Q q⟩⟩)⟩
/-- a slice of the script -/
theorem el_sliceS {lo hi : Option Expr} {i j : Option Int} {p2 : Pos} {ns : List Int} (ha : Ed F ρ s a (.scr ns) s1) (hl : Eo F ρ s1 lo i s2) (hh : Eo F ρ s2 hi j s3) : El F ρ s (.Subscript a (.Slice lo hi none p2) pos) ((cutD ns i j).map D.int) s3 := by
  have fin : ∀ O σ H H3, Fm F O σ H ρ s → Fm F O σ H3 ρ s3 → XE F H H3 → ∀ v, Rp F.X.K F.p (O ++ F.S0) H3 v (.scr ns) → ∀ Q : VK, (∀ a vs H', Fm F (a :: O) σ H' ρ s3 → XE F H H' → H a = none → H' a = some (.lst vs) → Rps F.X.K F.p (a :: (O ++ F.S0)) H' vs ((cutD ns i j).map D.int) → Q (.ref a) H') → rSlL F.X.K v i j H3 Q := by
    intro O σ H H3 f f3 x3 v r Q q
    cases r with
    | scr h1 =>
      refine ⟨_, _, rfl, h1.sq, fun t n => q t _ _ (f3.newO n) (x3.trans (.new n)) (x3.2 t n) upd_same ?_⟩
      have e : cutV (ns.map V.int) i j = (cutD ns i j).map V.int := by
        unfold cutV cutD
        rw [List.length_map, List.map_take, List.map_drop]
      rw [e]
      exact .ofInts _
  cases hl with
  | none =>
    cases hh with
    | none => exact ⟨ha.1, fun O σ H f Q q => we (pe_slice sl_list pe_we po_none po_none) (ha.2 O σ H f _ fun v H1 f1 x1 r1 => fin O σ H H1 f f1 x1 v r1 Q q)⟩
    | some hb => exact ⟨ha.1.trans hb.1, fun O σ H f Q q => we (pe_slice sl_list pe_we po_none (po_some pe_we)) (ha.2 O σ H f _ fun v H1 f1 x1 r1 => hb.2 O σ H1 f1 _ fun w H2 f2 x2 r2 => by
        cases r2; exact ⟨_, rfl, fin O σ H H2 f f2 (x1.trans x2) v (r1.ext x2.xt) Q q⟩)⟩
  | some hc =>
    cases hh with
    | none => exact ⟨ha.1.trans hc.1, fun O σ H f Q q => we (pe_slice sl_list pe_we (po_some pe_we) po_none) (ha.2 O σ H f _ fun v H1 f1 x1 r1 => hc.2 O σ H1 f1 _ fun w H2 f2 x2 r2 => by
        cases r2; exact ⟨_, rfl, fin O σ H H2 f f2 (x1.trans x2) v (r1.ext x2.xt) Q q⟩)⟩
    | some hb => exact ⟨(ha.1.trans hc.1).trans hb.1, fun O σ H f Q q => we (pe_slice sl_list pe_we (po_some pe_we) (po_some pe_we)) (ha.2 O σ H f _ fun v H1 f1 x1 r1 => hc.2 O σ H1 f1 _ fun w H2 f2 x2 r2 => by
        cases r2
        exact ⟨_, rfl, hb.2 O σ H2 f2 _ fun w H3 f3 x3 r3 => by cases r3; exact ⟨_, rfl, fin O σ H H3 f f3 ((x1.trans x2).trans x3) v ((r1.ext x2.xt).ext x3.xt) Q q⟩⟩)⟩
theorem el_ifT (hc : Et F ρ s c true s1) (ha : El F ρ s1 a ds s2) : El F ρ s (.IfExp c a b pos) ds s2 :=
  ⟨hc.1.trans ha.1, fun O σ H f Q q => we (pe_ifExp pt_wt pe_we pe_we) (hc.2 O σ H f _ fun H1 f1 x1 => iteT (ha.2 O σ H1 f1 _ fun v vs H2 f2 x2 n2 h2 r2 => q v vs H2 f2 (x1.trans x2) (x1.2 v n2) h2 r2))⟩
theorem el_ifF (hc : Et F ρ s c false s1) (hb : El F ρ s1 b ds s2) : El F ρ s (.IfExp c a b pos) ds s2 :=
  ⟨hc.1.trans hb.1, fun O σ H f Q q => we (pe_ifExp pt_wt pe_we pe_we) (hc.2 O σ H f _ fun H1 f1 x1 => iteF (hb.2 O σ H1 f1 _ fun v vs H2 f2 x2 n2 h2 r2 => q v vs H2 f2 (x1.trans x2) (x1.2 v n2) h2 r2))⟩
theorem El.is (h : El F ρ s e xs s1) (z : xs = ys) : El F ρ s e ys s1 := by rw [← z]; exact h
/-- an expression that turns owned lists -/
def Em (F : Fx) (ρ : List G) (s : Sx) (e : Expr) (d : D) (ρ' : List G) (s' : Sx) : Prop :=
  s.isSome = s'.isSome ∧ ∀ O σ H, Fm F O σ H ρ s → ∀ Q : VK, (∀ v H', Fm F O σ H' ρ' s' → XT (O ++ F.S0) H H' → Rp F.X.K F.p (O ++ F.S0) H' v d → Q v H') → WE F.X e σ H Q
theorem Ed.em (h : Ed F ρ s e d s1) : Em F ρ s e d ρ s1 := ⟨h.1, fun O σ H f Q q => h.2 O σ H f Q fun v H' f' x' r' => q v H' f' x'.xt r'⟩
/-- x.pop(e), x owned -/
theorem em_pop (i : Nat) {x : Str} {px pa : Pos} {cpos : Pos} {n : Nat} (hi : F.X.N[i]? = some x) (hv : Vis F.X.env.scope x) (hρ : ρ[i]? = some (.own xs)) (h : Ed F ρ s e (.int n) s1) (hd' : xs[n]? = some d) (hz : xs.length ≤ sizeLine)
    (hd : (x == ("__debug__" : Str)) = false := by decide) (hcd : (x == ("__classdict__" : Str)) = false := by decide) (he : starEach [e] F.X.env = (false, eval e F.X.env) :: starEach [] F.X.env := by rfl)
    (hb : attributeBase (.Name x px) "pop" F.X.env (eval (.Name x px) F.X.env) = eval (.Name x px) F.X.env := by rfl) (hline : (pa.endLine == cpos.line) = true := by rfl) (hpl : (backTo cpos (starEach [] F.X.env)).any (·.1) = false := by rfl)
    (hfew : ((backTo cpos (starEach [e] F.X.env)).all (fun x => !x.1) && (backToKw cpos (keywordEach [] F.X.env)).all (fun x => x.1.isSome) && decide ([e].length + ([] : List Keyword).length + (if ([] : List Keyword).isEmpty then 0 else 1) < 30)) = true := by rfl) :
    Em F ρ s (.Call (.Attribute (.Name x px) "pop" pa) [e] [] cpos) d (ρ.set i (.own (xs.eraseIdx n))) s1 :=
  ⟨h.1, fun O σ H f Q q => we (pe_bm PySem.F.plainAttrs_list PySem.F.slot_list_pop PySem.F.type_list_pop mt_popAt (pe_var hi hv hd hcd) (pa_cons pe_we pa_nil he) hb hfew hline he hpl) (by
    obtain ⟨o, ho, a, vs, eo, m, h1, r, _⟩ := f.slot i _ hρ
    subst eo
    have na : ¬ (F.act = true ∧ a = F.p ∧ a ∈ F.S0) := fun z => (f.fre a (f.own i _ xs a hρ ho)).2 z.2.2
    refine ⟨_, ho, .inl ⟨rfl, _, .inl (.inl h1)⟩, h.2 O σ H f _ fun w H1 f1 x1 r1 => ?_⟩
    cases r1
    obtain ⟨v, hv', rv⟩ := r.get hd'
    have hn : n < xs.length := by
      rcases Nat.lt_or_ge n xs.length with h | h
      · exact h
      · rw [List.getElem?_eq_none h] at hd'; cases hd'
    have hl := line63
    refine ⟨a, vs, (n : Int), n, v, rfl, rfl, x1.1 _ _ na h1 nt_lst, by omega, by omega, seqIndex_of (by omega) (by rw [r.length]; omega), hv', ?_⟩
    obtain ⟨f2, x2⟩ := f1.mut hρ ho ((r.ext x1.xt).eraseIdx n)
    exact q v _ f2 (x1.xt.trans x2) ((rv.ext x1.xt).ext x2))⟩
/-- x.append(e), where e may turn owned lists -/
theorem bs_appendM (i : Nat) {x : Str} {px pa : Pos} {cpos : Pos} {ρ1 : List G} (hi : F.X.N[i]? = some x) (hv : Vis F.X.env.scope x) (hρ : ρ[i]? = some (.own xs)) (h : Em F ρ s e d ρ1 s1) (hρ1 : ρ1[i]? = some (.own ys)) (hl : ys.length < sizeLine) (hk : k.nx (ρ1.set i (.own (ys ++ [d]))) s1)
    (hd : (x == ("__debug__" : Str)) = false := by decide) (hcd : (x == ("__classdict__" : Str)) = false := by decide) (he : starEach [e] F.X.env = (false, eval e F.X.env) :: starEach [] F.X.env := by rfl)
    (hb : attributeBase (.Name x px) "append" F.X.env (eval (.Name x px) F.X.env) = eval (.Name x px) F.X.env := by rfl) (hline : (pa.endLine == cpos.line) = true := by rfl) (hpl : (backTo cpos (starEach [] F.X.env)).any (·.1) = false := by rfl)
    (hfew : ((backTo cpos (starEach [e] F.X.env)).all (fun x => !x.1) && (backToKw cpos (keywordEach [] F.X.env)).all (fun x => x.1.isSome) && decide ([e].length + ([] : List Keyword).length + (if ([] : List Keyword).isEmpty then 0 else 1) < 30)) = true := by rfl)
    (hs : swapsWith (.Call (.Attribute (.Name x px) "append" pa) [e] [] cpos) none pos.line F.X.env = pure false := by rfl) : Bs F (.Expr (.Call (.Attribute (.Name x px) "append" pa) [e] [] cpos) pos) ρ s k :=
  fun O σ H f E q => ws (ps_expr (pe_bm PySem.F.plainAttrs_list PySem.F.slot_list_append PySem.F.type_list_append mt_append (pe_var hi hv hd hcd) (pa_cons pe_we pa_nil he) hb hfew hline he hpl) hs) (by
    obtain ⟨o, ho, a, vs, eo, m, h1, r, _⟩ := f.slot i _ hρ
    subst eo
    refine ⟨_, ho, .inl ⟨rfl, _, .inl (.inl h1)⟩, h.2 O σ H f _ fun w H1 f1 x1 r1 => ?_⟩
    obtain ⟨o', ho', a', vs', eo', m', h1', r', _⟩ := f1.slot i _ hρ1
    subst eo'
    have ea : a' = a := by rw [ho] at ho'; cases ho'; rfl
    subst ea
    refine ⟨_, vs', w, rfl, rfl, h1', by rw [r'.length]; exact hl, ?_⟩
    obtain ⟨f2, x2⟩ := f1.mut hρ1 ho (r'.append (.one r1))
    exact q.nx O σ _ _ s1 f2 (.of (x1.trans x2)) hk)
/-- x.extend(e), x owned, e a new list -/
theorem bs_extend (i : Nat) {x : Str} {px pa : Pos} {cpos : Pos} (hi : F.X.N[i]? = some x) (hv : Vis F.X.env.scope x) (hρ : ρ[i]? = some (.own xs)) (h : El F ρ s e ds s1) (hl : xs.length + ds.length ≤ sizeLine) (hk : k.nx (ρ.set i (.own (xs ++ ds))) s1)
    (hd : (x == ("__debug__" : Str)) = false := by decide) (hcd : (x == ("__classdict__" : Str)) = false := by decide) (he : starEach [e] F.X.env = (false, eval e F.X.env) :: starEach [] F.X.env := by rfl)
    (hb : attributeBase (.Name x px) "extend" F.X.env (eval (.Name x px) F.X.env) = eval (.Name x px) F.X.env := by rfl) (hline : (pa.endLine == cpos.line) = true := by rfl) (hpl : (backTo cpos (starEach [] F.X.env)).any (·.1) = false := by rfl)
    (hfew : ((backTo cpos (starEach [e] F.X.env)).all (fun x => !x.1) && (backToKw cpos (keywordEach [] F.X.env)).all (fun x => x.1.isSome) && decide ([e].length + ([] : List Keyword).length + (if ([] : List Keyword).isEmpty then 0 else 1) < 30)) = true := by rfl)
    (hs : swapsWith (.Call (.Attribute (.Name x px) "extend" pa) [e] [] cpos) none pos.line F.X.env = pure false := by rfl) : Bs F (.Expr (.Call (.Attribute (.Name x px) "extend" pa) [e] [] cpos) pos) ρ s k :=
  fun O σ H f E q => ws (ps_expr (pe_bm PySem.F.plainAttrs_list PySem.F.slot_list_extend PySem.F.type_list_extend mt_extend (pe_var hi hv hd hcd) (pa_cons pe_we pa_nil he) hb hfew hline he hpl) hs) (by
    obtain ⟨o, ho, a, vs, eo, m, h1, r, _⟩ := f.slot i _ hρ
    subst eo
    have na : ¬ (F.act = true ∧ a = F.p ∧ a ∈ F.S0) := fun z => (f.fre a (f.own i _ xs a hρ ho)).2 z.2.2
    refine ⟨_, ho, .inl ⟨rfl, _, .inl (.inl h1)⟩, h.2 O σ H f _ fun w ws H1 f1 x1 n1 h2 r1 => ?_⟩
    refine ⟨a, w, vs, ws, rfl, rfl, x1.1 _ _ na h1 nt_lst, h2, by rw [r.length, r1.length]; exact hl, ?_⟩
    have f0 := f.drop f1
    obtain ⟨f2, x2⟩ := f0.mut hρ ho ((r.ext x1.xt).append (r1.weak fun b m => List.mem_cons_of_mem _ m))
    exact q.nx O σ _ _ s1 f2 (.of (x1.xt.trans x2)) hk)
/-- a, b, c = e1, e2, e3 -/
theorem bs_par3 (i j l : Nat) {x y z : Str} {px py pz pt : Pos} {kt k2} {pt2 : Pos} {d1 d2 d3 : D} (hc : F.X.calm = true) (hN : F.X.N.Nodup) (hi : F.X.N[i]? = some x) (hj : F.X.N[j]? = some y) (hl : F.X.N[l]? = some z) (hij : i ≠ j) (hil : i ≠ l) (hjl : j ≠ l) (hx : F.X.env.scope.names.lookup x = some .local) (hy : F.X.env.scope.names.lookup y = some .local) (hz : F.X.env.scope.names.lookup z = some .local)
    (ha : Ea F ρ s [a, b, c] [d1, d2, d3] s1) (hk : k.nx (((ρ.set i (.val d1)).set j (.val d2)).set l (.val d3)) s1) (hw : swappedStores [.Tuple [.Name x px, .Name y py, .Name z pz] kt pt] (.Tuple [a, b, c] k2 pt2) F.X.env = pure (some [x, y, z]) := by rfl) (hs : swapsWithSole [.Tuple [.Name x px, .Name y py, .Name z pz] kt pt] (.Tuple [a, b, c] k2 pt2) pos.line F.X.env = pure false := by rfl) :
    Bs F (.Assign [.Tuple [.Name x px, .Name y py, .Name z pz] kt pt] (.Tuple [a, b, c] k2 pt2) pos) ρ s k :=
  fun O σ H f E q => ws (ps_par3 hc hN hi hj hl hij hil hjl hx hy hz pa_wa hw hs) (ha.2 O σ H f _ fun vs H1 f1 x1 r1 => by
    cases r1 with
    | cons r1 r2 =>
      cases r2 with
      | cons r2 r3 =>
        cases r3 with
        | cons r3 r4 =>
          cases r4
          exact ⟨_, _, _, rfl, q.nx O _ H1 _ s1 (((f1.set r1).set r2).set r3) (.of x1.xt) hk⟩)
/-- x[e1] = d, x owned: the target's turn -/
theorem wg_setOwn {O : List Addr} {σ : L2.St} {H : Hp} {v : V} (i : Nat) {x : Str} {px ps : Pos} {ix : Expr} {n : Int} {j : Nat} (f : Fm F O σ H ρ s) (hN : F.X.N[i]? = some x) (hv : Vis F.X.env.scope x) (hρ : ρ[i]? = some (.own xs)) (hi : Ed F ρ s ix (.int n) s) (hj : ixN xs.length n = some j) (r : Rp F.X.K F.p (O ++ F.S0) H v d) {Q : L2.St → Hp → Prop}
    (q : ∀ H', Fm F O σ H' (ρ.set i (.own (xs.set j d))) s → XT (O ++ F.S0) H H' → Q σ H') (hd : (x == ("__debug__" : Str)) = false) (hcd : (x == ("__classdict__" : Str)) = false)
    (ha : ∀ v, assign (.Subscript (.Name x px) ix ps) F.X.env v = (do
      let ov ← holding [v] (eval (.Name x px) F.X.env)
      let iv ← holding [v, ov] (eval ix F.X.env)
      standAt ps
      holding [v, ov, iv] (setItem ov iv v)
      release [v, ov, iv] [])) : WG F.X (.Subscript (.Name x px) ix ps) v σ H Q :=
  wg (pg_sub (pe_var hN hv hd hcd) pe_we set_list ha) (by
    obtain ⟨o, ho, a, vs, eo, m, h1, r', _⟩ := f.slot i _ hρ
    subst eo
    have na : ¬ (F.act = true ∧ a = F.p ∧ a ∈ F.S0) := fun z => (f.fre a (f.own i _ xs a hρ ho)).2 z.2.2
    refine ⟨_, ho, hi.2 O σ H f _ fun w H2 f2 x2 r2 => ?_⟩
    cases r2
    refine ⟨_, vs, n, j, rfl, rfl, x2.1 _ _ na h1 nt_lst, by rw [r'.length]; exact hj, ?_⟩
    obtain ⟨f3, x3⟩ := f2.mut hρ ho ((r'.ext x2.xt).set j (r.ext x2.xt))
    exact q _ f3 (x2.xt.trans x3))
/-- x[i], x[j] = e1, e2, x owned -/
theorem bs_set2Own (i : Nat) {x : Str} {px ps px2 ps2 : Pos} {kk : Nat} {tp : Pos} {ix ix2 : Expr} {n n2 : Int} {j j2 : Nat} {d1 d2 : D} (hc : F.X.calm = true) (hN : F.X.N[i]? = some x) (hv : Vis F.X.env.scope x) (hρ : ρ[i]? = some (.own xs)) (h : Ed F ρ s e (.tup [d1, d2]) s1) (hi : Ed F ρ s1 ix (.int n) s1) (hj : ixN xs.length n = some j)
    (hi2 : Ed F (ρ.set i (.own (xs.set j d1))) s1 ix2 (.int n2) s1) (hj2 : ixN (xs.set j d1).length n2 = some j2) (hk : k.nx (ρ.set i (.own ((xs.set j d1).set j2 d2))) s1)
    (hd : (x == ("__debug__" : Str)) = false := by decide) (hcd : (x == ("__classdict__" : Str)) = false := by decide) (hs : swapsWithSole [.Tuple [.Subscript (.Name x px) ix ps, .Subscript (.Name x px2) ix2 ps2] kk tp] e pos.line F.X.env = pure false := by rfl) (hw : swappedStores [.Tuple [.Subscript (.Name x px) ix ps, .Subscript (.Name x px2) ix2 ps2] kk tp] e F.X.env = pure none := by rfl)
    (h1 : (assignEach [.Tuple [.Subscript (.Name x px) ix ps, .Subscript (.Name x px2) ix2 ps2] kk tp] F.X.env).map (·.2) = [assign (.Tuple [.Subscript (.Name x px) ix ps, .Subscript (.Name x px2) ix2 ps2] kk tp) F.X.env] := by rfl)
    (ha : ∀ v, assign (.Subscript (.Name x px) ix ps) F.X.env v = (do
      let ov ← holding [v] (eval (.Name x px) F.X.env)
      let iv ← holding [v, ov] (eval ix F.X.env)
      standAt ps
      holding [v, ov, iv] (setItem ov iv v)
      release [v, ov, iv] []) := by intro _; rfl)
    (ha2 : ∀ v, assign (.Subscript (.Name x px2) ix2 ps2) F.X.env v = (do
      let ov ← holding [v] (eval (.Name x px2) F.X.env)
      let iv ← holding [v, ov] (eval ix2 F.X.env)
      standAt ps2
      holding [v, ov, iv] (setItem ov iv v)
      release [v, ov, iv] []) := by intro _; rfl)
    (hn : (assignEach [.Subscript (.Name x px) ix ps, .Subscript (.Name x px2) ix2 ps2] F.X.env).length = 2 := by rfl) (hst : (assignEach [.Subscript (.Name x px) ix ps, .Subscript (.Name x px2) ix2 ps2] F.X.env).findIdx? (·.1) = none := by rfl)
    (hs1 : (assignEach [.Subscript (.Name x px) ix ps, .Subscript (.Name x px2) ix2 ps2] F.X.env).map (·.2) = assign (.Subscript (.Name x px) ix ps) F.X.env :: (assignEach [.Subscript (.Name x px2) ix2 ps2] F.X.env).map (·.2) := by rfl)
    (hs2 : (assignEach [.Subscript (.Name x px2) ix2 ps2] F.X.env).map (·.2) = assign (.Subscript (.Name x px2) ix2 ps2) F.X.env :: (assignEach [] F.X.env).map (·.2) := by rfl) : Bs F (.Assign [.Tuple [.Subscript (.Name x px) ix ps, .Subscript (.Name x px2) ix2 ps2] kk tp] e pos) ρ s k :=
  fun O σ H f E q => ws (ps_asg pe_we (pg_tup hc (pgs_cons pg_wg (pgs_cons pg_wg pgs_nil hs2) hs1) hn hst) hs hw h1) (h.2 O σ H f _ fun v H1 f1 x1 r1 => by
    cases r1 with
    | tup q1 q2 =>
      cases q2 with
      | cons q2 q3 =>
        cases q3 with
        | cons q3 q4 =>
          cases q4
          refine ⟨_, _, rfl, q1.sq, rfl, _, _, rfl, wg_setOwn i f1 hN hv hρ hi hj q2 (fun H2 f2 x2 => ⟨_, _, rfl, ?_⟩) hd hcd ha⟩
          have hρ2 : (ρ.set i (.own (xs.set j d1)))[i]? = some (.own (xs.set j d1)) := by
            rw [List.getElem?_set_self]
            rcases Nat.lt_or_ge i ρ.length with z | z
            · exact z
            · rw [List.getElem?_eq_none z] at hρ; cases hρ
          refine wg_setOwn i f2 hN hv hρ2 hi2 hj2 (q3.ext x2) (fun H3 f3 x3 => ⟨rfl, ?_⟩) hd hcd ha2
          rw [List.set_set] at f3
          exact q.nx O σ H3 _ s1 f3 (.of ((x1.xt.trans x2).trans x3)) hk)
end
end Gh
set_option Elab.async false
set_option linter.all false
set_option maxRecDepth 100000
set_option maxHeartbeats 4000000
/-! a stream that a body makes itself -/
namespace Gh
open PySem PySem.Spec PyProof.Rows L2
mutual
/-- data that hold no stream -/
def D.lone : D → Bool
  | .non => true
  | .bl _ => true
  | .int _ => true
  | .str _ => true
  | .lst xs => D.lones xs
  | .tup xs => D.lones xs
  | .emp => true
  | .scr _ => true
  | .mut => false
  | .ty _ => true
  | .ref _ => true
  | .ins _ _ ds => D.lones ds
  | .met _ d => d.lone
  | .dK _ ds => D.lones ds
  | .dT _ ds => D.lones ds
def D.lones : List D → Bool
  | [] => true
  | x :: xs => x.lone && D.lones xs
end
section
variable {K : PySem.W.Frag} {p q : Addr} {S S' : List Addr} {H : Hp}
mutual
theorem Rp.swap0 : ∀ (d : D) (v : V), Rp K p S H v d → d.lone = true → Rp K q S H v d
  | .non, _, h, _ => by cases h; exact .non
  | .bl _, _, h, _ => by cases h; exact .bl _
  | .int _, _, h, _ => by cases h; exact .int _
  | .str _, _, h, _ => by cases h; exact .str _
  | .lst ds, _, h, n => by
    cases h with
    | lst h1 h2 h3 => exact .lst h1 h2 (Rps.swap0 ds _ h3 (by unfold D.lone at n; exact n))
  | .tup ds, _, h, n => by
    cases h with
    | tup h1 h2 => exact .tup h1 (Rps.swap0 ds _ h2 (by unfold D.lone at n; exact n))
  | .emp, _, h, _ => by
    cases h with
    | emp h1 h2 => exact .emp h1 h2
  | .scr _, _, h, _ => by
    cases h with
    | scr h1 => exact .scr h1
  | .mut, _, _, n => by unfold D.lone at n; cases n
  | .ty _, _, h, _ => by cases h; exact .ty _
  | .ref _, _, h, _ => by cases h; exact .ref _
  | .ins _ _ ds, _, h, n => by
    cases h with
    | ins h1 h2 h3 h4 => exact .ins h1 h2 (Rps.swap0 ds _ h3 (by unfold D.lone at n; exact n)) h4
  | .met _ d, _, h, n => by
    cases h with
    | met h1 h2 h3 => exact .met h1 h2 (Rp.swap0 d _ h3 (by unfold D.lone at n; exact n))
  | .dK _ ds, _, h, n => by
    cases h with
    | dK h1 h2 h3 h4 => exact .dK h1 h2 (Rps.swap0 ds _ h3 (by unfold D.lone at n; exact n)) h4
  | .dT _ ds, _, h, n => by
    cases h with
    | dT h1 h2 h3 h4 => exact .dT h1 h2 (Rps.swap0 ds _ h3 (by unfold D.lone at n; exact n)) h4
theorem Rps.swap0 : ∀ (ds : List D) (vs : List V), Rps K p S H vs ds → D.lones ds = true → Rps K q S H vs ds
  | [], _, h, _ => by cases h; exact .nil
  | d :: ds, _, h, n => by
    cases h with
    | cons h1 h2 =>
      unfold D.lones at n
      obtain ⟨n1, n2⟩ := Bool.and_eq_true_iff.mp n
      exact .cons (Rp.swap0 d _ h1 n1) (Rps.swap0 ds _ h2 n2)
end
theorem Rp.swap {v : V} {d : D} (h : Rp K p S H v d) (n : d.lone = true) (w : ∀ a ∈ S', a ∈ S) : Rp K q S' H v d := Rp.swap0 d v (h.weak w) n
theorem Rps.swap {vs : List V} {ds : List D} (h : Rps K p S H vs ds) (n : D.lones ds = true) (w : ∀ a ∈ S', a ∈ S) : Rps K q S' H vs ds := Rps.swap0 ds vs (h.weak w) n
end
theorem lones_ints (ns : List Int) : D.lones (ns.map D.int) = true := by
  induction ns with
  | nil => simp [D.lones]
  | cons n ns ih => rw [List.map_cons, D.lones, ih]; simp [D.lone]
theorem lones_of {xs : List D} (h : ∀ x ∈ xs, x.lone = true) : D.lones xs = true := by
  induction xs with
  | nil => simp [D.lones]
  | cons x xs ih => rw [D.lones, h x List.mem_cons_self, ih fun y m => h y (List.mem_cons_of_mem _ m)]; rfl
def gKeep : G → G
  | .val d => match d.lone with
    | true => .val d
    | false => .no
  | _ => .no
theorem gKeep_own {g : G} {w : Ow} {ds : List D} : gKeep g ≠ .ow w ds := by
  intro h
  cases g with
  | val e =>
    simp only [gKeep] at h
    cases z : e.lone <;> rw [z] at h <;> cases h
  | _ => cases h
/-- the body's context from there on, where the stream lies at a -/
abbrev Fx.strm (F : Fx) (a : Addr) (O : List Addr) (H : Hp) : Fx := ⟨F.X, H, O ++ F.S0, a, true, F.T⟩
section
variable {F : Fx} {ρ : List G} {sts : List Stmt} {k : GE} {s : Sx}
theorem slot_keep {K : PySem.W.Frag} {p q : Addr} {S S' : List Addr} {H : Hp} {o : Option V} {g : G} (h : Slot K p S H o g) (w : ∀ a ∈ S', a ∈ S) : Slot K q S' H o (gKeep g) := by
  cases g with
  | no => trivial
  | ow u ds => trivial
  | val d =>
    simp only [gKeep]
    cases z : d.lone with
    | true =>
      obtain ⟨v, e, r⟩ := h
      exact ⟨v, e, r.swap z w⟩
    | false => trivial
/-- back from the stream's context: the elder stream is as it was -/
theorem Fm.keepA {O : List Addr} {σ : L2.St} {H H2 : Hp} {a : Addr} {z : Sx} (f : Fm F O σ H ρ s) (ma : a ∈ O) (x : XP a z H H2) : XP F.p s F.H0 H2 := by
  refine ⟨fun b o e n nt => ?_, fun b e => f.ext.2 b (x.2 b e)⟩
  refine x.1 b o (f.ext.1 b o e n nt) (.inr fun zz => ?_) nt
  rw [zz, (f.fre a ma).1] at e
  cases e
theorem Fm.backSt {O : List Addr} {σ : L2.St} {H H2 : Hp} {a : Addr} {z : Sx} (f : Fm F O σ H ρ s) (ma : a ∈ O) (x : XP a z H H2) (t : LamX.Tabs F.T H2) : F.Sa O H2 s := by
  have q := f.st
  have pm := f.pm
  cases s with
  | none => exact t
  | some ys =>
    obtain ⟨q1, q2, vs, q3, q4⟩ := q
    refine ⟨t, q2, vs, x.1 _ _ q3 (.inr fun zz => (f.fre a ma).2 (zz ▸ pm rfl)) nt_lst, q4.ext ⟨fun b o n e nt => x.1 b o e (.inr fun zz => n (zz ▸ List.mem_append_left _ ma)) nt, x.2⟩⟩
theorem Fm.back {O O2 : List Addr} {σ σ2 : L2.St} {H H2 : Hp} {ρ2 : List G} {a : Addr} {s2 : Sx} (f : Fm F O σ H ρ s) (ma : a ∈ O) (g : Fm (F.strm a O H) O2 σ2 H2 ρ2 s2) : Fm F O σ2 H2 (ρ2.map gKeep) s := by
  refine ⟨f.keepA ma g.ext, fun i gg h => ?_, fun i w ds b h => ?_, fun i j w u ds es b _ h => ?_, f.fre, fun b m => ?_, f.backSt ma g.ext g.st.tab, f.pm, f.kd⟩
  · rw [List.getElem?_map] at h
    cases e : ρ2[i]? with
    | none => rw [e] at h; cases h
    | some g0 =>
      rw [e] at h
      cases h
      obtain ⟨o, ho, sl⟩ := g.slot i g0 e
      exact ⟨o, ho, slot_keep sl fun b m => List.mem_append_right _ m⟩
  · rw [List.getElem?_map] at h
    cases e : ρ2[i]? with
    | none => rw [e] at h; cases h
    | some g0 => rw [e] at h; exact absurd (Option.some.inj h) gKeep_own
  · rw [List.getElem?_map] at h
    cases e : ρ2[i]? with
    | none => rw [e] at h; cases h
    | some g0 => rw [e] at h; exact absurd (Option.some.inj h) gKeep_own
  · exact g.trk b (List.mem_append_right _ m)
theorem bk_stream (i : Nat) {xs : List D} (hρ : ρ[i]? = some (.own xs)) (hl0 : D.lones xs = true)
    (h : ∀ a O H, Bk (F.strm a O H) sts ((ρ.map gKeep).set i (.val .mut)) (some xs) { nx := fun ρ2 _ => k.nx (ρ2.map gKeep) s, rt := fun d _ => d.lone = true ∧ k.rt d s, bk := fun ρ2 _ => k.bk (ρ2.map gKeep) s, ct := fun ρ2 _ => k.ct (ρ2.map gKeep) s, xc := fun x ρ2 _ => x.d.lone = true ∧ k.xc x (ρ2.map gKeep) s }) : Bk F sts ρ s k := by
  intro O σ H f E q
  obtain ⟨o, ho, a, vs, eo, m, h1, r, _⟩ := f.slot i _ hρ
  subst eo
  have ma := f.own i _ _ a hρ ho
  have hl : i < ρ.length := by
    rcases Nat.lt_or_ge i ρ.length with z | z
    · exact z
    · rw [List.getElem?_eq_none z] at hρ; cases hρ
  have g : Fm (F.strm a O H) [] σ H ((ρ.map gKeep).set i (.val .mut)) (some xs) := by
    refine ⟨.refl, fun j gg hj => ?_, fun j w ds b hj => ?_, fun j l w u ds es b _ hj => ?_, (fun b m => nomatch m), fun b m => f.trk b m, ⟨f.st.tab, List.mem_append_right _ (List.mem_append_left _ ma), vs, h1, r.swap hl0 fun b m => (by simpa using m)⟩, fun _ => List.mem_append_left _ ma, rfl⟩
    · by_cases e : i = j
      · subst e
        rw [List.getElem?_set_self (by rw [List.length_map]; exact hl)] at hj
        cases hj
        exact ⟨_, ho, _, rfl, .mut⟩
      · rw [List.getElem?_set_ne e, List.getElem?_map] at hj
        cases e2 : ρ[j]? with
        | none => rw [e2] at hj; cases hj
        | some g0 =>
          rw [e2] at hj
          cases hj
          obtain ⟨o, ho, sl⟩ := f.slot j g0 e2
          exact ⟨o, ho, slot_keep sl fun b m => m⟩
    · by_cases e : i = j
      · subst e
        rw [List.getElem?_set_self (by rw [List.length_map]; exact hl)] at hj
        cases hj
      · rw [List.getElem?_set_ne e, List.getElem?_map] at hj
        cases e2 : ρ[j]? with
        | none => rw [e2] at hj; cases hj
        | some g0 => rw [e2] at hj; exact absurd (Option.some.inj hj) gKeep_own
    · by_cases e : i = j
      · subst e
        rw [List.getElem?_set_self (by rw [List.length_map]; exact hl)] at hj
        cases hj
      · rw [List.getElem?_set_ne e, List.getElem?_map] at hj
        cases e2 : ρ[j]? with
        | none => rw [e2] at hj; cases hj
        | some g0 => rw [e2] at hj; exact absurd (Option.some.inj hj) gKeep_own
  refine h a O H [] σ H g E ⟨fun O2 σ2 H2 ρ2 s2 f2 t2 n2 => ?_, fun v H2 d s2 r2 x2 t2 n2 => ?_, fun O2 σ2 H2 ρ2 s2 f2 t2 n2 => ?_, fun O2 σ2 H2 ρ2 s2 f2 t2 n2 => ?_, fun O2 σ2 H2 ρ2 s2 cls dd x f2 t2 a2 n2 => ?_⟩
  · exact q.nx O σ2 H2 _ s (f.back ma f2) (.of t2.xt) n2
  · refine q.rt v H2 d s (r2.swap n2.1 fun b m => List.mem_append_right _ m) (f.keepA ma x2) ?_ n2.2
    have z := f.backSt ma x2 t2.tab
    have pm := f.pm
    cases s with
    | none => exact z
    | some ds =>
      obtain ⟨q1, q2, vs, q3, q4⟩ := z
      exact ⟨q1, pm rfl, vs, q3, q4.weak fun b m => List.mem_append_right _ m⟩
  · exact q.bk O σ2 H2 _ s (f.back ma f2) (.of t2.xt) n2
  · exact q.ct O σ2 H2 _ s (f.back ma f2) (.of t2.xt) n2
  · obtain ⟨C, fs, v, e1, e2, e3, e4, e5⟩ := a2
    exact q.xc O σ2 H2 _ s cls dd x (f.back ma f2) (.of t2.xt) ⟨C, fs, v, e1, e2, e3, e4, e5.swap n2.1 fun b m => List.mem_append_right _ m⟩ n2.2
end
end Gh
set_option Elab.async false
set_option linter.all false
set_option maxRecDepth 100000
/-! fractions as data: rationals -/
namespace Gh
open PySem PySem.Spec PyProof.Rows L2
def fr (q : Rat) : D := .tup [.int q.num, .int q.den]
def fm (a b : Rat) : D := .tup [fr a, fr b]
theorem gcd_step (a b : Nat) (h : 0 < b) : Nat.gcd a b = Nat.gcd b (a % b) := by
  rw [Nat.gcd_comm, Nat.gcd_rec, Nat.gcd_comm]
theorem norm_mk (n : Int) (d : Nat) (h : d ≠ 0) : Rat.normalize n d h = mkRat n d := by
  rw [mkRat, dif_neg h]
theorem mk_num (t : Int) (b : Nat) (h : b ≠ 0) : (mkRat t b).num = t / (Nat.gcd t.natAbs b : Int) := by
  rw [Rat.num_mkRat, if_neg h, Nat.gcd_comm]
theorem mk_den (t : Int) (b : Nat) (h : b ≠ 0) : ((mkRat t b).den : Int) = (b : Int) / (Nat.gcd t.natAbs b : Int) := by
  rw [Rat.den_mkRat, if_neg h, Nat.gcd_comm]
  exact Int.natCast_ediv ..
theorem den_pos (q : Rat) : (0 : Int) < q.den := by have := q.den_nz; omega
theorem add_mk (a b : Rat) : mkRat (a.num * b.den + b.num * a.den) (a.den * b.den) = a + b := by rw [Rat.add_def, norm_mk]
theorem sub_mk (a b : Rat) : mkRat (a.num * b.den - b.num * a.den) (a.den * b.den) = a - b := by rw [Rat.sub_def, norm_mk]
theorem mul_mk (a b : Rat) : mkRat (a.num * b.num) (a.den * b.den) = a * b := by rw [Rat.mul_def, norm_mk]
/-- few bits -/
def Sz (n : Nat) (q : Rat) : Prop := q.num.natAbs < 2 ^ n ∧ q.den < 2 ^ n
theorem Sz.mono {m n : Nat} {q : Rat} (h : Sz m q) (l : m ≤ n) : Sz n q := ⟨Nat.lt_of_lt_of_le h.1 (Nat.pow_le_pow_right (by decide) l), Nat.lt_of_lt_of_le h.2 (Nat.pow_le_pow_right (by decide) l)⟩
theorem Sz.mk {n : Nat} {t : Int} {b : Nat} (h1 : t.natAbs < 2 ^ n) (h2 : b < 2 ^ n) (hb : b ≠ 0) : Sz n (mkRat t b) := by
  constructor
  · rw [mk_num t b hb]
    have : (t / (Nat.gcd t.natAbs b : Int)).natAbs ≤ t.natAbs := Int.natAbs_ediv_le_natAbs ..
    omega
  · rw [Rat.den_mkRat, if_neg hb]
    exact Nat.lt_of_le_of_lt (Nat.div_le_self ..) h2
theorem two_pow_mul {m n a b : Nat} (h1 : a < 2 ^ m) (h2 : b < 2 ^ n) : a * b < 2 ^ (m + n) := by
  rw [Nat.pow_add]; exact Nat.mul_lt_mul'' h1 h2
theorem Sz.add {m n : Nat} {a b : Rat} (ha : Sz m a) (hb : Sz n b) : Sz (m + n + 1) (a + b) := by
  rw [← add_mk]
  refine .mk ?_ ?_ (Nat.mul_ne_zero a.den_nz b.den_nz)
  · have h1 := two_pow_mul ha.1 hb.2
    have h2 := two_pow_mul hb.1 ha.2
    have h3 := Int.natAbs_add_le (a.num * b.den) (b.num * a.den)
    rw [Int.natAbs_mul, Int.natAbs_mul, Int.natAbs_natCast, Int.natAbs_natCast] at h3
    rw [Nat.pow_succ]
    rw [Nat.add_comm n m] at h2
    omega
  · have h1 := two_pow_mul ha.2 hb.2
    rw [Nat.pow_succ]; omega
theorem Sz.neg {n : Nat} {a : Rat} (h : Sz n a) : Sz n (-a) := ⟨by rw [Rat.neg_num, Int.natAbs_neg]; exact h.1, by rw [Rat.neg_den]; exact h.2⟩
theorem Sz.sub {m n : Nat} {a b : Rat} (ha : Sz m a) (hb : Sz n b) : Sz (m + n + 1) (a - b) := by rw [Rat.sub_eq_add_neg]; exact ha.add hb.neg
theorem Sz.mul {m n : Nat} {a b : Rat} (ha : Sz m a) (hb : Sz n b) : Sz (m + n) (a * b) := by
  rw [← mul_mk]
  refine .mk ?_ (two_pow_mul ha.2 hb.2) (Nat.mul_ne_zero a.den_nz b.den_nz)
  rw [Int.natAbs_mul]; exact two_pow_mul ha.1 hb.1
theorem fr_inj {a b : Rat} (h : fr a = fr b) : a = b := by
  unfold fr at h
  simp only [D.tup.injEq, List.cons.injEq, D.int.injEq, and_true] at h
  exact Rat.ext h.1 (by omega)
theorem fr_eqb (a b : Rat) : (fr a).eqb (fr b) = decide (a = b) := by
  have e : (fr a).eqb (fr b) = (a.num == b.num && (((a.den : Int) == (b.den : Int)) && true)) := by
    simp [D.eqb, fr, D.py, D.pys, PyData.eqv, PyData.eqvAll]
  rw [e]
  by_cases h : a = b
  · subst h; simp
  · rw [decide_eq_false h]
    by_cases h1 : a.num = b.num
    · by_cases h2 : a.den = b.den
      · exact absurd (Rat.ext h1 h2) h
      · have h3 : ¬ ((a.den : Int) = (b.den : Int)) := fun z => h2 (by omega)
        simp [h3]
    · simp [h1]
theorem fr_eqC (a : Rat) : (fr a).eqC := by
  constructor
  · simp [fr, D.pure, D.pures]
  · simp [fr, D.py, D.pys, SeqAt.shaped, PyData.canLay0, PyData.canLayAll0, PyData.depth, PyData.depthAll]
theorem lt_8000 {n : Nat} (h : n < 2 ^ 6001) : n < 2 ^ 8000 := Nat.lt_of_lt_of_le h (Nat.pow_le_pow_right (by decide) (by decide))
/-- what * and // ask, of fractions of few bits -/
theorem mulW {a b : Int} (ha : a.natAbs < 2 ^ 3000) (hb : b.natAbs < 2 ^ 3000) : CMulW a b := wide_mul ha hb (by decide) (by decide) (by decide)
theorem Sz.n {q : Rat} (h : Sz 3000 q) : q.num.natAbs < 2 ^ 3000 := h.1
theorem Sz.d {q : Rat} (h : Sz 3000 q) : ((q.den : Int)).natAbs < 2 ^ 3000 := by rw [Int.natAbs_natCast]; exact h.2
theorem dd_pos (a b : Rat) : 0 < (a.den : Int) * (b.den : Int) := Int.mul_pos (den_pos a) (den_pos b)
theorem dd_size {a b : Rat} (ha : Sz 3000 a) (hb : Sz 3000 b) : ((a.den : Int) * (b.den : Int)).natAbs < 2 ^ 8000 := by
  rw [Int.natAbs_mul]
  exact lt_8000 (Nat.lt_of_lt_of_le (two_pow_mul ha.d hb.d) (Nat.pow_le_pow_right (by decide) (by decide)))
theorem dd_nat (a b : Rat) : ((a.den : Int) * (b.den : Int)).toNat = a.den * b.den := by rw [← Int.natCast_mul]; exact Int.toNat_natCast _
end Gh
set_option Elab.async false
set_option linter.all false
set_option maxRecDepth 100000
namespace Gh
open PySem PySem.Spec PyProof.Rows L2
/-- a def of the text, as it stands behind the top -/
structure Df (E : En) (st : Stmt) (f : Str) (ps : List Str) : Prop where
  ok : ∃ fa fd, Fun E.K f f st fa fd ∧ E.mg f = some (.ref fa) ∧ Binds E.K fd ps []
/-- the context of a def's body -/
abbrev bodyF (E : En) (N : List Str) (x : Str) (st : Stmt) (s : Sx) (fa : Addr) (cdv : Value) (A : Around) (outer : List Env) (sh : Shared) (H0 : Hp) (EX : XK) (S0 : List Addr) (p : Addr) : Fx :=
  ⟨(cxOf CX0 E.P E.w E.K E.mg E.base N x (defScope st) fa cdv A outer sh H0 EX).nox, H0, S0, p, s.isSome, E.T⟩
theorem Df.rn {E : En} {x : Str} {st : Stmt} {N ps : List Str} {k : Nat} {ds : List D} {s s' : Sx} {d : D} (T : Df E st x ps) (S : FnScope N ps (defScope st)) (kd : s.isSome = s'.isSome) (hl : ds.length = ps.length)
    (body : ∀ (fa : Addr) (cdv : Value) (A : Around) (outer : List Env) (sh : Shared) (H0 : Hp) (EX : XK) (S0 : List Addr) (p : Addr), Room k (bodyF E N x st s fa cdv A outer sh H0 EX S0 p).X.A →
      Bk (bodyF E N x st s fa cdv A outer sh H0 EX S0 p) (defBody st) (gStart N ds) s { nx := fun _ t => d = .non ∧ t = s', rt := fun r t => r = d ∧ t = s' }) : Rn E (k + 1) x ds s d s' := by
  obtain ⟨fa, fd, F, hm, hb⟩ := T.ok
  exact rn_of F S hm hb kd hl fun cdv A outer sh H0 EX S0 p hr => body fa cdv A outer sh H0 EX S0 p hr
section
variable {F : Fx} {ρ : List G} {s s1 s2 : Sx} {a b e : Expr} {pos p : Pos} {k : GE} {d : D}
theorem Ed.is {x y : D} (h : Ed F ρ s e x s1) (z : x = y) : Ed F ρ s e y s1 := by rw [← z]; exact h
/-- what the stream holds -/
theorem ed_ixM {i : Int} {xs : List D} {d : D} (ha : Ed F ρ s a .mut (some xs)) (hb : Ed F ρ (some xs) b (.int i) (some xs)) (h : atI xs i = some d) (hs : PlainIx b := by exact fun _ _ => rfl) : Ed F ρ s (.Subscript a b pos) d (some xs) :=
  ⟨ha.1, fun O σ H f Q q => we (pe_ix ix_list pe_we pe_we hs) (ha.2 O σ H f _ fun v H1 f1 x1 r1 => hb.2 O σ H1 f1 _ fun w H2 f2 x2 r2 => by
    cases r1; cases r2
    obtain ⟨_, _, vs, h1, h2⟩ := f2.st
    obtain ⟨v, e, r⟩ := atI_rps h2 h
    exact ⟨_, vs, i, v, rfl, rfl, .inl (.inl h1), e, q v H2 f2 (x1.trans x2) r⟩)⟩
theorem ed_lenM {xs : List D} (B : Bf F.X.mg) (ha : Ed F ρ s a .mut (some xs)) (hg : Gl F.X "len" := by rfl) (he : starEach [a] F.X.env = (false, eval a F.X.env) :: starEach [] F.X.env := by rfl) : Ed F ρ s (.Call (.Name "len" p) [a] [] pos) (.int xs.length) (some xs) :=
  ⟨ha.1, fun O σ H f Q q => we (pe_callB call_len_seq hg B.len boot_len (pa_cons pe_we pa_nil he) (by decide) (by decide) he rfl) (ha.2 O σ H f _ fun v H1 f1 x1 r1 => by
    cases r1
    obtain ⟨_, _, vs, h1, h2⟩ := f1.st
    exact ⟨_, _, rfl, .inl (.inl (.inl h1)), by rw [h2.length]; exact q _ _ f1 x1 (.int _)⟩)⟩
/-- the stream turned -/
theorem Fm.setM {O : List Addr} {σ : L2.St} {H : Hp} {xs ys : List D} {ws : List V} (f : Fm F O σ H ρ (some xs)) (r : Rps F.X.K F.p (O ++ F.S0) H ws ys) : Fm F O σ (upd H F.p (.lst ws)) ρ (some ys) ∧ XT (O ++ F.S0) H (upd H F.p (.lst ws)) := by
  have x : XP F.p (some xs) H (upd H F.p (.lst ws)) := ⟨fun a o e n _ => by
    rw [upd_ne (show a ≠ F.p from n.resolve_left fun z => by cases z)]; exact e, fun a h => upd_none h⟩
  obtain ⟨q1, q2, vs, q3, q4⟩ := f.st
  have xt : XT (O ++ F.S0) H (upd H F.p (.lst ws)) := x.xt f.st
  exact ⟨f.grow x rfl ⟨tabs_upd q1 q3 nt_lst nc_lst, q2, ws, upd_same, r.ext xt⟩, xt⟩
theorem bs_stM (i : Nat) {x : Str} {px ps : Pos} {ix : Expr} {xs : List D} {n : D} {l : Int} {j : Nat} (hN : F.X.N[i]? = some x) (hv : Vis F.X.env.scope x) (hρ : ρ[i]? = some (.val .mut)) (h : Ed F ρ s e n (some xs)) (hi : Ed F ρ (some xs) ix (.int l) (some xs)) (hj : ixN xs.length l = some j) (hk : k.nx ρ (some (xs.set j n)))
    (hd : (x == ("__debug__" : Str)) = false := by decide) (hcd : (x == ("__classdict__" : Str)) = false := by decide) (hs : swapsWithSole [.Subscript (.Name x px) ix ps] e pos.line F.X.env = pure false := by rfl) (hw : swappedStores [.Subscript (.Name x px) ix ps] e F.X.env = pure none := by rfl)
    (h1 : (assignEach [.Subscript (.Name x px) ix ps] F.X.env).map (·.2) = [assign (.Subscript (.Name x px) ix ps) F.X.env] := by rfl)
    (ha : ∀ v, assign (.Subscript (.Name x px) ix ps) F.X.env v = (do
      let ov ← holding [v] (eval (.Name x px) F.X.env)
      let iv ← holding [v, ov] (eval ix F.X.env)
      standAt ps
      holding [v, ov, iv] (setItem ov iv v)
      release [v, ov, iv] []) := by intro _; rfl) : Bs F (.Assign [.Subscript (.Name x px) ix ps] e pos) ρ s k :=
  fun O σ H f E q => ws (ps_asg pe_we (pg_sub (pe_var hN hv hd hcd) pe_we set_list ha) hs hw h1) (h.2 O σ H f _ fun v H1 f1 x1 r1 => by
    obtain ⟨o, ho, w, e, r⟩ := f1.slot i _ hρ
    subst e
    cases r
    refine ⟨_, ho, hi.2 O σ H1 f1 _ fun w H2 f2 x2 r2 => ?_⟩
    cases r2
    obtain ⟨_, _, vs, h1, h2⟩ := f2.st
    refine ⟨_, vs, l, j, rfl, rfl, h1, by rw [h2.length]; exact hj, ?_⟩
    obtain ⟨f3, x3⟩ := f2.setM (h2.set j (r1.ext x2.xt))
    exact q.nx O σ _ ρ _ f3 (.of ((x1.xt.trans x2.xt).trans x3)) hk)
/-- o.append(e), o the stream -/
theorem bs_appMut {o : Expr} {pa : Pos} {cpos : Pos} {xs : List D} (ho : Ed F ρ s o .mut s1) (h : Ed F ρ s1 e d (some xs)) (hl : xs.length < sizeLine) (hk : k.nx ρ (some (xs ++ [d])))
    (he : starEach [e] F.X.env = (false, eval e F.X.env) :: starEach [] F.X.env := by rfl)
    (hb : attributeBase o "append" F.X.env (eval o F.X.env) = eval o F.X.env := by rfl) (hline : (pa.endLine == cpos.line) = true := by rfl) (hpl : (backTo cpos (starEach [] F.X.env)).any (·.1) = false := by rfl)
    (hfew : ((backTo cpos (starEach [e] F.X.env)).all (fun x => !x.1) && (backToKw cpos (keywordEach [] F.X.env)).all (fun x => x.1.isSome) && decide ([e].length + ([] : List Keyword).length + (if ([] : List Keyword).isEmpty then 0 else 1) < 30)) = true := by rfl)
    (hs : swapsWith (.Call (.Attribute o "append" pa) [e] [] cpos) none pos.line F.X.env = pure false := by rfl) : Bs F (.Expr (.Call (.Attribute o "append" pa) [e] [] cpos) pos) ρ s k :=
  fun O σ H f E q => ws (ps_expr (pe_bm PySem.F.plainAttrs_list PySem.F.slot_list_append PySem.F.type_list_append mt_append pe_we (pa_cons pe_we pa_nil he) hb hfew hline he hpl) hs) (ho.2 O σ H f _ fun v H1 f1 x1 r1 => by
    cases r1
    obtain ⟨ys, rfl⟩ : ∃ ys, s1 = some ys := by
      cases s1 with
      | none =>
        have := h.1
        cases this
      | some ys => exact ⟨ys, rfl⟩
    obtain ⟨_, _, us, h0, _⟩ := f1.st
    refine .inl ⟨rfl, _, .inl (.inl h0)⟩ |> fun z => ⟨z, h.2 O σ H1 f1 _ fun w H2 f2 x2 r2 => ?_⟩
    obtain ⟨_, _, vs, h1, h2⟩ := f2.st
    refine ⟨F.p, vs, w, rfl, rfl, h1, by rw [h2.length]; exact hl, ?_⟩
    obtain ⟨f3, x3⟩ := f2.setM (h2.append (.one r2))
    exact q.nx O σ _ ρ _ f3 (.of ((x1.xt.trans x2.xt).trans x3)) hk)
/-- a op b op c -/
theorem ed_chainII {op op' : CmpOp} {c : Expr} {i j l : Int} {g g' : Int → Int → Bool} (ho : OpR F.X (compareOp op) (rI0 fun i j => .bl (g i j))) (ho' : OpR F.X (compareOp op') (rI0 fun i j => .bl (g' i j))) (ha : Ed F ρ s a (.int i) s) (hb : Ed F ρ s b (.int j) s) (hc : Ed F ρ s c (.int l) s)
    (hm : lastMarks [op, op'] [b, c] = false := by with_unfolding_all rfl) : Ed F ρ s (.Compare a [op, op'] [b, c] pos) (.bl (g i j && g' j l)) s :=
  ⟨rfl, fun O σ H f Q q => we (pe_chain ho ho' pe_we pe_we pe_we hm) (ha.2 O σ H f _ fun v H1 f1 x1 r1 => hb.2 O σ H1 f1 _ fun w H2 f2 x2 r2 => by
    cases r1; cases r2
    refine ⟨i, j, rfl, rfl, g i j, rfl, ?_⟩
    cases e : g i j with
    | true => exact iteT (hc.2 O σ H2 f2 _ fun u H3 f3 x3 r3 => by cases r3; exact ⟨j, l, rfl, rfl, q _ H3 f3 ((x1.trans x2).trans x3) (by rw [e]; exact .bl _)⟩)
    | false => exact iteF (q _ H2 f2 (x1.trans x2) (by rw [e]; exact .bl _)))⟩
end
end Gh
namespace Gh
open PySem PySem.Spec PyProof.Rows L2
section
variable {F : Fx} {ρ : List G} {s s1 s2 s3 : Sx} {e : Expr} {es : List Expr} {d : D} {ds : List D} {pos p : Pos}
/-- f(..): the arguments first -/
theorem ed_cl {f : Str} {k : Nat} (ha : Ea F ρ s (e :: es) ds s1) (hr : Room k F.X.A) (R : Rn F.en k f ds s1 d s2) (hg : Gl F.X f := by rfl) (hdb : (f == ("__debug__" : Str)) = false := by decide)
    (he : starEach (e :: es) F.X.env = (false, eval e F.X.env) :: starEach es F.X.env := by rfl) (hpl : (backTo pos (starEach es F.X.env)).any (·.1) = false := by rfl) : Ed F ρ s (.Call (.Name f p) (e :: es) [] pos) d s2 := ed_call R hr ha hg hdb he hpl
end
end Gh
set_option Elab.async false
set_option linter.all false
set_option maxRecDepth 100000
set_option maxHeartbeats 4000000
/-! defs that hand back a new list -/
namespace Gh
open PySem PySem.Spec PyProof.Rows L2
def BkL (F : Fx) (sts : List Stmt) (ρ : List G) (s : Sx) (ds : List D) (s' : Sx) : Prop := ∀ O σ H, Fm F O σ H ρ s → ∀ E : Ends,
  (∀ a vs H', F.H0 a = none → a ∉ F.S0 → H' a = some (.lst vs) → Rps F.X.K F.p (a :: F.S0) H' vs ds → XP F.p s' F.H0 H' → F.Sa [a] H' s' → E.rt (.ref a) H') → WB F.X sts E σ H
def spL (K : PySem.W.Frag) (T : Ts) (ds : List D) (s : Sx) (zs : List D) (s' : Sx) : Sp := fun vs H Q _ => ∃ (p : Addr) (S : List Addr), Rps K p S H vs ds ∧ (∀ a ∈ S, ∃ o, H a = some o) ∧ StA K T p S H s ∧
  ∀ a ws H', H a = none → H' a = some (.lst ws) → Rps K p (a :: S) H' ws zs → XP p s H H' → StA K T p (a :: S) H' s' → Q (.ref a) H'
/-- the def f, called with these data, hands back a new list -/
structure RnL (E : En) (k : Nat) (f : Str) (ds : List D) (s : Sx) (zs : List D) (s' : Sx) : Prop where
  kd : s.isSome = s'.isSome
  ok : ∃ fa fd ps, E.mg f = some (.ref fa) ∧ PySem.W.keepIn E.K (.ref fa) = true ∧ Binds E.K fd ps [] ∧ FnOk E.P E.w E.K E.mg E.base CX0 k fa fd ps (spL E.K E.T ds s zs s')
theorem RnL.mono {E : En} {j k : Nat} {f : Str} {ds zs : List D} {s s' : Sx} (r : RnL E j f ds s zs s') (h : j ≤ k) : RnL E k f ds s zs s' := by
  obtain ⟨kd, fa, fd, ps, h1, h2, h3, h4⟩ := r
  exact ⟨kd, fa, fd, ps, h1, h2, h3, h4.mono h⟩
theorem RnL.is {E : En} {k : Nat} {f : Str} {ds zs zs' : List D} {s s' : Sx} (r : RnL E k f ds s zs s') (h : zs = zs') : RnL E k f ds s zs' s' := h ▸ r
section
variable {F : Fx} {ρ : List G} {s s1 s2 s' : Sx} {e : Expr} {es : List Expr} {st : Stmt} {sts : List Stmt} {ds zs : List D} {pos p : Pos}
theorem Fm.addO {O : List Addr} {σ : L2.St} {H1 H2 : Hp} {a : Addr} {vs : List V} (f : Fm F O σ H1 ρ s1) (x : XP F.p s1 H1 H2) (kd : s1.isSome = s2.isSome) (t : F.Sa (a :: O) H2 s2) (n : H1 a = none) (h : H2 a = some (.lst vs)) : Fm F (a :: O) σ H2 ρ s2 := by
  refine (f.newO (u := .lst vs) n).grow ⟨fun b o e nb nt => ?_, fun b e => ?_⟩ kd t
  · by_cases z : b = a
    · subst z; rw [upd_same] at e; rw [h]; exact e
    · rw [upd_ne z] at e; exact x.1 b o e nb nt
  · have z : b ≠ a := fun z => by rw [z, h] at e; cases e
    rw [upd_ne z]; exact x.2 b e
theorem bkl_ret (h : El F ρ s e zs s') : BkL F (.Return (some e) pos :: sts) ρ s zs s' := fun O σ H f E q => wb (pss_cons (ps_ret pe_we) pss_wb) (h.2 O σ H f _ fun a vs H1 f1 x1 n1 h1 r1 => by
  have n0 : F.H0 a = none := f.ext.2 a n1
  exact q a vs H1 n0 (fun m => by
    obtain ⟨o, ho⟩ := f.trk a (List.mem_append_right _ m)
    rw [n1] at ho; cases ho) h1 (r1.weak fun b m => by
      rcases List.mem_cons.mp m with z | z
      · exact z ▸ List.mem_cons_self
      · exact List.mem_cons_of_mem _ (List.mem_append_right _ z)) f1.ext (by
    have q2 := f1.st
    have pm := f1.pm
    cases s' with
    | none => exact q2
    | some ys =>
      obtain ⟨q3, q4, ws, q5, q6⟩ := q2
      exact ⟨q3, List.mem_append_right _ (pm rfl), ws, q5, q6.weak fun b m => by
        rcases List.mem_cons.mp m with z | z
        · exact z ▸ List.mem_cons_self
        · exact List.mem_cons_of_mem _ (List.mem_append_right _ z)⟩))
theorem bkl_cons (h1 : Bs F st ρ s { nx := fun ρ' s1 => BkL F sts ρ' s1 zs s', rt := fun _ _ => False }) : BkL F (st :: sts) ρ s zs s' := fun O σ H f E q => wb (pss_cons ps_ws pss_wb) (h1 O σ H f _
  ⟨fun O' σ' H' ρ' s' f' st h' => h' O' σ' H' f' E q, fun _ _ _ _ _ _ _ h => h.elim, fun _ _ _ _ _ _ _ h => h.elim, fun _ _ _ _ _ _ _ h => h.elim, fun _ _ _ _ _ _ _ _ _ _ _ h => h.elim⟩)
/-- f(..), a new list -/
theorem el_cl {f : Str} {k : Nat} (ha : Ea F ρ s (e :: es) ds s1) (hr : Room k F.X.A) (R : RnL F.en k f ds s1 zs s2) (hg : Gl F.X f := by rfl) (hdb : (f == ("__debug__" : Str)) = false := by decide)
    (he : starEach (e :: es) F.X.env = (false, eval e F.X.env) :: starEach es F.X.env := by rfl) (hpl : (backTo pos (starEach es F.X.env)).any (·.1) = false := by rfl) : El F ρ s (.Call (.Name f p) (e :: es) [] pos) zs s2 := by
  obtain ⟨kd, fa, fd, ps, h1, h2, h3, h4⟩ := R
  refine ⟨ha.1.trans kd, fun O σ H fm Q q => we (pe_call h4 hr hg h1 h2 h3 .nil pass0 pa_wa hdb he hpl) (ha.2 O σ H fm _ fun vs H1 f1 x1 r1 => ?_)⟩
  rw [List.append_nil]
  exact ⟨F.p, O ++ F.S0, r1, f1.trk, f1.st, fun a ws H2 n2 g2 r2 x2 t2 => q a ws H2 (f1.addO x2 kd t2 n2 g2) (x1.trans (x2.xe f1.pm f1.kd)) (x1.2 a n2) g2 r2⟩
end
theorem Df.rnL {E : En} {x : Str} {st : Stmt} {N ps : List Str} {k : Nat} {ds zs : List D} {s s' : Sx} (T : Df E st x ps) (S : FnScope N ps (defScope st)) (kd : s.isSome = s'.isSome) (hl : ds.length = ps.length)
    (body : ∀ (fa : Addr) (cdv : Value) (A : Around) (outer : List Env) (sh : Shared) (H0 : Hp) (EX : XK) (S0 : List Addr) (p : Addr), Room k (bodyF E N x st s fa cdv A outer sh H0 EX S0 p).X.A →
      BkL (bodyF E N x st s fa cdv A outer sh H0 EX S0 p) (defBody st) (gStart N ds) s zs s') : RnL E (k + 1) x ds s zs s' := by
  obtain ⟨fa, fd, F, hm, hb⟩ := T.ok
  refine ⟨kd, fa, fd, ps, hm, F.kp, hb, F.ok S (fun vs H Q EX h => ?_) fun cdv A outer sh H vs Q EX hr h => ?_⟩
  · obtain ⟨p, S, r, _⟩ := h
    rw [r.length, hl]
  · obtain ⟨p, S0, r, tr, t, q⟩ := h
    refine ⟨_, pss_wb, body fa cdv A outer sh H EX S0 p hr [] (L2.start N vs) H (fm_start (F := bodyF E N x st s fa cdv A outer sh H EX S0 p) r tr t rfl) _ fun a ws H' n0 nS h1 r1 x1 t1 => ?_⟩
    exact q a ws H' n0 h1 r1 (x1.kind kd.symm) t1
end Gh
set_option Elab.async false
set_option linter.all false
set_option maxRecDepth 100000
set_option maxHeartbeats 4000000
namespace Gt
open PySem PySem.Spec PyProof.Rows HT L2
section
variable {prog : Program} {w : World} {A : Around} {E : Value → Shared → Prop} {s : Shared}
theorem adjust_rev (n : Nat) : Builtin.Slice.sliceAdjust none none (-1) (n : Int) = ((n : Int) - 1, -1) := by
  unfold Builtin.Slice.sliceAdjust
  simp
theorem places_rev (n : Nat) : Builtin.Slice.slicePlaces ((n : Int) - 1) (-1) (-1) = n := by
  unfold Builtin.Slice.slicePlaces
  simp
  try omega
theorem pick_rev (xs : List Value) : ((List.range xs.toArray.size).filterMap fun (m : Nat) => xs.toArray[(((xs.toArray.size : Int) - 1) + (m : Int) * (-1)).toNat]?).toArray = xs.reverse.toArray := by
  congr 1
  rw [List.size_toArray]
  have e : ∀ m ∈ List.range xs.length, xs.toArray[(((xs.length : Int) - 1) + (m : Int) * (-1)).toNat]? = xs.reverse[m]? := fun m hm => by
    have hm := List.mem_range.mp hm
    have e1 : (((xs.length : Int) - 1) + (m : Int) * (-1)).toNat = xs.length - 1 - m := by omega
    rw [e1, List.getElem?_reverse hm]
    simp
  have fm : ∀ (f : Nat → Option Value) (l : List Nat), l.filterMap f = (l.map f).filterMap id := fun f l => by rw [List.filterMap_map]; rfl
  rw [fm, List.map_congr_left e, ← fm]
  have g := pick_gen xs.reverse.toArray 0 xs.reverse.length
  have g2 : (fun (m : Nat) => xs.reverse.toArray[(((0 : Nat) : Int) + (m : Int) * 1).toNat]?) = fun m => xs.reverse[m]? := by
    funext m
    have : (((0 : Nat) : Int) + (m : Int) * 1).toNat = m := by omega
    rw [this]; simp
  rw [g2] at g
  have g3 := congrArg Array.toList g
  rw [List.drop_zero] at g3
  simp only [List.length_reverse] at g3
  rw [List.take_of_length_le (by simp)] at g3
  exact g3
theorem sliceApplied_rev {sl : Addr} {vl vu vs : Value} {n : Nat} {Q : Int × Int × Nat → Shared → Prop} (hs : s.heap.IsSliceOf sl vl vu vs) (pl : IsPart vl none) (pu : IsPart vu none) (ps : IsPart vs (some (-1)))
    (h : Q ((n : Int) - 1, -1, n) s) : wpAny (model prog w) A (Builtin.Slice.sliceApplied (.ref sl) (pure (n : Int))) Q E s := by
  obtain ⟨os, hos, hcs, hds⟩ := id hs
  unfold Builtin.Slice.sliceApplied Builtin.Slice.sliceFields
  refine wpAny_bind (wpAny_bind (wpAny_field hos hds (x := vl) rfl (wpAny_bind (wpAny_field hos hds (x := vu) rfl (wpAny_bind (wpAny_field hos hds (x := vs) rfl (wpAny_pure ?_)))))))
  refine wpAny_bind (slicePart_ ps ?_)
  show wpAny _ _ (if ((-1 : Int) == 0) = true then _ else _) _ _ s
  rw [if_neg (by decide)]
  refine wpAny_bind (slicePart_ pl (wpAny_bind (slicePart_ pu (wpAny_bind (wpAny_pure ?_)))))
  show wpAny _ _ (match Builtin.Slice.sliceAdjust none none (-1) (n : Int) with | (lo, hi) => pure (lo, (-1 : Int), Builtin.Slice.slicePlaces lo hi (-1))) _ _ s
  rw [adjust_rev n]
  show wpAny _ _ (pure ((n : Int) - 1, (-1 : Int), Builtin.Slice.slicePlaces ((n : Int) - 1) (-1) (-1))) _ _ s
  rw [places_rev]
  exact wpAny_pure h
theorem getItem_tuple_rev {t sl : Addr} {its : List Value} {vl vu vs : Value} {Q : Value → Shared → Prop} (ht : IsTup s.heap t its.toArray) (hs : s.heap.IsSliceOf sl vl vu vs) (pl : IsPart vl none) (pu : IsPart vu none) (ps : IsPart vs (some (-1)))
    (h : Q (.ref s.heap.objs.size) { s with heap := s.heap.push { cls := .type "tuple", data := .seq its.reverse.toArray } })
    (hsz : its.length ≤ sizeLine) : wpAny (model prog w) A (getItem (.ref t) (.ref sl)) Q E s := by
  have htake : sizeOk (.seq its.reverse.toArray) := by
    show its.reverse.toArray.size ≤ sizeLine
    rw [List.size_toArray, List.length_reverse]
    exact hsz
  obtain ⟨os, hos, hcs, hds⟩ := id hs
  have hTs : s.TypeIs (.ref sl) "slice" := ⟨os, hos, hcs⟩
  unfold getItem
  try with_reducible refine wpAny_holding ?_
  first | refine wpAny_bind (wpAny_pure ?_) | skip
  refine wpAny_bind (wpAny_sequenceKey ht.typeIs (by decide) ?_)
  refine wpAny_bind (wpAny_callSpecial?_slot (name := Str.ofString "__getitem__") ht.typeIs PyProof.Rows.slot_tuple_getitem
    (wpAny_call_entry PyProof.Rows.slot_tuple_getitem ht.typeIs entry_tuple_getitem ?_ (args_tuple_getitem _ _)))
  show wpAny _ _ (Builtin.Tuple.tupleItemsOf (.ref t) >>= _) _ _ s
  refine wpAny_bind (tupleItemsOf_ ht ?_)
  refine wpAny_bind (wpAny_typeOf hTs ?_)
  rw [if_pos (by decide)]
  refine wpAny_bind (sliceApplied_rev hs pl pu ps ?_)
  have hno : ¬ ((((its.toArray.size : Int) - 1) == 0 && (-1 : Int) == 1 && its.toArray.size == its.toArray.size) = true) := by
    intro q
    rw [Bool.and_eq_true, Bool.and_eq_true] at q
    exact absurd q.1.2 (by decide)
  show wpAny _ _ (if (((its.toArray.size : Int) - 1) == 0 && (-1 : Int) == 1 && its.toArray.size == its.toArray.size) = true then _ else _) _ _ s
  rw [if_neg hno, pick_rev]
  first
    | exact wpAny_bind (m := Builtin.Tuple.tupleExact _) (wpAny_newObj_type (wpAny_pure ⟨_, rfl, wpAny_pure h⟩) htake)
    | exact wpAny_bind (m := Builtin.Tuple.tupleExact _) (wpAny_newObj_type (wpAny_bind (wpAny_pure (wpAny_pure ⟨_, rfl, wpAny_pure h⟩))) htake)
    | exact wpAny_bind (wpAny_bind (m := Builtin.Tuple.tupleExact _) (wpAny_newObj_type (wpAny_pure (wpAny_pure ⟨_, rfl, wpAny_pure h⟩)) htake))
    | exact wpAny_bind (wpAny_bind (m := Builtin.Tuple.tupleExact _) (wpAny_newObj_type (wpAny_pure ⟨_, rfl, wpAny_pure h⟩) htake))
end
section
variable {X : Cx}
def tRevT (K : PySem.W.Frag) (te : TE) : TE := fun σ H Q => te σ H fun x H1 => ∃ a xs, x = .ref a ∧ SqT K H1 a xs ∧ ∀ p, H1 p = none → Q (.ref p) (upd H1 p (.tup xs.reverse))
theorem pe_revT {e : Expr} {te : TE} {k : Nat} {p1 p2 p3 pos : Pos} (he : PE X e te) : PE X (.Subscript e (.Slice none none (some (.UnaryOp .USub (.Constant (.int 1) k p1) p2)) p3) pos) (tRevT X.K te) := by
  refine ⟨fun pins s σ H Q I h => ?_⟩
  refine Subscript_ (thn (he.run pins s σ H _ I h) fun v s1 ⟨x, H1, I1, r1, q1⟩ => ?_)
  obtain ⟨a, xs, ex, hx, q⟩ := q1
  subst ex
  cases r1
  have hst : PO X (some (.UnaryOp .USub (.Constant (.int 1) k p1) p2)) (tPart (tUn (rU fun i => .int (-i)) (tC (.int 1)))) := po_some (pe_un un_neg pe_int)
  refine wpAny_Slice (thn (po_none.run pins s1 σ H1 (fun o H2 => o = none ∧ H2 = H1) I1 ⟨rfl, rfl⟩) fun vl s2 ⟨l, H2, I2, pl, el, e2⟩ => ?_)
  subst el e2
  refine thn (po_none.run pins s2 σ H2 (fun o H3 => o = none ∧ H3 = H2) I2 ⟨rfl, rfl⟩) fun vu s3 ⟨u, H3, I3, pu, eu, e3⟩ => ?_
  subst eu e3
  refine thn (hst.run pins s3 σ H3 (fun o H4 => o = some (-1) ∧ H4 = H3) I3 ⟨1, rfl, -1, rfl, rfl, rfl⟩) fun vs s4 ⟨o, H4, I4, ps, eo, e4⟩ => ?_
  subst eo e4
  have I5 : Inv X pins σ H4 { s4 with heap := s4.heap.push { cls := .type "slice", data := .fields #[vl, vu, vs] } } := I4.kept (t' := s4.toks) fun b ob q => Heap.get?_push_of_some _ q
  obtain ⟨its, r, ht, hz⟩ := I5.tuple hx
  have hlen := r.length
  show wpAny (model X.prog X.w) X.A (subscriptTail e (.Slice none none (some (.UnaryOp .USub (.Constant (.int 1) k p1) p2)) p3) (.ref a) (.ref s4.heap.objs.size)) (EP X pins σ Q) X.xe { s4 with heap := s4.heap.push { cls := .type "slice", data := .fields #[vl, vu, vs] } }
  refine tail_any (ops := [.ref a, .ref s4.heap.objs.size]) ht.typeIs (PyProof.Rows.slot_tuple_getitem.lookup) ?_ (by with_unfolding_all rfl)
  refine getItem_tuple_rev ht (Heap.IsSliceOf.new _ vl vu vs) pl pu ps ?_ (by omega)
  refine ⟨.ref _, _, I5.laid (t' := s4.toks) (o := .tup xs.reverse) (fun b ob q => Heap.get?_push_of_some _ q) (Nat.le_refl _) ?_, rfl, q _ (I5.hok.fresh (Nat.le_refl _))⟩
  exact ⟨by rw [List.length_reverse]; exact hz, _, r.reverse, IsTup.new _ _⟩
end
end Gt
namespace Gh
open PySem PySem.Spec PyProof.Rows L2
section
variable {F : Fx} {ρ : List G} {s s1 : Sx} {a : Expr} {xs : List D} {pos p p1 p2 p3 : Pos}
theorem ed_revT {k : Nat} (ha : Ed F ρ s a (.tup xs) s1) : Ed F ρ s (.Subscript a (.Slice none none (some (.UnaryOp .USub (.Constant (.int 1) k p1) p2)) p3) pos) (.tup xs.reverse) s1 :=
  ⟨ha.1, fun O σ H f Q q => we (Gt.pe_revT pe_we) (ha.2 O σ H f _ fun v H1 f1 x1 r1 => by
    cases r1 with
    | tup h1 h2 => exact ⟨_, _, rfl, h1.sq, fun t n => q _ _ (f1.new n) (x1.trans (.new n)) (.tup (.inl ⟨f1.fresh n, .inl upd_same⟩) (h2.reverse.ext (.new n)))⟩)⟩
/-- {} -/
theorem ed_emp : Ed F ρ s (.Dict [] [] pos) .emp s :=
  ⟨rfl, fun O σ H f Q q => we pe_dnewK (fun t n => q _ _ (f.new n) (.new n) (.emp (f.fresh n) upd_same))⟩
end
end Gh
set_option Elab.async false
set_option linter.all false
set_option maxRecDepth 100000
set_option maxHeartbeats 4000000
/-! enumerate of a tuple, of a text; a text walked -/
namespace Es
open PySem PySem.Spec PyProof.Rows L2
section
theorem new1 {v : Value} {o : Obj} {H : Heap → Prop} (B : Begins v o H) :
    Meets (Builtin.«enumerate.__new__» ⟨[.type "enumerate", v], []⟩) (fun _ R s => H s.heap ∧
      R (.ok (.ret (.ref (s.heap.push o).objs.size))) { s with heap := (s.heap.push o).push { cls := .type "enumerate", data := .fields #[.none, .bool false, .ref s.heap.objs.size, rawInt 0, .none, .none] } }) :=
  .of_wp fun prog w A R s h => by
    obtain ⟨hp, g, d, tk, os⟩ := s; obtain ⟨h1, h⟩ := h
    have hsub := sub_enumerate
    have q1 : ∀ {A' : Around} {E : Value → Shared → Prop} {Q : Value → Shared → Prop}, Q (.ref hp.objs.size) ⟨hp.push o, g, d, tk, os⟩ → wpAny (model prog w) A' (pyIter v) Q E ⟨hp, g, d, tk, os⟩ :=
      fun q => B.iter prog w _ _ ⟨hp, g, d, tk, os⟩ _ h1 q
    wp_walk using q1
    refine wpAny_stack_any fun st => wpAny_pure ?_
    split
    · rename_i c _ _ _ _ _
      cases (c == Value.type "enumerate")
      · wp_walk using q1
        exact ⟨_, rfl, h⟩
      · wp_walk using q1
        exact ⟨_, rfl, h⟩
    · wp_walk using q1
      exact ⟨_, rfl, h⟩
variable {prog : Program} {w : World} {A : Around} {E : Value → Shared → Prop} {s : Shared}
theorem made {v : Value} {o : Obj} {H : Heap → Prop} {Q : Value → Shared → Prop} (B : Begins v o H) (h1 : H s.heap)
    (h : ∀ h', IsEnum h' (s.heap.objs.size + 1) s.heap.objs.size 0 .none → h'.get? s.heap.objs.size = some o → h'.objs.size = s.heap.objs.size + 2 →
      (∀ b o, s.heap.get? b = some o → h'.get? b = some o) → Q (.ref (s.heap.objs.size + 1)) { s with heap := h' }) :
    wpAny (model prog w) A (call (.type "enumerate") [v]) Q E s := by
  refine callType_new F.called_enumerate (by decide) (F.typeCall_enumerate_1 _) (F.newCall_enumerate_1 _) (fun obj => F.args_object_init_2 obj _) F.entry_enumerate_new (new1 B) ⟨h1, ?_⟩
  have hz : (s.heap.push o).objs.size = s.heap.objs.size + 1 := Heap.size_push ..
  show _ ∧ _
  rw [hz]
  have he : IsEnum ((s.heap.push o).push { cls := .type "enumerate", data := .fields #[.none, .bool false, .ref s.heap.objs.size, rawInt 0, .none, .none] }) (s.heap.objs.size + 1) s.heap.objs.size 0 .none := by
    have := Heap.get?_push_size (s.heap.push o) (o := { cls := .type "enumerate", data := .fields #[.none, .bool false, .ref s.heap.objs.size, rawInt 0, .none, .none] }) rfl
    rw [hz] at this; exact this
  refine ⟨⟨_, he, rfl⟩, h _ he (Heap.get?_push_of_some _ (Heap.get?_push_size _ B.free)) (by rw [Heap.size_push, hz]) fun b o x => Heap.get?_push_of_some _ (Heap.get?_push_of_some _ x)⟩
end
theorem getV : ∀ {xs : List V} {us : List Value} {i : Nat} {v : Value}, Vals xs us → us[i]? = some v → ∃ x, xs[i]? = some x ∧ RelV x v
  | _, _, _, _, .nil, h => by simp at h
  | _, _, 0, _, .cons r _, h => by simp at h; subst h; exact ⟨_, rfl, r⟩
  | _, _, i + 1, _, .cons _ rr, h => by simpa using getV (i := i) rr (by simpa using h)
/-- what is enumerated: the i-th value (where the source stands so in H) -/
structure Src (P : Program) (w : World) (K : PySem.W.Frag) where
  at_ : Hp → List V → Prop
  fp : Addr → List Addr
  st : Addr → Nat → Heap → Prop
  inj : ∀ {X : Cx} {pins : List (Addr × Obj)} {σ : L2.St} {H : Hp} {s : Shared} {xs ys : List V}, X.K = K → Inv X pins σ H s → at_ H xs → at_ H ys → xs = ys
  cell : ∀ it i h, st it i h → ∃ o vs, h.get? it = some o ∧ o.data = .fields vs
  keep : ∀ it i h h', st it i h → (∀ o, h.get? it = some o → h'.get? it = some o) → st it i h'
  draws : ∀ {X : Cx} {pins : List (Addr × Obj)} {σ : L2.St} {H : Hp} {s : Shared} {xs : List V} (it e : Addr), X.prog = P → X.w = w → X.K = K → X.calm = true → Inv X pins σ H s → at_ H xs → (∃ o vs, s.heap.get? it = some o ∧ o.data = .fields vs) → (∃ o vs, s.heap.get? e = some o ∧ o.data = .fields vs) →
    e ≠ it → ∃ (n : Nat) (Pv : Nat → Value → Prop) (fp : List Addr) (St : Nat → Heap → Prop), n = xs.length ∧ Draws P w X.A.in1 it fp n Pv St ∧ it ∈ fp ∧ e ∉ fp ∧ (∀ i, st it i s.heap → St i s.heap) ∧ (∀ i h, St i h → st it i h) ∧ ∀ i v, Pv i v → ∃ x, xs[i]? = some x ∧ RelV x v
def It (K : PySem.W.Frag) {P : Program} {w : World} (S : Src P w K) : L2.It :=
  ⟨fun i H => ∃ (xs : List V) (x : V), S.at_ H xs ∧ xs[i]? = some x, fun i H v H' => ∃ T x, v = .ref T ∧ H T = none ∧ H' = upd H T (.tup [.int (i : Nat), x]) ∧ ∀ xs, S.at_ H xs → xs[i]? = some x, fun i H => ∃ xs : List V, S.at_ H xs ∧ xs.length = i⟩
theorem turn {P : Program} {w : World} {K : PySem.W.Frag} {elts : List Expr} {kk : Nat} {tpos : Pos} (S : Src P w K) (e it : Addr) :
    Turn P w K (.Tuple elts kk tpos) (It K S) [e, it] e (fun i h => (∃ old, IsEnum h e it ((i : Nat) : Int) old) ∧ S.st it i h ∧ e ≠ it) where
  mem := by simp
  obj := fun i h st b hb => by
    obtain ⟨⟨old, he⟩, hi, _⟩ := st
    obtain ⟨o, vs, ho, hd⟩ := S.cell _ _ _ hi
    have e' : b = e ∨ b = it := by simpa using hb
    rcases e' with z | z
    · rw [z]; exact ⟨_, he, fun v q => nomatch q⟩
    · rw [z]; exact ⟨o, ho, fun v q => by rw [hd] at q; cases q⟩
  keep := fun i h h' st k => let ⟨⟨old, he⟩, hi, hne⟩ := st; ⟨⟨old, k e (by simp) _ he⟩, S.keep _ _ _ _ hi fun o q => k it (by simp) o q, hne⟩
  item := by
    intro X hP hw hK hc i pins s σ H E I hf st hg
    obtain ⟨⟨old, he⟩, hit, hne⟩ := st
    obtain ⟨xs, x, hq, hx⟩ := hg
    obtain ⟨n, Pv, fp, St, hn, D, hm, hef, h1, h2, h3⟩ := S.draws it e hP hw hK hc I hq (S.cell _ _ _ hit) ⟨_, _, he, rfl⟩ hne
    subst hP hw hK
    have hel : e < s.heap.objs.size := Heap.lt_size he
    have hil : it < s.heap.objs.size := by obtain ⟨_, _, q, _⟩ := S.cell _ _ _ hit; exact Heap.lt_size q
    have hin : i < n := by rw [hn]; exact (List.getElem?_eq_some_iff.mp hx).1
    refine wpAny_pyNext_enum_itemD D he (h1 i hit) hin hne hef fun u h' tk hP ho hit' hT hsz hk => ?_
    obtain ⟨x', hx', ru⟩ := h3 i u hP
    obtain rfl : x' = x := Option.some.inj (hx'.symm.trans hx)
    refine ⟨_, rfl, wpAny_letOwnedTupleGo_enum (s := { s with heap := h', toks := tk + 1 }) ho fun h'' he' sb => ?_⟩
    have hT2 : h''.get? s.heap.objs.size = some { cls := .type "tuple", data := .seq #[.int i tk, u] } := (sb.2 _ (Nat.ne_of_gt hel)).trans hT
    have new : ObjOk X.prog X.w (upd H s.heap.objs.size (.tup [.int (i : Nat), x'])) h'' s.heap.objs.size (.tup [.int (i : Nat), x']) :=
      ⟨by show 2 ≤ sizeLine; decide, [.int i tk, u], .cons ⟨_, rfl⟩ (.cons ru .nil), ⟨_, hT2, rfl, _, rfl⟩⟩
    have I1 : Inv X pins σ (upd H s.heap.objs.size (.tup [.int (i : Nat), x'])) { s with heap := h'', toks := tk + 1 } :=
      I.turnedNew (ch := [e, it]) (fun b ob hb q => (sb.2 b (fun z => hb (by simp [z]))).trans (hk b ob (fun z => hb (by simp [z])) (fun z => hb (by simp [z])) q)) hf (Nat.le_refl _) new
    refine ⟨.ref s.heap.objs.size, _, I1, rfl, ⟨_, x', rfl, I.hok.fresh (Nat.le_refl _), rfl, fun ys hy => by rw [S.inj rfl I hy hq]; exact hx⟩, ⟨⟨u, ?_⟩, S.keep _ _ _ _ (h2 _ _ hit') fun o q => (sb.2 it (Ne.symm hne)).trans q, hne⟩, fun b hb => ?_⟩
    · have e1 : ((i + 1 : Nat) : Int) = (i : Int) + 1 := by omega
      rw [e1]; exact he'
    · have hb' : b < s.heap.objs.size := by
        have e' : b = e ∨ b = it := by simpa using hb
        rcases e' with z | z
        · rw [z]; exact hel
        · rw [z]; exact hil
      rw [upd_ne (Nat.ne_of_lt hb')]
      exact (hf b hb).1
  done := by
    intro X hP hw hK hc i pins s σ H E I hf st hg
    obtain ⟨⟨old, he⟩, hit, hne⟩ := st
    obtain ⟨xs, hq, hx⟩ := hg
    obtain ⟨n, Pv, fp, St, hn, D, hm, hef, h1, h2, h3⟩ := S.draws it e hP hw hK hc I hq (S.cell _ _ _ hit) ⟨_, _, he, rfl⟩ hne
    subst hP hw hK
    obtain ⟨f0, f1, f2, f3, f4, f5⟩ := hf it (by simp)
    have e2 : i = n := by omega
    subst e2
    exact wpAny_pyNext_enum_endD D he (h1 _ hit) fun h' eb => ⟨rfl, I.turned (t' := s.toks) (fun b o hb q => eb b o hb q) f0 f1 f3 f4 f5⟩
  self := fun A i s Q E st h => let ⟨⟨_, he⟩, _⟩ := st; wpAny_pyIter_enum he h
def srcT (P : Program) (w : World) (K : PySem.W.Frag) (a : Addr) : Src P w K where
  at_ := fun H xs => SqT K H a xs
  fp := fun it => [it, a]
  st := fun it i h => h.IsTupleIter it a i
  inj := fun hK I h1 h2 => by subst hK; exact Zm.Sq.inj (t := true) I h1 h2
  cell := fun it i h st => by obtain ⟨o, e, _, d⟩ := st; exact ⟨o, _, e, d⟩
  keep := fun it i h h' st k => st.at k
  draws := fun {X pins σ H s xs} it e hP hw hK hc I hq c1 c2 hne => by
    subst hP hw hK
    obtain ⟨its, rv, p, hz⟩ := Zm.Sq.get (t := true) I hq
    have p : s.heap.IsTuple a its.toArray := p
    have nt : ∀ b, (∃ o vs, s.heap.get? b = some o ∧ o.data = .fields vs) → b ≠ a := fun b hb z => by
      obtain ⟨o, vs, e1, d1⟩ := hb
      obtain ⟨o2, e2, _, n, d2⟩ := p
      rw [z] at e1
      rw [e1] at e2
      cases e2
      rw [d1] at d2
      cases d2
    refine ⟨its.toArray.size, _, _, _, ?_, Draws.tuple (A := X.A.in1) (I.ok.hd hc) it a (Ne.symm (nt it c1)) its.toArray, by simp, ?_, fun i st => ⟨st, p⟩, fun i h st => st.1, fun i v hv => ?_⟩
    · rw [rv.length]; simp
    · simp only [List.mem_cons, List.not_mem_nil, or_false, not_or]
      exact ⟨hne, nt e c2⟩
    · exact getV rv (by simpa using hv)
def srcS (P : Program) (w : World) (K : PySem.W.Frag) (x : Str) (t : Tok) : Src P w K where
  at_ := fun _ xs => xs = x.cps.toList.map fun c => .str ⟨#[c]⟩
  fp := fun it => [it]
  st := fun it i h => h.IsStrIter it (strIterType x) x t i
  inj := fun hK I h1 h2 => by rw [h1, h2]
  cell := fun it i h st => by obtain ⟨o, e, _, d⟩ := st; exact ⟨o, _, e, d⟩
  keep := fun it i h h' st k => by obtain ⟨o, ho, r⟩ := st; exact ⟨o, k o ho, r⟩
  draws := fun {X pins σ H s xs} it e hP hw hK hc I hq c1 c2 hne => by
    subst hP hw hK hq
    refine ⟨x.cps.size, _, _, _, by simp, Draws.text (A := X.A.in1) (I.ok.hd hc) it x t, by simp, by simpa using hne, fun i st => st, fun i h st => st, fun i v hv => ?_⟩
    obtain ⟨c, u, h1, h2⟩ := hv
    exact ⟨.str ⟨#[c]⟩, by simp [h1], u, h2⟩
def iEn (K : PySem.W.Frag) (P : Program) (w : World) (ta : TA) : TI := fun σ H R => ta σ H fun vs H1 => (∃ a xs, vs = [.ref a] ∧ SqT K H1 a xs ∧ R (It K (srcT P w K a)) H1) ∨ ∃ x, vs = [.str x] ∧ ∀ t, R (It K (srcS P w K x t)) H1
theorem pi_en {X : Cx} {e : Expr} {ta : TA} {p pos tpos : Pos} {elts : List Expr} {kk : Nat} (hg : Gl X "enumerate") (hm : X.mg "enumerate" = none) (ha : PA X [e] ta) (hs : starEach [e] X.env = [(false, eval e X.env)] := by rfl) :
    PI X (.Tuple elts kk tpos) (.Call (.Name "enumerate" p) [e] [] pos) (iEn X.K X.prog X.w ta) := by
  refine ⟨fun pins s σ H R I h => ?_⟩
  refine Call_ (ld_blt I hg hm boot_enumerate (PyProof.Rows.callWith_type1 (thn (ha.run pos pins s σ H _ I h) fun us s1 ⟨vs, H1, I1, r1, q1⟩ => ?_) hs rfl))
  have fin : ∀ {h' : Heap} {t' : Nat} {S : Src X.prog X.w X.K}, IsEnum h' (s1.heap.objs.size + 1) s1.heap.objs.size 0 .none → S.st s1.heap.objs.size 0 h' → (∀ b o, s1.heap.get? b = some o → h'.get? b = some o) → R (It X.K S) H1 →
      wpAny (model X.prog X.w) X.A (pyIter (.ref (s1.heap.objs.size + 1))) (PIE X pins σ (.Tuple elts kk tpos) R) X.xe { s1 with heap := h' } := fun {h' t' S} he hit hk q => by
    refine wpAny_pyIter_enum he ?_
    have I2 : Inv X pins σ H1 { s1 with heap := h' } := I1.kept (t' := s1.toks) hk
    refine ⟨s1.heap.objs.size + 1, [s1.heap.objs.size + 1, s1.heap.objs.size], _, _, H1, rfl, I2, turn S (s1.heap.objs.size + 1) s1.heap.objs.size, ⟨⟨.none, he⟩, hit, Nat.succ_ne_self _⟩, fun b hb => ?_, q⟩
    have e' : b = s1.heap.objs.size + 1 ∨ b = s1.heap.objs.size := by simpa using hb
    have hle : s1.heap.objs.size ≤ b := by
      rcases e' with z | z
      · rw [z]; exact Nat.le_add_right _ _
      · rw [z]; exact Nat.le_refl _
    exact I1.fpOk hle (I1.hok.fresh hle)
  rcases q1 with ⟨a, xs, ex, hq, q⟩ | ⟨x, ex, q⟩
  · subst ex
    cases r1 with
    | cons r rr =>
      cases rr
      cases r
      obtain ⟨its, rv, p', hz⟩ := Zm.Sq.get (t := true) I1 hq
      have p' : s1.heap.IsTuple a its.toArray := p'
      exact made (begins_tuple a its.toArray) p' fun h' he hit hsz hk => fin (t' := s1.toks) (S := srcT X.prog X.w X.K a) he ⟨_, hit, rfl, rfl⟩ hk q
  · subst ex
    cases r1 with
    | cons r rr =>
      cases rr
      obtain ⟨t, rfl⟩ := r
      exact made (begins_text x t) trivial fun h' he hit hsz hk => fin (t' := s1.toks) (S := srcS X.prog X.w X.K x t) he ⟨_, hit, rfl, rfl⟩ hk (q t)
theorem walkT {P : Program} {w : World} {K : PySem.W.Frag} {a : Addr} {xs : List V} : Walk (It K (srcT P w K a)) xs.length (fun H => SqT K H a xs) (YPair (fun i => some (.int (i : Nat))) (fun i => xs[i]?)) := by
  refine ⟨fun i _ hi q => ⟨xs, xs[i], q, by simp [hi]⟩, fun _ q => ⟨xs, q, rfl⟩, fun i H v H' _ q y => ?_⟩
  obtain ⟨T, x, h1, h2, h3, h4⟩ := y
  exact ⟨T, .int (i : Nat), x, h1, h2, h3, rfl, h4 xs q⟩
theorem walkS {P : Program} {w : World} {K : PySem.W.Frag} {x : Str} {t : Tok} : Walk (It K (srcS P w K x t)) x.cps.size (fun _ => True) (YPair (fun i => some (.int (i : Nat))) (fun i => (x.cps.toList.map fun c => (V.str ⟨#[c]⟩))[i]?)) := by
  refine ⟨fun i _ hi q => ⟨_, .str ⟨#[x.cps[i]]⟩, rfl, by simp [hi]⟩, fun _ q => ⟨_, rfl, by simp⟩, fun i H v H' _ q y => ?_⟩
  obtain ⟨T, z, h1, h2, h3, h4⟩ := y
  exact ⟨T, .int (i : Nat), z, h1, h2, h3, rfl, h4 _ rfl⟩
end Es
set_option Elab.async false
set_option linter.all false
set_option maxRecDepth 100000
set_option maxHeartbeats 4000000
/-! list(zip(xs, ys)), xs and ys lists -/
namespace Lz
open PySem PySem.Spec PyProof.Rows L2
theorem no_len : typeLookup (.type "zip") "__len__" = pure none := am_miss_of_fast (by decide +kernel)
theorem no_hint : typeLookup (.type "zip") "__length_hint__" = pure none := am_miss_of_fast (by decide +kernel)
section
variable {prog : Program} {w : World} {A : Around} {E : Value → Shared → Prop} {s : Shared}
theorem hint {r : Addr} (hT : s.TypeIs (.ref r) "zip") {Q : Bool → Shared → Prop} (h : Q true s) : wpAny (model prog w) A (Builtin.List.listLengthHint (.ref r)) Q E s := by
  unfold Builtin.List.listLengthHint
  refine wpAny_bind (wpAny_specialOf hT no_len ?_)
  dsimp only
  refine wpAny_ite_split (fun hab => absurd hab (by decide)) (fun _ => ?_)
  refine wpAny_ite_split (fun hab => absurd hab (by decide)) (fun _ => ?_)
  exact wpAny_bind (wpAny_specialOf hT no_hint (wpAny_pure h))
/-- the pairs that have been given -/
structure Ps (xs ys : Array Value) (lo : Addr) (h : Heap) (as : List Addr) : Prop where
  nd : as.Nodup
  above : ∀ a ∈ as, lo < a
  pairs : ∀ (j : Nat) (a : Addr), as[j]? = some a → ∃ x y, xs[j]? = some x ∧ ys[j]? = some y ∧ h.get? a = some { cls := .type "tuple", data := .seq #[x, y] }
structure Zs (xs ys : Array Value) (z TI TO i1 i2 l1 l2 S : Addr) (i : Nat) (h : Heap) : Prop where
  tI : IsPair h TI (.ref i1) (.ref i2)
  r1 : h.IsListIter i1 l1 i
  r2 : h.IsListIter i2 l2 i
  s1 : h.IsList l1 xs
  s2 : h.IsList l2 ys
  z : (i = 0 ∧ IsZip h z TI TO .none ∧ ∃ x y, IsPair h TO x y) ∨ ∃ T f oT, IsZipHeld h z TI TO T f ∧ h.get? T = some oT ∧ S < T
theorem Zs.keep {xs ys : Array Value} {z TI TO i1 i2 l1 l2 S : Addr} {i : Nat} {h h' : Heap} (x : Zs xs ys z TI TO i1 i2 l1 l2 S i h) (k : ∀ b o, b ≠ S → h.get? b = some o → h'.get? b = some o) (n : z ≠ S ∧ TI ≠ S ∧ TO ≠ S ∧ i1 ≠ S ∧ i2 ≠ S ∧ l1 ≠ S ∧ l2 ≠ S) : Zs xs ys z TI TO i1 i2 l1 l2 S i h' := by
  obtain ⟨n1, n2, n3, n4, n5, n6, n7⟩ := n
  refine ⟨k _ _ n2 x.tI, x.r1.at fun o e => k _ o n4 e, x.r2.at fun o e => k _ o n5 e, x.s1.at fun o e => k _ o n6 e, x.s2.at fun o e => k _ o n7 e, ?_⟩
  rcases x.z with ⟨e, q, u, v, p⟩ | ⟨T, f, oT, q, e, lt⟩
  · exact .inl ⟨e, k _ _ n1 q, u, v, k _ _ n3 p⟩
  · exact .inr ⟨T, f, oT, k _ _ n1 q, k _ _ (Nat.ne_of_gt lt) e, lt⟩
theorem item {xs ys : Array Value} {z TI TO i1 i2 l1 l2 S : Addr} {i : Nat} {x y : Value} {Q : Option Value → Shared → Prop} (D : ZipApart z TI TO i1 i2 l1 l2) (st : Zs xs ys z TI TO i1 i2 l1 l2 S i s.heap) (hS : S < s.heap.objs.size) (lt : z < S ∧ i1 < S ∧ i2 < S ∧ TO < S ∧ l1 < S ∧ l2 < S ∧ TI < S) (n : l1 ≠ i2 ∧ l1 ≠ i1 ∧ l2 ≠ i1 ∧ l2 ≠ i2 ∧ l1 ≠ z ∧ l2 ≠ z ∧ l1 ≠ TO ∧ l2 ≠ TO)
    (hx : xs[i]? = some x) (hy : ys[i]? = some y)
    (hQ : ∀ h', Zs xs ys z TI TO i1 i2 l1 l2 S (i + 1) h' → h'.get? s.heap.objs.size = some { cls := .type "tuple", data := .seq #[x, y] } → h'.objs.size = s.heap.objs.size + 1 →
      (∀ b o, b ≠ z → b ≠ TO → b ≠ i1 → b ≠ i2 → s.heap.get? b = some o → h'.get? b = some o) → Q (some (.ref s.heap.objs.size)) { s with heap := h' }) : wpAny (model prog w) A (pyNext (.ref z)) Q E s := by
  obtain ⟨m1, m2, m3, m4, m5, m6, m7, m8⟩ := n
  rcases st.z with ⟨e, q, u, v, p⟩ | ⟨T, f, oT, q, e, ltT⟩
  · refine Zm.py_item (t := false) (u := false) D q st.tI p st.r1 st.r2 st.s1 st.s2 hx hy fun h' z' TO' h1' h2' hT hsz hk => hQ h' ⟨hk _ _ D.TIz D.TITO D.TIi1 D.TIi2 st.tI, h1', h2', st.s1.at fun o e => hk _ o m5 m7 m2 m1 e, st.s2.at fun o e => hk _ o m6 m8 m3 m4 e, .inr ⟨_, false, _, z', hT, hS⟩⟩ hT hsz hk
  · obtain ⟨o1, o2, o3, o4, o5, o6, o7⟩ := lt
    refine wpAny_pyNext_zip_item_held D q e st.tI st.r1 st.r2 st.s1 st.s2 hx hy fun h' z' h1' h2' hT hsz hk => hQ h' ⟨hk _ _ D.TIz D.TIi1 D.TIi2 st.tI, h1', h2', st.s1.at fun o e => hk _ o m5 m2 m1 e, st.s2.at fun o e => hk _ o m6 m3 m4 e, .inr ⟨T, true, oT, z', hk _ _ ?_ ?_ ?_ e, ltT⟩⟩ hT hsz fun b o c1 _ c3 c4 e => hk b o c1 c3 c4 e
    · exact Nat.ne_of_gt (Nat.lt_trans o1 ltT)
    · exact Nat.ne_of_gt (Nat.lt_trans o2 ltT)
    · exact Nat.ne_of_gt (Nat.lt_trans o3 ltT)
theorem done {xs ys : Array Value} {z TI TO i1 i2 l1 l2 S : Addr} {i : Nat} {Q : Option Value → Shared → Prop} (hh : A.handled = none) (D : ZipApart z TI TO i1 i2 l1 l2) (st : Zs xs ys z TI TO i1 i2 l1 l2 S i s.heap) (he : xs[i]? = none ∨ ys[i]? = none)
    (hQ : ∀ h', (∀ b o, b ≠ z → b ≠ TO → b ≠ i1 → b ≠ i2 → s.heap.get? b = some o → h'.get? b = some o) → Q none { s with heap := h' }) : wpAny (model prog w) A (pyNext (.ref z)) Q E s := by
  rcases st.z with ⟨e, q, u, v, p⟩ | ⟨T, f, oT, q, e, ltT⟩
  · exact Zm.py_end (t := false) (u := false) hh D q st.tI p st.r1 st.r2 st.s1 st.s2 he fun h' hk => hQ h' hk
  · exact wpAny_pyNext_zip_end_held hh D q e st.tI st.r1 st.r2 st.s1 st.s2 he fun h' hk => hQ h' fun b o c1 _ c3 c4 e => hk b o c1 c3 c4 e
/-- how the cells lie -/
structure Lie (z TI TO i1 i2 l1 l2 S : Addr) : Prop where
  D : ZipApart z TI TO i1 i2 l1 l2
  lt : z < S ∧ i1 < S ∧ i2 < S ∧ TO < S ∧ l1 < S ∧ l2 < S ∧ TI < S
  n : l1 ≠ i2 ∧ l1 ≠ i1 ∧ l2 ≠ i1 ∧ l2 ≠ i2 ∧ l1 ≠ z ∧ l2 ≠ z ∧ l1 ≠ TO ∧ l2 ≠ TO
theorem Lie.ne {z TI TO i1 i2 l1 l2 S : Addr} (L : Lie z TI TO i1 i2 l1 l2 S) : z ≠ S ∧ TI ≠ S ∧ TO ≠ S ∧ i1 ≠ S ∧ i2 ≠ S ∧ l1 ≠ S ∧ l2 ≠ S := by
  obtain ⟨o1, o2, o3, o4, o5, o6, o7⟩ := L.lt
  exact ⟨Nat.ne_of_lt o1, Nat.ne_of_lt o7, Nat.ne_of_lt o4, Nat.ne_of_lt o2, Nat.ne_of_lt o3, Nat.ne_of_lt o5, Nat.ne_of_lt o6⟩
theorem Lie.over {z TI TO i1 i2 l1 l2 S b : Addr} (L : Lie z TI TO i1 i2 l1 l2 S) (h : S < b) : b ≠ z ∧ b ≠ TO ∧ b ≠ i1 ∧ b ≠ i2 := by
  obtain ⟨o1, o2, o3, o4, o5, o6, o7⟩ := L.lt
  exact ⟨Nat.ne_of_gt (Nat.lt_trans o1 h), Nat.ne_of_gt (Nat.lt_trans o4 h), Nat.ne_of_gt (Nat.lt_trans o2 h), Nat.ne_of_gt (Nat.lt_trans o3 h)⟩
theorem loop {xs ys : Array Value} {z TI TO i1 i2 l1 l2 S : Addr} {R : Result → Shared → Prop} (hh : A.handled = none) (L : Lie z TI TO i1 i2 l1 l2 S) {n : Nat} (hnx : n = min xs.size ys.size) (hn : n ≤ sizeLine) (res : Value) {h₁ : Heap}
    (hR : ∀ h' acc c as, (∀ b o, b ≠ S → b ≠ z → b ≠ TO → b ≠ i1 → b ≠ i2 → h₁.get? b = some o → h'.get? b = some o) → h'.get? S = some { cls := .type "list", dict := none, data := .seq acc c, slots := #[] } → as.length = n → Ps xs ys S h' as →
      acc.toList = as.map Value.ref → R (.ok (.ret res)) { s with heap := h' }) :
    ∀ (k i : Nat) (h : Heap) (c : Nat) (acc : Array Value) (as : List Addr), n - i = k → i ≤ n → Zs xs ys z TI TO i1 i2 l1 l2 S i h → (∀ b o, b ≠ S → b ≠ z → b ≠ TO → b ≠ i1 → b ≠ i2 → h₁.get? b = some o → h.get? b = some o) →
      h.get? S = some { cls := .type "list", dict := none, data := .seq acc c, slots := #[] } → acc.toList = as.map Value.ref → as.length = i → Ps xs ys S h as →
      codeAny (model prog w) A (.builtin "list.extend.loop" ⟨[.ref S, .ref z, res], []⟩) R { s with heap := h } := by
  obtain ⟨e1, e2, e3, e4, e5, e6, e7⟩ := L.ne
  intro k
  induction k with
  | zero =>
    intro i h c acc as hk hi hst hkeep hS hacc hal hG
    have hin : i = n := by omega
    refine codeAny_builtin PySem.F.entry_extend_loop ?_
    rw [Around.under_plainId PySem.F.plain_extend_loop _]
    show wpAny _ A.in1 (pyNext (.ref z) >>= _) _ _ _
    have hend : xs[i]? = none ∨ ys[i]? = none := by
      rcases Nat.le_total xs.size ys.size with q | q
      · exact .inl (Array.getElem?_eq_none (by omega))
      · exact .inr (Array.getElem?_eq_none (by omega))
    refine wpAny_bind (done (s := { s with heap := h }) (A := A.in1) hh L.D hst hend fun h' he => ?_)
    refine wpAny_pure (hR h' acc c as (fun b o h1 h2 h3 h4 h5 e => he b o h2 h3 h4 h5 (hkeep b o h1 h2 h3 h4 h5 e)) (he S _ (Ne.symm e1) (Ne.symm e3) (Ne.symm e4) (Ne.symm e5) hS) (by omega) ⟨hG.nd, hG.above, fun j a hj => ?_⟩ hacc)
    obtain ⟨x, y, q1, q2, q3⟩ := hG.pairs j a hj
    obtain ⟨n1, n2, n3, n4⟩ := L.over (hG.above a (List.mem_of_getElem? hj))
    exact ⟨x, y, q1, q2, he a _ n1 n2 n3 n4 q3⟩
  | succ k ih =>
    intro i h c acc as hk hi hst hkeep hS hacc hal hG
    have hlt : i < n := by omega
    obtain ⟨x, hx⟩ : ∃ p, xs[i]? = some p := ⟨xs[i]'(by omega), Array.getElem?_eq_getElem _⟩
    obtain ⟨y, hy⟩ : ∃ p, ys[i]? = some p := ⟨ys[i]'(by omega), Array.getElem?_eq_getElem _⟩
    have hsz : acc.size = i := by rw [← Array.length_toList, hacc, List.length_map, hal]
    have hSl : S < h.objs.size := Heap.lt_size hS
    refine codeAny_builtin PySem.F.entry_extend_loop ?_
    rw [Around.under_plainId PySem.F.plain_extend_loop _]
    show wpAny _ A.in1 (pyNext (.ref z) >>= _) _ _ _
    refine wpAny_bind (item (s := { s with heap := h }) L.D hst hSl L.lt L.n hx hy fun h' hst' ht hz hkp => ?_)
    dsimp only at ht hz hkp ⊢
    have hS' := hkp S _ (Ne.symm e1) (Ne.symm e3) (Ne.symm e4) (Ne.symm e5) hS
    have up : ∀ b o, b ≠ S → h'.get? b = some o → (h'.update S (Obj.mapSeq (·.push (Value.ref h.objs.size)))).get? b = some o := fun b o hb e => (Heap.get?_update_other _ _ (Ne.symm hb)).trans e
    show wpAny _ A.in1 (updateSeq S (·.push (Value.ref h.objs.size)) >>= _) _ _ _
    refine wpAny_bind ?_
    refine wpAny_updateSeq hS' rfl (wpAny_pure ⟨plainId_quiet PySem.F.plain_extend_loop _, ih (i + 1) _ _ (acc.push (Value.ref h.objs.size)) (as ++ [h.objs.size]) (by omega) hlt (hst'.keep up L.ne)
      (fun b o h1 h2 h3 h4 h5 e => up b o h1 (hkp b o h2 h3 h4 h5 (hkeep b o h1 h2 h3 h4 h5 e))) (Heap.get?_update_self _ hS' rfl) (by rw [Array.toList_push, hacc, List.map_append]; rfl) (by rw [List.length_append, hal]; rfl) ⟨?_, ?_, ?_⟩⟩) (by rw [hsz]; omega) (by show (acc.push (Value.ref h.objs.size)).size ≤ sizeLine + 1; rw [Array.size_push, hsz]; omega)
    · refine List.nodup_append.mpr ⟨hG.nd, by simp, fun a ha b hb e => ?_⟩
      rw [List.mem_singleton.mp hb] at e
      obtain ⟨j, hj⟩ := List.mem_iff_getElem?.mp ha
      obtain ⟨_, _, _, _, q⟩ := hG.pairs j a hj
      rw [e] at q
      exact Nat.lt_irrefl _ (Heap.lt_size q)
    · intro a ha
      rcases List.mem_append.mp ha with ha | ha
      · exact hG.above a ha
      · rw [List.mem_singleton.mp ha]; exact hSl
    · intro j b hj
      rcases Nat.lt_trichotomy j as.length with h1 | h1 | h1
      · rw [List.getElem?_append_left h1] at hj
        obtain ⟨x', y', q1, q2, q3⟩ := hG.pairs j b hj
        have hb := hG.above b (List.mem_of_getElem? hj)
        obtain ⟨n1, n2, n3, n4⟩ := L.over hb
        exact ⟨x', y', q1, q2, up b _ (Nat.ne_of_gt hb) (hkp b _ n1 n2 n3 n4 q3)⟩
      · subst h1
        have hb : h.objs.size = b := by simpa using hj
        subst hb
        exact ⟨x, y, by rw [hal]; exact hx, by rw [hal]; exact hy, up _ _ (Nat.ne_of_gt hSl) ht⟩
      · have hnone : (as ++ [h.objs.size])[j]? = none := List.getElem?_eq_none (by rw [List.length_append, List.length_singleton]; omega)
        rw [hnone] at hj; cases hj
theorem extend {xs ys : Array Value} {z TI TO i1 i2 l1 l2 S : Addr} {R : Result → Shared → Prop} (hh : A.handled = none) (L : Lie z TI TO i1 i2 l1 l2 S) {n : Nat} (hnx : n = min xs.size ys.size) (hn : n ≤ sizeLine) (res : Value) (c₀ : Nat) (hS : s.heap.get? S = some { cls := .type "list", data := .seq #[] c₀ })
    (st : Zs xs ys z TI TO i1 i2 l1 l2 S 0 s.heap) (hT : s.TypeIs (.ref z) "zip") (hself : ∀ {A' : Around} {Q : Value → Shared → Prop} {E : Value → Shared → Prop}, Q (.ref z) s → wpAny (model prog w) A' (pyIter (.ref z)) Q E s)
    (hR : ∀ h' acc c as, (∀ b o, b ≠ S → b ≠ z → b ≠ TO → b ≠ i1 → b ≠ i2 → s.heap.get? b = some o → h'.get? b = some o) → h'.get? S = some { cls := .type "list", dict := none, data := .seq acc c, slots := #[] } → as.length = n → Ps xs ys S h' as →
      acc.toList = as.map Value.ref → R (.ok (.ret res)) { s with heap := h' }) :
    wpAny (model prog w) A.in1 (Builtin.List.listExtendWith (.ref S) (.ref z) res)
      (fun fin s' => match fin with | .done f => R (.ok f) s' | .again c' => c'.quiet = true ∧ codeAny (model prog w) A c' R s') (fun e s' => R (.error e) s') s := by
  have key : ∀ (h : Heap) (c₁ : Nat), (∀ b o, b ≠ S → s.heap.get? b = some o → h.get? b = some o) → h.get? S = some { cls := .type "list", data := .seq #[] c₁ } →
      codeAny (model prog w) A (.builtin "list.extend.loop" ⟨[.ref S, .ref z, res], []⟩) R { s with heap := h } := fun h c₁ hk hS₁ =>
    loop (s := s) (h₁ := s.heap) hh L hnx hn res hR n 0 h c₁ #[] [] (Nat.sub_zero _) (Nat.zero_le _) (st.keep hk L.ne) (fun b o hb _ _ _ _ e => hk b o hb e) hS₁ rfl rfl ⟨List.nodup_nil, (fun _ ha => nomatch ha), (fun j a hj => by simp at hj)⟩
  unfold Builtin.List.listExtendWith
  refine wpAny_bind (wpAny_typeOf (T := "zip") hT ?_)
  have h1 : Builtin.List.listSameRef (.ref S) (.ref z) = false := by simp [Builtin.List.listSameRef, Ne.symm L.ne.1]
  have h2 : (Value.type "zip" == Value.type "list") = false := by decide
  have h3 : (Value.type "zip" == Value.type "tuple") = false := by decide
  simp only [h1, h2, h3, Bool.or_false, Bool.false_eq_true, if_false]
  refine wpAny_bind (hself ?_)
  refine wpAny_bind (wpAny_holding (hint hT ?_))
  refine wpAny_ite_split (fun _ => ?_) (fun _ => wpAny_pure ⟨plainId_quiet PySem.F.plain_extend_loop _, key _ c₀ (fun b o _ e => e) hS⟩)
  refine wpAny_bind (wpAny_rule ?_)
  refine wpAny_bind ?_
  show wpAny _ _ (updateSeq S (·.push .none) >>= fun _ => updateSeq S (·.pop)) _ _ _
  refine wpAny_bind (wpAny_updateSeq hS rfl ?_)
  have hS₂ := Heap.get?_update_self (Obj.mapSeq (·.push Value.none)) hS rfl
  refine wpAny_updateSeq (hz := by seq_fits) hS₂ rfl ?_
  have hS₃ := Heap.get?_update_self (Obj.mapSeq (·.pop)) hS₂ rfl
  refine wpAny_pure ⟨plainId_quiet PySem.F.plain_extend_loop _, key _ _ (fun b o hb e => ?_) hS₃⟩
  exact (Heap.get?_update_other _ _ (Ne.symm hb)).trans ((Heap.get?_update_other _ _ (Ne.symm hb)).trans e)
theorem init {xs ys : Array Value} {z TI TO i1 i2 l1 l2 S : Addr} {R : Result → Shared → Prop} (hh : A.handled = none) (L : Lie z TI TO i1 i2 l1 l2 S) {n : Nat} (hnx : n = min xs.size ys.size) (hn : n ≤ sizeLine) (hS : s.heap.get? S = some { cls := .type "list", data := .seq #[] })
    (st : Zs xs ys z TI TO i1 i2 l1 l2 S 0 s.heap) (hzz : IsZip s.heap z TI TO .none)
    (hR : ∀ h' acc c as, (∀ b o, b ≠ S → b ≠ z → b ≠ TO → b ≠ i1 → b ≠ i2 → s.heap.get? b = some o → h'.get? b = some o) → h'.get? S = some { cls := .type "list", dict := none, data := .seq acc c, slots := #[] } → as.length = n → Ps xs ys S h' as →
      acc.toList = as.map Value.ref → R (.ok (.ret .none)) { s with heap := h' }) :
    wpAny (model prog w) A.in1 (Builtin.«list.__init__» ⟨[.ref S, .ref z], []⟩)
      (fun fin s' => match fin with | .done f => R (.ok f) s' | .again c' => c'.quiet = true ∧ codeAny (model prog w) A c' R s') (fun e s' => R (.error e) s') s := by
  show wpAny _ _ (do let old ← Builtin.List.listItems (.ref S); Builtin.List.listUpdate (.ref S) (fun _ => #[]); letGo old.toList.reverse; Builtin.List.listExtendWith (.ref S) (.ref z) .none) _ _ s
  refine wpAny_bind ?_
  unfold Builtin.List.listItems
  refine wpAny_bind (wpAny_seqItems hS rfl (wpAny_pure ?_))
  show wpAny _ _ (updateSeq S (fun _ => #[]) >>= fun _ => letGo (#[] : Array Value).toList.reverse >>= fun _ => Builtin.List.listExtendWith (.ref S) (.ref z) .none) _ _ s
  refine wpAny_bind (wpAny_updateSeq hS rfl ?_)
  have hS₂ := Heap.get?_update_self (Obj.mapSeq (fun _ => (#[] : Array Value))) hS rfl
  have oth : ∀ b o, b ≠ S → s.heap.get? b = some o → (s.heap.update S (Obj.mapSeq (fun _ => (#[] : Array Value)))).get? b = some o :=
    fun b o hb e => (Heap.get?_update_other _ _ (Ne.symm hb)).trans e
  refine wpAny_bind (wpAny_letGo ?_)
  have hz2 := oth _ _ L.ne.1 hzz
  refine extend (s := { s with heap := s.heap.update S (Obj.mapSeq (fun _ => (#[] : Array Value))) }) hh L hnx hn .none _ hS₂ (st.keep oth L.ne) ⟨_, hz2, rfl⟩ (fun q => wpAny_pyIter_zip hz2 q) (fun h' acc c as hk hS' hl hG hacc => ?_)
  exact hR h' acc c as (fun b o hb h2 h3 h4 h5 e => hk b o hb h2 h3 h4 h5 (oth b o hb e)) hS' hl hG hacc
theorem call_ {xs ys : Array Value} {z TI TO i1 i2 l1 l2 : Addr} {Q : Value → Shared → Prop} (hh : A.handled = none) (L : Lie z TI TO i1 i2 l1 l2 s.heap.objs.size) {n : Nat} (hnx : n = min xs.size ys.size) (hn : n ≤ sizeLine)
    (st : ∀ S, Zs xs ys z TI TO i1 i2 l1 l2 S 0 s.heap) (hzz : IsZip s.heap z TI TO .none)
    (hQ : ∀ h' acc c as, (∀ b o, b ≠ z → b ≠ TO → b ≠ i1 → b ≠ i2 → s.heap.get? b = some o → h'.get? b = some o) → h'.get? s.heap.objs.size = some { cls := .type "list", dict := none, data := .seq acc c, slots := #[] } → as.length = n → Ps xs ys s.heap.objs.size h' as →
      acc.toList = as.map Value.ref → Q (.ref s.heap.objs.size) { s with heap := h' }) :
    wpAny (model prog w) A (call (.type "list") [.ref z]) Q E s := by
  refine callType_codes (Q₁ := fun obj s₁ => obj = .ref s.heap.objs.size ∧ s₁ = { s with heap := s.heap.push { cls := .type "list", data := .seq #[] } }) PySem.F.called_list (PySem.F.typeCall_list_1 _) PySem.F.entry_list_init
    (code_list_new _ ⟨rfl, rfl⟩) fun obj s₁ h₁ => ?_
  obtain ⟨rfl, rfl⟩ := h₁
  have hS : (s.heap.push { cls := .type "list", data := .seq #[] }).get? s.heap.objs.size = some { cls := .type "list", data := .seq #[] } := Heap.get?_push_size _ rfl
  refine ⟨⟨_, hS, rfl⟩, PySem.F.args_list_init_2 _ _, init (s := { s with heap := s.heap.push { cls := .type "list", data := .seq #[] } }) (A := A.in1) hh L hnx hn hS ((st _).keep (fun b o _ e => Heap.get?_push_of_some _ e) L.ne) (Heap.get?_push_of_some _ hzz) (fun h' acc c as hk hS' hl hG hacc => ?_)⟩
  exact ⟨rfl, hQ h' acc c as (fun b o h2 h3 h4 h5 e => hk b o (Nat.ne_of_lt (Heap.lt_size e)) h2 h3 h4 h5 (Heap.get?_push_of_some _ e)) hS' hl hG hacc⟩
end
/-! over the layer -/
section
variable {X : Cx} {pins : List (Addr × Obj)} {σ : L2.St}
theorem pairsH {h' : Heap} {xs ys : List V} {us ws : List Value} (rx : Vals xs us) (ry : Vals ys ws) : ∀ (as : List Addr) (k : Nat) (H : Hp) (s : Shared), s.heap = h' → Inv X pins σ H s → as.Nodup → (∀ a ∈ as, FpOk X pins H a) →
    (∀ (j : Nat) (a : Addr), as[j]? = some a → ∃ u w, us[k + j]? = some u ∧ ws[k + j]? = some w ∧ h'.get? a = some { cls := .type "tuple", data := .seq #[u, w] }) →
    ∃ H2, Inv X pins σ H2 s ∧ (∀ b, b ∉ as → H2 b = H b) ∧ ∀ (j : Nat) (a : Addr), as[j]? = some a → ∃ x y, xs[k + j]? = some x ∧ ys[k + j]? = some y ∧ H2 a = some (.tup [x, y])
  | [], k, H, s, e, I, nd, f, p => ⟨H, I, fun _ _ => rfl, fun j a h => by simp at h⟩
  | a :: as, k, H, s, e, I, nd, f, p => by
    obtain ⟨u, w, h1, h2, h3⟩ := p 0 a rfl
    obtain ⟨x, e1, r1⟩ := Es.getV rx h1
    obtain ⟨y, e2, r2⟩ := Es.getV ry h2
    have fa := f a List.mem_cons_self
    have I1 : Inv X pins σ (upd H a (.tup [x, y])) { s with heap := s.heap, toks := s.toks } := I.take (fun b ob _ q => q) fa ⟨by show 2 ≤ sizeLine; decide, [u, w], .cons r1 (.cons r2 .nil), ⟨_, by rw [e]; exact h3, rfl, _, rfl⟩⟩
    have nd2 := List.nodup_cons.mp nd
    obtain ⟨H2, I2, k2, g2⟩ := pairsH rx ry as (k + 1) (upd H a (.tup [x, y])) s e I1 nd2.2 (fun b m => by
      have ne : b ≠ a := fun z => nd2.1 (z ▸ m)
      obtain ⟨q0, q⟩ := f b (List.mem_cons_of_mem _ m)
      exact ⟨by rw [upd_ne ne]; exact q0, q⟩) (fun j b h => by
      have := p (j + 1) b (by simpa using h)
      rw [show k + 1 + j = k + (j + 1) by omega]; exact this)
    refine ⟨H2, I2, fun b hb => ?_, fun j b h => ?_⟩
    · rw [k2 b (fun m => hb (List.mem_cons_of_mem _ m)), upd_ne (fun z => hb (by rw [z]; exact List.mem_cons_self))]
    · cases j with
      | zero =>
        simp at h; subst h
        exact ⟨x, y, e1, e2, by rw [k2 _ nd2.1, upd_same]⟩
      | succ j =>
        obtain ⟨x', y', q1, q2, q3⟩ := g2 j b (by simpa using h)
        exact ⟨x', y', by rw [show k + (j + 1) = k + 1 + j by omega]; exact q1, by rw [show k + (j + 1) = k + 1 + j by omega]; exact q2, q3⟩
end
def tLz (K : PySem.W.Frag) (ta : TA) : TE := fun σ H Q => ta σ H fun vs H1 => ∃ a b xs ys, vs = [.ref a, .ref b] ∧ SqL K H1 a xs ∧ SqL K H1 b ys ∧ ∀ (S : Addr) (as : List Addr) (H2 : Hp), H1 S = none → as.length = min xs.length ys.length → as.Nodup → (∀ a ∈ as, H1 a = none ∧ a ≠ S) →
  (∀ b, b ∉ as → b ≠ S → H2 b = H1 b) → (∀ (j : Nat) (a : Addr), as[j]? = some a → ∃ x y, xs[j]? = some x ∧ ys[j]? = some y ∧ H2 a = some (.tup [x, y])) → H2 S = some (.lst (as.map V.ref)) → Q (.ref S) H2
theorem vals_refs : ∀ as : List Addr, Vals (as.map V.ref) (as.map Value.ref)
  | [] => .nil
  | a :: as => .cons rfl (vals_refs as)
theorem pe_lz {X : Cx} {e e2 : Expr} {ta : TA} {p p2 pos pos2 : Pos} (hc : X.calm = true) (hg : Gl X "zip") (hm : X.mg "zip" = none) (hgl : Gl X "list") (hml : X.mg "list" = none) (ha : PA X [e, e2] ta)
    (hs : starEach [e, e2] X.env = (false, eval e X.env) :: starEach [e2] X.env := by rfl) (hpl : (backTo pos2 (starEach [e2] X.env)).any (·.1) = false := by rfl)
    (na : starEach [.Call (.Name "zip" p2) [e, e2] [] pos2] X.env = (false, eval (.Call (.Name "zip" p2) [e, e2] [] pos2) X.env) :: starEach [] X.env := by rfl) :
    PE X (.Call (.Name "list" p) [.Call (.Name "zip" p2) [e, e2] [] pos2] [] pos) (tLz X.K ta) := by
  refine ⟨fun pins s σ H Q I h => ?_⟩
  refine Call_ (ld_blt I hgl hml boot_list (PyProof.Rows.callWith_type1 (args_cons ?_ na) na))
  refine Call_ (ld_blt I hg hm PyProof.Rows.boot_zip (PyProof.Rows.callWith_type1 (thn (ha.run pos2 pins s σ H _ I h) fun us s1 ⟨vs, H1, I1, r1, q1⟩ => ?_) hs hpl))
  obtain ⟨a, b, xs, ys, ex, hqx, hqy, q⟩ := q1
  subst ex
  cases r1 with
  | cons r rr =>
    cases rr with
    | cons r' rr =>
      cases rr; cases r; cases r'
      obtain ⟨its, rv, p1, la⟩ := Zm.Sq.get (t := false) I1 hqx
      obtain ⟨its2, rv2, p2', lb⟩ := Zm.Sq.get (t := false) I1 hqy
      obtain ⟨_, _, _, zx⟩ := I1.list hqx
      have l1 := rv.length
      have l2 := rv2.length
      have p1 : s1.heap.IsList a its.toArray := p1
      have p2' : s1.heap.IsList b its2.toArray := p2'
      refine Zm.call_zip (t := false) (u := false) p1 p2' fun h' hz hTI hTO h1 h2 hsz hk => args_nil ?_
      have na1 : s1.heap.objs.size ≤ s1.heap.objs.size := Nat.le_refl _
      have L : Lie (s1.heap.objs.size + 4) (s1.heap.objs.size + 2) (s1.heap.objs.size + 3) s1.heap.objs.size (s1.heap.objs.size + 1) a b h'.objs.size := by
        refine ⟨PySem.W.ktu_apart s1.heap.objs.size a b la lb, ?_, ?_⟩
        · rw [hsz]; refine ⟨?_, ?_, ?_, ?_, ?_, ?_, ?_⟩ <;> first | exact Nat.add_lt_add_left (by decide) _ | exact Nat.lt_add_of_pos_right (by decide) | exact Nat.lt_of_lt_of_le la (Nat.le_add_right _ _) | exact Nat.lt_of_lt_of_le lb (Nat.le_add_right _ _)
        · refine ⟨?_, ?_, ?_, ?_, ?_, ?_, ?_, ?_⟩ <;> first | exact Nat.ne_of_lt la | exact Nat.ne_of_lt lb | exact Nat.ne_of_lt (Nat.lt_of_lt_of_le la (Nat.le_add_right _ _)) | exact Nat.ne_of_lt (Nat.lt_of_lt_of_le lb (Nat.le_add_right _ _))
      refine call_ (s := { s1 with heap := h' }) (xs := its.toArray) (ys := its2.toArray) (I1.ok.hd hc) L rfl ?_ (fun S => ⟨hTI, h1, h2, p1.at fun o e => hk _ o e, p2'.at fun o e => hk _ o e, .inl ⟨rfl, hz, _, _, hTO⟩⟩) hz fun h3 acc c as k3 hS hl hP hacc => ?_
      · simp only [List.size_toArray]
        exact Nat.le_trans (Nat.min_le_left _ _) (by rw [← l1]; exact zx)
      dsimp only at hS hP k3
      have k4 : ∀ b o, s1.heap.get? b = some o → h3.get? b = some o := fun b o e => by
        have hb := Heap.lt_size e
        exact k3 b o (Nat.ne_of_lt (Nat.lt_of_lt_of_le hb (Nat.le_add_right _ _))) (Nat.ne_of_lt (Nat.lt_of_lt_of_le hb (Nat.le_add_right _ _))) (Nat.ne_of_lt hb) (Nat.ne_of_lt (Nat.lt_of_lt_of_le hb (Nat.le_add_right _ _))) (hk b o e)
      have I2 : Inv X pins σ H1 { s1 with heap := h3 } := I1.kept (t' := s1.toks) k4
      have ge : ∀ a ∈ as, s1.heap.objs.size ≤ a := fun a m => by
        have := hP.above a m
        rw [hsz] at this
        exact Nat.le_trans (Nat.le_add_right _ _) (Nat.le_of_lt this)
      have gS : s1.heap.objs.size ≤ h'.objs.size := by rw [hsz]; exact Nat.le_add_right _ _
      have nS : ∀ a ∈ as, a ≠ h'.objs.size := fun a m => Nat.ne_of_gt (hP.above a m)
      obtain ⟨H2, I3, kb, gp⟩ := pairsH rv rv2 as 0 H1 { s1 with heap := h3 } rfl I2 hP.nd (fun a m => I1.fpOk (ge a m) (I1.hok.fresh (ge a m))) (fun j a hj => by
        obtain ⟨x, y, q1, q2, q3⟩ := hP.pairs j a hj
        exact ⟨x, y, by simpa using q1, by simpa using q2, q3⟩)
      have nSa : h'.objs.size ∉ as := fun m => nS _ m rfl
      have fS := I1.fpOk gS (I1.hok.fresh gS)
      obtain ⟨q0, q6⟩ := fS
      have I4 : Inv X pins σ (upd H2 h'.objs.size (.lst (as.map V.ref))) { s1 with heap := h3, toks := s1.toks } := I3.take (fun b ob _ q => q) ⟨by rw [kb _ nSa]; exact q0, q6⟩ ⟨?_, acc.toList, c, ?_, ?_⟩
      · refine ⟨.ref h'.objs.size, _, I4, rfl, q _ as _ (I1.hok.fresh gS) ?_ hP.nd (fun a m => ⟨I1.hok.fresh (ge a m), nS a m⟩) (fun b hb hb2 => by rw [upd_ne hb2]; exact kb b hb) (fun j a hj => ?_) upd_same⟩
        · rw [hl, l1, l2]; simp
        · obtain ⟨x, y, w1, w2, w3⟩ := gp j a hj
          rw [Nat.zero_add] at w1 w2
          exact ⟨x, y, w1, w2, by rw [upd_ne (nS a (List.mem_of_getElem? hj))]; exact w3⟩
      · rw [List.length_map, hl]
        simp only [List.size_toArray]
        exact Nat.le_trans (Nat.min_le_left _ _) (by rw [← l1]; exact zx)
      · rw [hacc]; exact vals_refs as
      · rw [Array.toArray_toList]; exact hS
end Lz
set_option Elab.async false
set_option linter.all false
set_option maxRecDepth 100000
set_option maxHeartbeats 4000000
namespace Gh
open PySem PySem.Spec PyProof.Rows L2
/-- a text, sign by sign -/
def sgns (x : Str) : List D := x.cps.toList.map fun c => D.str ⟨#[c]⟩
theorem sgns_length (x : Str) : (sgns x).length = x.cps.size := by simp [sgns]
section
variable {F : Fx} {ρ : List G} {s s1 s2 s3 : Sx} {tg a b e : Expr} {es : List Expr} {x y d : D} {xs ys ds items : List D} {pos p : Pos} {k : GE}
theorem ei_str {z : Str} (ha : Ed F ρ s a (.str z) s1) : Ei F ρ s tg a (sgns z) s1 := by
  refine ⟨ha.1, fun O σ H f R q => wi (pi_str pe_we) (ha.2 O σ H f _ fun v H1 f1 x1 r1 => ?_)⟩
  cases r1
  refine ⟨z, rfl, q _ _ f1 x1 ?_⟩
  rw [sgns_length]
  refine walk_str.mono (fun _ _ => trivial) fun i H2 v H3 hi x2 y => ?_
  obtain ⟨e, c, hc, rfl⟩ := y
  subst e
  exact ⟨fun _ _ h => h, .str ⟨#[c]⟩, by simp [sgns, hc], fun _ _ => .str _⟩
theorem ei_pairs {J : It} {n : Nat} {G : Hp → Prop} {f : Nat → Option V} {O : List Addr} {H1 : Hp} {σ : L2.St} (w : Walk J n G (YPair (fun i => some (.int (i : Nat))) f)) (hn : n = xs.length) (hG : ∀ H2, XT (O ++ F.S0) H1 H2 → G H2) (f1 : Fm F O σ H1 ρ s1)
    (hv : ∀ i v, f i = some v → ∃ d, xs[i]? = some d ∧ Rp F.X.K F.p (O ++ F.S0) H1 v d) : Walk J (enumD xs).length (fun H2 => XT (O ++ F.S0) H1 H2) (Yd F O H1 (enumD xs)) := by
  rw [enumD_length, ← hn]
  refine w.mono (fun H3 x3 => hG H3 x3) fun i H3 z H4 hi x3 y => ?_
  obtain ⟨T, u, t, rfl, n, rfl, e1, e2⟩ := y
  cases e1
  obtain ⟨d2, g2, k2⟩ := hv i t e2
  refine ⟨fun c o h => by rw [upd_ne (ne_of_none h n)]; exact h, _, enumD_get g2, fun O' g => ?_⟩
  have nT : T ∉ O' ++ F.S0 := fun m => by
    rcases List.mem_append.mp m with m | m
    · obtain ⟨_, o, ho⟩ := g T m
      rw [n] at ho; cases ho
    · exact f1.fresh (x3.2 T n) (List.mem_append_right _ m)
  exact .tup (.inl ⟨nT, .inl upd_same⟩) (.cons (.int _) (.cons ((rp_later k2 x3 fun a m => (g a m).1).ext (.new n)) .nil))
theorem ei_enumT {kk : Nat} {tpos : Pos} {elts : List Expr} (B : Bf F.X.mg) (ha : Ed F ρ s a (.tup xs) s1) (hg : Gl F.X "enumerate" := by rfl) (he : starEach [a] F.X.env = [(false, eval a F.X.env)] := by rfl) :
    Ei F ρ s (.Tuple elts kk tpos) (.Call (.Name "enumerate" p) [a] [] pos) (enumD xs) s1 := by
  refine ⟨ha.1, fun O σ H f R q => wi (Es.pi_en hg B.enum (pa_cons pe_we pa_nil (by rw [he]; rfl)) he) (ha.2 O σ H f _ fun v H1 f1 x1 r1 => ?_)⟩
  obtain ⟨t, c, vs, rfl, rv, h1, h2⟩ := rp_sq r1 (.inr rfl)
  cases r1 with
  | tup g1 g2 =>
    refine .inl ⟨_, _, rfl, g1.sq, q _ _ f1 x1 (ei_pairs (f1 := f1) Es.walkT g2.length (fun H2 x2 => ?_) fun i v hv => g2.getV hv)⟩
    rcases g1 with ⟨m, g1⟩ | g1
    · exact .inl (rd_ext x2 m g1 nt_tup)
    · rcases g1 with g1 | g1
      · exact (rd_none g1).elim
      · exact .inr g1
theorem ei_enumS {kk : Nat} {tpos : Pos} {elts : List Expr} {z : Str} (B : Bf F.X.mg) (ha : Ed F ρ s a (.str z) s1) (hg : Gl F.X "enumerate" := by rfl) (he : starEach [a] F.X.env = [(false, eval a F.X.env)] := by rfl) :
    Ei F ρ s (.Tuple elts kk tpos) (.Call (.Name "enumerate" p) [a] [] pos) (enumD (sgns z)) s1 := by
  refine ⟨ha.1, fun O σ H f R q => wi (Es.pi_en hg B.enum (pa_cons pe_we pa_nil (by rw [he]; rfl)) he) (ha.2 O σ H f _ fun v H1 f1 x1 r1 => ?_)⟩
  cases r1
  refine .inr ⟨z, rfl, fun t => q _ _ f1 x1 (ei_pairs (f1 := f1) Es.walkS (by rw [sgns_length]) (fun _ _ => trivial) fun i v hv => ?_)⟩
  rw [List.getElem?_map] at hv
  cases e : z.cps.toList[i]? with
  | none => rw [e] at hv; cases hv
  | some c => rw [e] at hv; cases hv; exact ⟨.str ⟨#[c]⟩, by simp only [sgns, List.getElem?_map, e]; rfl, .str _⟩
/-- enumerate of a list or a tuple -/
theorem ei_enumA {kk : Nat} {tpos : Pos} {elts : List Expr} (B : Bf F.X.mg) (ha : Ed F ρ s a x s1) (hx : x = .lst xs ∨ x = .tup xs) (hg : Gl F.X "enumerate" := by rfl) (he : starEach [a] F.X.env = [(false, eval a F.X.env)] := by rfl) :
    Ei F ρ s (.Tuple elts kk tpos) (.Call (.Name "enumerate" p) [a] [] pos) (enumD xs) s1 := by
  rcases hx with rfl | rfl
  · exact ei_enum B ha hg he
  · exact ei_enumT B ha hg he
theorem cp_inSign {c : Nat} {z : Str} (ha : Ed F ρ s a (.str ⟨#[c]⟩) s1) (hb : Ed F ρ s1 b (.str z) s2) (hm : behindInMarks .In b = false := by rfl) : Cp F ρ s .In a b (decide (c ∈ z.cps.toList)) s2 :=
  cp_of op_in_sign ha hb (fun O σ H f v w r1 r2 Q q => by cases r1; cases r2; exact ⟨c, z, rfl, rfl, q _ _ f .refl (.bl _)⟩) hm
theorem cp_isB {k l : Bool} (ha : Ed F ρ s a (.bl k) s1) (hb : Ed F ρ s1 b (.bl l) s2) : Cp F ρ s .Is a b (decide (k = l)) s2 :=
  cp_of op_is_bl ha hb (fun O σ H f v w r1 r2 Q q => by cases r1; cases r2; exact ⟨k, l, rfl, rfl, q _ _ f .refl (.bl _)⟩) (nomark _)
/-! max, min of a list of ints -/
theorem ed_maxL {ns : List Int} {m : Int} (B : Bf F.X.mg) (hc : F.X.calm = true) (ha : Ed F ρ s a (.lst (ns.map D.int)) s1) (hm : m ∈ ns) (hx : ∀ y ∈ ns, y ≤ m) (hg : Gl F.X "max" := by rfl) (he : starEach [a] F.X.env = (false, eval a F.X.env) :: starEach [] F.X.env := by rfl) : Ed F ρ s (.Call (.Name "max" p) [a] [] pos) (.int m) s1 :=
  ed_callB (cr_max hc) B.max boot_max' (ea_cons ha ea_nil he) (fun O σ H f vs r Q q => by
    cases r with
    | cons r1 r2 =>
      cases r2
      cases r1 with
      | lst m1 h1 h2 =>
        have e := h2.ints
        subst e
        refine ⟨_, ns, rfl, .inl (.inl h1), List.length_pos_of_mem hm, fun m' g1 g2 => ?_⟩
        have e : m' = m := Int.le_antisymm (hx m' g1) (g2 m hm)
        subst e
        exact q _ _ f .refl (.int _)) hg (by decide) (by decide) he rfl
theorem ed_minL {ns : List Int} {m : Int} (B : Bf F.X.mg) (hc : F.X.calm = true) (ha : Ed F ρ s a (.lst (ns.map D.int)) s1) (hm : m ∈ ns) (hx : ∀ y ∈ ns, m ≤ y) (hg : Gl F.X "min" := by rfl) (he : starEach [a] F.X.env = (false, eval a F.X.env) :: starEach [] F.X.env := by rfl) : Ed F ρ s (.Call (.Name "min" p) [a] [] pos) (.int m) s1 :=
  ed_callB (cr_min hc) B.min boot_min' (ea_cons ha ea_nil he) (fun O σ H f vs r Q q => by
    cases r with
    | cons r1 r2 =>
      cases r2
      cases r1 with
      | lst m1 h1 h2 =>
        have e := h2.ints
        subst e
        refine ⟨_, ns, rfl, .inl (.inl h1), List.length_pos_of_mem hm, fun m' g1 g2 => ?_⟩
        have e : m' = m := Int.le_antisymm (g2 m hm) (hx m' g1)
        subst e
        exact q _ _ f .refl (.int _)) hg (by decide) (by decide) he rfl
/-- x += e, ints -/
theorem bs_aug (i : Nat) {x : Str} {pos' : Pos} {n m : Int} (hN : F.X.N.Nodup) (hi : F.X.N[i]? = some x) (hx : Loc F.X.env.scope x) (hρ : ρ[i]? = some (.val (.int n))) (h : Ed F ρ s e (.int m) s1) (hk : k.nx (ρ.set i (.val (.int (n + m)))) s1) (hf : F.X.fn x = true ∨ F.X.env.scope.names.lookup x = some .local := by first | exact .inl rfl | exact .inr rfl | assumption) : Bs F (.AugAssign (.Name x pos') .Add e pos) ρ s k :=
  fun O σ H f E q => ws (ps_aug hN hi hx pe_we ip_add (hf := hf)) (by
    obtain ⟨o, ho, v, eo, r⟩ := f.slot i _ hρ
    subst eo
    cases r
    refine ⟨_, ho, h.2 O σ H f _ fun w H1 f1 x1 r1 => ?_⟩
    cases r1
    exact ⟨n, m, rfl, rfl, q.nx O _ H1 _ s1 (f1.set (.int _)) (.of x1.xt) hk⟩)
/-! targets that turn owned lists -/
def Egm (F : Fx) (tg : Expr) (d : D) (ρ ρ' : List G) (s : Sx) : Prop := ∀ O σ H v, Fm F O σ H ρ s → Rp F.X.K F.p (O ++ F.S0) H v d → ∀ Q : L2.St → Hp → Prop,
  (∀ σ' H', Fm F O σ' H' ρ' s → XT (O ++ F.S0) H H' → Q σ' H') → WG F.X tg v σ H Q
def Egms (F : Fx) (ts : List Expr) (ds : List D) (ρ ρ' : List G) (s : Sx) : Prop := ∀ O σ H vs, Fm F O σ H ρ s → Rps F.X.K F.p (O ++ F.S0) H vs ds → ∀ Q : L2.St → Hp → Prop,
  (∀ σ' H', Fm F O σ' H' ρ' s → XT (O ++ F.S0) H H' → Q σ' H') → WGs F.X ts vs σ H Q
theorem Eg.m {ρ' : List G} {js : List Nat} (h : Eg F tg d ρ ρ' js) : Egm F tg d ρ ρ' s := fun O σ H v f r Q q => h O σ H v s f r Q fun σ' f' _ _ => q σ' H f' .refl
theorem egm_name (i : Nat) {x : Str} (hN : F.X.N.Nodup) (hi : F.X.N[i]? = some x) (hx : Loc F.X.env.scope x) (hf : F.X.fn x = true ∨ F.X.env.scope.names.lookup x = some .local := by first | exact .inl rfl | exact .inr rfl | assumption) : Egm F (.Name x pos) d ρ (ρ.set i (.val d)) s := (eg_name i hN hi hx hf).m
theorem egm_sub (i : Nat) {x : Str} {px ps : Pos} {ix : Expr} {n : Int} {j : Nat} (hN : F.X.N[i]? = some x) (hv : Vis F.X.env.scope x) (hρ : ρ[i]? = some (.own xs)) (hi : Ed F ρ s ix (.int n) s) (hj : ixN xs.length n = some j)
    (hd : (x == ("__debug__" : Str)) = false := by decide) (hcd : (x == ("__classdict__" : Str)) = false := by decide)
    (ha : ∀ v, assign (.Subscript (.Name x px) ix ps) F.X.env v = (do
      let ov ← holding [v] (eval (.Name x px) F.X.env)
      let iv ← holding [v, ov] (eval ix F.X.env)
      standAt ps
      holding [v, ov, iv] (setItem ov iv v)
      release [v, ov, iv] []) := by intro _; rfl) : Egm F (.Subscript (.Name x px) ix ps) d ρ (ρ.set i (.own (xs.set j d))) s :=
  fun O σ H v f r Q q => wg_setOwn i f hN hv hρ hi hj r (fun H' f' x' => q σ H' f' x') hd hcd ha
theorem egms_nil : Egms F [] [] ρ ρ s := fun O σ H vs f r Q q => by
  cases r
  exact wgs pgs_nil ⟨rfl, q σ H f .refl⟩
theorem egms_cons {t : Expr} {ts : List Expr} {ρ1 ρ2 : List G} (h1 : Egm F t d ρ ρ1 s) (h2 : Egms F ts ds ρ1 ρ2 s) (hs : (assignEach (t :: ts) F.X.env).map (·.2) = assign t F.X.env :: (assignEach ts F.X.env).map (·.2) := by rfl) : Egms F (t :: ts) (d :: ds) ρ ρ2 s := fun O σ H vs f r Q q => by
  cases r with
  | cons r1 r2 => exact wgs (pgs_cons pg_wg pgs_wgs hs) ⟨_, _, rfl, h1 O σ H _ f r1 _ fun σ1 H1 f1 x1 => h2 O σ1 H1 _ f1 (r2.ext x1) _ fun σ2 H2 f2 x2 => q σ2 H2 f2 (x1.trans x2)⟩
theorem egm_tup {ts : List Expr} {kk : Nat} {ρ' : List G} (hc : F.X.calm = true) (h : Egms F ts ds ρ ρ' s) (hn : (assignEach ts F.X.env).length = ds.length := by rfl) (hst : (assignEach ts F.X.env).findIdx? (·.1) = none := by rfl) : Egm F (.Tuple ts kk pos) (.tup ds) ρ ρ' s := fun O σ H v f r Q q => by
  cases r with
  | tup h1 h2 => exact wg (pg_tup hc pgs_wgs hn hst) ⟨_, _, rfl, h1.sq, h2.length, h O σ H _ f h2 Q q⟩
theorem bs_asgM {ρ' : List G} (h : Ed F ρ s e d s1) (hg : Egm F tg d ρ ρ' s1) (hk : k.nx ρ' s1) (hs : swapsWithSole [tg] e pos.line F.X.env = pure false := by rfl) (hw : swappedStores [tg] e F.X.env = pure none := by rfl)
    (h1 : (assignEach [tg] F.X.env).map (·.2) = [assign tg F.X.env] := by rfl) : Bs F (.Assign [tg] e pos) ρ s k :=
  fun O σ H f E q => ws (ps_asg pe_we pg_wg hs hw h1) (h.2 O σ H f _ fun v H1 f1 x1 r1 => hg O σ H1 v f1 r1 _ fun σ' H' f' x' => q.nx O σ' H' ρ' s1 f' (.of (x1.xt.trans x')) hk)
/-- list(range(n)), list(range(i, j)) -/
def rgD (a b : Int) : List D := (List.range (b - a).toNat).map fun i => D.int (a + (i : Nat))
theorem rps_rg {K : PySem.W.Frag} {q : Addr} {S : List Addr} {H : Hp} (a : Int) : ∀ l : List Nat, Rps K q S H (l.map fun i => V.int (a + (i : Nat))) (l.map fun i => D.int (a + (i : Nat)))
  | [] => .nil
  | i :: l => .cons (.int _) (rps_rg a l)
theorem el_listRg1 {p2 pos2 : Pos} {n : Int} (B : Bf F.X.mg) (hc : F.X.calm = true) (ha : Ed F ρ s a (.int n) s1) (h : RgOk 0 n) (hg : Gl F.X "list" := by rfl) (hg2 : Gl F.X "range" := by rfl) (na : starEach [a] F.X.env = (false, eval a F.X.env) :: starEach [] F.X.env := by rfl)
    (nb : starEach [.Call (.Name "range" p2) [a] [] pos2] F.X.env = (false, eval (.Call (.Name "range" p2) [a] [] pos2) F.X.env) :: starEach [] F.X.env := by rfl) : El F ρ s (.Call (.Name "list" p) [.Call (.Name "range" p2) [a] [] pos2] [] pos) (rgD 0 n) s1 :=
  ⟨ha.1, fun O σ H f Q q => we (pe_listRg hc hg B.list (prg_1 hg2 B.range pe_we na) nb) (ha.2 O σ H f _ fun v H1 f1 x1 r1 => by
    cases r1
    exact ⟨n, rfl, h, fun c nc => q c _ _ (f1.newO nc) (x1.trans (.new nc)) (x1.2 c nc) upd_same (rps_rg 0 _)⟩)⟩
end
/-! len(set(xs)), ints -/
def setLen (ns : List Int) : Nat := (firstMet (fun i => ns.getD i 0) ns.length).length
def tLenSet (K : PySem.W.Frag) (ta : TE) : TE := fun σ H Q => ta σ H fun x H1 => ∃ (l : Addr) (ns : List Int), x = .ref l ∧ SqL K H1 l (ns.map V.int) ∧ ns.length ≤ 4000 ∧ Q (.int (setLen ns : Nat)) H1
theorem pe_lenSet {X : Cx} {a : Expr} {ta : TE} {p p2 q pos : Pos} (hg : Gl X "len") (hm : X.mg "len" = none) (hg2 : Gl X "set") (hm2 : X.mg "set" = none) (ha : PE X a ta) (hc : X.calm = true := by rfl)
    (na : starEach [a] X.env = (false, eval a X.env) :: starEach [] X.env := by rfl) (nb : starEach [.Call (.Name "set" p2) [a] [] q] X.env = (false, eval (.Call (.Name "set" p2) [a] [] q) X.env) :: starEach [] X.env := by rfl) : PE X (.Call (.Name "len" p) [.Call (.Name "set" p2) [a] [] q] [] pos) (tLenSet X.K ta) := by
  refine ⟨fun pins s σ H Q I h => ?_⟩
  refine Call_ (ld_blt I hg hm boot_len ?_)
  refine PyProof.Rows.callWith_builtin1 (PyProof.Rows.args_cons ?_ nb) nb rfl
  refine Call_ (ld_blt I hg2 hm2 boot_set ?_)
  refine PyProof.Rows.callWith_type1 (PyProof.Rows.args_cons (thn (ha.run pins s σ H _ I h) fun v s1 ⟨x, H1, I1, r1, q1⟩ => PyProof.Rows.args_nil ?_) na) na rfl
  obtain ⟨l, ns, rfl, hq, hl, q1⟩ := q1
  cases r1
  obtain ⟨its, r, pl, hz⟩ := I1.list hq
  have hlen : its.toArray.size = ns.length := by rw [List.size_toArray, ← r.length, List.length_map]
  refine call_set_list (I1.ok.hd hc) pl.isList (by simpa using RZ.intsAre_vals r) (by rw [hlen]; unfold scanBound; omega) fun h' tk hS hk => ?_
  refine PyProof.Rows.args_nil ?_
  rw [hlen] at hS
  have hle := firstMet_length_le (fun i => ns.getD i 0) ns.length
  obtain ⟨o, es, ep, t, ho, hex, hd, _, _, _, hf, hn⟩ := hS
  have I2 : Inv X pins σ H1 { s1 with heap := h', toks := tk } := I1.kept fun b o e => hk b o (Heap.lt_size e) e
  exact call_len_set ho hex hd hf (by rw [hn] <;> omega) ⟨.int (setLen ns : Nat), H1, I2.tok _, ⟨_, by rw [hn]; rfl⟩, q1⟩
section
variable {F : Fx} {ρ : List G} {s s1 : Sx} {a : Expr} {p p2 pos pos2 : Pos}
theorem ed_lenSet {ns : List Int} (B : Bf F.X.mg) (hc : F.X.calm = true) (ha : Ed F ρ s a (.lst (ns.map D.int)) s1) (hl : ns.length ≤ 4000) (hg : Gl F.X "len" := by rfl) (hg2 : Gl F.X "set" := by rfl) (na : starEach [a] F.X.env = (false, eval a F.X.env) :: starEach [] F.X.env := by rfl)
    (nb : starEach [.Call (.Name "set" p2) [a] [] pos2] F.X.env = (false, eval (.Call (.Name "set" p2) [a] [] pos2) F.X.env) :: starEach [] F.X.env := by rfl) : Ed F ρ s (.Call (.Name "len" p) [.Call (.Name "set" p2) [a] [] pos2] [] pos) (.int (setLen ns : Nat)) s1 :=
  ⟨ha.1, fun O σ H f Q q => we (pe_lenSet hg B.len hg2 B.set pe_we hc na nb) (ha.2 O σ H f _ fun v H1 f1 x1 r1 => by
    cases r1 with
    | lst m1 h1 h2 =>
      have e := h2.ints
      subst e
      exact ⟨_, ns, rfl, .inl (.inl h1), hl, q _ _ f1 x1 (.int _)⟩)⟩
theorem setLen_one {ns : List Int} (h : setLen ns < 2) : ∀ x ∈ ns, ∀ y ∈ ns, x = y := by
  have key : ∀ n, n ≤ ns.length → ∀ j, j < n → ns.getD j 0 ∈ firstMet (fun i => ns.getD i 0) n := by
    intro n
    induction n with
    | zero => intro _ j hj; omega
    | succ n ih =>
      intro hn j hj
      rw [firstMet_succ]; unfold step_dedup
      rcases Nat.lt_or_ge j n with hj' | hj'
      · have := ih (by omega) j hj'
        split
        · exact this
        · exact List.mem_append_left _ this
      · have e : j = n := by omega
        subst e
        split
        · rename_i hb
          obtain ⟨y, hy, ey⟩ := List.any_eq_true.mp hb
          have ey2 : y = ns.getD j 0 := eq_of_beq ey
          rw [← ey2]; exact hy
        · simp
  have all : ∀ x ∈ ns, x ∈ firstMet (fun i => ns.getD i 0) ns.length := by
    intro x hx
    obtain ⟨j, hj, e⟩ := List.mem_iff_getElem.mp hx
    have := key ns.length (Nat.le_refl _) j hj
    rw [List.getD_eq_getElem?_getD, List.getElem?_eq_getElem hj] at this
    simpa [e] using this
  intro x hx y hy
  have h1 := all x hx
  have h2 := all y hy
  unfold setLen at h
  revert h h1 h2
  generalize firstMet (fun i => ns.getD i 0) ns.length = l
  intro h h1 h2
  match l, h with
  | [z], _ => rw [List.mem_singleton.mp h1, List.mem_singleton.mp h2]
  | [], _ => cases h1
end
end Gh
set_option Elab.async false
set_option linter.all false
set_option maxRecDepth 100000
set_option maxHeartbeats 4000000
namespace Gh
open PySem PySem.Spec PyProof.Rows L2
section
variable {F : Fx} {ρ : List G} {s s1 s2 s3 : Sx} {tg a b c e : Expr} {es : List Expr} {x y d : D} {xs ys ds zs items : List D} {pos p : Pos} {k : GE}
/-! list(zip(a, b)), both lists -/
theorem el_listZip {p2 pos2 : Pos} (B : Bf F.X.mg) (hc : F.X.calm = true) (ha : Ed F ρ s a (.lst xs) s1) (hb : Ed F ρ s1 b (.lst ys) s2) (hg : Gl F.X "zip" := by rfl) (hgl : Gl F.X "list" := by rfl)
    (he : starEach [a, b] F.X.env = (false, eval a F.X.env) :: starEach [b] F.X.env := by rfl) (he2 : starEach [b] F.X.env = (false, eval b F.X.env) :: starEach [] F.X.env := by rfl) (hpl : (backTo pos2 (starEach [b] F.X.env)).any (·.1) = false := by rfl)
    (na : starEach [.Call (.Name "zip" p2) [a, b] [] pos2] F.X.env = (false, eval (.Call (.Name "zip" p2) [a, b] [] pos2) F.X.env) :: starEach [] F.X.env := by rfl) : El F ρ s (.Call (.Name "list" p) [.Call (.Name "zip" p2) [a, b] [] pos2] [] pos) (zipD xs ys) s2 := by
  refine ⟨ha.1.trans hb.1, fun O σ H f Q q => we (Lz.pe_lz hc hg B.zip hgl B.list (pa_cons pe_we (pa_cons pe_we pa_nil he2) he) he hpl na) (ha.2 O σ H f _ fun v H1 f1 x1 r1 => hb.2 O σ H1 f1 _ fun w H2 f2 x2 r2 => ?_)⟩
  cases r1.ext x2.xt with
  | lst m1 h1 h2 =>
    cases r2 with
    | lst m3 h3 h4 =>
      refine ⟨_, _, _, _, rfl, .inl (.inl h1), .inl (.inl h3), fun S as H3 nS hl nd na kb gp hS => ?_⟩
      have kp : ∀ b o, H2 b = some o → H3 b = some o := fun b o hb => by
        rw [kb b (fun m => by rw [(na b m).1] at hb; cases hb) (fun z => by rw [z, nS] at hb; cases hb)]
        exact hb
      have xp : XP F.p s2 H2 H3 := ⟨fun a o h _ _ => kp a o h, fun a h => by
        cases e : H2 a with
        | none => rfl
        | some o => rw [kp a o e] at h; cases h⟩
      have st : F.Sa (S :: O) H3 s2 := by
        have qq := f2.st
        cases s2 with
        | none => exact LamX.Tabs.ext qq kp
        | some ys =>
          obtain ⟨q1, q2, ws, q3, q4⟩ := qq
          exact ⟨LamX.Tabs.ext q1 kp, List.mem_cons_of_mem _ q2, ws, kp _ _ q3, (q4.fresh nS).ext (xt_all kp)⟩
      have f3 : Fm F (S :: O) σ H3 ρ s2 := f2.addO xp rfl st nS hS
      have xe : XE F H2 H3 := ⟨fun a o _ h _ => kp a o h, xp.2⟩
      refine q S _ H3 f3 ((x1.trans x2).trans xe) (x1.2 S (x2.2 S nS)) hS ?_
      have xt3 : XT (S :: (O ++ F.S0)) H2 H3 := xt_all kp
      have e2 := h2.length
      have e4 := h4.length
      have key : ∀ (l : List Addr) (j : Nat), (∀ (i : Nat) (a : Addr), l[i]? = some a → as[j + i]? = some a) → l.length + j = min xs.length ys.length → Rps F.X.K F.p (S :: (O ++ F.S0)) H3 (l.map V.ref) ((zipD xs ys).drop j) := by
        intro l
        induction l with
        | nil =>
          intro j _ hj
          rw [List.drop_eq_nil_of_le (by simp [zipD]; simp at hj; omega)]
          exact .nil
        | cons a l ih =>
          intro j hi hj
          have ha := hi 0 a rfl
          rw [Nat.add_zero] at ha
          obtain ⟨x, y, g1, g2, g3⟩ := gp j a ha
          obtain ⟨dx, e1, r1⟩ := h2.getV g1
          obtain ⟨dy, e2, r2⟩ := h4.getV g2
          have ez : (zipD xs ys)[j]? = some (.tup [dx, dy]) := by simp [zipD, List.getElem?_zipWith, e1, e2]
          obtain ⟨hlt, ez2⟩ := List.getElem?_eq_some_iff.mp ez
          rw [List.drop_eq_getElem_cons hlt, ez2]
          have ma := List.mem_of_getElem? ha
          refine .cons (.tup (.inl ⟨fun m => ?_, .inl g3⟩) (.cons ((r1.fresh nS).ext xt3) (.cons ((r2.fresh nS).ext xt3) .nil))) (ih (j + 1) (fun i b h => ?_) (by simp only [List.length_cons] at hj; omega))
          · rcases List.mem_cons.mp m with m | m
            · exact (na a ma).2 m
            · exact f2.fresh (na a ma).1 m
          · rw [show j + 1 + i = j + (i + 1) by omega]
            exact hi (i + 1) b (by simpa using h)
      have := key as 0 (fun i a h => by rw [Nat.zero_add]; exact h) (by rw [hl, e2, e4, Nat.add_zero])
      simpa using this
/-! several names at once, new lists among them -/
inductive GV (K : PySem.W.Frag) (p : Addr) (S : List Addr) (H : Hp) : List V → List G → List Addr → Prop
  | nil : GV K p S H [] [] []
  | val {v : V} {d : D} {vs : List V} {gs : List G} {A : List Addr} : Rp K p S H v d → GV K p S H vs gs A → GV K p S H (v :: vs) (.val d :: gs) A
  | own {a : Addr} {ws : List V} {ds : List D} {vs : List V} {gs : List G} {A : List Addr} : H a = some (.lst ws) → Rps K p S H ws ds → a ∉ A → GV K p S H vs gs A → GV K p S H (.ref a :: vs) (.own ds :: gs) (a :: A)
theorem GV.to {K : PySem.W.Frag} {p : Addr} {S S' : List Addr} {H H' : Hp} {vs : List V} {gs : List G} {A : List Addr} (g : GV K p S H vs gs A) (hr : ∀ v d, Rp K p S H v d → Rp K p S' H' v d) (hrs : ∀ vs ds, Rps K p S H vs ds → Rps K p S' H' vs ds) (ha : ∀ a ∈ A, ∀ o, H a = some o → H' a = some o) : GV K p S' H' vs gs A := by
  induction g with
  | nil => exact .nil
  | val r g ih => exact .val (hr _ _ r) (ih ha)
  | own h r n g ih => exact .own (ha _ List.mem_cons_self _ h) (hrs _ _ r) n (ih fun a m => ha a (List.mem_cons_of_mem _ m))
theorem GV.length {K : PySem.W.Frag} {p : Addr} {S : List Addr} {H : Hp} {vs : List V} {gs : List G} {A : List Addr} (g : GV K p S H vs gs A) : vs.length = gs.length := by
  induction g with
  | nil => rfl
  | val r g ih => simp [ih]
  | own h r n g ih => simp [ih]
def Eag (F : Fx) (ρ : List G) (s : Sx) (es : List Expr) (gs : List G) (s' : Sx) : Prop :=
  s.isSome = s'.isSome ∧ ∀ O σ H, Fm F O σ H ρ s → ∀ Q : List V → Hp → Prop, (∀ A O' vs H', Fm F O' σ H' ρ s' → XE F H H' → (∀ a ∈ A, a ∈ O' ∧ H a = none) → (∀ a ∈ O', a ∈ O ∨ H a = none) → (∀ a ∈ O, a ∈ O') → GV F.X.K F.p (O' ++ F.S0) H' vs gs A → Q vs H') → WA F.X es σ H Q
theorem eag_nil : Eag F ρ s [] [] s := ⟨rfl, fun O σ H f Q q => wa pa_nil (q [] O [] H f .refl (fun _ m => absurd m (by simp)) (fun a m => .inl m) (fun a m => m) .nil)⟩
theorem eag_val {gs : List G} (ha : Ed F ρ s e d s1) (hr : Eag F ρ s1 es gs s2) (hs : starEach (e :: es) F.X.env = (false, eval e F.X.env) :: starEach es F.X.env := by rfl) : Eag F ρ s (e :: es) (.val d :: gs) s2 :=
  ⟨ha.1.trans hr.1, fun O σ H f Q q => wa (pa_cons pe_we pa_wa hs) (ha.2 O σ H f _ fun v H1 f1 x1 r1 => hr.2 O σ H1 f1 _ fun A O' vs H2 f2 x2 hA hO hO2 g => q A O' _ H2 f2 (x1.trans x2) (fun a m => ⟨(hA a m).1, x1.2 a (hA a m).2⟩) (fun a m => (hO a m).imp id fun z => x1.2 a z) hO2
    (.val ((r1.to (S' := O' ++ F.S0) fun b m => by
      rcases List.mem_append.mp m with m | m
      · exact (hO b m).imp (fun m => List.mem_append_left _ m) id
      · exact .inl (List.mem_append_right _ m)).ext x2.xt) g))⟩
theorem eag_own {gs : List G} (ha : El F ρ s e ds s1) (hr : Eag F ρ s1 es gs s2) (hs : starEach (e :: es) F.X.env = (false, eval e F.X.env) :: starEach es F.X.env := by rfl) : Eag F ρ s (e :: es) (.own ds :: gs) s2 :=
  ⟨ha.1.trans hr.1, fun O σ H f Q q => wa (pa_cons pe_we pa_wa hs) (ha.2 O σ H f _ fun a vs H1 f1 x1 n1 h1 r1 => hr.2 (a :: O) σ H1 f1 _ fun A O' ws H2 f2 x2 hA hO hO2 g => by
    have na : ¬ (F.act = true ∧ a = F.p ∧ a ∈ F.S0) := fun z => (f1.fre a List.mem_cons_self).2 z.2.2
    have nA : a ∉ A := fun m => by
      have := (hA a m).2
      rw [h1] at this; cases this
    refine q (a :: A) O' _ H2 f2 (x1.trans x2) (fun b m => ?_) (fun b m => ?_) (fun b m => hO2 b (List.mem_cons_of_mem _ m)) (.own (x2.1 _ _ na h1 nt_lst) ((r1.to (S' := O' ++ F.S0) fun b m => ?_).ext x2.xt) nA g)
    · rcases List.mem_cons.mp m with rfl | m
      · exact ⟨hO2 _ List.mem_cons_self, n1⟩
      · exact ⟨(hA b m).1, x1.2 b (hA b m).2⟩
    · rcases hO b m with z | z
      · rcases List.mem_cons.mp z with rfl | z
        · exact .inr n1
        · exact .inl z
      · exact .inr (x1.2 b z)
    · rcases List.mem_append.mp m with m | m
      · exact (hO b m).imp (fun m => List.mem_append_left _ m) id
      · exact .inl (List.mem_cons_of_mem _ (List.mem_append_right _ m)))⟩
def setG : List G → List Nat → List G → List G
  | ρ, i :: is, g :: gs => setG (ρ.set i g) is gs
  | ρ, _, _ => ρ
/-- names, by their slots -/
inductive Nms (F : Fx) : List Expr → List Nat → Prop
  | nil : Nms F [] []
  | cons {x : Str} {pos : Pos} {i : Nat} {ts : List Expr} {is : List Nat} : F.X.N[i]? = some x → Loc F.X.env.scope x → (F.X.fn x = true ∨ F.X.env.scope.names.lookup x = some .local) → (assignEach (.Name x pos :: ts) F.X.env).map (·.2) = assign (.Name x pos) F.X.env :: (assignEach ts F.X.env).map (·.2) → Nms F ts is → Nms F (.Name x pos :: ts) (i :: is)
theorem nms_nil : Nms F [] [] := .nil
theorem nms_cons {x : Str} {pos : Pos} {i : Nat} {ts : List Expr} {is : List Nat} (h1 : F.X.N[i]? = some x) (h2 : Loc F.X.env.scope x) (r : Nms F ts is) (h3 : F.X.fn x = true ∨ F.X.env.scope.names.lookup x = some .local := by first | exact .inl rfl | exact .inr rfl | assumption) (h4 : (assignEach (.Name x pos :: ts) F.X.env).map (·.2) = assign (.Name x pos) F.X.env :: (assignEach ts F.X.env).map (·.2) := by rfl) : Nms F (.Name x pos :: ts) (i :: is) := .cons h1 h2 h3 h4 r
theorem store_gv {O : List Addr} {H : Hp} (hN : F.X.N.Nodup) {ts : List Expr} {is : List Nat} (nm : Nms F ts is) : ∀ {vs : List V} {gs : List G} {A : List Addr} {σ : L2.St} {ρ : List G} {Q : L2.St → Hp → Prop}, is.length = gs.length → Fm F O σ H ρ s → GV F.X.K F.p (O ++ F.S0) H vs gs A → (∀ a ∈ A, a ∈ O) →
    (∀ (j : Nat) (w : Ow) (es : List D) (a : Addr), ρ[j]? = some (.ow w es) → a ∈ A → σ[j]? ≠ some (some (.ref a))) → (∀ σ', Fm F O σ' H (setG ρ is gs) s → Q σ' H) → WGs F.X ts vs σ H Q := by
  induction nm with
  | nil =>
    intro vs gs A σ ρ Q hl f g hA hn q
    cases g with
    | nil => exact wgs pgs_nil ⟨rfl, q σ f⟩
    | val => cases hl
    | own => cases hl
  | @cons x pos i ts is h1 h2 h3 h4 r ih =>
    intro vs gs A σ ρ Q hl f g hA hn q
    cases g with
    | nil => cases hl
    | val rv g =>
      refine wgs (pgs_cons (pg_name hN h1 h2 h3) pgs_wgs h4) ⟨_, _, rfl, ih (Nat.succ.inj hl) (f.set rv) g hA (fun j w es a hg m z => ?_) q⟩
      by_cases e : i = j
      · subst e
        by_cases hl : i < ρ.length
        · rw [List.getElem?_set_self hl] at hg; cases hg
        · rw [List.getElem?_eq_none (by simpa using hl)] at hg; cases hg
      · rw [List.getElem?_set_ne e] at hg z
        exact hn j w es a hg m z
    | @own a ws ds vs gs A h0 rs na g =>
      refine wgs (pgs_cons (pg_name hN h1 h2 h3) pgs_wgs h4) ⟨_, _, rfl, ih (Nat.succ.inj hl) (f.setOwn (hA a List.mem_cons_self) (fun j w es hg z => hn j w es a hg List.mem_cons_self z) h0 rs) g (fun b m => hA b (List.mem_cons_of_mem _ m)) (fun j w es b hg m z => ?_) q⟩
      by_cases e : i = j
      · subst e
        by_cases hl : i < σ.length
        · rw [List.getElem?_set_self hl] at z; cases z; exact na m
        · rw [List.getElem?_eq_none (by simpa using hl)] at z; cases z
      · rw [List.getElem?_set_ne e] at hg z
        exact hn j w es b hg (List.mem_cons_of_mem _ m) z
/-- a, b, c, d, .. = e1, e2, e3, e4, .. -/
theorem bs_unpack {ts : List Expr} {is : List Nat} {gs : List G} {kt k2} {pt pt2 : Pos} (hc : F.X.calm = true) (hN : F.X.N.Nodup) (nm : Nms F ts is) (h : Eag F ρ s es gs s1) (hl : is.length = gs.length) (hk : k.nx (setG ρ is gs) s1)
    (hn : (assignEach ts F.X.env).length = gs.length := by rfl) (hst : (assignEach ts F.X.env).findIdx? (·.1) = none := by rfl) (hz : gs.length ≤ sizeLine := by exact Nat.le_of_ble_eq_true rfl)
    (hs : swapsWithSole [.Tuple ts kt pt] (.Tuple es k2 pt2) pos.line F.X.env = pure false := by rfl) (hw : swappedStores [.Tuple ts kt pt] (.Tuple es k2 pt2) F.X.env = pure none := by rfl)
    (h1 : (assignEach [.Tuple ts kt pt] F.X.env).map (·.2) = [assign (.Tuple ts kt pt) F.X.env] := by rfl) : Bs F (.Assign [.Tuple ts kt pt] (.Tuple es k2 pt2) pos) ρ s k :=
  fun O σ H f E q => ws (ps_asg (pe_tup pa_wa) (pg_tup hc pgs_wgs hn hst) hs hw h1) (h.2 O σ H f _ fun A O' vs H1 f1 x1 hA hO hO2 g => by
    refine ⟨by rw [g.length]; exact hz, fun t n => ⟨_, _, rfl, .inl (.inl upd_same), g.length, ?_⟩⟩
    have f2 := f1.new (o := .tup vs) n
    have xn : XT (O' ++ F.S0) H1 (upd H1 t (.tup vs)) := .new n
    refine store_gv hN nm hl f2 (g.to (fun v d r => r.ext xn) (fun v d r => r.ext xn) (fun a m o e => by rw [upd_ne (ne_of_none e n)]; exact e)) (fun a m => (hA a m).1) (fun j w es a hg m z => ?_) fun σ' f' => q.nx O' σ' _ _ s1 f' ⟨(x1.trans (.new n)).xt, fun a m => hO a m⟩ hk
    exact f.notOwn (hA a m).2 j w es hg z)
def setV : L2.St → List Nat → List V → L2.St
  | σ, i :: is, v :: vs => setV (σ.set i (some v)) is vs
  | σ, _, _ => σ
theorem fm_gv {O : List Addr} {H : Hp} : ∀ {is : List Nat} {vs : List V} {gs : List G} {A : List Addr} {σ : L2.St} {ρ : List G}, is.length = gs.length → Fm F O σ H ρ s → GV F.X.K F.p (O ++ F.S0) H vs gs A → (∀ a ∈ A, a ∈ O) →
    (∀ (j : Nat) (w : Ow) (es : List D) (a : Addr), ρ[j]? = some (.ow w es) → a ∈ A → σ[j]? ≠ some (some (.ref a))) → Fm F O (setV σ is vs) H (setG ρ is gs) s
  | [], _, _, _, _, _, hl, f, g, _, _ => by
    cases g with
    | nil => exact f
    | val => cases hl
    | own => cases hl
  | i :: is, _, _, _, σ, ρ, hl, f, g, hA, hn => by
    cases g with
    | nil => cases hl
    | val rv g =>
      refine fm_gv (is := is) (σ := σ.set i (some _)) (ρ := ρ.set i (.val _)) (Nat.succ.inj hl) (f.set rv) g hA fun j w es a hg m z => ?_
      by_cases e : i = j
      · subst e
        by_cases hl : i < ρ.length
        · rw [List.getElem?_set_self hl] at hg; cases hg
        · rw [List.getElem?_eq_none (by simpa using hl)] at hg; cases hg
      · rw [List.getElem?_set_ne e] at hg z
        exact hn j w es a hg m z
    | @own a ws ds vs gs A h0 rs na g =>
      refine fm_gv (is := is) (σ := σ.set i (some (.ref a))) (ρ := ρ.set i (.own ds)) (Nat.succ.inj hl) (f.setOwn (hA a List.mem_cons_self) (fun j w es hg z => hn j w es a hg List.mem_cons_self z) h0 rs) g (fun b m => hA b (List.mem_cons_of_mem _ m)) fun j w es b hg m z => ?_
      by_cases e : i = j
      · subst e
        by_cases hl : i < σ.length
        · rw [List.getElem?_set_self hl] at z; cases z; exact na m
        · rw [List.getElem?_eq_none (by simpa using hl)] at z; cases z
      · rw [List.getElem?_set_ne e] at hg z
        exact hn j w es b hg (List.mem_cons_of_mem _ m) z
/-- a, b, c = e1, e2, e3, new lists among them -/
theorem bs_par3G (i j l : Nat) {x y z : Str} {px py pz pt : Pos} {kt k2} {pt2 : Pos} {g1 g2 g3 : G} (hc : F.X.calm = true) (hN : F.X.N.Nodup) (hi : F.X.N[i]? = some x) (hj : F.X.N[j]? = some y) (hl : F.X.N[l]? = some z) (hij : i ≠ j) (hil : i ≠ l) (hjl : j ≠ l) (hx : F.X.env.scope.names.lookup x = some .local) (hy : F.X.env.scope.names.lookup y = some .local) (hz : F.X.env.scope.names.lookup z = some .local)
    (ha : Eag F ρ s [a, b, c] [g1, g2, g3] s1) (hk : k.nx (((ρ.set i g1).set j g2).set l g3) s1) (hw : swappedStores [.Tuple [.Name x px, .Name y py, .Name z pz] kt pt] (.Tuple [a, b, c] k2 pt2) F.X.env = pure (some [x, y, z]) := by rfl) (hs : swapsWithSole [.Tuple [.Name x px, .Name y py, .Name z pz] kt pt] (.Tuple [a, b, c] k2 pt2) pos.line F.X.env = pure false := by rfl) :
    Bs F (.Assign [.Tuple [.Name x px, .Name y py, .Name z pz] kt pt] (.Tuple [a, b, c] k2 pt2) pos) ρ s k :=
  fun O σ H f E q => ws (ps_par3 hc hN hi hj hl hij hil hjl hx hy hz pa_wa hw hs) (ha.2 O σ H f _ fun A O' vs H1 f1 x1 hA hO hO2 g => by
    have f2 := fm_gv (is := [i, j, l]) rfl f1 g (fun a m => (hA a m).1) fun j w es a hg m z => f.notOwn (hA a m).2 j w es hg z
    have e := g.length
    match vs, e, f2 with
    | [v1, v2, v3], _, f2 => exact ⟨_, _, _, rfl, q.nx O' _ H1 _ s1 f2 ⟨x1.xt, fun a m => hO a m⟩ hk⟩)
/-! e.append(c), e a new list that nobody holds -/
theorem Fm.loose {O : List Addr} {σ : L2.St} {H H2 : Hp} {a : Addr} {o : HO} {us : List V} (f : Fm F O σ H ρ s) (n : H a = none) (g : Fm F (a :: O) σ H2 ρ s2) (h2 : H2 a = some (.lst us)) : Fm F O σ (upd H2 a o) ρ s2 := by
  have g1 := f.drop g
  have nH0 : F.H0 a = none := f.ext.2 a n
  have np : ∀ b, (∃ o, H b = some o) → b ≠ a := fun b ⟨o, h⟩ z => by rw [z, n] at h; cases h
  have xt : XT (a :: O ++ F.S0) H2 (upd H2 a o) := ⟨fun b u m e _ => by
    rw [upd_ne (fun z => m (by rw [z]; exact List.mem_cons_self))]; exact e, fun b h => upd_none h⟩
  refine ⟨⟨fun b u h c nt => ?_, fun b h => g1.ext.2 b (upd_none h)⟩, fun i q hq => ?_, g1.own, g1.dis, g1.fre, fun b m => ?_, ?_, g1.pm, g1.kd⟩
  · rw [upd_ne (fun z => by rw [z, nH0] at h; cases h)]
    exact g1.ext.1 b u h c nt
  · obtain ⟨o', ho, k'⟩ := g.slot i q hq
    refine ⟨o', ho, ?_⟩
    cases q with
    | no => trivial
    | val d =>
      obtain ⟨v, e, r⟩ := k'
      exact ⟨v, e, (r.ext xt).weak fun b m => List.mem_cons_of_mem _ m⟩
    | ow w ds =>
      obtain ⟨b, ws, e, m, hb, r, ft⟩ := k'
      subst e
      have mb := f.own i w ds b hq ho
      refine ⟨b, ws, rfl, List.mem_append_left _ mb, ?_, (r.ext xt).weak fun b m => List.mem_cons_of_mem _ m, ft⟩
      rw [upd_ne (np b (f.trk b (List.mem_append_left _ mb)))]; exact hb
  · obtain ⟨o', e⟩ := g1.trk b m
    exact ⟨o', by rw [upd_ne (np b (f.trk b m))]; exact e⟩
  · have q := g.st
    have pm := g1.pm
    cases s2 with
    | none => exact tabs_upd q h2 nt_lst nc_lst
    | some ys =>
      obtain ⟨q1, q2, ws, q3, q4⟩ := q
      refine ⟨tabs_upd q1 h2 nt_lst nc_lst, List.mem_append_right _ (pm rfl), ws, by rw [upd_ne (np _ (f.trk _ (List.mem_append_right _ (pm rfl))))]; exact q3, (q4.ext xt).weak fun b m => List.mem_cons_of_mem _ m⟩
theorem bs_appendNew {pa cpos : Pos} (h : El F ρ s e ds s1) (hcx : Ed F ρ s1 c d s2) (hl : ds.length < sizeLine) (hk : k.nx ρ s2) (he : starEach [c] F.X.env = (false, eval c F.X.env) :: starEach [] F.X.env := by rfl)
    (hb : attributeBase e "append" F.X.env (eval e F.X.env) = eval e F.X.env := by rfl) (hline : (pa.endLine == cpos.line) = true := by rfl) (hpl : (backTo cpos (starEach [] F.X.env)).any (·.1) = false := by rfl)
    (hfew : ((backTo cpos (starEach [c] F.X.env)).all (fun x => !x.1) && (backToKw cpos (keywordEach [] F.X.env)).all (fun x => x.1.isSome) && decide ([c].length + ([] : List Keyword).length + (if ([] : List Keyword).isEmpty then 0 else 1) < 30)) = true := by rfl)
    (hs : swapsWith (.Call (.Attribute e "append" pa) [c] [] cpos) none pos.line F.X.env = pure false := by rfl) : Bs F (.Expr (.Call (.Attribute e "append" pa) [c] [] cpos) pos) ρ s k :=
  fun O σ H f E q => ws (ps_expr (pe_bm PySem.F.plainAttrs_list PySem.F.slot_list_append PySem.F.type_list_append mt_append pe_we (pa_cons pe_we pa_nil he) hb hfew hline he hpl) hs) (h.2 O σ H f _ fun a vs H1 f1 x1 n1 h1 r1 => by
    have na : ¬ (F.act = true ∧ a = F.p ∧ a ∈ F.S0) := fun z => (f1.fre a List.mem_cons_self).2 z.2.2
    refine ⟨.inl ⟨rfl, _, .inl (.inl h1)⟩, hcx.2 (a :: O) σ H1 f1 _ fun w H2 f2 x2 r2 => ?_⟩
    refine ⟨a, vs, w, rfl, rfl, x2.1 _ _ na h1 nt_lst, by rw [r1.length]; exact hl, ?_⟩
    refine q.nx O σ _ ρ s2 (f.loose n1 f2 (x2.1 _ _ na h1 nt_lst)) (.of ⟨fun b u m e nt => ?_, fun b z => x1.2 b (x2.2 b (upd_none z))⟩) hk
    rw [upd_ne (ne_of_none e n1)]
    exact (x1.trans x2).xt.1 b u m e nt)
end
end Gh
set_option Elab.async false
set_option linter.all false
set_option maxRecDepth 100000
set_option maxHeartbeats 4000000
namespace Gh
open PySem PySem.Spec PyProof.Rows L2
theorem StA.less {K : PySem.W.Frag} {T : Ts} {p : Addr} {S S' : List Addr} {H : Hp} {s : Sx} (h : StA K T p S H s) (m : s.isSome = true → p ∈ S') (w : ∀ b ∈ S', b ∈ S) : StA K T p S' H s := by
  cases s with
  | none => exact h
  | some ds =>
    obtain ⟨q1, q2, vs, q3, q4⟩ := h
    exact ⟨q1, m rfl, vs, q3, q4.weak w⟩
theorem RnL.rn {E : En} {k : Nat} {f : Str} {ds zs : List D} {s s' : Sx} (r : RnL E k f ds s zs s') : Rn E k f ds s (.lst zs) s' := by
  obtain ⟨kd, fa, fd, ps, h1, h2, h3, h4⟩ := r
  refine ⟨kd, fa, fd, ps, h1, h2, h3, h4.imp fun vs H Q EX h => ?_⟩
  obtain ⟨p, S, r, tr, t, q⟩ := h
  refine ⟨p, S, r, tr, t, fun a ws H' n h' rs x t' => q _ _ (.lst (fun m => ?_) h' (rs.weak fun b m => List.mem_cons_of_mem _ m)) x (t'.less (fun z => by
    cases s with
    | none => rw [← kd] at z; cases z
    | some ds => exact t.2.1) fun b m => List.mem_cons_of_mem _ m)⟩
  obtain ⟨o, ho⟩ := tr a m
  rw [n] at ho; cases ho
section
variable {F : Fx} {ρ : List G} {s : Sx} {sts : List Stmt} {ds : List D} {pos p : Pos}
/-- return x, x owned -/
theorem bkl_retOwn (i : Nat) {x : Str} (hN : F.X.N[i]? = some x) (hv : Vis F.X.env.scope x) (hρ : ρ[i]? = some (.own ds)) (hd : (x == ("__debug__" : Str)) = false := by decide) (hcd : (x == ("__classdict__" : Str)) = false := by decide) : BkL F (.Return (some (.Name x p)) pos :: sts) ρ s ds s :=
  fun O σ H f E q => wb (pss_cons (ps_ret (pe_var hN hv hd hcd)) pss_wb) (by
    obtain ⟨o, ho, a, vs, eo, m, h1, r, _⟩ := f.slot i _ hρ
    subst eo
    have ma := f.own i _ ds a hρ ho
    have w : ∀ b ∈ a :: F.S0, b ∈ O ++ F.S0 := fun b m => ?_
    refine ⟨_, ho, q a vs H (f.fre a ma).1 (f.fre a ma).2 h1 (r.weak w) f.ext (f.st.less (fun z => List.mem_cons_of_mem _ (f.pm z)) w)⟩
    rcases List.mem_cons.mp m with rfl | m
    · exact List.mem_append_left _ ma
    · exact List.mem_append_right _ m)
end
end Gh
set_option Elab.async false
set_option linter.all false
set_option maxRecDepth 100000
set_option maxHeartbeats 4000000
namespace Gh
open PySem PySem.Spec PyProof.Rows L2
section
variable {F : Fx} {ρ : List G} {s s1 s2 s3 : Sx} {a b c e : Expr} {es rest : List Expr} {x y z d : D} {xs ys zs ds : List D} {pos p p2 : Pos} {tg : Expr}
/-- sorted(list of ints) -/
theorem el_sortedI {ns out : List Int} (B : Bf F.X.mg) (ha : Ed F ρ s a (.lst (ns.map D.int)) s1) (hp : out.Perm ns) (hs : out.Pairwise (· ≤ ·)) (hg : Gl F.X "sorted" := by rfl) (he : starEach [a] F.X.env = (false, eval a F.X.env) :: starEach [] F.X.env := by rfl) : El F ρ s (.Call (.Name "sorted" p) [a] [] pos) (out.map D.int) s1 :=
  ⟨ha.1, fun O σ H f Q q => we (pe_callB cr_sortedI hg B.sorted boot_sorted' (pa_cons pe_we pa_nil he) (by decide) (by decide) he rfl) (ha.2 O σ H f _ fun v H1 f1 x1 r1 => by
    cases r1 with
    | lst m1 h1 h2 =>
      have e := h2.ints
      subst e
      refine ⟨_, ns, rfl, .inl (.inl h1), fun ns' t hp' hs' n => ?_⟩
      have e2 : ns' = out := List.Perm.eq_of_pairwise (le := fun a b : Int => a ≤ b) (fun a b _ _ h1 h2 => Int.le_antisymm h1 h2) hs' hs (hp'.trans hp.symm)
      subst e2
      exact q t _ _ (f1.newO n) (x1.trans (.new n)) (x1.2 t n) upd_same (.ofInts _))⟩
/-- range(i, j, -1) -/
def rangeU (i : Int) (n : Nat) : List D := (List.range n).map fun k => D.int (i - (k : Nat))
theorem rangeU_length {i : Int} {n : Nat} : (rangeU i n).length = n := by simp [rangeU]
theorem rangeU_get {i : Int} {n k : Nat} (h : k < n) : (rangeU i n)[k]? = some (.int (i - (k : Nat))) := by
  unfold rangeU
  rw [List.getElem?_map, List.getElem?_range h]
  rfl
theorem ei_rangeU {i j : Int} (B : Bf F.X.mg) (ha : Ed F ρ s a (.int i) s1) (hb : Ed F ρ s1 b (.int j) s2) (hc : Ed F ρ s2 c (.int (-1)) s3) (h : -(2 ^ 62) ≤ i ∧ i < 2 ^ 62 ∧ -(2 ^ 62) ≤ j ∧ j < 2 ^ 62) (hg : Gl F.X "range" := by rfl)
    (he : starEach [a, b, c] F.X.env = (false, eval a F.X.env) :: starEach [b, c] F.X.env := by rfl) (he2 : starEach [b, c] F.X.env = (false, eval b F.X.env) :: starEach [c] F.X.env := by rfl) (he3 : starEach [c] F.X.env = (false, eval c F.X.env) :: starEach [] F.X.env := by rfl)
    (hpl : (backTo pos (starEach [b, c] F.X.env)).any (·.1) = false := by rfl) :
    Ei F ρ s tg (.Call (.Name "range" p) [a, b, c] [] pos) (rangeU i (i - j).toNat) s3 := by
  refine ⟨(ha.1.trans hb.1).trans hc.1, fun O σ H f R q => wi (pi_range3 hg B.range (pa_cons pe_we (pa_cons pe_we (pa_cons pe_we pa_nil he3) he2) he) he hpl) (ha.2 O σ H f _ fun v H1 f1 x1 r1 => hb.2 O σ H1 f1 _ fun w H2 f2 x2 r2 => hc.2 O σ H2 f2 _ fun u H3 f3 x3 r3 => ?_)⟩
  cases r1
  cases r2
  cases r3
  refine ⟨i, j, -1, _, rfl, RgC.neg h.1 h.2.1 h.2.2.1 h.2.2.2, q _ _ f3 ((x1.trans x2).trans x3) ?_⟩
  rw [rangeU_length]
  refine walk_rangeC.mono (fun _ _ => trivial) fun k H2 z H3 hi x2 y => ?_
  obtain ⟨e, rfl⟩ := y
  subst e
  exact ⟨fun _ _ h => h, _, (rangeU_get hi).trans (congrArg some (congrArg D.int (by omega))), fun _ _ => .int _⟩
/-- a op b op c, as a test -/
theorem et_chainII {op op' : CmpOp} {c : Expr} {i j l : Int} {g g' : Int → Int → Bool} (ho : OpR F.X (compareOp op) (rI0 fun i j => .bl (g i j))) (ho' : OpR F.X (compareOp op') (rI0 fun i j => .bl (g' i j))) (ha : Ed F ρ s a (.int i) s) (hb : Ed F ρ s b (.int j) s) (hc : Ed F ρ s c (.int l) s)
    (hm : lastMarks [op, op'] [b, c] = false := by with_unfolding_all rfl) : Et F ρ s (.Compare a [op, op'] [b, c] pos) (g i j && g' j l) s :=
  ⟨rfl, fun O σ H f Q q => wt (pt_chain ho ho' pe_we pe_we pe_we hm) (ha.2 O σ H f _ fun v H1 f1 x1 r1 => hb.2 O σ H1 f1 _ fun w H2 f2 x2 r2 => by
    cases r1; cases r2
    refine ⟨i, j, rfl, rfl, g i j, rfl, ?_⟩
    cases e : g i j with
    | true => exact iteT (hc.2 O σ H2 f2 _ fun u H3 f3 x3 r3 => by cases r3; exact ⟨j, l, rfl, rfl, _, rfl, by have := q H3 f3 ((x1.trans x2).trans x3); rw [e] at this; exact this⟩)
    | false => exact iteF ⟨_, rfl, by have := q H2 f2 (x1.trans x2); rw [e] at this; exact this⟩)⟩
/-- len of a text -/
theorem ed_lenS {z : Str} (B : Bf F.X.mg) (ha : Ed F ρ s a (.str z) s1) (hz : z.length ≤ sizeLine) (hg : Gl F.X "len" := by rfl) (he : starEach [a] F.X.env = (false, eval a F.X.env) :: starEach [] F.X.env := by rfl) : Ed F ρ s (.Call (.Name "len" p) [a] [] pos) (.int z.length) s1 :=
  ed_callB call_len_str B.len boot_len (ea_cons ha ea_nil he) (fun O σ H f vs r Q q => by
    cases r with
    | cons r1 r2 =>
      cases r2
      cases r1
      exact ⟨z, rfl, hz, q _ _ f .refl (.int _)⟩) hg (by decide) (by decide) he rfl
/-- a slice of a text -/
theorem ed_cutS {lo hi : Option Expr} {i j : Option Int} {z : Str} (ha : Ed F ρ s a (.str z) s1) (hl : Eo F ρ s1 lo i s2) (hh : Eo F ρ s2 hi j s3) (hz : z.length ≤ sizeLine) : Ed F ρ s (.Subscript a (.Slice lo hi none p2) pos) (.str (cutS z i j)) s3 := by
  cases hl with
  | none =>
    cases hh with
    | none => exact ⟨ha.1, fun O σ H f Q q => we (pe_slice sl_str pe_we po_none po_none) (ha.2 O σ H f _ fun v H1 f1 x1 r1 => by
        cases r1; exact ⟨_, rfl, hz, q _ _ f1 x1 (.str _)⟩)⟩
    | some hb => exact ⟨ha.1.trans hb.1, fun O σ H f Q q => we (pe_slice sl_str pe_we po_none (po_some pe_we)) (ha.2 O σ H f _ fun v H1 f1 x1 r1 => hb.2 O σ H1 f1 _ fun w H2 f2 x2 r2 => by
        cases r1; cases r2; exact ⟨_, rfl, _, rfl, hz, q _ _ f2 (x1.trans x2) (.str _)⟩)⟩
  | some hc =>
    cases hh with
    | none => exact ⟨ha.1.trans hc.1, fun O σ H f Q q => we (pe_slice sl_str pe_we (po_some pe_we) po_none) (ha.2 O σ H f _ fun v H1 f1 x1 r1 => hc.2 O σ H1 f1 _ fun w H2 f2 x2 r2 => by
        cases r1; cases r2; exact ⟨_, rfl, _, rfl, hz, q _ _ f2 (x1.trans x2) (.str _)⟩)⟩
    | some hb => exact ⟨(ha.1.trans hc.1).trans hb.1, fun O σ H f Q q => we (pe_slice sl_str pe_we (po_some pe_we) (po_some pe_we)) (ha.2 O σ H f _ fun v H1 f1 x1 r1 => hc.2 O σ H1 f1 _ fun w H2 f2 x2 r2 => by
        cases r1; cases r2
        exact ⟨_, rfl, hb.2 O σ H2 f2 _ fun w H3 f3 x3 r3 => by cases r3; exact ⟨_, rfl, _, rfl, hz, q _ _ f3 ((x1.trans x2).trans x3) (.str _)⟩⟩)⟩
end
end Gh
set_option Elab.async false
set_option linter.all false
set_option maxRecDepth 100000
set_option maxHeartbeats 4000000
namespace Gh
open PySem PySem.Spec PyProof.Rows L2
section
variable {F : Fx} {ρ : List G} {s s1 s2 s3 : Sx} {a b c e : Expr} {es rest : List Expr} {x y z d : D} {xs ys zs ds : List D} {pos p p2 : Pos} {tg : Expr}
/-- a, b = a list -/
theorem eg_lst {ts : List Expr} {kk : Nat} {ρ ρ' : List G} {js : List Nat} (hc : F.X.calm = true) (h : Egs F ts ds ρ ρ' js) (hn : (assignEach ts F.X.env).length = ds.length := by rfl) (hst : (assignEach ts F.X.env).findIdx? (·.1) = none := by rfl) : Eg F (.Tuple ts kk pos) (.lst ds) ρ ρ' js := fun O σ H v s f r Q q => by
  cases r with
  | lst m1 h1 h2 => exact wg (pg_unl hc pgs_wgs hn hst) ⟨_, _, rfl, .inl (.inl h1), h2.length, h O σ H _ s f h2 Q q⟩
/-- int(bool) -/
theorem ed_intB {k : Bool} (B : Bf F.X.mg) (ha : Ed F ρ s a (.bl k) s1) (hg : Gl F.X "int" := by rfl) (he : starEach [a] F.X.env = (false, eval a F.X.env) :: starEach [] F.X.env := by rfl) : Ed F ρ s (.Call (.Name "int" p) [a] [] pos) (.int (if k then 1 else 0)) s1 :=
  ed_callTy call_int1 B.int boot_int' (ea_cons ha ea_nil he) (fun O σ H f vs r Q q => by
    cases r with
    | cons r1 r2 => cases r2; cases r1; exact .inr ⟨k, rfl, q _ _ f .refl (.int _)⟩) hg (by decide) (by decide) he rfl
/-- list * int -/
theorem el_rep {k : Int} (ha : Ed F ρ s a (.lst xs) s1) (hb : Ed F ρ s1 b (.int k) s2) (hk : -(2 ^ 63) ≤ k ∧ k < 2 ^ 63) (hl : xs.length * k.toNat ≤ sizeLine) : El F ρ s (.BinOp a .Mult b pos) (List.replicate k.toNat xs).flatten s2 :=
  el_op op_rep ha hb fun O σ H f v w r1 r2 Q q => by
    cases r1 with
    | lst m1 h1 h2 =>
      cases r2
      exact ⟨_, k, _, rfl, rfl, h1, hk.1, hk.2, by rw [h2.length]; exact hl, fun t n => q t _ _ (f.newO n) (.new n) n upd_same (((rps_rep h2 _).fresh n).ext (.new n))⟩
end
end Gh
set_option Elab.async false
set_option linter.all false
set_option maxRecDepth 100000
set_option maxHeartbeats 4000000
/-! xs[::-1] of a list -/
namespace Gt
open PySem PySem.Spec PyProof.Rows HT L2
theorem pick_revL (its : List Value) : slicePick its.toArray none none (some (-1)) = its.reverse.toArray := by
  have h := pick_rev its
  unfold slicePick
  have e1 : sliceBounds none none (some (-1)) its.toArray.size = (((its.length : Nat) : Int) - 1, -1, -1) := by
    simp [sliceBounds]
  rw [e1]
  have e2 : sliceRange (((its.length : Nat) : Int) - 1) (-1) (-1) = (List.range its.toArray.size).map fun (k : Nat) => (((its.toArray.size : Int) - 1) + (k : Int) * (-1)).toNat := by
    unfold sliceRange
    have c : (if (-1 : Int) > 0 then (if (((its.length : Nat) : Int) - 1) < -1 then ((-1) - (((its.length : Nat) : Int) - 1) + (-1) - 1) / (-1) else 0) else (if (((its.length : Nat) : Int) - 1) > -1 then ((((its.length : Nat) : Int) - 1) - (-1) - (-1) - 1) / (-(-1)) else 0)).toNat = its.length := by
      rw [if_neg (by decide)]
      rw [show (-(-1) : Int) = 1 by decide, Int.ediv_one]
      split <;> omega
    simp only [c, List.size_toArray]
    refine List.map_congr_left fun k hk => ?_
    have := List.mem_range.mp hk
    omega
  simp only [e2]
  rw [List.filterMap_map]
  exact h
section
variable {X : Cx}
def tRevL (K : PySem.W.Frag) (te : TE) : TE := fun σ H Q => te σ H fun x H1 => ∃ a xs, x = .ref a ∧ SqL K H1 a xs ∧ ∀ p, H1 p = none → Q (.ref p) (upd H1 p (.lst xs.reverse))
theorem pe_revL {e : Expr} {te : TE} {k : Nat} {p1 p2 p3 pos : Pos} (he : PE X e te) : PE X (.Subscript e (.Slice none none (some (.UnaryOp .USub (.Constant (.int 1) k p1) p2)) p3) pos) (tRevL X.K te) := by
  refine ⟨fun pins s σ H Q I h => ?_⟩
  refine Subscript_ (thn (he.run pins s σ H _ I h) fun v s1 ⟨x, H1, I1, r1, q1⟩ => ?_)
  obtain ⟨a, xs, ex, hx, q⟩ := q1
  subst ex
  cases r1
  have hst : PO X (some (.UnaryOp .USub (.Constant (.int 1) k p1) p2)) (tPart (tUn (rU fun i => .int (-i)) (tC (.int 1)))) := po_some (pe_un un_neg pe_int)
  refine wpAny_Slice (thn (po_none.run pins s1 σ H1 (fun o H2 => o = none ∧ H2 = H1) I1 ⟨rfl, rfl⟩) fun vl s2 ⟨l, H2, I2, pl, el, e2⟩ => ?_)
  subst el e2
  refine thn (po_none.run pins s2 σ H2 (fun o H3 => o = none ∧ H3 = H2) I2 ⟨rfl, rfl⟩) fun vu s3 ⟨u, H3, I3, pu, eu, e3⟩ => ?_
  subst eu e3
  refine thn (hst.run pins s3 σ H3 (fun o H4 => o = some (-1) ∧ H4 = H3) I3 ⟨1, rfl, -1, rfl, rfl, rfl⟩) fun vs s4 ⟨o, H4, I4, ps, eo, e4⟩ => ?_
  subst eo e4
  have I5 : Inv X pins σ H4 { s4 with heap := s4.heap.push { cls := .type "slice", data := .fields #[vl, vu, vs] } } := I4.kept (t' := s4.toks) fun b ob q => Heap.get?_push_of_some _ q
  obtain ⟨its, r, ht, hz⟩ := I5.list hx
  have hlen := r.length
  show wpAny (model X.prog X.w) X.A (subscriptTail e (.Slice none none (some (.UnaryOp .USub (.Constant (.int 1) k p1) p2)) p3) (.ref a) (.ref s4.heap.objs.size)) (EP X pins σ Q) X.xe { s4 with heap := s4.heap.push { cls := .type "slice", data := .fields #[vl, vu, vs] } }
  refine tail_any (ops := [.ref a, .ref s4.heap.objs.size]) ht.isList.typeIs (slot_list_getitem.lookup) ?_ (by with_unfolding_all rfl)
  refine wpAny_getItem_list_slice ht.isList (Heap.IsSliceOf.new _ vl vu vs) pl pu ps (by decide) ?_ (by rw [List.size_toArray] <;> omega)
  rw [pick_revL]
  refine ⟨.ref _, _, I5.laid (t' := s4.toks) (o := .lst xs.reverse) (fun b ob q => Heap.get?_push_of_some _ q) (Nat.le_refl _) ?_, rfl, q _ (I5.hok.fresh (Nat.le_refl _))⟩
  exact ⟨by rw [List.length_reverse]; exact hz, _, 0, r.reverse, Heap.get?_push_size _ rfl⟩
end
end Gt
namespace Gh
open PySem PySem.Spec PyProof.Rows L2
section
variable {F : Fx} {ρ : List G} {s s1 : Sx} {a : Expr} {xs : List D} {pos p p1 p2 p3 : Pos}
theorem el_revL {k : Nat} (ha : Ed F ρ s a (.lst xs) s1) : El F ρ s (.Subscript a (.Slice none none (some (.UnaryOp .USub (.Constant (.int 1) k p1) p2)) p3) pos) xs.reverse s1 :=
  ⟨ha.1, fun O σ H f Q q => we (Gt.pe_revL pe_we) (ha.2 O σ H f _ fun v H1 f1 x1 r1 => by
    cases r1 with
    | lst m1 h1 h2 => exact ⟨_, _, rfl, .inl (.inl h1), fun t n => q t _ _ (f1.newO n) (x1.trans (.new n)) (x1.2 t n) upd_same ((h2.reverse.fresh n).ext (.new n))⟩)⟩
end
end Gh
set_option Elab.async false
set_option linter.all false
set_option maxRecDepth 100000
set_option maxHeartbeats 4000000
/-! list(zip(xs, ys)), xs and ys lists or tuples -/
namespace Lm
open PySem PySem.Spec PyProof.Rows L2
theorem no_len : typeLookup (.type "zip") "__len__" = pure none := am_miss_of_fast (by decide +kernel)
theorem no_hint : typeLookup (.type "zip") "__length_hint__" = pure none := am_miss_of_fast (by decide +kernel)
section
variable {prog : Program} {w : World} {A : Around} {E : Value → Shared → Prop} {s : Shared}
theorem hint {r : Addr} (hT : s.TypeIs (.ref r) "zip") {Q : Bool → Shared → Prop} (h : Q true s) : wpAny (model prog w) A (Builtin.List.listLengthHint (.ref r)) Q E s := by
  unfold Builtin.List.listLengthHint
  refine wpAny_bind (wpAny_specialOf hT no_len ?_)
  dsimp only
  refine wpAny_ite_split (fun hab => absurd hab (by decide)) (fun _ => ?_)
  refine wpAny_ite_split (fun hab => absurd hab (by decide)) (fun _ => ?_)
  exact wpAny_bind (wpAny_specialOf hT no_hint (wpAny_pure h))
theorem Src_to {t : Bool} {h h' : Heap} {l : Addr} {xs : Array Value} (x : Zm.Src t h l xs) (e : ∀ o, h.get? l = some o → h'.get? l = some o) : Zm.Src t h' l xs := by
  cases t with
  | true => exact Heap.IsTuple.at x e
  | false => exact Heap.IsList.at x e
theorem held_item {t u : Bool} {z TI TO T i1 i2 l1 l2 : Addr} {f : Bool} {oT : Obj} {k1 k2 : Nat} {xs ys : Array Value} {x y : Value} {Q : Option Value → Shared → Prop} (D : ZipApart z TI TO i1 i2 l1 l2)
    (hz : IsZipHeld s.heap z TI TO T f) (hT : s.heap.get? T = some oT) (hTI : IsPair s.heap TI (.ref i1) (.ref i2))
    (h1 : Zm.Run t s.heap i1 l1 k1) (h2 : Zm.Run u s.heap i2 l2 k2) (hl1 : Zm.Src t s.heap l1 xs) (hl2 : Zm.Src u s.heap l2 ys) (hx : xs[k1]? = some x) (hy : ys[k2]? = some y)
    (hQ : ∀ h', IsZipHeld h' z TI TO T true → Zm.Run t h' i1 l1 (k1 + 1) → Zm.Run u h' i2 l2 (k2 + 1) → IsPair h' s.heap.objs.size x y → h'.objs.size = s.heap.objs.size + 1 →
      (∀ c o, c ≠ z → c ≠ i1 → c ≠ i2 → s.heap.get? c = some o → h'.get? c = some o) → Q (some (.ref s.heap.objs.size)) { s with heap := h' }) : wpAny (model prog w) A (pyNext (.ref z)) Q E s := by
  have hTy : s.TypeIs (.ref z) "zip" := ⟨_, hz, rfl⟩
  unfold pyNext
  refine wpAny_bind (wpAny_attempt (wpAny_callSpecial?_slot (name := Str.ofString "__next__") hTy F.slot_zip_next (wpAny_call_entry (Q := fun v s' => wpAny (model prog w) A (pure (some v)) Q E s') F.slot_zip_next hTy F.entry_zip_next ?_ (F.args_zip_next_1 _))))
  show wpAny _ _ (field (.ref z) 2 >>= _) _ _ _
  refine wpAny_bind (wpAny_field hz rfl (x := .bool false) rfl ?_)
  show wpAny _ _ (field (.ref z) 3 >>= _) _ _ _
  refine wpAny_bind (wpAny_field hz rfl (x := .ref TI) rfl (wpAny_bind (wpAny_seqItems hTI rfl ?_)))
  show wpAny _ _ (Builtin.SmallTypes.ownedTupleIsFree (.ref z) >>= _) _ _ _
  refine wpAny_bind (wpAny_tupleHeld_zip hz hT fun ha za sa => ?_)
  simp only [Bool.false_eq_true, if_false]
  refine wpAny_bind ?_
  rw [← Array.forIn_toList]
  simp only [List.forIn_cons, List.forIn_nil]
  refine wpAny_bind (wpAny_bind (wpAny_holding ?_))
  show wpAny _ _ (Builtin.SmallTypes.nextOf (.ref i1) >>= _) _ _ _
  refine wpAny_bind (Zm.next_item (s := { s with heap := ha }) (h1.but sa.extBut D.i1z) (hl1.but sa.extBut D.l1z) hx fun hb r1 sb => wpAny_pure (wpAny_pure ?_))
  refine wpAny_bind (wpAny_bind (wpAny_holding ?_))
  show wpAny _ _ (Builtin.SmallTypes.nextOf (.ref i2) >>= _) _ _ _
  refine wpAny_bind (Zm.next_item (s := { s with heap := hb }) ((h2.but sa.extBut D.i2z).but sb.extBut D.i12.symm) ((hl2.but sa.extBut D.l2z).but sb.extBut D.l2i1) hy fun hc r2 sc => wpAny_pure (wpAny_pure (wpAny_pure ?_)))
  show wpAny _ _ (newTuple [x, y] >>= _) _ _ _
  refine wpAny_bind (wpAny_newTuple (wpAny_pure ⟨_, rfl, ?_⟩))
  have hsz : hc.objs.size = s.heap.objs.size := by rw [sc.1, sb.1, sa.1]
  have hp : IsPair (hc.push { cls := .type "tuple", data := .seq #[x, y] }) hc.objs.size x y := Heap.get?_push_size _ rfl
  have h4 : (hc.push { cls := .type "tuple", data := .seq #[x, y] }).objs.size = hc.objs.size + 1 := Heap.size_push ..
  show wpAny _ _ (pure (some (Value.ref hc.objs.size))) _ _ _
  rw [hsz] at hp h4 ⊢
  exact wpAny_pure (hQ _ (Heap.get?_push_of_some _ (sc.extBut _ _ D.i2z.symm (sb.extBut _ _ D.i1z.symm za))) ((r1.but sc.extBut D.i12).to fun o e => Heap.get?_push_of_some _ e) (r2.to fun o e => Heap.get?_push_of_some _ e) hp h4
    fun c o c1 c2 c3 e => Heap.get?_push_of_some _ (sc.extBut _ _ c3 (sb.extBut _ _ c2 (sa.extBut _ _ c1 e))))
theorem held_end {t u : Bool} {z TI TO T i1 i2 l1 l2 : Addr} {f : Bool} {oT : Obj} {k1 k2 : Nat} {xs ys : Array Value} {Q : Option Value → Shared → Prop} (hh : A.handled = none) (D : ZipApart z TI TO i1 i2 l1 l2)
    (hz : IsZipHeld s.heap z TI TO T f) (hT : s.heap.get? T = some oT) (hTI : IsPair s.heap TI (.ref i1) (.ref i2))
    (h1 : Zm.Run t s.heap i1 l1 k1) (h2 : Zm.Run u s.heap i2 l2 k2) (hl1 : Zm.Src t s.heap l1 xs) (hl2 : Zm.Src u s.heap l2 ys) (hend : xs[k1]? = none ∨ ys[k2]? = none)
    (hQ : ∀ h', (∀ c o, c ≠ z → c ≠ i1 → c ≠ i2 → s.heap.get? c = some o → h'.get? c = some o) → Q none { s with heap := h' }) : wpAny (model prog w) A (pyNext (.ref z)) Q E s := by
  have hTy : s.TypeIs (.ref z) "zip" := ⟨_, hz, rfl⟩
  unfold pyNext
  refine wpAny_bind (wpAny_attempt (wpAny_callSpecial?_slot (name := Str.ofString "__next__") hTy F.slot_zip_next (wpAny_call_entry F.slot_zip_next hTy F.entry_zip_next ?_ (F.args_zip_next_1 _))))
  have key : ∀ (E' : Value → Shared → Prop) (Q' : Fin → Shared → Prop), (∀ (h' : Heap) (e : Addr), (∀ c o, c ≠ z → c ≠ i1 → c ≠ i2 → s.heap.get? c = some o → h'.get? c = some o) → (∃ o, h'.get? e = some o ∧ o.cls = .type "StopIteration") → E' (.ref e) { s with heap := h' }) →
      wpAny (model prog w) A.in1 (Builtin.«zip.__next__» ⟨[.ref z], []⟩) Q' E' s := fun E' Q' hE => by
    show wpAny _ _ (field (.ref z) 2 >>= _) _ _ _
    refine wpAny_bind (wpAny_field hz rfl (x := .bool false) rfl ?_)
    show wpAny _ _ (field (.ref z) 3 >>= _) _ _ _
    refine wpAny_bind (wpAny_field hz rfl (x := .ref TI) rfl (wpAny_bind (wpAny_seqItems hTI rfl ?_)))
    show wpAny _ _ (Builtin.SmallTypes.ownedTupleIsFree (.ref z) >>= _) _ _ _
    refine wpAny_bind (wpAny_tupleHeld_zip hz hT fun ha za sa => ?_)
    simp only [Bool.false_eq_true, if_false]
    refine wpAny_bind ?_
    rw [← Array.forIn_toList]
    simp only [List.forIn_cons, List.forIn_nil]
    refine wpAny_bind (wpAny_bind (wpAny_holding ?_))
    show wpAny _ _ (Builtin.SmallTypes.nextOf (.ref i1) >>= _) _ _ _
    cases hx : xs[k1]? with
    | none => exact wpAny_bind (Zm.next_end (s := { s with heap := ha }) hh (h1.but sa.extBut D.i1z) (hl1.but sa.extBut D.l1z) hx fun hb e sb he => hE hb e (fun c o c1 c2 _ x => sb _ _ c2 (sa.extBut _ _ c1 x)) he)
    | some x =>
      have hy : ys[k2]? = none := by
        rcases hend with h | h
        · rw [hx] at h; cases h
        · exact h
      refine wpAny_bind (Zm.next_item (s := { s with heap := ha }) (h1.but sa.extBut D.i1z) (hl1.but sa.extBut D.l1z) hx fun hb r1 sb => wpAny_pure (wpAny_pure ?_))
      refine wpAny_bind (wpAny_bind (wpAny_holding ?_))
      show wpAny _ _ (Builtin.SmallTypes.nextOf (.ref i2) >>= _) _ _ _
      exact wpAny_bind (Zm.next_end (s := { s with heap := hb }) hh ((h2.but sa.extBut D.i2z).but sb.extBut D.i12.symm) ((hl2.but sa.extBut D.l2z).but sb.extBut D.l2i1) hy fun hc e sc he => hE hc e (fun c o c1 c2 c3 x => sc _ _ c3 (sb.extBut _ _ c2 (sa.extBut _ _ c1 x))) he)
  refine key _ _ fun h' e hk he => ?_
  obtain ⟨o, ho, hc⟩ := he
  refine wpAny_bind (wpAny_isInstance (T := "StopIteration") (b := true) ⟨o, ho, hc⟩ isSubtype_stop ?_)
  exact wpAny_pure (hQ _ hk)
/-- the pairs that have been given -/
structure Ps (xs ys : Array Value) (lo : Addr) (h : Heap) (as : List Addr) : Prop where
  nd : as.Nodup
  above : ∀ a ∈ as, lo < a
  pairs : ∀ (j : Nat) (a : Addr), as[j]? = some a → ∃ x y, xs[j]? = some x ∧ ys[j]? = some y ∧ h.get? a = some { cls := .type "tuple", data := .seq #[x, y] }
structure Zs (ta tb : Bool) (xs ys : Array Value) (z TI TO i1 i2 l1 l2 S : Addr) (i : Nat) (h : Heap) : Prop where
  tI : IsPair h TI (.ref i1) (.ref i2)
  r1 : Zm.Run ta h i1 l1 i
  r2 : Zm.Run tb h i2 l2 i
  s1 : Zm.Src ta h l1 xs
  s2 : Zm.Src tb h l2 ys
  z : (i = 0 ∧ IsZip h z TI TO .none ∧ ∃ x y, IsPair h TO x y) ∨ ∃ T f oT, IsZipHeld h z TI TO T f ∧ h.get? T = some oT ∧ S < T
theorem Zs.keep {ta tb : Bool} {xs ys : Array Value} {z TI TO i1 i2 l1 l2 S : Addr} {i : Nat} {h h' : Heap} (x : Zs ta tb xs ys z TI TO i1 i2 l1 l2 S i h) (k : ∀ b o, b ≠ S → h.get? b = some o → h'.get? b = some o) (n : z ≠ S ∧ TI ≠ S ∧ TO ≠ S ∧ i1 ≠ S ∧ i2 ≠ S ∧ l1 ≠ S ∧ l2 ≠ S) : Zs ta tb xs ys z TI TO i1 i2 l1 l2 S i h' := by
  obtain ⟨n1, n2, n3, n4, n5, n6, n7⟩ := n
  refine ⟨k _ _ n2 x.tI, x.r1.to fun o e => k _ o n4 e, x.r2.to fun o e => k _ o n5 e, Src_to x.s1 fun o e => k _ o n6 e, Src_to x.s2 fun o e => k _ o n7 e, ?_⟩
  rcases x.z with ⟨e, q, u, v, p⟩ | ⟨T, f, oT, q, e, lt⟩
  · exact .inl ⟨e, k _ _ n1 q, u, v, k _ _ n3 p⟩
  · exact .inr ⟨T, f, oT, k _ _ n1 q, k _ _ (Nat.ne_of_gt lt) e, lt⟩
theorem item {ta tb : Bool} {xs ys : Array Value} {z TI TO i1 i2 l1 l2 S : Addr} {i : Nat} {x y : Value} {Q : Option Value → Shared → Prop} (D : ZipApart z TI TO i1 i2 l1 l2) (st : Zs ta tb xs ys z TI TO i1 i2 l1 l2 S i s.heap) (hS : S < s.heap.objs.size) (lt : z < S ∧ i1 < S ∧ i2 < S ∧ TO < S ∧ l1 < S ∧ l2 < S ∧ TI < S) (n : l1 ≠ i2 ∧ l1 ≠ i1 ∧ l2 ≠ i1 ∧ l2 ≠ i2 ∧ l1 ≠ z ∧ l2 ≠ z ∧ l1 ≠ TO ∧ l2 ≠ TO)
    (hx : xs[i]? = some x) (hy : ys[i]? = some y)
    (hQ : ∀ h', Zs ta tb xs ys z TI TO i1 i2 l1 l2 S (i + 1) h' → h'.get? s.heap.objs.size = some { cls := .type "tuple", data := .seq #[x, y] } → h'.objs.size = s.heap.objs.size + 1 →
      (∀ b o, b ≠ z → b ≠ TO → b ≠ i1 → b ≠ i2 → s.heap.get? b = some o → h'.get? b = some o) → Q (some (.ref s.heap.objs.size)) { s with heap := h' }) : wpAny (model prog w) A (pyNext (.ref z)) Q E s := by
  obtain ⟨m1, m2, m3, m4, m5, m6, m7, m8⟩ := n
  rcases st.z with ⟨e, q, u, v, p⟩ | ⟨T, f, oT, q, e, ltT⟩
  · refine Zm.py_item (t := ta) (u := tb) D q st.tI p st.r1 st.r2 st.s1 st.s2 hx hy fun h' z' TO' h1' h2' hT hsz hk => hQ h' ⟨hk _ _ D.TIz D.TITO D.TIi1 D.TIi2 st.tI, h1', h2', Src_to st.s1 fun o e => hk _ o m5 m7 m2 m1 e, Src_to st.s2 fun o e => hk _ o m6 m8 m3 m4 e, .inr ⟨_, false, _, z', hT, hS⟩⟩ hT hsz hk
  · obtain ⟨o1, o2, o3, o4, o5, o6, o7⟩ := lt
    refine held_item (t := ta) (u := tb) D q e st.tI st.r1 st.r2 st.s1 st.s2 hx hy fun h' z' h1' h2' hT hsz hk => hQ h' ⟨hk _ _ D.TIz D.TIi1 D.TIi2 st.tI, h1', h2', Src_to st.s1 fun o e => hk _ o m5 m2 m1 e, Src_to st.s2 fun o e => hk _ o m6 m3 m4 e, .inr ⟨T, true, oT, z', hk _ _ ?_ ?_ ?_ e, ltT⟩⟩ hT hsz fun b o c1 _ c3 c4 e => hk b o c1 c3 c4 e
    · exact Nat.ne_of_gt (Nat.lt_trans o1 ltT)
    · exact Nat.ne_of_gt (Nat.lt_trans o2 ltT)
    · exact Nat.ne_of_gt (Nat.lt_trans o3 ltT)
theorem done {ta tb : Bool} {xs ys : Array Value} {z TI TO i1 i2 l1 l2 S : Addr} {i : Nat} {Q : Option Value → Shared → Prop} (hh : A.handled = none) (D : ZipApart z TI TO i1 i2 l1 l2) (st : Zs ta tb xs ys z TI TO i1 i2 l1 l2 S i s.heap) (he : xs[i]? = none ∨ ys[i]? = none)
    (hQ : ∀ h', (∀ b o, b ≠ z → b ≠ TO → b ≠ i1 → b ≠ i2 → s.heap.get? b = some o → h'.get? b = some o) → Q none { s with heap := h' }) : wpAny (model prog w) A (pyNext (.ref z)) Q E s := by
  rcases st.z with ⟨e, q, u, v, p⟩ | ⟨T, f, oT, q, e, ltT⟩
  · exact Zm.py_end (t := ta) (u := tb) hh D q st.tI p st.r1 st.r2 st.s1 st.s2 he fun h' hk => hQ h' hk
  · exact held_end (t := ta) (u := tb) hh D q e st.tI st.r1 st.r2 st.s1 st.s2 he fun h' hk => hQ h' fun b o c1 _ c3 c4 e => hk b o c1 c3 c4 e
/-- how the cells lie -/
structure Lie (z TI TO i1 i2 l1 l2 S : Addr) : Prop where
  D : ZipApart z TI TO i1 i2 l1 l2
  lt : z < S ∧ i1 < S ∧ i2 < S ∧ TO < S ∧ l1 < S ∧ l2 < S ∧ TI < S
  n : l1 ≠ i2 ∧ l1 ≠ i1 ∧ l2 ≠ i1 ∧ l2 ≠ i2 ∧ l1 ≠ z ∧ l2 ≠ z ∧ l1 ≠ TO ∧ l2 ≠ TO
theorem Lie.ne {z TI TO i1 i2 l1 l2 S : Addr} (L : Lie z TI TO i1 i2 l1 l2 S) : z ≠ S ∧ TI ≠ S ∧ TO ≠ S ∧ i1 ≠ S ∧ i2 ≠ S ∧ l1 ≠ S ∧ l2 ≠ S := by
  obtain ⟨o1, o2, o3, o4, o5, o6, o7⟩ := L.lt
  exact ⟨Nat.ne_of_lt o1, Nat.ne_of_lt o7, Nat.ne_of_lt o4, Nat.ne_of_lt o2, Nat.ne_of_lt o3, Nat.ne_of_lt o5, Nat.ne_of_lt o6⟩
theorem Lie.over {z TI TO i1 i2 l1 l2 S b : Addr} (L : Lie z TI TO i1 i2 l1 l2 S) (h : S < b) : b ≠ z ∧ b ≠ TO ∧ b ≠ i1 ∧ b ≠ i2 := by
  obtain ⟨o1, o2, o3, o4, o5, o6, o7⟩ := L.lt
  exact ⟨Nat.ne_of_gt (Nat.lt_trans o1 h), Nat.ne_of_gt (Nat.lt_trans o4 h), Nat.ne_of_gt (Nat.lt_trans o2 h), Nat.ne_of_gt (Nat.lt_trans o3 h)⟩
theorem loop {ta tb : Bool} {xs ys : Array Value} {z TI TO i1 i2 l1 l2 S : Addr} {R : Result → Shared → Prop} (hh : A.handled = none) (L : Lie z TI TO i1 i2 l1 l2 S) {n : Nat} (hnx : n = min xs.size ys.size) (hn : n ≤ sizeLine) (res : Value) {h₁ : Heap}
    (hR : ∀ h' acc c as, (∀ b o, b ≠ S → b ≠ z → b ≠ TO → b ≠ i1 → b ≠ i2 → h₁.get? b = some o → h'.get? b = some o) → h'.get? S = some { cls := .type "list", dict := none, data := .seq acc c, slots := #[] } → as.length = n → Ps xs ys S h' as →
      acc.toList = as.map Value.ref → R (.ok (.ret res)) { s with heap := h' }) :
    ∀ (k i : Nat) (h : Heap) (c : Nat) (acc : Array Value) (as : List Addr), n - i = k → i ≤ n → Zs ta tb xs ys z TI TO i1 i2 l1 l2 S i h → (∀ b o, b ≠ S → b ≠ z → b ≠ TO → b ≠ i1 → b ≠ i2 → h₁.get? b = some o → h.get? b = some o) →
      h.get? S = some { cls := .type "list", dict := none, data := .seq acc c, slots := #[] } → acc.toList = as.map Value.ref → as.length = i → Ps xs ys S h as →
      codeAny (model prog w) A (.builtin "list.extend.loop" ⟨[.ref S, .ref z, res], []⟩) R { s with heap := h } := by
  obtain ⟨e1, e2, e3, e4, e5, e6, e7⟩ := L.ne
  intro k
  induction k with
  | zero =>
    intro i h c acc as hk hi hst hkeep hS hacc hal hG
    have hin : i = n := by omega
    refine codeAny_builtin PySem.F.entry_extend_loop ?_
    rw [Around.under_plainId PySem.F.plain_extend_loop _]
    show wpAny _ A.in1 (pyNext (.ref z) >>= _) _ _ _
    have hend : xs[i]? = none ∨ ys[i]? = none := by
      rcases Nat.le_total xs.size ys.size with q | q
      · exact .inl (Array.getElem?_eq_none (by omega))
      · exact .inr (Array.getElem?_eq_none (by omega))
    refine wpAny_bind (done (s := { s with heap := h }) (A := A.in1) hh L.D hst hend fun h' he => ?_)
    refine wpAny_pure (hR h' acc c as (fun b o h1 h2 h3 h4 h5 e => he b o h2 h3 h4 h5 (hkeep b o h1 h2 h3 h4 h5 e)) (he S _ (Ne.symm e1) (Ne.symm e3) (Ne.symm e4) (Ne.symm e5) hS) (by omega) ⟨hG.nd, hG.above, fun j a hj => ?_⟩ hacc)
    obtain ⟨x, y, q1, q2, q3⟩ := hG.pairs j a hj
    obtain ⟨n1, n2, n3, n4⟩ := L.over (hG.above a (List.mem_of_getElem? hj))
    exact ⟨x, y, q1, q2, he a _ n1 n2 n3 n4 q3⟩
  | succ k ih =>
    intro i h c acc as hk hi hst hkeep hS hacc hal hG
    have hlt : i < n := by omega
    obtain ⟨x, hx⟩ : ∃ p, xs[i]? = some p := ⟨xs[i]'(by omega), Array.getElem?_eq_getElem _⟩
    obtain ⟨y, hy⟩ : ∃ p, ys[i]? = some p := ⟨ys[i]'(by omega), Array.getElem?_eq_getElem _⟩
    have hsz : acc.size = i := by rw [← Array.length_toList, hacc, List.length_map, hal]
    have hSl : S < h.objs.size := Heap.lt_size hS
    refine codeAny_builtin PySem.F.entry_extend_loop ?_
    rw [Around.under_plainId PySem.F.plain_extend_loop _]
    show wpAny _ A.in1 (pyNext (.ref z) >>= _) _ _ _
    refine wpAny_bind (item (s := { s with heap := h }) L.D hst hSl L.lt L.n hx hy fun h' hst' ht hz hkp => ?_)
    dsimp only at ht hz hkp ⊢
    have hS' := hkp S _ (Ne.symm e1) (Ne.symm e3) (Ne.symm e4) (Ne.symm e5) hS
    have up : ∀ b o, b ≠ S → h'.get? b = some o → (h'.update S (Obj.mapSeq (·.push (Value.ref h.objs.size)))).get? b = some o := fun b o hb e => (Heap.get?_update_other _ _ (Ne.symm hb)).trans e
    show wpAny _ A.in1 (updateSeq S (·.push (Value.ref h.objs.size)) >>= _) _ _ _
    refine wpAny_bind ?_
    refine wpAny_updateSeq hS' rfl (wpAny_pure ⟨plainId_quiet PySem.F.plain_extend_loop _, ih (i + 1) _ _ (acc.push (Value.ref h.objs.size)) (as ++ [h.objs.size]) (by omega) hlt (hst'.keep up L.ne)
      (fun b o h1 h2 h3 h4 h5 e => up b o h1 (hkp b o h2 h3 h4 h5 (hkeep b o h1 h2 h3 h4 h5 e))) (Heap.get?_update_self _ hS' rfl) (by rw [Array.toList_push, hacc, List.map_append]; rfl) (by rw [List.length_append, hal]; rfl) ⟨?_, ?_, ?_⟩⟩) (by rw [hsz]; omega) (by show (acc.push (Value.ref h.objs.size)).size ≤ sizeLine + 1; rw [Array.size_push, hsz]; omega)
    · refine List.nodup_append.mpr ⟨hG.nd, by simp, fun a ha b hb e => ?_⟩
      rw [List.mem_singleton.mp hb] at e
      obtain ⟨j, hj⟩ := List.mem_iff_getElem?.mp ha
      obtain ⟨_, _, _, _, q⟩ := hG.pairs j a hj
      rw [e] at q
      exact Nat.lt_irrefl _ (Heap.lt_size q)
    · intro a ha
      rcases List.mem_append.mp ha with ha | ha
      · exact hG.above a ha
      · rw [List.mem_singleton.mp ha]; exact hSl
    · intro j b hj
      rcases Nat.lt_trichotomy j as.length with h1 | h1 | h1
      · rw [List.getElem?_append_left h1] at hj
        obtain ⟨x', y', q1, q2, q3⟩ := hG.pairs j b hj
        have hb := hG.above b (List.mem_of_getElem? hj)
        obtain ⟨n1, n2, n3, n4⟩ := L.over hb
        exact ⟨x', y', q1, q2, up b _ (Nat.ne_of_gt hb) (hkp b _ n1 n2 n3 n4 q3)⟩
      · subst h1
        have hb : h.objs.size = b := by simpa using hj
        subst hb
        exact ⟨x, y, by rw [hal]; exact hx, by rw [hal]; exact hy, up _ _ (Nat.ne_of_gt hSl) ht⟩
      · have hnone : (as ++ [h.objs.size])[j]? = none := List.getElem?_eq_none (by rw [List.length_append, List.length_singleton]; omega)
        rw [hnone] at hj; cases hj
theorem extend {ta tb : Bool} {xs ys : Array Value} {z TI TO i1 i2 l1 l2 S : Addr} {R : Result → Shared → Prop} (hh : A.handled = none) (L : Lie z TI TO i1 i2 l1 l2 S) {n : Nat} (hnx : n = min xs.size ys.size) (hn : n ≤ sizeLine) (res : Value) (c₀ : Nat) (hS : s.heap.get? S = some { cls := .type "list", data := .seq #[] c₀ })
    (st : Zs ta tb xs ys z TI TO i1 i2 l1 l2 S 0 s.heap) (hT : s.TypeIs (.ref z) "zip") (hself : ∀ {A' : Around} {Q : Value → Shared → Prop} {E : Value → Shared → Prop}, Q (.ref z) s → wpAny (model prog w) A' (pyIter (.ref z)) Q E s)
    (hR : ∀ h' acc c as, (∀ b o, b ≠ S → b ≠ z → b ≠ TO → b ≠ i1 → b ≠ i2 → s.heap.get? b = some o → h'.get? b = some o) → h'.get? S = some { cls := .type "list", dict := none, data := .seq acc c, slots := #[] } → as.length = n → Ps xs ys S h' as →
      acc.toList = as.map Value.ref → R (.ok (.ret res)) { s with heap := h' }) :
    wpAny (model prog w) A.in1 (Builtin.List.listExtendWith (.ref S) (.ref z) res)
      (fun fin s' => match fin with | .done f => R (.ok f) s' | .again c' => c'.quiet = true ∧ codeAny (model prog w) A c' R s') (fun e s' => R (.error e) s') s := by
  have key : ∀ (h : Heap) (c₁ : Nat), (∀ b o, b ≠ S → s.heap.get? b = some o → h.get? b = some o) → h.get? S = some { cls := .type "list", data := .seq #[] c₁ } →
      codeAny (model prog w) A (.builtin "list.extend.loop" ⟨[.ref S, .ref z, res], []⟩) R { s with heap := h } := fun h c₁ hk hS₁ =>
    loop (s := s) (h₁ := s.heap) hh L hnx hn res hR n 0 h c₁ #[] [] (Nat.sub_zero _) (Nat.zero_le _) (st.keep hk L.ne) (fun b o hb _ _ _ _ e => hk b o hb e) hS₁ rfl rfl ⟨List.nodup_nil, (fun _ ha => nomatch ha), (fun j a hj => by simp at hj)⟩
  unfold Builtin.List.listExtendWith
  refine wpAny_bind (wpAny_typeOf (T := "zip") hT ?_)
  have h1 : Builtin.List.listSameRef (.ref S) (.ref z) = false := by simp [Builtin.List.listSameRef, Ne.symm L.ne.1]
  have h2 : (Value.type "zip" == Value.type "list") = false := by decide
  have h3 : (Value.type "zip" == Value.type "tuple") = false := by decide
  simp only [h1, h2, h3, Bool.or_false, Bool.false_eq_true, if_false]
  refine wpAny_bind (hself ?_)
  refine wpAny_bind (wpAny_holding (hint hT ?_))
  refine wpAny_ite_split (fun _ => ?_) (fun _ => wpAny_pure ⟨plainId_quiet PySem.F.plain_extend_loop _, key _ c₀ (fun b o _ e => e) hS⟩)
  refine wpAny_bind (wpAny_rule ?_)
  refine wpAny_bind ?_
  show wpAny _ _ (updateSeq S (·.push .none) >>= fun _ => updateSeq S (·.pop)) _ _ _
  refine wpAny_bind (wpAny_updateSeq hS rfl ?_)
  have hS₂ := Heap.get?_update_self (Obj.mapSeq (·.push Value.none)) hS rfl
  refine wpAny_updateSeq (hz := by seq_fits) hS₂ rfl ?_
  have hS₃ := Heap.get?_update_self (Obj.mapSeq (·.pop)) hS₂ rfl
  refine wpAny_pure ⟨plainId_quiet PySem.F.plain_extend_loop _, key _ _ (fun b o hb e => ?_) hS₃⟩
  exact (Heap.get?_update_other _ _ (Ne.symm hb)).trans ((Heap.get?_update_other _ _ (Ne.symm hb)).trans e)
theorem init {ta tb : Bool} {xs ys : Array Value} {z TI TO i1 i2 l1 l2 S : Addr} {R : Result → Shared → Prop} (hh : A.handled = none) (L : Lie z TI TO i1 i2 l1 l2 S) {n : Nat} (hnx : n = min xs.size ys.size) (hn : n ≤ sizeLine) (hS : s.heap.get? S = some { cls := .type "list", data := .seq #[] })
    (st : Zs ta tb xs ys z TI TO i1 i2 l1 l2 S 0 s.heap) (hzz : IsZip s.heap z TI TO .none)
    (hR : ∀ h' acc c as, (∀ b o, b ≠ S → b ≠ z → b ≠ TO → b ≠ i1 → b ≠ i2 → s.heap.get? b = some o → h'.get? b = some o) → h'.get? S = some { cls := .type "list", dict := none, data := .seq acc c, slots := #[] } → as.length = n → Ps xs ys S h' as →
      acc.toList = as.map Value.ref → R (.ok (.ret .none)) { s with heap := h' }) :
    wpAny (model prog w) A.in1 (Builtin.«list.__init__» ⟨[.ref S, .ref z], []⟩)
      (fun fin s' => match fin with | .done f => R (.ok f) s' | .again c' => c'.quiet = true ∧ codeAny (model prog w) A c' R s') (fun e s' => R (.error e) s') s := by
  show wpAny _ _ (do let old ← Builtin.List.listItems (.ref S); Builtin.List.listUpdate (.ref S) (fun _ => #[]); letGo old.toList.reverse; Builtin.List.listExtendWith (.ref S) (.ref z) .none) _ _ s
  refine wpAny_bind ?_
  unfold Builtin.List.listItems
  refine wpAny_bind (wpAny_seqItems hS rfl (wpAny_pure ?_))
  show wpAny _ _ (updateSeq S (fun _ => #[]) >>= fun _ => letGo (#[] : Array Value).toList.reverse >>= fun _ => Builtin.List.listExtendWith (.ref S) (.ref z) .none) _ _ s
  refine wpAny_bind (wpAny_updateSeq hS rfl ?_)
  have hS₂ := Heap.get?_update_self (Obj.mapSeq (fun _ => (#[] : Array Value))) hS rfl
  have oth : ∀ b o, b ≠ S → s.heap.get? b = some o → (s.heap.update S (Obj.mapSeq (fun _ => (#[] : Array Value)))).get? b = some o :=
    fun b o hb e => (Heap.get?_update_other _ _ (Ne.symm hb)).trans e
  refine wpAny_bind (wpAny_letGo ?_)
  have hz2 := oth _ _ L.ne.1 hzz
  refine extend (s := { s with heap := s.heap.update S (Obj.mapSeq (fun _ => (#[] : Array Value))) }) hh L hnx hn .none _ hS₂ (st.keep oth L.ne) ⟨_, hz2, rfl⟩ (fun q => wpAny_pyIter_zip hz2 q) (fun h' acc c as hk hS' hl hG hacc => ?_)
  exact hR h' acc c as (fun b o hb h2 h3 h4 h5 e => hk b o hb h2 h3 h4 h5 (oth b o hb e)) hS' hl hG hacc
theorem call_ {ta tb : Bool} {xs ys : Array Value} {z TI TO i1 i2 l1 l2 : Addr} {Q : Value → Shared → Prop} (hh : A.handled = none) (L : Lie z TI TO i1 i2 l1 l2 s.heap.objs.size) {n : Nat} (hnx : n = min xs.size ys.size) (hn : n ≤ sizeLine)
    (st : ∀ S, Zs ta tb xs ys z TI TO i1 i2 l1 l2 S 0 s.heap) (hzz : IsZip s.heap z TI TO .none)
    (hQ : ∀ h' acc c as, (∀ b o, b ≠ z → b ≠ TO → b ≠ i1 → b ≠ i2 → s.heap.get? b = some o → h'.get? b = some o) → h'.get? s.heap.objs.size = some { cls := .type "list", dict := none, data := .seq acc c, slots := #[] } → as.length = n → Ps xs ys s.heap.objs.size h' as →
      acc.toList = as.map Value.ref → Q (.ref s.heap.objs.size) { s with heap := h' }) :
    wpAny (model prog w) A (call (.type "list") [.ref z]) Q E s := by
  refine callType_codes (Q₁ := fun obj s₁ => obj = .ref s.heap.objs.size ∧ s₁ = { s with heap := s.heap.push { cls := .type "list", data := .seq #[] } }) PySem.F.called_list (PySem.F.typeCall_list_1 _) PySem.F.entry_list_init
    (code_list_new _ ⟨rfl, rfl⟩) fun obj s₁ h₁ => ?_
  obtain ⟨rfl, rfl⟩ := h₁
  have hS : (s.heap.push { cls := .type "list", data := .seq #[] }).get? s.heap.objs.size = some { cls := .type "list", data := .seq #[] } := Heap.get?_push_size _ rfl
  refine ⟨⟨_, hS, rfl⟩, PySem.F.args_list_init_2 _ _, init (s := { s with heap := s.heap.push { cls := .type "list", data := .seq #[] } }) (A := A.in1) hh L hnx hn hS ((st _).keep (fun b o _ e => Heap.get?_push_of_some _ e) L.ne) (Heap.get?_push_of_some _ hzz) (fun h' acc c as hk hS' hl hG hacc => ?_)⟩
  exact ⟨rfl, hQ h' acc c as (fun b o h2 h3 h4 h5 e => hk b o (Nat.ne_of_lt (Heap.lt_size e)) h2 h3 h4 h5 (Heap.get?_push_of_some _ e)) hS' hl hG hacc⟩
end
def tLm (b1 b2 : Bool) (K : PySem.W.Frag) (ta : TA) : TE := fun σ H Q => ta σ H fun vs H1 => ∃ a b xs ys, vs = [.ref a, .ref b] ∧ Zm.Sq b1 K H1 a xs ∧ Zm.Sq b2 K H1 b ys ∧ xs.length ≤ sizeLine ∧ ∀ (S : Addr) (as : List Addr) (H2 : Hp), H1 S = none → as.length = min xs.length ys.length → as.Nodup → (∀ a ∈ as, H1 a = none ∧ a ≠ S) →
  (∀ b, b ∉ as → b ≠ S → H2 b = H1 b) → (∀ (j : Nat) (a : Addr), as[j]? = some a → ∃ x y, xs[j]? = some x ∧ ys[j]? = some y ∧ H2 a = some (.tup [x, y])) → H2 S = some (.lst (as.map V.ref)) → Q (.ref S) H2
theorem pe_lm {b1 b2 : Bool} {X : Cx} {e e2 : Expr} {ta : TA} {p p2 pos pos2 : Pos} (hc : X.calm = true) (hg : Gl X "zip") (hm : X.mg "zip" = none) (hgl : Gl X "list") (hml : X.mg "list" = none) (ha : PA X [e, e2] ta)
    (hs : starEach [e, e2] X.env = (false, eval e X.env) :: starEach [e2] X.env := by rfl) (hpl : (backTo pos2 (starEach [e2] X.env)).any (·.1) = false := by rfl)
    (na : starEach [.Call (.Name "zip" p2) [e, e2] [] pos2] X.env = (false, eval (.Call (.Name "zip" p2) [e, e2] [] pos2) X.env) :: starEach [] X.env := by rfl) :
    PE X (.Call (.Name "list" p) [.Call (.Name "zip" p2) [e, e2] [] pos2] [] pos) (tLm b1 b2 X.K ta) := by
  refine ⟨fun pins s σ H Q I h => ?_⟩
  refine Call_ (ld_blt I hgl hml boot_list (PyProof.Rows.callWith_type1 (args_cons ?_ na) na))
  refine Call_ (ld_blt I hg hm PyProof.Rows.boot_zip (PyProof.Rows.callWith_type1 (thn (ha.run pos2 pins s σ H _ I h) fun us s1 ⟨vs, H1, I1, r1, q1⟩ => ?_) hs hpl))
  obtain ⟨a, b, xs, ys, ex, hqx, hqy, zx, q⟩ := q1
  subst ex
  cases r1 with
  | cons r rr =>
    cases rr with
    | cons r' rr =>
      cases rr; cases r; cases r'
      obtain ⟨its, rv, p1, la⟩ := Zm.Sq.get (t := b1) I1 hqx
      obtain ⟨its2, rv2, p2', lb⟩ := Zm.Sq.get (t := b2) I1 hqy
      have l1 := rv.length
      have l2 := rv2.length
      refine Zm.call_zip (t := b1) (u := b2) p1 p2' fun h' hz hTI hTO h1 h2 hsz hk => args_nil ?_
      have na1 : s1.heap.objs.size ≤ s1.heap.objs.size := Nat.le_refl _
      have L : Lie (s1.heap.objs.size + 4) (s1.heap.objs.size + 2) (s1.heap.objs.size + 3) s1.heap.objs.size (s1.heap.objs.size + 1) a b h'.objs.size := by
        refine ⟨PySem.W.ktu_apart s1.heap.objs.size a b la lb, ?_, ?_⟩
        · rw [hsz]; refine ⟨?_, ?_, ?_, ?_, ?_, ?_, ?_⟩ <;> first | exact Nat.add_lt_add_left (by decide) _ | exact Nat.lt_add_of_pos_right (by decide) | exact Nat.lt_of_lt_of_le la (Nat.le_add_right _ _) | exact Nat.lt_of_lt_of_le lb (Nat.le_add_right _ _)
        · refine ⟨?_, ?_, ?_, ?_, ?_, ?_, ?_, ?_⟩ <;> first | exact Nat.ne_of_lt la | exact Nat.ne_of_lt lb | exact Nat.ne_of_lt (Nat.lt_of_lt_of_le la (Nat.le_add_right _ _)) | exact Nat.ne_of_lt (Nat.lt_of_lt_of_le lb (Nat.le_add_right _ _))
      refine call_ (s := { s1 with heap := h' }) (xs := its.toArray) (ys := its2.toArray) (I1.ok.hd hc) L rfl ?_ (fun S => ⟨hTI, h1, h2, Src_to p1 fun o e => hk _ o e, Src_to p2' fun o e => hk _ o e, .inl ⟨rfl, hz, _, _, hTO⟩⟩) hz fun h3 acc c as k3 hS hl hP hacc => ?_
      · simp only [List.size_toArray]
        exact Nat.le_trans (Nat.min_le_left _ _) (by rw [← l1]; exact zx)
      dsimp only at hS hP k3
      have k4 : ∀ b o, s1.heap.get? b = some o → h3.get? b = some o := fun b o e => by
        have hb := Heap.lt_size e
        exact k3 b o (Nat.ne_of_lt (Nat.lt_of_lt_of_le hb (Nat.le_add_right _ _))) (Nat.ne_of_lt (Nat.lt_of_lt_of_le hb (Nat.le_add_right _ _))) (Nat.ne_of_lt hb) (Nat.ne_of_lt (Nat.lt_of_lt_of_le hb (Nat.le_add_right _ _))) (hk b o e)
      have I2 : Inv X pins σ H1 { s1 with heap := h3 } := I1.kept (t' := s1.toks) k4
      have ge : ∀ a ∈ as, s1.heap.objs.size ≤ a := fun a m => by
        have := hP.above a m
        rw [hsz] at this
        exact Nat.le_trans (Nat.le_add_right _ _) (Nat.le_of_lt this)
      have gS : s1.heap.objs.size ≤ h'.objs.size := by rw [hsz]; exact Nat.le_add_right _ _
      have nS : ∀ a ∈ as, a ≠ h'.objs.size := fun a m => Nat.ne_of_gt (hP.above a m)
      obtain ⟨H2, I3, kb, gp⟩ := Lz.pairsH rv rv2 as 0 H1 { s1 with heap := h3 } rfl I2 hP.nd (fun a m => I1.fpOk (ge a m) (I1.hok.fresh (ge a m))) (fun j a hj => by
        obtain ⟨x, y, q1, q2, q3⟩ := hP.pairs j a hj
        exact ⟨x, y, by simpa using q1, by simpa using q2, q3⟩)
      have nSa : h'.objs.size ∉ as := fun m => nS _ m rfl
      have fS := I1.fpOk gS (I1.hok.fresh gS)
      obtain ⟨q0, q6⟩ := fS
      have I4 : Inv X pins σ (upd H2 h'.objs.size (.lst (as.map V.ref))) { s1 with heap := h3, toks := s1.toks } := I3.take (fun b ob _ q => q) ⟨by rw [kb _ nSa]; exact q0, q6⟩ ⟨?_, acc.toList, c, ?_, ?_⟩
      · refine ⟨.ref h'.objs.size, _, I4, rfl, q _ as _ (I1.hok.fresh gS) ?_ hP.nd (fun a m => ⟨I1.hok.fresh (ge a m), nS a m⟩) (fun b hb hb2 => by rw [upd_ne hb2]; exact kb b hb) (fun j a hj => ?_) upd_same⟩
        · rw [hl, l1, l2]; simp
        · obtain ⟨x, y, w1, w2, w3⟩ := gp j a hj
          rw [Nat.zero_add] at w1 w2
          exact ⟨x, y, w1, w2, by rw [upd_ne (nS a (List.mem_of_getElem? hj))]; exact w3⟩
      · rw [List.length_map, hl]
        simp only [List.size_toArray]
        exact Nat.le_trans (Nat.min_le_left _ _) (by rw [← l1]; exact zx)
      · rw [hacc]; exact Lz.vals_refs as
      · rw [Array.toArray_toList]; exact hS
end Lm
namespace Gh
open PySem PySem.Spec PyProof.Rows L2
section
variable {F : Fx} {ρ : List G} {s s1 s2 s3 : Sx} {a b c e : Expr} {es rest : List Expr} {x y z d : D} {xs ys zs ds : List D} {pos p : Pos}
theorem el_listZipT {p2 pos2 : Pos} (B : Bf F.X.mg) (hc : F.X.calm = true) (ha : Ed F ρ s a (.tup xs) s1) (hb : Ed F ρ s1 b (.tup ys) s2) (hl : xs.length ≤ sizeLine) (hg : Gl F.X "zip" := by rfl) (hgl : Gl F.X "list" := by rfl)
    (he : starEach [a, b] F.X.env = (false, eval a F.X.env) :: starEach [b] F.X.env := by rfl) (he2 : starEach [b] F.X.env = (false, eval b F.X.env) :: starEach [] F.X.env := by rfl) (hpl : (backTo pos2 (starEach [b] F.X.env)).any (·.1) = false := by rfl)
    (na : starEach [.Call (.Name "zip" p2) [a, b] [] pos2] F.X.env = (false, eval (.Call (.Name "zip" p2) [a, b] [] pos2) F.X.env) :: starEach [] F.X.env := by rfl) : El F ρ s (.Call (.Name "list" p) [.Call (.Name "zip" p2) [a, b] [] pos2] [] pos) (zipD xs ys) s2 := by
  refine ⟨ha.1.trans hb.1, fun O σ H f Q q => we (Lm.pe_lm (b1 := true) (b2 := true) hc hg B.zip hgl B.list (pa_cons pe_we (pa_cons pe_we pa_nil he2) he) he hpl na) (ha.2 O σ H f _ fun v H1 f1 x1 r1 => hb.2 O σ H1 f1 _ fun w H2 f2 x2 r2 => ?_)⟩
  cases r1.ext x2.xt with
  | tup h1 h2 =>
    cases r2 with
    | tup h3 h4 =>
      refine ⟨_, _, _, _, rfl, h1.sq, h3.sq, by rw [h2.length]; exact hl, fun S as H3 nS hl nd na kb gp hS => ?_⟩
      have kp : ∀ b o, H2 b = some o → H3 b = some o := fun b o hb => by
        rw [kb b (fun m => by rw [(na b m).1] at hb; cases hb) (fun z => by rw [z, nS] at hb; cases hb)]
        exact hb
      have xp : XP F.p s2 H2 H3 := ⟨fun a o h _ _ => kp a o h, fun a h => by
        cases e : H2 a with
        | none => rfl
        | some o => rw [kp a o e] at h; cases h⟩
      have st : F.Sa (S :: O) H3 s2 := by
        have qq := f2.st
        cases s2 with
        | none => exact LamX.Tabs.ext qq kp
        | some ys =>
          obtain ⟨q1, q2, ws, q3, q4⟩ := qq
          exact ⟨LamX.Tabs.ext q1 kp, List.mem_cons_of_mem _ q2, ws, kp _ _ q3, (q4.fresh nS).ext (xt_all kp)⟩
      have f3 : Fm F (S :: O) σ H3 ρ s2 := f2.addO xp rfl st nS hS
      have xe : XE F H2 H3 := ⟨fun a o _ h _ => kp a o h, xp.2⟩
      refine q S _ H3 f3 ((x1.trans x2).trans xe) (x1.2 S (x2.2 S nS)) hS ?_
      have xt3 : XT (S :: (O ++ F.S0)) H2 H3 := xt_all kp
      have e2 := h2.length
      have e4 := h4.length
      have key : ∀ (l : List Addr) (j : Nat), (∀ (i : Nat) (a : Addr), l[i]? = some a → as[j + i]? = some a) → l.length + j = min xs.length ys.length → Rps F.X.K F.p (S :: (O ++ F.S0)) H3 (l.map V.ref) ((zipD xs ys).drop j) := by
        intro l
        induction l with
        | nil =>
          intro j _ hj
          rw [List.drop_eq_nil_of_le (by simp [zipD]; simp at hj; omega)]
          exact .nil
        | cons a l ih =>
          intro j hi hj
          have ha := hi 0 a rfl
          rw [Nat.add_zero] at ha
          obtain ⟨x, y, g1, g2, g3⟩ := gp j a ha
          obtain ⟨dx, e1, r1⟩ := h2.getV g1
          obtain ⟨dy, e2, r2⟩ := h4.getV g2
          have ez : (zipD xs ys)[j]? = some (.tup [dx, dy]) := by simp [zipD, List.getElem?_zipWith, e1, e2]
          obtain ⟨hlt, ez2⟩ := List.getElem?_eq_some_iff.mp ez
          rw [List.drop_eq_getElem_cons hlt, ez2]
          have ma := List.mem_of_getElem? ha
          refine .cons (.tup (.inl ⟨fun m => ?_, .inl g3⟩) (.cons ((r1.fresh nS).ext xt3) (.cons ((r2.fresh nS).ext xt3) .nil))) (ih (j + 1) (fun i b h => ?_) (by simp only [List.length_cons] at hj; omega))
          · rcases List.mem_cons.mp m with m | m
            · exact (na a ma).2 m
            · exact f2.fresh (na a ma).1 m
          · rw [show j + 1 + i = j + (i + 1) by omega]
            exact hi (i + 1) b (by simpa using h)
      have := key as 0 (fun i a h => by rw [Nat.zero_add]; exact h) (by rw [hl, e2, e4, Nat.add_zero])
      simpa using this
end
end Gh
set_option Elab.async false
set_option linter.all false
set_option maxRecDepth 100000
set_option maxHeartbeats 4000000
/-! instances that are only read, methods, bound methods, the making of an instance -/
namespace Gh
open PySem PySem.Spec PyProof.Rows L2
/-- the def at an address, called with these data, hands back that -/
structure RnA (E : En) (k : Nat) (fa : Addr) (ds : List D) (s : Sx) (d : D) (s' : Sx) : Prop where
  kd : s.isSome = s'.isSome
  ok : ∃ fd ps, PySem.W.keepIn E.K (.ref fa) = true ∧ Binds E.K fd ps [] ∧ FnOk E.P E.w E.K E.mg E.base CX0 k fa fd ps (spOf E.K E.T ds s d s')
theorem RnA.is {E : En} {k : Nat} {f : Addr} {ds : List D} {s s' : Sx} {d d' : D} (r : RnA E k f ds s d s') (h : d = d') : RnA E k f ds s d' s' := h ▸ r
theorem RnA.mono {E : En} {j k : Nat} {f : Addr} {ds : List D} {s s' : Sx} {d : D} (r : RnA E j f ds s d s') (h : j ≤ k) : RnA E k f ds s d s' := by
  obtain ⟨kd, fd, ps, h2, h3, h4⟩ := r
  exact ⟨kd, fd, ps, h2, h3, h4.mono h⟩
theorem Rn.at {E : En} {k : Nat} {f : Str} {fa : Addr} {ds : List D} {s s' : Sx} {d : D} (r : Rn E k f ds s d s') (h : E.mg f = some (.ref fa)) : RnA E k fa ds s d s' := by
  obtain ⟨kd, fb, fd, ps, h1, h2, h3, h4⟩ := r
  obtain rfl : fb = fa := by
    have z := h1.symm.trans h
    cases z; rfl
  exact ⟨kd, fd, ps, h2, h3, h4⟩
/-- a def of a class's text -/
structure Dm (E : En) (st : Stmt) (fa : Addr) (x q : Str) (ps : List Str) : Prop where
  ok : ∃ fd, Fun E.K x q st fa fd ∧ Binds E.K fd ps []
abbrev bodyM (E : En) (N : List Str) (q : Str) (st : Stmt) (s : Sx) (fa : Addr) (cdv : Value) (A : Around) (outer : List Env) (sh : Shared) (H0 : Hp) (EX : XK) (S0 : List Addr) (p : Addr) : Fx :=
  ⟨(cxOf CX0 E.P E.w E.K E.mg E.base N q (defScope st) fa cdv A outer sh H0 EX).nox, H0, S0, p, s.isSome, E.T⟩
theorem Dm.rn {E : En} {x q : Str} {st : Stmt} {N ps : List Str} {k : Nat} {fa : Addr} {ds : List D} {s s' : Sx} {d : D} (T : Dm E st fa x q ps) (S : FnScope N ps (defScope st)) (kd : s.isSome = s'.isSome) (hl : ds.length = ps.length)
    (body : ∀ (cdv : Value) (A : Around) (outer : List Env) (sh : Shared) (H0 : Hp) (EX : XK) (S0 : List Addr) (p : Addr), Room k (bodyM E N q st s fa cdv A outer sh H0 EX S0 p).X.A →
      Bk (bodyM E N q st s fa cdv A outer sh H0 EX S0 p) (defBody st) (gStart N ds) s { nx := fun _ t => d = .non ∧ t = s', rt := fun r t => r = d ∧ t = s' }) : RnA E (k + 1) fa ds s d s' := by
  obtain ⟨fd, F, hb⟩ := T.ok
  refine ⟨kd, fd, ps, F.kp, hb, F.ok S (fun vs H Q EX h => ?_) fun cdv A outer sh H vs Q EX hr h => ?_⟩
  · obtain ⟨p, S, r, _⟩ := h
    rw [r.length, hl]
  · obtain ⟨p, S0, r, tr, t, q2⟩ := h
    refine ⟨_, pss_wb, body cdv A outer sh H EX S0 p hr [] (L2.start N vs) H (fm_start (F := bodyM E N q st s fa cdv A outer sh H EX S0 p) r tr t rfl) _ ⟨fun O σ H' ρ t' f st h => ?_, fun v H' r' t' rv xp ta h => ?_, fun O σ H' ρ t' f st h => h.elim, fun O σ H' ρ t' f st h => h.elim, fun O σ H' ρ t' cls dd x f st a h => h.elim⟩⟩
    · obtain ⟨rfl, rfl⟩ := h
      exact q2 .non H' .non (f.ext.kind kd.symm) f.sa0
    · obtain ⟨rfl, rfl⟩ := h
      exact q2 v H' rv (xp.kind kd.symm) ta
theorem zip_lookup {K : PySem.W.Frag} {p : Addr} {S : List Addr} {H : Hp} {f : Str} {d : D} : ∀ {ks : List Str} {vs : List V} {ds : List D}, Rps K p S H vs ds → (ks.zip ds).lookup f = some d → ∃ v, (ks.zip vs).lookup f = some v ∧ Rp K p S H v d
  | [], _, _, _, h => by simp at h
  | k :: ks, _, [], _, h => by simp at h
  | k :: ks, _, e :: ds, r, h => by
    cases r with
    | cons r1 r2 =>
      rw [List.zip_cons_cons, List.lookup_cons] at h ⊢
      cases z : f == k with
      | true => rw [z] at h; cases h; exact ⟨_, rfl, r1⟩
      | false => rw [z] at h; exact zip_lookup r2 h
theorem zip_none {α : Type} {f : Str} : ∀ {ks : List Str} {vs : List α}, f ∉ ks → (ks.zip vs).lookup f = none
  | [], _, _ => by simp
  | k :: ks, [], _ => by simp
  | k :: ks, v :: vs, h => by
    rw [List.zip_cons_cons, List.lookup_cons, show (f == k) = false from by simpa using fun z => h (by rw [z]; exact List.mem_cons_self)]
    exact zip_none fun m => h (List.mem_cons_of_mem _ m)
theorem putF_new {f : Str} {y : V} : ∀ {ks : List Str} {vs : List V}, f ∉ ks → ks.length = vs.length → putF f y (ks.zip vs) = (ks ++ [f]).zip (vs ++ [y])
  | [], [], _, _ => rfl
  | [], _ :: _, _, h => by cases h
  | _ :: _, [], _, h => by cases h
  | k :: ks, v :: vs, h, e => by
    rw [List.zip_cons_cons, putF, if_neg (fun z => h (by rw [z]; exact List.mem_cons_self)), List.cons_append, List.cons_append, List.zip_cons_cons, putF_new (fun m => h (List.mem_cons_of_mem _ m)) (by simpa using e)]
/-- x.m as a value -/
def tBnd (K : PySem.W.Frag) (te : TE) (m : Str) : TE := fun σ H Q => te σ H fun x H1 => ∃ a C dx fs g, x = .ref a ∧ H1 a = some (.ins C dx fs) ∧ Cls K C ∧ BMeth K C m g ∧ fs.lookup m = none ∧ ∀ q, H1 q = none → Q (.ref q) (upd H1 q (.met g a))
theorem pe_bnd {X : Cx} {e : Expr} {te : TE} {m : Str} {pos : Pos} (he : PE X e te) (hb : attributeBase e m X.env (eval e X.env) = eval e X.env) : PE X (.Attribute e m pos) (tBnd X.K te m) := by
  refine ⟨fun pins s σ H Q I h => ?_⟩
  refine attr_of hb (thn (he.run pins s σ H _ I h) fun u s1 ⟨x, H1, I1, rx, a, C, dx, fs, g, ex, ea, c, k, l, q⟩ => ?_)
  subst ex
  obtain rfl : u = Value.ref a := rx
  exact getbound_ok I1 ea c k l fun p s' hp I' => ⟨.ref p, _, I', rfl, q p hp⟩
/-- f(e, ..), f a local name that holds a bound method -/
def tCallM (i : Nat) (g a : Addr) (q : Addr) (sp : Sp) (E : XK) (t : TA) : TE := fun σ H Q => σ[i]? = some (some (.ref q)) ∧ t σ H fun vs H1 => H1 q = some (.met g a) ∧ sp (.ref a :: vs) H1 Q E
theorem pe_callM {X : Cx} {CX : CXT} {k i : Nat} {g a q : Addr} {fd : FuncData} {ps : List Str} {sp : Sp} {E : XK} {x : Str} {p pos : Pos} {e : Expr} {es : List Expr} {t : TA}
    (F : FnOk X.prog X.w X.K X.mg X.base CX k g fd ps sp) (hr : Room k X.A) (hN : X.N[i]? = some x) (hv : Vis X.env.scope x) (hf : PySem.W.fnIn X.K g = true) (hb : Binds X.K fd ps []) (hx : Passes CX X E) (ha : PA X (e :: es) t)
    (hdb : (x == ("__debug__" : Str)) = false := by decide) (hcd : (x == ("__classdict__" : Str)) = false := by decide)
    (he : starEach (e :: es) X.env = (false, eval e X.env) :: starEach es X.env := by rfl) (hpl : (backTo pos (starEach es X.env)).any (·.1) = false := by rfl) : PE X (.Call (.Name x p) (e :: es) [] pos) (tCallM i g a q sp E t) := by
  refine ⟨fun pins s σ H Q I h => ?_⟩
  obtain ⟨hs, ht⟩ := h
  refine wpAny_Call_Name_kw (thn ((pe_var (pos := p) hN hv hdb hcd).run pins s σ H (fun v H1 => v = .ref q ∧ H1 = H) I ⟨.ref q, hs, rfl, rfl⟩) fun u s1 ⟨v, H1, I1, r1, q1⟩ => ?_)
  obtain ⟨rfl, rfl⟩ := q1
  cases r1
  have hargs := ha.run pos pins s1 σ _ _ I1 ht
  show wpAny _ _ (callWith pos (.ref q) [] (backTo pos (starEach (e :: es) X.env)) []) _ _ _
  rw [he] at hargs ⊢
  refine callwith_met (g := g) (a := a) (by show ((false || (backTo pos (starEach es X.env)).any (·.1)) || false) = false; rw [hpl]; rfl) hf (Calls.evalArgs_plain (thn hargs fun us s2 ⟨vs, H2, I2, r, em, q2⟩ => ⟨met_P I2 em, ?_⟩))
  have r2 : Vals (.ref a :: vs) (.ref a :: us) := .cons rfl r
  have hl : (Value.ref a :: us).length = ps.length := by rw [← r2.length]; exact F.len _ _ _ _ q2
  refine wpAny_call (call_met I2 em (codeAny_mono (F.run X.A X.stack s2 H2 ⟨.ref a :: us, []⟩ (.ref a :: us) (.ref a :: vs) Q E hr I2.env0 (by simpa using hb s2 (.ref a :: us) I2.kIn (by simpa using hl)) r2 q2) fun r s' hq => ?_))
  cases r with
  | error er => exact hx pins σ H2 s2 er s' I2 hq
  | ok fl =>
    cases fl with
    | ret u => exact I2.after hq
    | next => exact False.elim hq
    | brk => exact False.elim hq
    | cont => exact False.elim hq
section
variable {F : Fx} {ρ : List G} {s s1 s2 s3 : Sx} {o e : Expr} {es : List Expr} {d : D} {xs ds : List D} {pos p : Pos} {k : GE} {C g : Addr} {ks : List Str} {f m : Str}
/-- o.f, a field -/
theorem ed_fld (c : Cls F.X.K C) (n : NoAttr F.X.K C f) (ho : Ed F ρ s o (.ins C ks xs) s1) (h : (ks.zip xs).lookup f = some d) (hb : attributeBase o f F.X.env (eval o F.X.env) = eval o F.X.env := by rfl) : Ed F ρ s (.Attribute o f pos) d s1 :=
  ⟨ho.1, fun O σ H fm Q q => we (pe_fld pe_we hb) (ho.2 O σ H fm _ fun v H1 f1 x1 r1 => by
    cases r1 with
    | ins m h1 h2 h3 =>
      obtain ⟨v, e1, e2⟩ := zip_lookup h2 h
      exact ⟨_, _, _, _, v, rfl, h1, c, n, e1, q v H1 f1 x1 e2⟩)⟩
/-- self.f, self owned -/
theorem ed_fldO (i : Nat) {x : Str} {px : Pos} {a dx : Addr} (c : Cls F.X.K C) (n : NoAttr F.X.K C f) (hN : F.X.N[i]? = some x) (hv : Vis F.X.env.scope x) (hρ : ρ[i]? = some (.ow (.ins a C dx ks) xs)) (h : (ks.zip xs).lookup f = some d) (hd : (x == ("__debug__" : Str)) = false := by decide) (hcd : (x == ("__classdict__" : Str)) = false := by decide)
    (hb : attributeBase (.Name x px) f F.X.env (eval (.Name x px) F.X.env) = eval (.Name x px) F.X.env := by rfl) : Ed F ρ s (.Attribute (.Name x px) f pos) d s :=
  ⟨rfl, fun O σ H fm Q q => we (pe_fld (pe_var hN hv hd hcd) hb) (by
    obtain ⟨o, ho, b, vs, eo, m, h1, r, ft⟩ := fm.slot i _ hρ
    subst eo
    obtain ⟨v, e1, e2⟩ := zip_lookup r h
    exact ⟨_, ho, b, C, dx, _, v, rfl, h1, c, n, e1, q v H fm .refl e2⟩)⟩
/-- self.f = e, f new -/
theorem bs_fld (i : Nat) {x : Str} {px p' : Pos} {a dx : Addr} (c : Cls F.X.K C) (n : NoAttr F.X.K C f) (hN : F.X.N[i]? = some x) (hv : Vis F.X.env.scope x) (h : Ed F ρ s e d s1) (hρ : ρ[i]? = some (.ow (.ins a C dx ks) xs)) (hf : f ∉ ks) (hk : k.nx (ρ.set i (.ow (.ins a C dx (ks ++ [f])) (xs ++ [d]))) s1) (hl : ks.length < 900)
    (hd : (x == ("__debug__" : Str)) = false := by decide) (hcd : (x == ("__classdict__" : Str)) = false := by decide) (hs : swapsWith e (some (.Attribute (.Name x px) f p')) pos.line F.X.env = pure false := by rfl) : Bs F (.Assign [.Attribute (.Name x px) f p'] e pos) ρ s k :=
  fun O σ H fm E q => ws (ps_fld (pe_var hN hv hd hcd) pe_we hs) (h.2 O σ H fm _ fun v H1 f1 x1 r1 => by
    obtain ⟨o, ho, b, vs, eo, mb, h1, r, ft⟩ := f1.slot i _ hρ
    subst eo
    have el : ks.length = vs.length := by rw [r.length]; exact ft.2
    refine ⟨_, ho, b, C, dx, _, rfl, h1, c, n, ?_, ?_⟩
    · show (ks.zip vs).length < 1000
      rw [List.length_zip]; omega
    · obtain ⟨f2, x2⟩ := f1.mutO (w' := .ins a C dx (ks ++ [f])) hρ ho (r.append (.one r1)) ⟨ft.1, by simp [ft.2]⟩ ⟨_, h1, nt_ins⟩
      have e9 : (HO.ins C dx (putF f v (ks.zip vs))) = Ow.ho (.ins a C dx (ks ++ [f])) (vs ++ [v]) := by
        show _ = HO.ins C dx _
        rw [putF_new hf el]
      rw [e9]
      exact q.nx O σ _ _ s1 f2 (.of (x1.xt.trans x2)) hk)
/-- o.m(e, ..) -/
theorem ed_meth {j : Nat} {apos : Pos} {pl : Sem Bool} (c : Cls F.X.K C) (hm : Meth F.X.K C m g) (ho : Ed F ρ s o (.ins C ks xs) s1) (hn : m ∉ ks) (ha : Ea F ρ s1 (e :: es) ds s2) (hr : Room j F.X.A) (R : RnA F.en j g (.ins C ks xs :: ds) s2 d s3)
    (hst : starEach (e :: es) F.X.env = (false, eval e F.X.env) :: starEach es F.X.env := by rfl) (hpl : (backTo pos (starEach es F.X.env)).any (·.1) = false := by rfl)
    (ht : eval (.Call (.Attribute o m apos) (e :: es) [] pos) F.X.env = (do
      let ov ← eval o F.X.env
      standAt apos.atName
      let (f, first) ← holding [ov] (getMethod ov m pl)
      callWith pos f first (backTo pos (starEach (e :: es) F.X.env)) (backToKw pos (keywordEach [] F.X.env))) := by rfl) : Ed F ρ s (.Call (.Attribute o m apos) (e :: es) [] pos) d s3 := by
  obtain ⟨kd, fd, ps, h2, h3, h4⟩ := R
  refine ⟨(ho.1.trans ha.1).trans kd, fun O σ H fm Q q => we (pe_meth pe_we c hm h4 hr h3 .nil pass0 pa_wa hst hpl ht) (ho.2 O σ H fm _ fun v H1 f1 x1 r1 => ?_)⟩
  cases r1 with
  | @ins a dx _ _ vs _ n1 h1 hv hl =>
    refine ⟨a, dx, _, rfl, h1, zip_none hn, ha.2 O σ H1 f1 _ fun ws H2 f2 x2 r2 => ?_⟩
    rw [List.append_nil]
    exact ⟨F.p, O ++ F.S0, .cons ((Rp.ins n1 h1 hv hl).ext x2.xt) r2, f2.trk, f2.st, fun v H3 r3 x3 t3 => q v H3 (f2.grow x3 kd t3) ((x1.trans x2).trans (x3.xe f2.pm f2.kd)) r3⟩
/-- o.m() -/
theorem ed_meth0 {j : Nat} {apos : Pos} {pl : Sem Bool} (c : Cls F.X.K C) (hm : Meth F.X.K C m g) (ho : Ed F ρ s o (.ins C ks xs) s1) (hn : m ∉ ks) (hr : Room j F.X.A) (R : RnA F.en j g [.ins C ks xs] s1 d s3)
    (ht : eval (.Call (.Attribute o m apos) [] [] pos) F.X.env = (do
      let ov ← eval o F.X.env
      standAt apos.atName
      let (f, first) ← holding [ov] (getMethod ov m pl)
      callWith pos f first (backTo pos (starEach [] F.X.env)) (backToKw pos (keywordEach [] F.X.env))) := by rfl) : Ed F ρ s (.Call (.Attribute o m apos) [] [] pos) d s3 := by
  obtain ⟨kd, fd, ps, h2, h3, h4⟩ := R
  refine ⟨ho.1.trans kd, fun O σ H fm Q q => we (pe_meth0 pe_we c hm h4 hr h3 .nil pass0 ht) (ho.2 O σ H fm _ fun v H1 f1 x1 r1 => ?_)⟩
  cases r1 with
  | @ins a dx _ _ vs _ n1 h1 hv hl =>
    exact ⟨a, dx, _, rfl, h1, zip_none hn, F.p, O ++ F.S0, .cons (Rp.ins n1 h1 hv hl) .nil, f1.trk, f1.st, fun v H3 r3 x3 t3 => q v H3 (f1.grow x3 kd t3) (x1.trans (x3.xe f1.pm f1.kd)) r3⟩
/-- o.m, a value -/
theorem ed_bnd (c : Cls F.X.K C) (hm : BMeth F.X.K C m g) (ho : Ed F ρ s o (.ins C ks xs) s1) (hn : m ∉ ks) (hb : attributeBase o m F.X.env (eval o F.X.env) = eval o F.X.env := by rfl) : Ed F ρ s (.Attribute o m pos) (.met g (.ins C ks xs)) s1 :=
  ⟨ho.1, fun O σ H fm Q q => we (pe_bnd pe_we hb) (ho.2 O σ H fm _ fun v H1 f1 x1 r1 => by
    cases r1 with
    | @ins a dx _ _ vs _ n1 h1 hv hl =>
      exact ⟨a, C, dx, _, g, rfl, h1, c, hm, zip_none hn, fun t n => q _ _ (f1.new n) (x1.trans (.new n)) (.met (f1.fresh n) upd_same ((Rp.ins n1 h1 hv hl).ext (.new n)))⟩)⟩
/-- f(e, ..), f a name that holds a bound method -/
theorem ed_clM (i : Nat) {x : Str} {j : Nat} (hf : PySem.W.fnIn F.X.K g = true) (hN : F.X.N[i]? = some x) (hv : Vis F.X.env.scope x) (hρ : ρ[i]? = some (.val (.met g (.ins C ks xs)))) (ha : Ea F ρ s (e :: es) ds s1) (hr : Room j F.X.A) (R : RnA F.en j g (.ins C ks xs :: ds) s1 d s2)
    (hdb : (x == ("__debug__" : Str)) = false := by decide) (hcd : (x == ("__classdict__" : Str)) = false := by decide) (he : starEach (e :: es) F.X.env = (false, eval e F.X.env) :: starEach es F.X.env := by rfl) (hpl : (backTo pos (starEach es F.X.env)).any (·.1) = false := by rfl) :
    Ed F ρ s (.Call (.Name x p) (e :: es) [] pos) d s2 := by
  obtain ⟨kd, fd, ps, h2, h3, h4⟩ := R
  refine ⟨ha.1.trans kd, fun O σ H fm Q q => ?_⟩
  obtain ⟨o, ho, v, eo, r⟩ := fm.slot i _ hρ
  subst eo
  cases r with
  | @met t a _ _ n0 h0 r0 =>
    refine we (pe_callM (g := g) (a := a) (q := t) h4 hr hN hv hf h3 pass0 pa_wa hdb hcd he hpl) ⟨ho, ha.2 O σ H fm _ fun ws H1 f1 x1 r1 => ?_⟩
    have h1 := x1.xt.1 _ _ n0 h0 nt_met
    exact ⟨h1, F.p, O ++ F.S0, .cons (r0.ext x1.xt) r1, f1.trk, f1.st, fun v H3 r3 x3 t3 => q v H3 (f1.grow x3 kd t3) (x1.trans (x3.xe f1.pm f1.kd)) r3⟩
end

/-! ### C(e, ..) -/
def hid (x : Addr) (H : Hp) : Hp := fun b => if b = x then none else H b
theorem hid_ne {x b : Addr} {H : Hp} (h : b ≠ x) : hid x H b = H b := if_neg h
theorem hid_same {x : Addr} {H : Hp} : hid x H x = none := if_pos rfl
/-- what __init__ promises: from these data the instance gets these fields -/
def spI (K : PySem.W.Frag) (T : Ts) (C : Addr) (ds : List D) (s : Sx) (ks : List Str) (es : List D) (s' : Sx) : Sp := fun vs H Q _ => ∃ (x dx : Addr) (ws : List V) (p : Addr) (S : List Addr), vs = .ref x :: ws ∧ H x = some (.ins C dx []) ∧ x ∉ S ∧ Rps K p (x :: S) H ws ds ∧ (∀ a ∈ S, ∃ o, H a = some o) ∧ (s.isSome = true → p ∈ S) ∧ StA K T p (x :: S) H s ∧
  ∀ H' us, H' x = some (.ins C dx (ks.zip us)) → ks.length = us.length → Rps K p (x :: S) H' us es → XP p s (hid x H) H' → StA K T p (x :: S) H' s' → Q .non H'
/-- C(..) with these data gives an instance with these fields -/
structure RnI (E : En) (k : Nat) (c : Str) (C : Addr) (ds : List D) (s : Sx) (ks : List Str) (es : List D) (s' : Sx) : Prop where
  kd : s.isSome = s'.isSome
  ok : ∃ fI fd ps, E.mg c = some (.ref C) ∧ Mk E.K C fI ∧ Binds E.K fd ps [] ∧ FnOk E.P E.w E.K E.mg E.base CX0 k fI fd ps (spI E.K E.T C ds s ks es s')
theorem RnI.mono {E : En} {j k : Nat} {c : Str} {C : Addr} {ds es : List D} {ks : List Str} {s s' : Sx} (r : RnI E j c C ds s ks es s') (h : j ≤ k) : RnI E k c C ds s ks es s' := by
  obtain ⟨kd, fa, fd, ps, h1, h2, h3, h4⟩ := r
  exact ⟨kd, fa, fd, ps, h1, h2, h3, h4.mono h⟩
theorem ed_make {F : Fx} {ρ : List G} {s s1 s2 : Sx} {e : Expr} {es : List Expr} {ds xs : List D} {pos p : Pos} {c : Str} {C : Addr} {ks : List Str} {j : Nat} (ha : Ea F ρ s (e :: es) ds s1) (hr : Room (j + 1) F.X.A) (R : RnI F.en j c C ds s1 ks xs s2) (hg : Gl F.X c := by rfl) (hdb : (c == ("__debug__" : Str)) = false := by decide)
    (he : starEach (e :: es) F.X.env = (false, eval e F.X.env) :: starEach es F.X.env := by rfl) (hpl : (backTo pos (starEach es F.X.env)).any (·.1) = false := by rfl) : Ed F ρ s (.Call (.Name c p) (e :: es) [] pos) (.ins C ks xs) s2 := by
  obtain ⟨kd, fI, fd, ps, h1, M, h3, h4⟩ := R
  refine ⟨ha.1.trans kd, fun O σ H fm Q q => we (pe_make M h4 hr hg h1 h3 .nil pass0 pa_wa hdb he hpl) (ha.2 O σ H fm _ fun vs H1 f1 x1 r1 => ?_)⟩
  intro x dx nx ndx nex
  rw [List.append_nil]
  have n2 : upd H1 dx (.own x) x = none := by rw [upd_ne (Ne.symm nex)]; exact nx
  have kp : ∀ b o, H1 b = some o → (upd (upd H1 dx (.own x)) x (.ins C dx [])) b = some o := fun b o h => by
    rw [upd_ne (ne_of_none h nx), upd_ne (ne_of_none h ndx)]; exact h
  have xt : ∀ S, XT S H1 (upd (upd H1 dx (.own x)) x (.ins C dx [])) := fun S => ⟨fun b o _ h _ => kp b o h, fun b h => upd_none (upd_none h)⟩
  have hx : x ∉ O ++ F.S0 := f1.fresh nx
  refine ⟨x, dx, vs, F.p, O ++ F.S0, rfl, upd_same, hx, (r1.fresh nx).ext (xt _), fun a m => ?_, fun z => List.mem_append_right _ (f1.pm z), ?_, fun H' us e1 e2 e3 e4 e5 => ⟨rfl, ?_⟩⟩
  · obtain ⟨o, ho⟩ := f1.trk a m
    exact ⟨o, kp a o ho⟩
  · have st := f1.st
    cases s1 with
    | none => exact LamX.Tabs.ext st kp
    | some ys =>
      obtain ⟨q1, q2, ws, q3, q4⟩ := st
      exact ⟨LamX.Tabs.ext q1 kp, List.mem_cons_of_mem _ q2, ws, kp _ _ q3, (q4.fresh nx).ext (xt _)⟩
  · have x4 : XP F.p s1 H1 H' := by
      refine ⟨fun b o h nb nt => e4.1 b o ?_ nb nt, fun b h => ?_⟩
      · rw [hid_ne (ne_of_none h nx)]; exact kp b o h
      · have := e4.2 b h
        by_cases z : b = x
        · rw [z]; exact nx
        · rw [hid_ne z] at this
          exact upd_none (upd_none this)
    have t5 : F.Sa O H' s2 := e5.less (fun z => List.mem_append_right _ (f1.pm (kd.trans z))) fun b m => List.mem_cons_of_mem _ m
    refine q _ H' (f1.grow x4 kd t5) (x1.trans (x4.xe f1.pm f1.kd)) (.ins hx e1 (e3.weak fun b m => List.mem_cons_of_mem _ m) ?_)
    rw [e2, e3.length]
/-- the body of __init__ -/
abbrev bodyI (E : En) (N : List Str) (q : Str) (st : Stmt) (s : Sx) (fa : Addr) (cdv : Value) (A : Around) (outer : List Env) (sh : Shared) (H0 : Hp) (EX : XK) (S0 : List Addr) (p x : Addr) : Fx :=
  ⟨(cxOf CX0 E.P E.w E.K E.mg E.base N q (defScope st) fa cdv A outer sh H0 EX).nox, hid x H0, S0, p, s.isSome, E.T⟩
def gStartI (N : List Str) (x C dx : Addr) (ds : List D) : List G := .ow (.ins x C dx []) [] :: (ds.map G.val ++ List.replicate (N.length - (ds.length + 1)) .no)
theorem Dm.init {E : En} {q c : Str} {st : Stmt} {N ps : List Str} {k : Nat} {C fI : Addr} {ds es : List D} {ks : List Str} {s s' : Sx} (hm : E.mg c = some (.ref C)) (M : Mk E.K C fI) (T : Dm E st fI "__init__" q ps) (S : FnScope N ps (defScope st)) (kd : s.isSome = s'.isSome) (hl : ds.length + 1 = ps.length)
    (body : ∀ (cdv : Value) (A : Around) (outer : List Env) (sh : Shared) (H0 : Hp) (EX : XK) (S0 : List Addr) (p x dx : Addr), Room k (bodyI E N q st s fI cdv A outer sh H0 EX S0 p x).X.A →
      Bk (bodyI E N q st s fI cdv A outer sh H0 EX S0 p x) (defBody st) (gStartI N x C dx ds) s { nx := fun ρ t => ρ[0]? = some (.ow (.ins x C dx ks) es) ∧ t = s', rt := fun _ _ => False }) : RnI E (k + 1) c C ds s ks es s' := by
  obtain ⟨fd, F, hb⟩ := T.ok
  refine ⟨kd, fI, fd, ps, hm, M, hb, F.ok S (fun vs H Q EX h => ?_) fun cdv A outer sh H vs Q EX hr h => ?_⟩
  · obtain ⟨x, dx, ws, p, S, rfl, _, _, r, _⟩ := h
    rw [List.length_cons, r.length, hl]
  · obtain ⟨x, dx, ws, p, S0, rfl, hx, nx, r, tr, pm, t, q2⟩ := h
    have hlen := r.length
    have f0 : Fm (bodyI E N q st s fI cdv A outer sh H EX S0 p x) [x] (L2.start N (.ref x :: ws)) H (gStartI N x C dx ds) s := by
      have key : ∀ (i : Nat) (g : G), (gStartI N x C dx ds)[i]? = some g → (i = 0 ∧ g = .ow (.ins x C dx []) []) ∨ (∃ z j, i = j + 1 ∧ ds[j]? = some z ∧ g = .val z) ∨ (g = .no ∧ (L2.start N (.ref x :: ws))[i]? = some none) := by
        intro i g hg
        unfold gStartI at hg
        cases i with
        | zero => exact .inl ⟨rfl, by simpa using hg.symm⟩
        | succ j =>
          rw [List.getElem?_cons_succ] at hg
          by_cases hj : j < ds.length
          · rw [List.getElem?_append_left (by simpa using hj), List.getElem?_map] at hg
            cases e : ds[j]? with
            | none => rw [e] at hg; cases hg
            | some z => rw [e] at hg; exact .inr (.inl ⟨z, j, rfl, e, by simpa using hg.symm⟩)
          · rw [List.getElem?_append_right (by simpa using hj), List.getElem?_replicate] at hg
            refine .inr (.inr ?_)
            unfold L2.start
            rw [List.getElem?_append_right (by simp; omega), List.getElem?_replicate]
            simp only [List.length_map, List.length_cons] at hg ⊢
            rw [hlen]
            split at hg
            · cases hg
              refine ⟨rfl, ?_⟩
              rw [if_pos (by omega)]
            · cases hg
      refine ⟨⟨fun b o h _ _ => ?_, fun b h => ?_⟩, fun i g hg => ?_, fun i w es a hg ho => ?_, fun i j w u es fs a hne h1 h2 h3 => ?_, fun a m => ?_, fun a m => ?_, t, pm, rfl⟩
      · by_cases z : b = x
        · have h : hid x H b = some o := h
          rw [z, hid_same] at h; cases h
        · have h : hid x H b = some o := h
          rw [hid_ne z] at h; exact h
      · show hid x H b = none
        unfold hid; split
        · rfl
        · exact h
      · rcases key i g hg with ⟨rfl, rfl⟩ | ⟨z, j, rfl, e, rfl⟩ | ⟨rfl, e⟩
        · exact ⟨_, rfl, x, [], rfl, List.mem_cons_self, hx, .nil, rfl, rfl⟩
        · obtain ⟨v, e1, e2⟩ := r.get e
          refine ⟨some v, ?_, v, rfl, e2⟩
          unfold L2.start
          have hj := (List.getElem?_eq_some_iff.mp e1).1
          rw [List.getElem?_append_left (by simp; exact hj), List.getElem?_map, List.getElem?_cons_succ, e1]; rfl
        · exact ⟨none, e, trivial⟩
      · rcases key i _ hg with ⟨rfl, z⟩ | ⟨z, j, rfl, e, z2⟩ | ⟨z, e⟩
        · have e : (L2.start N (.ref x :: ws))[0]? = some (some (.ref x)) := rfl
          rw [e] at ho; cases ho; exact List.mem_cons_self
        · cases z2
        · cases z
      · rcases key i _ h1 with ⟨rfl, z⟩ | ⟨z, j, rfl, e, z2⟩ | ⟨z, e⟩
        · rcases key j _ h2 with ⟨rfl, z⟩ | ⟨z, j, rfl, e, z2⟩ | ⟨z, e⟩
          · exact absurd rfl hne
          · cases z2
          · cases z
        · cases z2
        · cases z
      · rcases List.mem_cons.mp m with rfl | m
        · exact ⟨hid_same, nx⟩
        · cases m
      · rcases List.mem_cons.mp m with rfl | m
        · exact ⟨_, hx⟩
        · exact tr a m
    refine ⟨_, pss_wb, body cdv A outer sh H EX S0 p x dx hr [x] (L2.start N (.ref x :: ws)) H f0 _ ⟨fun O σ H' ρ t' f st h => ?_, fun v H' r' t' rv xp ta h => h.elim, fun O σ H' ρ t' f st h => h.elim, fun O σ H' ρ t' f st h => h.elim, fun O σ H' ρ t' cls dd x f st a h => h.elim⟩⟩
    obtain ⟨h0, rfl⟩ := h
    obtain ⟨o, ho, a, us, eo, m, h1, r1, ft⟩ := f.slot 0 _ h0
    obtain ⟨e1, e2⟩ := ft
    subst e1
    have w : ∀ b ∈ x :: S0, b ∈ O ++ S0 := fun b m2 => by
      rcases List.mem_cons.mp m2 with rfl | m2
      · exact m
      · exact List.mem_append_right _ m2
    exact q2 H' us h1 (by rw [r1.length]; exact e2) (r1.weak w) (f.ext.kind kd.symm) (f.st.less (fun z => List.mem_cons_of_mem _ (f.pm z)) w)
end Gh
set_option Elab.async false
set_option linter.all false
set_option maxRecDepth 100000
set_option maxHeartbeats 4000000
/-! a stream within a body that goes on to own its other lists -/
namespace Gh
open PySem PySem.Spec PyProof.Rows L2
def gK2 : G → G
  | .val d => match d.lone with
    | true => .val d
    | false => .no
  | .ow w ds => match D.lones ds with
    | true => .ow w ds
    | false => .no
  | .no => .no
abbrev Fx.strm2 (F : Fx) (a : Addr) (O : List Addr) (H : Hp) : Fx := ⟨F.X, fun b => if b ∈ O ∧ b ≠ a then none else H b, a :: F.S0, a, true, F.T⟩
abbrev GE.in2 (k : GE) (s : Sx) : GE := { nx := fun ρ2 _ => k.nx (ρ2.map gK2) s, rt := fun d _ => d.lone = true ∧ k.rt d s, bk := fun ρ2 _ => k.bk (ρ2.map gK2) s, ct := fun ρ2 _ => k.ct (ρ2.map gK2) s, xc := fun x ρ2 _ => x.d.lone = true ∧ k.xc x (ρ2.map gK2) s }
section
variable {F : Fx} {ρ : List G} {sts : List Stmt} {k : GE} {s : Sx} {O : List Addr} {σ : L2.St} {H : Hp} {a : Addr}
theorem slot_k2 {K : PySem.W.Frag} {p q : Addr} {S S' : List Addr} {H : Hp} {o : Option V} {g : G} (h : Slot K p S H o g) (w : ∀ a ∈ S', a ∈ S) (ow : ∀ u ds b, g = .ow u ds → o = some (.ref b) → b ∈ S') : Slot K q S' H o (gK2 g) := by
  cases g with
  | no => trivial
  | ow u ds =>
    simp only [gK2]
    cases z : D.lones ds with
    | true =>
      obtain ⟨b, vs, e, m, h1, r, ft⟩ := h
      exact ⟨b, vs, e, ow u ds b rfl e, h1, r.swap z w, ft⟩
    | false => trivial
  | val d =>
    simp only [gK2]
    cases z : d.lone with
    | true =>
      obtain ⟨v, e, r⟩ := h
      exact ⟨v, e, r.swap z w⟩
    | false => trivial
theorem gK2_ow {g : G} {w : Ow} {ds : List D} (h : gK2 g = .ow w ds) : g = .ow w ds := by
  cases g with
  | no => cases h
  | val d =>
    simp only [gK2] at h
    cases z : d.lone <;> rw [z] at h <;> cases h
  | ow u es =>
    simp only [gK2] at h
    cases z : D.lones es <;> rw [z] at h <;> first | exact h | cases h
theorem map_ow {i : Nat} {w : Ow} {ds : List D} (h : (ρ.map gK2)[i]? = some (.ow w ds)) : ρ[i]? = some (.ow w ds) := by
  rw [List.getElem?_map] at h
  cases e : ρ[i]? with
  | none => rw [e] at h; cases h
  | some g => rw [e] at h; rw [gK2_ow (Option.some.inj h)]
/-- a name is forgotten -/
theorem Fm.forget (f : Fm F O σ H ρ s) (i : Nat) : Fm F O σ H (ρ.set i .no) s := by
  have key : ∀ (j : Nat) (g : G), (ρ.set i .no)[j]? = some g → (g = .no ∧ j < ρ.length) ∨ ρ[j]? = some g := fun j g h => by
    by_cases e : i = j
    · subst e
      by_cases hl : i < ρ.length
      · rw [List.getElem?_set_self hl] at h; exact .inl ⟨(Option.some.inj h).symm, hl⟩
      · rw [List.getElem?_eq_none (by simpa using hl)] at h; cases h
    · rw [List.getElem?_set_ne e] at h; exact .inr h
  have own : ∀ (j : Nat) (w : Ow) (es : List D), (ρ.set i .no)[j]? = some (.ow w es) → ρ[j]? = some (.ow w es) := fun j w es h => by
    rcases key j _ h with ⟨z, _⟩ | h
    · cases z
    · exact h
  refine ⟨f.ext, fun j g hg => ?_, fun j w es a hg ha => f.own j w es a (own j w es hg) ha, fun j l w u es fs a hne h1 h2 h3 => f.dis j l w u es fs a hne (own j w es h1) (own l u fs h2) h3, f.fre, f.trk, f.st, f.pm, f.kd⟩
  rcases key j g hg with ⟨rfl, hl⟩ | h
  · have hx : ρ[j]? = some ρ[j] := List.getElem?_eq_getElem hl
    obtain ⟨o, ho, _⟩ := f.slot j _ hx
    exact ⟨o, ho, trivial⟩
  · exact f.slot j g h
theorem strm2_xt {z : Sx} {H2 : Hp} (ma : a ∈ O) (x : XP a z (F.strm2 a O H).H0 H2) : ∀ b o, b ∉ O ++ F.S0 → H b = some o → NT o → H2 b = some o := fun b o n e nt => by
  have hb : b ∉ O := fun m => n (List.mem_append_left _ m)
  refine x.1 b o ?_ (.inr fun zz => hb (zz ▸ ma)) nt
  show (if b ∈ O ∧ b ≠ a then none else H b) = some o
  rw [if_neg fun zz => hb zz.1]; exact e
theorem strm2_xp {z : Sx} {H2 : Hp} (f : Fm F O σ H ρ s) (ma : a ∈ O) (x : XP a z (F.strm2 a O H).H0 H2) : XP F.p s F.H0 H2 := by
  refine ⟨fun b o e n nt => ?_, fun b e => ?_⟩
  · have e1 := f.ext.1 b o e n nt
    have nO : b ∉ O := fun m => by rw [(f.fre b m).1] at e; cases e
    refine x.1 b o ?_ (.inr fun zz => nO (zz ▸ ma)) nt
    show (if b ∈ O ∧ b ≠ a then none else H b) = some o
    rw [if_neg fun zz => nO zz.1]; exact e1
  · have e1 := x.2 b e
    by_cases zz : b ∈ O ∧ b ≠ a
    · exact (f.fre b zz.1).1
    · have e2 : (if b ∈ O ∧ b ≠ a then none else H b) = none := e1
      rw [if_neg zz] at e2
      exact f.ext.2 b e2
theorem strm2_st {z : Sx} {H2 : Hp} {O2 : List Addr} (f : Fm F O σ H ρ s) (ma : a ∈ O) (x : XP a z (F.strm2 a O H).H0 H2) (t : LamX.Tabs F.T H2) (gr : ∀ b ∈ O2, b ∈ O ∨ H b = none) : F.Sa O2 H2 s := by
  have q := f.st
  have pm := f.pm
  cases s with
  | none => exact t
  | some ys =>
    obtain ⟨q1, q2, vs, q3, q4⟩ := q
    have np : F.p ≠ a := fun zz => (f.fre a ma).2 (zz ▸ pm rfl)
    have nO : F.p ∉ O := fun m => (f.fre _ m).2 (pm rfl)
    refine ⟨t, List.mem_append_right _ (pm rfl), vs, x.1 _ _ (by
      show (if F.p ∈ O ∧ F.p ≠ a then none else H F.p) = _
      rw [if_neg fun zz => nO zz.1]; exact q3) (.inr np) nt_lst, ?_⟩
    have r1 : Rps F.X.K F.p (O2 ++ F.S0) H vs ys := q4.to fun b m => by
      rcases List.mem_append.mp m with m | m
      · exact (gr b m).imp (fun m => List.mem_append_left _ m) id
      · exact .inl (List.mem_append_right _ m)
    have r2 : Rps F.X.K F.p (O ++ F.S0 ++ (O2 ++ F.S0)) H vs ys := q4.to fun b m => by
      rcases List.mem_append.mp m with m | m
      · exact .inl m
      · rcases List.mem_append.mp m with m | m
        · exact (gr b m).imp (fun m => List.mem_append_left _ m) id
        · exact .inl (List.mem_append_right _ m)
    have kp : ∀ b o, b ∉ O ++ F.S0 ++ (O2 ++ F.S0) → H b = some o → NT o → H2 b = some o := fun b o n e nt => strm2_xt ma x b o (fun m => n (List.mem_append_left _ m)) e nt
    have r3 : Rps F.X.K F.p (O ++ F.S0 ++ (O2 ++ F.S0)) H2 vs ys :=
      Rps.imp (fun c xs q => q.elim (fun ⟨n, r⟩ => .inl ⟨n, r.elim (fun r => .inl (kp _ _ n r nt_lst)) fun ⟨o, r⟩ => .inr ⟨o, kp _ _ n r nt_frz⟩⟩) .inr) (fun c xs q => q.elim (fun ⟨n, r⟩ => .inl ⟨n, r.elim (fun r => .inl (kp _ _ n r nt_tup)) fun ⟨o, r⟩ => .inr ⟨o, kp _ _ n r nt_frz⟩⟩) .inr)
        (fun b o n e nt => ⟨n, kp b o n e nt⟩) ys vs r2
    exact r3.weak fun b m => List.mem_append_right _ m
theorem Fm.enter2 {vs : List V} {xs : List D} {E : Ends} (f : Fm F O σ H ρ s) (ma : a ∈ O) (h1 : H a = some (.lst vs)) (r : Rps F.X.K F.p (O ++ F.S0) H vs xs) (hl : D.lones xs = true) (hn : ∀ (i : Nat) (w : Ow) (ds : List D), ρ[i]? = some (.ow w ds) → σ[i]? ≠ some (some (.ref a))) (q : k.ok F O H E) :
    Fm (F.strm2 a O H) (O.filter (· ≠ a)) σ H (ρ.map gK2) (some xs) ∧ (k.in2 s).ok (F.strm2 a O H) (O.filter (· ≠ a)) H E := by
  have sub : ∀ b ∈ O.filter (· ≠ a) ++ a :: F.S0, b ∈ O ++ F.S0 := fun b m => by
    rcases List.mem_append.mp m with m | m
    · exact List.mem_append_left _ (List.mem_filter.mp m).1
    · rcases List.mem_cons.mp m with rfl | m
      · exact List.mem_append_left _ ma
      · exact List.mem_append_right _ m
  have inO : ∀ b, b ∈ O.filter (· ≠ a) → b ∈ O ∧ b ≠ a := fun b m => by
    obtain ⟨m1, m2⟩ := List.mem_filter.mp m
    exact ⟨m1, by simpa using m2⟩
  refine ⟨⟨⟨fun b o h _ _ => ?_, fun b h => ?_⟩, fun i g hg => ?_, fun i w ds b h1 h2 => ?_, fun i j w u ds es b hne h1 h2 h3 => f.dis i j w u ds es b hne (map_ow h1) (map_ow h2) h3, fun b m => ⟨?_, ?_⟩, fun b m => f.trk b (sub b m), ⟨f.st.tab, List.mem_append_right _ List.mem_cons_self, vs, h1, r.swap hl sub⟩, fun _ => List.mem_cons_self, rfl⟩,
    ⟨fun O2 σ2 H2 ρ2 s2 f2 t2 n2 => ?_, fun v H2 d s2 r2 x2 t2 n2 => ?_, fun O2 σ2 H2 ρ2 s2 f2 t2 n2 => ?_, fun O2 σ2 H2 ρ2 s2 f2 t2 n2 => ?_, fun O2 σ2 H2 ρ2 s2 cls dd x f2 t2 a2 n2 => ?_⟩⟩
  · have h' : (if b ∈ O ∧ b ≠ a then none else H b) = some o := h
    split at h'
    · cases h'
    · exact h'
  · show (if b ∈ O ∧ b ≠ a then none else H b) = none
    split
    · rfl
    · exact h
  · rw [List.getElem?_map] at hg
    cases e : ρ[i]? with
    | none => rw [e] at hg; cases hg
    | some g0 =>
      rw [e] at hg
      cases hg
      obtain ⟨o, ho, sl⟩ := f.slot i g0 e
      refine ⟨o, ho, slot_k2 sl sub fun u ds b eg eo => ?_⟩
      subst eg; subst eo
      refine List.mem_append_left _ (List.mem_filter.mpr ⟨f.own i u ds b e ho, ?_⟩)
      have := hn i u ds e
      simp only [ne_eq, decide_not, Bool.not_eq_eq_eq_not, Bool.not_true, decide_eq_false_iff_not]
      intro zz; subst zz; exact this ho
  · refine List.mem_filter.mpr ⟨f.own i w ds b (map_ow h1) h2, ?_⟩
    have := hn i w ds (map_ow h1)
    simp only [ne_eq, decide_not, Bool.not_eq_eq_eq_not, Bool.not_true, decide_eq_false_iff_not]
    intro zz; subst zz; exact this h2
  · show (if b ∈ O ∧ b ≠ a then none else H b) = none
    rw [if_pos (inO b m)]
  · intro m2
    rcases List.mem_cons.mp m2 with rfl | m2
    · exact (inO _ m).2 rfl
    · exact (f.fre b (inO b m).1).2 m2
  all_goals
    have back : ∀ (O2 : List Addr) (σ2 : L2.St) (H2 : Hp) (ρ2 : List G) (s2 : Sx), Fm (F.strm2 a O H) O2 σ2 H2 ρ2 s2 → Step (F.strm2 a O H) (O.filter (· ≠ a)) H O2 H2 → Fm F O2 σ2 H2 (ρ2.map gK2) s ∧ Step F O H O2 H2 := by
      intro O2 σ2 H2 ρ2 s2 g st
      have gr : ∀ b ∈ O2, b ∈ O ∨ H b = none := fun b m => (st.gr b m).imp (fun m => (inO b m).1) id
      refine ⟨⟨strm2_xp f ma g.ext, fun i gg hg => ?_, fun i w ds b h1 h2 => g.own i w ds b (map_ow h1) h2, fun i j w u ds es b hne h1 h2 h3 => g.dis i j w u ds es b hne (map_ow h1) (map_ow h2) h3, fun b m => ⟨?_, fun m2 => (g.fre b m).2 (List.mem_cons_of_mem _ m2)⟩, fun b m => ?_, strm2_st f ma g.ext g.st.tab gr, f.pm, f.kd⟩, ⟨⟨fun b o n e nt => st.xt.1 b o (fun m => n (sub b m)) e nt, st.xt.2⟩, gr⟩⟩
      · rw [List.getElem?_map] at hg
        cases e : ρ2[i]? with
        | none => rw [e] at hg; cases hg
        | some g0 =>
          rw [e] at hg
          cases hg
          obtain ⟨o, ho, sl⟩ := g.slot i g0 e
          refine ⟨o, ho, slot_k2 sl (fun b m => ?_) fun u ds b eg eo => ?_⟩
          · rcases List.mem_append.mp m with m | m
            · exact List.mem_append_left _ m
            · exact List.mem_append_right _ (List.mem_cons_of_mem _ m)
          · subst eg; subst eo
            exact List.mem_append_left _ (g.own i u ds b e ho)
      · have e1 := (g.fre b m).1
        by_cases zz : b ∈ O ∧ b ≠ a
        · exact (f.fre b zz.1).1
        · have e2 : (if b ∈ O ∧ b ≠ a then none else H b) = none := e1
          rw [if_neg zz] at e2
          exact f.ext.2 b e2
      · rcases List.mem_append.mp m with m | m
        · exact g.trk b (List.mem_append_left _ m)
        · exact g.trk b (List.mem_append_right _ (List.mem_cons_of_mem _ m))
  · obtain ⟨g1, g2⟩ := back O2 σ2 H2 ρ2 s2 f2 t2
    exact q.nx O2 σ2 H2 _ s g1 g2 n2
  · exact q.rt v H2 d s (r2.swap n2.1 fun b m => List.mem_cons_of_mem _ m) (strm2_xp f ma x2) (strm2_st f ma x2 t2.tab fun b m => nomatch m) n2.2
  · obtain ⟨g1, g2⟩ := back O2 σ2 H2 ρ2 s2 f2 t2
    exact q.bk O2 σ2 H2 _ s g1 g2 n2
  · obtain ⟨g1, g2⟩ := back O2 σ2 H2 ρ2 s2 f2 t2
    exact q.ct O2 σ2 H2 _ s g1 g2 n2
  · obtain ⟨g1, g2⟩ := back O2 σ2 H2 ρ2 s2 f2 t2
    obtain ⟨C, fs, v, e1, e2, e3, e4, e5⟩ := a2
    refine q.xc O2 σ2 H2 _ s cls dd x g1 g2 ⟨C, fs, v, e1, e2, e3, e4, e5.swap n2.1 fun b m => ?_⟩ n2.2
    rcases List.mem_append.mp m with m | m
    · exact List.mem_append_left _ m
    · exact List.mem_append_right _ (List.mem_cons_of_mem _ m)
/-- an owned list is the stream from there on -/
theorem bk_stream2 (i : Nat) {xs : List D} (hρ : ρ[i]? = some (.own xs)) (hl0 : D.lones xs = true)
    (h : ∀ a O H, Bk (F.strm2 a O H) sts (((ρ.set i .no).map gK2).set i (.val .mut)) (some xs) (k.in2 s)) : Bk F sts ρ s k := by
  intro O σ H f E q
  obtain ⟨o, ho, a, vs, eo, m, h1, r, _⟩ := f.slot i _ hρ
  subst eo
  have ma := f.own i _ _ a hρ ho
  obtain ⟨g1, g2⟩ := (f.forget i).enter2 ma h1 r hl0 (fun j w ds hj hj2 => by
    by_cases e : i = j
    · subst e
      by_cases hl : i < ρ.length
      · rw [List.getElem?_set_self hl] at hj; cases hj
      · rw [List.getElem?_eq_none (by simpa using hl)] at hj; cases hj
    · rw [List.getElem?_set_ne e] at hj
      exact f.dis i j _ w _ ds a e hρ hj ho hj2) q
  have g3 := g1.set (i := i) (v := .ref a) .mut
  have e9 : σ.set i (some (.ref a)) = σ := by
    obtain ⟨hlt, hh⟩ := List.getElem?_eq_some_iff.mp ho
    rw [← hh]; exact List.set_getElem_self hlt
  rw [e9] at g3
  exact h a O H _ σ H g3 E g2
end
end Gh
set_option Elab.async false
set_option linter.all false
set_option maxRecDepth 100000
/-! equality of told data -/
namespace Gh
open PySem PySem.Spec PyProof.Rows L2
/-- what == asks, with the depth -/
def eqD (n : Nat) (x : D) : Prop := x.pure = true ∧ x.py.canLay0 = true ∧ x.py.depth ≤ n
def eqDs (n : Nat) (xs : List D) : Prop := D.pures xs = true ∧ PyData.canLayAll0 (D.pys xs) = true ∧ PyData.depthAll (D.pys xs) ≤ n
theorem eqD.eqC {n : Nat} {x : D} (h : eqD n x) (hn : n ≤ 64 := by decide) : x.eqC := ⟨h.1, by unfold SeqAt.shaped; rw [h.2.1, decide_eq_true (Nat.le_trans h.2.2 hn)]; rfl⟩
theorem eqDs.nil {n : Nat} : eqDs n [] := ⟨by unfold D.pures; rfl, by simp [D.pys, PyData.canLayAll0], by simp [D.pys, PyData.depthAll]⟩
theorem eqDs.cons {n : Nat} {x : D} {xs : List D} (h : eqD n x) (hs : eqDs n xs) : eqDs n (x :: xs) := by
  refine ⟨by unfold D.pures; rw [h.1, hs.1]; rfl, ?_, ?_⟩
  · unfold D.pys PyData.canLayAll0; rw [h.2.1, hs.2.1]; rfl
  · unfold D.pys PyData.depthAll; exact Nat.max_le.mpr ⟨h.2.2, hs.2.2⟩
theorem eqDs.of {n : Nat} {xs : List D} (h : ∀ x ∈ xs, eqD n x) : eqDs n xs := by
  induction xs with
  | nil => exact .nil
  | cons x xs ih => exact .cons (h x List.mem_cons_self) (ih fun y m => h y (List.mem_cons_of_mem _ m))
theorem eqDs.tup {n : Nat} {xs : List D} (h : eqDs n xs) : eqD (n + 1) (.tup xs) := ⟨by unfold D.pure; exact h.1, by unfold D.py PyData.canLay0; exact h.2.1, by unfold D.py PyData.depth; exact Nat.succ_le_succ h.2.2⟩
theorem eqDs.lst {n : Nat} {xs : List D} (h : eqDs n xs) : eqD (n + 1) (.lst xs) := ⟨by unfold D.pure; exact h.1, by unfold D.py PyData.canLay0; exact h.2.1, by unfold D.py PyData.depth; exact Nat.succ_le_succ h.2.2⟩
theorem eqD.int {n : Nat} (i : Int) : eqD n (.int i) := ⟨by unfold D.pure; rfl, by simp [D.py, PyData.canLay0], by simp [D.py, PyData.depth]⟩
theorem eqD.bl {n : Nat} (i : Bool) : eqD n (.bl i) := ⟨by unfold D.pure; rfl, by simp [D.py, PyData.canLay0], by simp [D.py, PyData.depth]⟩
theorem eqD.non {n : Nat} : eqD n .non := ⟨by unfold D.pure; rfl, by simp [D.py, PyData.canLay0], by simp [D.py, PyData.depth]⟩
theorem eqD.str {n : Nat} {i : Str} (h : PyData.strOk i = true := by decide +kernel) : eqD n (.str i) := ⟨by unfold D.pure; rfl, by simp [D.py, PyData.canLay0, h], by simp [D.py, PyData.depth]⟩
theorem eqD.mono {m n : Nat} {x : D} (h : eqD m x) (l : m ≤ n) : eqD n x := ⟨h.1, h.2.1, Nat.le_trans h.2.2 l⟩
theorem eqD.fr (q : Rat) : eqD 1 (fr q) := (eqDs.cons (.int _) (.cons (.int _) .nil)).tup
theorem eqD.fm (a b : Rat) : eqD 2 (fm a b) := (eqDs.cons (.fr _) (.cons (.fr _) .nil)).tup
theorem eqD.frs (qs : List Rat) : eqDs 1 (qs.map Gh.fr) := .of fun x m => by
  obtain ⟨q, _, rfl⟩ := List.mem_map.mp m
  exact .fr q
def eqbs : List D → List D → Bool
  | [], [] => true
  | x :: xs, y :: ys => x.eqb y && eqbs xs ys
  | _, _ => false
theorem eqvAll_eqbs : ∀ xs ys : List D, PyData.eqvAll (D.pys xs) (D.pys ys) = eqbs xs ys
  | [], [] => by simp [D.pys, PyData.eqvAll, eqbs]
  | [], _ :: _ => by simp [D.pys, PyData.eqvAll, eqbs]
  | _ :: _, [] => by simp [D.pys, PyData.eqvAll, eqbs]
  | x :: xs, y :: ys => by unfold D.pys PyData.eqvAll eqbs; rw [eqvAll_eqbs xs ys]; rfl
theorem tup_eqb (xs ys : List D) : (D.tup xs).eqb (.tup ys) = eqbs xs ys := by
  rw [← eqvAll_eqbs]; unfold D.eqb D.py PyData.eqv; rfl
theorem lst_eqb (xs ys : List D) : (D.lst xs).eqb (.lst ys) = eqbs xs ys := by
  rw [← eqvAll_eqbs]; unfold D.eqb D.py PyData.eqv; rfl
theorem frs_eqbs : ∀ qs ps : List Rat, eqbs (qs.map fr) (ps.map fr) = decide (qs = ps)
  | [], [] => rfl
  | [], _ :: _ => by simp [eqbs]
  | _ :: _, [] => by simp [eqbs]
  | q :: qs, p :: ps => by
    simp only [List.map_cons, eqbs]
    rw [fr_eqb, frs_eqbs qs ps]
    by_cases h : q = p <;> by_cases h2 : qs = ps <;> simp [h, h2]
theorem fm_str (a b : Rat) (w : Str) : (fm a b).eqb (.str w) = false := by
  simp [D.eqb, fm, D.py, PyData.eqv]
theorem tup_str (xs : List D) (w : Str) : (D.tup xs).eqb (.str w) = false := by
  simp [D.eqb, D.py, PyData.eqv]
theorem int_str (i : Int) (w : Str) : (D.int i).eqb (.str w) = false := by
  simp [D.eqb, D.py, PyData.eqv]
end Gh
set_option Elab.async false
set_option linter.all false
set_option maxRecDepth 100000
set_option maxHeartbeats 4000000
/-! From the head's facts to the ghost layer's. -/
namespace Gh
open PySem PySem.Spec PyProof.Rows L2
theorem fun_of {K : PySem.W.Frag} {x q : Str} {st : Stmt} {f : Addr} {fd : FuncData} (F : FunD K x q (defArgs st) (defBody st) (defScope st) [] [] f fd) : Fun K x q st f fd := by
  obtain ⟨oc, od, dV, kV, doc, pm, an, cdv, ct, osl, rfl, lk, hcd, hD, hK⟩ := F.ex
  rcases hD with ⟨_, rfl⟩ | ⟨e, _⟩
  · exact ⟨⟨oc, od, kV, doc, pm, an, cdv, ct, osl, rfl, lk, hcd⟩, F.kp⟩
  · exact absurd rfl e
/-- a def's datum -/
abbrev dd (x : Str) (st : Stmt) : He.DefD := ⟨(x, none), x, x, defArgs st, defBody st, defScope st, [], []⟩
theorem df_of {E : En} {st : Stmt} {x : Str} {ps : List Str} {h : Heap} (X : E.K.In h) (G : h.Ns mainGlobals E.mg) (hd : ∃ fd, FunD E.K x x (defArgs st) (defBody st) (defScope st) [] [] (He.fAd E.K (x, none)) fd) (hf : (He.Fa.glo x).ok E.K = true)
    (hb : ∀ (kV doc pm : Value) (an : Option Addr) (cdv ct : Value) (us : List Value), us.length = ps.length → bindArgs (PySem.W.fnOf x x (defArgs st) (defBody st) (defScope st) .none kV doc pm an cdv ct) ⟨us, []⟩ = pure (ps.zip us)) : Df E st x ps := by
  obtain ⟨fd, F⟩ := hd
  exact ⟨_, fd, fun_of F, He.glo_ok X G hf, F.bindsN hb⟩
theorem cst_tup {E : En} {x : Str} {h : Heap} {vs : List He.Dv} {ds : List D} (X : E.K.In h) (G : h.Ns mainGlobals E.mg) (hf : (He.Fa.glo x).ok E.K = true) (ht : He.tupB E.K x vs = true)
    (hr : ∀ p S H, Rps E.K p S H (vs.map (He.Dv.v E.K)) ds) : Cst E x (.tup ds) :=
  ⟨.ref (He.ga E.K x), _, He.glo_ok X G hf, rfl, fun p S H => .tup (.inr (He.tupB_ok ht _)) (hr p S H)⟩
theorem cst_str {E : En} {x z : Str} {h : Heap} (X : E.K.In h) (G : h.Ns mainGlobals E.mg) (hf : (He.Fa.str x z).ok E.K = true) : Cst E x (.str z) := by
  obtain ⟨t, e⟩ := He.str_ok X G hf
  exact ⟨.str z, _, e, ⟨t, rfl⟩, fun _ _ _ => .str z⟩
theorem cst_int {E : En} {x : Str} {i : Int} {h : Heap} (X : E.K.In h) (G : h.Ns mainGlobals E.mg) (hf : (He.Fa.int x i).ok E.K = true) : Cst E x (.int i) := by
  obtain ⟨t, e⟩ := He.int_ok X G hf
  exact ⟨.int i, _, e, ⟨t, rfl⟩, fun _ _ _ => .int i⟩
/-- the law's body, for one script -/
def LawBody (E : En) (N : List Str) (st : Stmt) (k : Nat) (ns : List Int) : Prop := ∀ (fa : Addr) (cdv : Value) (A : Around) (outer : List Env) (sh : Shared) (H0 : Hp) (EX : XK) (S0 : List Addr) (p : Addr), Room k (bodyF E N "law" st none fa cdv A outer sh H0 EX S0 p).X.A →
  Bk (bodyF E N "law" st none fa cdv A outer sh H0 EX S0 p) (defBody st) (gStart N [.scr ns]) none { nx := fun _ t => D.bl true = .non ∧ t = none, rt := fun r t => r = D.bl true ∧ t = none }
def spLaw (K : PySem.W.Frag) (T : Ts := []) : Sp := fun vs H Q EX => ∃ ns : List Int, ns.length ≤ 63 ∧ spOf K T [.scr ns] none (.bl true) none vs H Q EX
theorem law_ok {E : En} {st : Stmt} {fa : Addr} {fd : FuncData} {N : List Str} {k : Nat} (T : Fun E.K "law" "law" st fa fd) {x : Str} (S : FnScope N [x] (defScope st)) (body : ∀ ns : List Int, ns.length ≤ 63 → LawBody E N st k ns) :
    FnOk E.P E.w E.K E.mg E.base CX0 (k + 1) fa fd [x] (spLaw E.K E.T) := by
  refine T.ok S (fun vs H Q EX h => ?_) fun cdv A outer sh H vs Q EX hr h => ?_
  · obtain ⟨ns, _, p, S, r, _⟩ := h
    rw [r.length]; rfl
  · obtain ⟨ns, hl, p, S0, r, tr, t, q⟩ := h
    refine ⟨_, pss_wb, body ns hl fa cdv A outer sh H EX S0 p hr [] (L2.start N vs) H (fm_start (F := bodyF E N "law" st none fa cdv A outer sh H EX S0 p) r tr t rfl) _ ⟨fun O σ H' ρ t' f st h => ?_, fun v H' r' t' rv xp ta h => ?_, fun O σ H' ρ t' f st h => h.elim, fun O σ H' ρ t' f st h => h.elim, fun O σ H' ρ t' cls dd x f st a h => h.elim⟩⟩
    · cases h.1
    · obtain ⟨rfl, rfl⟩ := h
      exact q v H' rv xp ta
theorem law_in {K : PySem.W.Frag} {H : Hp} {a : Addr} {ns : List Int} {T : Ts} (hl : ns.length ≤ 63) (h : SqL K H a (ns.map V.int)) (hT : LamX.Tabs T H := by exact fun _ m => nomatch m) : spLaw K T [.ref a] H (fun v _ => v = .bl true) fun _ _ _ => False := by
  refine ⟨ns, hl, 0, [], .cons (.scr ?_) .nil, fun a m => absurd m (by simp), hT, fun v H' r _ _ => by cases r; rfl⟩
  rcases h with h | h
  · exact .inl ⟨by simp, h⟩
  · exact .inr (.inr h)
end Gh
set_option Elab.async false
set_option linter.all false
set_option maxRecDepth 100000
set_option maxHeartbeats 4000000
namespace Law
open PySem PySem.Spec PyProof.Rows L2 Gh
abbrev t_is_list : Stmt := top 4
theorem sc_is_list : FnScope ["thing"] ["thing"] (defScope t_is_list) := ⟨rfl, rfl, rfl, by decide +kernel, rfl, by decide +kernel, by decide +kernel⟩
abbrev t_is_whole : Stmt := top 5
theorem sc_is_whole : FnScope ["thing"] ["thing"] (defScope t_is_whole) := ⟨rfl, rfl, rfl, by decide +kernel, rfl, by decide +kernel, by decide +kernel⟩
abbrev t_is_natural : Stmt := top 6
theorem sc_is_natural : FnScope ["thing"] ["thing"] (defScope t_is_natural) := ⟨rfl, rfl, rfl, by decide +kernel, rfl, by decide +kernel, by decide +kernel⟩
abbrev t_is_word : Stmt := top 7
theorem sc_is_word : FnScope ["thing", "sign"] ["thing"] (defScope t_is_word) := ⟨rfl, rfl, rfl, by decide +kernel, rfl, by decide +kernel, by decide +kernel⟩
abbrev t_lowest : Stmt := top 8
theorem sc_lowest : FnScope ["top", "bottom", "one", "two"] ["top", "bottom"] (defScope t_lowest) := ⟨rfl, rfl, rfl, by decide +kernel, rfl, by decide +kernel, by decide +kernel⟩
abbrev t_is_frac : Stmt := top 9
theorem sc_is_frac : FnScope ["thing"] ["thing"] (defScope t_is_frac) := ⟨rfl, rfl, rfl, by decide +kernel, rfl, by decide +kernel, by decide +kernel⟩
abbrev t_frac_of : Stmt := top 10
theorem sc_frac_of : FnScope ["thing"] ["thing"] (defScope t_frac_of) := ⟨rfl, rfl, rfl, by decide +kernel, rfl, by decide +kernel, by decide +kernel⟩
abbrev t_is_width : Stmt := top 11
theorem sc_is_width : FnScope ["thing"] ["thing"] (defScope t_is_width) := ⟨rfl, rfl, rfl, by decide +kernel, rfl, by decide +kernel, by decide +kernel⟩
abbrev t_plus : Stmt := top 12
theorem sc_plus : FnScope ["one", "two"] ["one", "two"] (defScope t_plus) := ⟨rfl, rfl, rfl, by decide +kernel, rfl, by decide +kernel, by decide +kernel⟩
abbrev t_minus : Stmt := top 13
theorem sc_minus : FnScope ["one", "two"] ["one", "two"] (defScope t_minus) := ⟨rfl, rfl, rfl, by decide +kernel, rfl, by decide +kernel, by decide +kernel⟩
abbrev t_times : Stmt := top 14
theorem sc_times : FnScope ["one", "two"] ["one", "two"] (defScope t_times) := ⟨rfl, rfl, rfl, by decide +kernel, rfl, by decide +kernel, by decide +kernel⟩
abbrev t_over : Stmt := top 15
theorem sc_over : FnScope ["one", "two"] ["one", "two"] (defScope t_over) := ⟨rfl, rfl, rfl, by decide +kernel, rfl, by decide +kernel, by decide +kernel⟩
abbrev t_is_less : Stmt := top 16
theorem sc_is_less : FnScope ["one", "two"] ["one", "two"] (defScope t_is_less) := ⟨rfl, rfl, rfl, by decide +kernel, rfl, by decide +kernel, by decide +kernel⟩
abbrev t_is_upto : Stmt := top 17
theorem sc_is_upto : FnScope ["one", "two"] ["one", "two"] (defScope t_is_upto) := ⟨rfl, rfl, rfl, by decide +kernel, rfl, by decide +kernel, by decide +kernel⟩
abbrev t_least_of : Stmt := top 18
theorem sc_least_of : FnScope ["fractions", "found", "one"] ["fractions"] (defScope t_least_of) := ⟨rfl, rfl, rfl, by decide +kernel, rfl, by decide +kernel, by decide +kernel⟩
abbrev t_flat_form : Stmt := top 25
theorem sc_flat_form : FnScope ["fraction"] ["fraction"] (defScope t_flat_form) := ⟨rfl, rfl, rfl, by decide +kernel, rfl, by decide +kernel, by decide +kernel⟩
abbrev t_plus_form : Stmt := top 26
theorem sc_plus_form : FnScope ["one", "other"] ["one", "other"] (defScope t_plus_form) := ⟨rfl, rfl, rfl, by decide +kernel, rfl, by decide +kernel, by decide +kernel⟩
abbrev t_minus_form : Stmt := top 27
theorem sc_minus_form : FnScope ["one", "other"] ["one", "other"] (defScope t_minus_form) := ⟨rfl, rfl, rfl, by decide +kernel, rfl, by decide +kernel, by decide +kernel⟩
abbrev t_scaled_form : Stmt := top 28
theorem sc_scaled_form : FnScope ["form", "share"] ["form", "share"] (defScope t_scaled_form) := ⟨rfl, rfl, rfl, by decide +kernel, rfl, by decide +kernel, by decide +kernel⟩
abbrev t_plain_ask : Stmt := top 29
theorem sc_plain_ask : FnScope ["one", "other"] ["one", "other"] (defScope t_plain_ask) := ⟨rfl, rfl, rfl, by decide +kernel, rfl, by decide +kernel, by decide +kernel⟩
abbrev t_worth_at : Stmt := top 30
theorem sc_worth_at : FnScope ["form", "width"] ["form", "width"] (defScope t_worth_at) := ⟨rfl, rfl, rfl, by decide +kernel, rfl, by decide +kernel, by decide +kernel⟩
abbrev t_is_tagged : Stmt := top 34
theorem sc_is_tagged : FnScope ["thing", "tag"] ["thing", "tag"] (defScope t_is_tagged) := ⟨rfl, rfl, rfl, by decide +kernel, rfl, by decide +kernel, by decide +kernel⟩
abbrev t_is_length : Stmt := top 35
theorem sc_is_length : FnScope ["thing"] ["thing"] (defScope t_is_length) := ⟨rfl, rfl, rfl, by decide +kernel, rfl, by decide +kernel, by decide +kernel⟩
abbrev t_is_letter_sign : Stmt := top 36
theorem sc_is_letter_sign : FnScope ["thing"] ["thing"] (defScope t_is_letter_sign) := ⟨rfl, rfl, rfl, by decide +kernel, rfl, by decide +kernel, by decide +kernel⟩
abbrev t_is_spot : Stmt := top 37
theorem sc_is_spot : FnScope ["thing"] ["thing"] (defScope t_is_spot) := ⟨rfl, rfl, rfl, by decide +kernel, rfl, by decide +kernel, by decide +kernel⟩
abbrev t_is_told_word : Stmt := top 38
theorem sc_is_told_word : FnScope ["thing", "word"] ["thing", "word"] (defScope t_is_told_word) := ⟨rfl, rfl, rfl, by decide +kernel, rfl, by decide +kernel, by decide +kernel⟩
abbrev t_is_size : Stmt := top 39
theorem sc_is_size : FnScope ["thing"] ["thing"] (defScope t_is_size) := ⟨rfl, rfl, rfl, by decide +kernel, rfl, by decide +kernel, by decide +kernel⟩
abbrev t_is_plain_value : Stmt := top 40
theorem sc_is_plain_value : FnScope ["word", "value"] ["word", "value"] (defScope t_is_plain_value) := ⟨rfl, rfl, rfl, by decide +kernel, rfl, by decide +kernel, by decide +kernel⟩
abbrev t_checked_told : Stmt := top 46
theorem sc_checked_told : FnScope ["thing", "word", "value"] ["thing"] (defScope t_checked_told) := ⟨rfl, rfl, rfl, by decide +kernel, rfl, by decide +kernel, by decide +kernel⟩
abbrev t_length_form : Stmt := top 47
theorem sc_length_form : FnScope ["length", "room"] ["length", "room"] (defScope t_length_form) := ⟨rfl, rfl, rfl, by decide +kernel, rfl, by decide +kernel, by decide +kernel⟩
abbrev t_told_forms : Stmt := top 48
theorem sc_told_forms : FnScope ["told", "room", "length"] ["told", "room"] (defScope t_told_forms) := ⟨rfl, rfl, rfl, by decide +kernel, rfl, by decide +kernel, by decide +kernel⟩
abbrev t_held_form : Stmt := top 49
theorem sc_held_form : FnScope ["form", "least", "most", "ask", "found"] ["form", "least", "most", "ask"] (defScope t_held_form) := ⟨rfl, rfl, rfl, by decide +kernel, rfl, by decide +kernel, by decide +kernel⟩
abbrev t_margin_form : Stmt := top 50
theorem sc_margin_form : FnScope ["margin"] ["margin"] (defScope t_margin_form) := ⟨rfl, rfl, rfl, by decide +kernel, rfl, by decide +kernel, by decide +kernel⟩
abbrev t_across_forms : Stmt := top 51
theorem sc_across_forms : FnScope ["told", "room", "ask", "width", "least", "most", "mleft", "mright", "near", "far", "left", "rest", "free", "kept", "spare", "right"] ["told", "room", "ask"] (defScope t_across_forms) := ⟨rfl, rfl, rfl, by decide +kernel, rfl, by decide +kernel, by decide +kernel⟩
abbrev t_forms_in : Stmt := top 52
theorem sc_forms_in : FnScope ["told", "room", "ask"] ["told", "room", "ask"] (defScope t_forms_in) := ⟨rfl, rfl, rfl, by decide +kernel, rfl, by decide +kernel, by decide +kernel⟩
abbrev t_across_of : Stmt := top 53
theorem sc_across_of : FnScope ["told", "room", "held", "form"] ["told", "room"] (defScope t_across_of) := ⟨rfl, rfl, rfl, by decide +kernel, rfl, by decide +kernel, by decide +kernel⟩
abbrev t_pieces_of : Stmt := top 55
theorem sc_pieces_of : FnScope ["told", "found", "low", "behind", "forms", "high", "begin", "is_in"] ["told"] (defScope t_pieces_of) := ⟨rfl, rfl, rfl, by decide +kernel, rfl, by decide +kernel, by decide +kernel⟩
abbrev t_in_rooms : Stmt := top 56
theorem sc_in_rooms : FnScope ["told"] ["told"] (defScope t_in_rooms) := ⟨rfl, rfl, rfl, by decide +kernel, rfl, by decide +kernel, by decide +kernel⟩
abbrev t_fits_from : Stmt := top 57
theorem sc_fits_from : FnScope ["told", "low", "is_in", "high", "is_last", "forms", "start", "slope"] ["told"] (defScope t_fits_from) := ⟨rfl, rfl, rfl, by decide +kernel, rfl, by decide +kernel, by decide +kernel⟩
abbrev t_parted_from : Stmt := top 58
theorem sc_parted_from : FnScope ["told", "other", "mine", "theirs", "low", "one", "forms", "two", "others", "ends", "stretch"] ["told", "other"] (defScope t_parted_from) := ⟨rfl, rfl, rfl, by decide +kernel, rfl, by decide +kernel, by decide +kernel⟩
abbrev t__law_source : Stmt := top 60
theorem sc__law_source : FnScope ["_law_script", "_law_place", "_law_cell", "_law_seed", "_law_other"] ["_law_script", "_law_place"] (defScope t__law_source) := ⟨rfl, rfl, rfl, by decide +kernel, rfl, by decide +kernel, by decide +kernel⟩
abbrev t__law_draw : Stmt := top 61
theorem sc__law_draw : FnScope ["_law_draws", "_law_many", "_law_found", "_law_seed"] ["_law_draws", "_law_many"] (defScope t__law_draw) := ⟨rfl, rfl, rfl, by decide +kernel, rfl, by decide +kernel, by decide +kernel⟩
abbrev t__law_pick : Stmt := top 62
theorem sc__law_pick : FnScope ["_law_draws", "_law_some"] ["_law_draws", "_law_some"] (defScope t__law_pick) := ⟨rfl, rfl, rfl, by decide +kernel, rfl, by decide +kernel, by decide +kernel⟩
abbrev t__law_same : Stmt := top 63
theorem sc__law_same : FnScope ["_law_found", "_law_due", "_law_x", "_law_y"] ["_law_found", "_law_due"] (defScope t__law_same) := ⟨rfl, rfl, rfl, by decide +kernel, rfl, by decide +kernel, by decide +kernel⟩
abbrev t__law_lowest : Stmt := top 64
theorem sc__law_lowest : FnScope ["_law_top", "_law_bottom", "_law_one", "_law_other"] ["_law_top", "_law_bottom"] (defScope t__law_lowest) := ⟨rfl, rfl, rfl, by decide +kernel, rfl, by decide +kernel, by decide +kernel⟩
abbrev t__law_plus : Stmt := top 65
theorem sc__law_plus : FnScope ["_law_one", "_law_other"] ["_law_one", "_law_other"] (defScope t__law_plus) := ⟨rfl, rfl, rfl, by decide +kernel, rfl, by decide +kernel, by decide +kernel⟩
abbrev t__law_minus : Stmt := top 66
theorem sc__law_minus : FnScope ["_law_one", "_law_other"] ["_law_one", "_law_other"] (defScope t__law_minus) := ⟨rfl, rfl, rfl, by decide +kernel, rfl, by decide +kernel, by decide +kernel⟩
abbrev t__law_times : Stmt := top 67
theorem sc__law_times : FnScope ["_law_one", "_law_other"] ["_law_one", "_law_other"] (defScope t__law_times) := ⟨rfl, rfl, rfl, by decide +kernel, rfl, by decide +kernel, by decide +kernel⟩
abbrev t__law_over : Stmt := top 68
theorem sc__law_over : FnScope ["_law_one", "_law_other", "_law_sign"] ["_law_one", "_law_other"] (defScope t__law_over) := ⟨rfl, rfl, rfl, by decide +kernel, rfl, by decide +kernel, by decide +kernel⟩
abbrev t__law_less : Stmt := top 69
theorem sc__law_less : FnScope ["_law_one", "_law_other"] ["_law_one", "_law_other"] (defScope t__law_less) := ⟨rfl, rfl, rfl, by decide +kernel, rfl, by decide +kernel, by decide +kernel⟩
abbrev t__law_sorted : Stmt := top 70
theorem sc__law_sorted : FnScope ["_law_fractions", "_law_found", "_law_one", "_law_place", "_law_other"] ["_law_fractions"] (defScope t__law_sorted) := ⟨rfl, rfl, rfl, by decide +kernel, rfl, by decide +kernel, by decide +kernel⟩
abbrev t__law_length : Stmt := top 71
theorem sc__law_length : FnScope ["_law_draws", "_law_most"] ["_law_draws", "_law_most"] (defScope t__law_length) := ⟨rfl, rfl, rfl, by decide +kernel, rfl, by decide +kernel, by decide +kernel⟩
abbrev t__law_told : Stmt := top 72
theorem sc__law_told : FnScope ["_law_draws", "_law_width", "_law_least", "_law_most", "_law_margins", "_law_k", "_law_pads"] ["_law_draws"] (defScope t__law_told) := ⟨rfl, rfl, rfl, by decide +kernel, rfl, by decide +kernel, by decide +kernel⟩
abbrev t__law_handed_told : Stmt := top 73
theorem sc__law_handed_told : FnScope ["_law_draws", "_law_told_here", "_law_found", "_law_one"] ["_law_draws", "_law_told_here"] (defScope t__law_handed_told) := ⟨rfl, rfl, rfl, by decide +kernel, rfl, by decide +kernel, by decide +kernel⟩
abbrev t__law_worth : Stmt := top 74
theorem sc__law_worth : FnScope ["_law_length_here", "_law_room"] ["_law_length_here", "_law_room"] (defScope t__law_worth) := ⟨rfl, rfl, rfl, by decide +kernel, rfl, by decide +kernel, by decide +kernel⟩
abbrev t__law_held : Stmt := top 75
theorem sc__law_held : FnScope ["_law_number", "_law_least", "_law_most", "_law_found"] ["_law_number", "_law_least", "_law_most"] (defScope t__law_held) := ⟨rfl, rfl, rfl, by decide +kernel, rfl, by decide +kernel, by decide +kernel⟩
abbrev t__law_across : Stmt := top 76
theorem sc__law_across : FnScope ["_law_told_here", "_law_room", "_law_width", "_law_least", "_law_most", "_law_mleft", "_law_mright", "_law_pleft", "_law_pright", "_law_left", "_law_near_here", "_law_far", "_law_rest", "_law_kept", "_law_spare", "_law_right"] ["_law_told_here", "_law_room"] (defScope t__law_across) := ⟨rfl, rfl, rfl, by decide +kernel, rfl, by decide +kernel, by decide +kernel⟩
abbrev t__law_form : Stmt := top 77
theorem sc__law_form : FnScope ["_law_told_here", "_law_one", "_law_other", "_law_place", "_law_low", "_law_high", "_law_b"] ["_law_told_here", "_law_one", "_law_other", "_law_place"] (defScope t__law_form) := ⟨rfl, rfl, rfl, by decide +kernel, rfl, by decide +kernel, by decide +kernel⟩
abbrev t__law_corners : Stmt := top 78
theorem sc__law_corners : FnScope ["_law_told_here", "_law_width", "_law_least", "_law_most", "_law_mleft", "_law_mright", "_law_pleft", "_law_pright", "_law_zero", "_law_one", "_law_near_here", "_law_length_here", "_law_start", "_law_slope", "_law_forms", "_law_found", "_law_form_here", "_law_other", "_law_room"] ["_law_told_here"] (defScope t__law_corners) := ⟨rfl, rfl, rfl, by decide +kernel, rfl, by decide +kernel, by decide +kernel⟩
abbrev t__law_pieces : Stmt := top 79
theorem sc__law_pieces : FnScope ["_law_told_here", "_law_corners_here", "_law_found", "_law_k", "_law_low", "_law_high", "_law_far", "_law_one", "_law_other", "_law_forms", "_law_place"] ["_law_told_here"] (defScope t__law_pieces) := ⟨rfl, rfl, rfl, by decide +kernel, rfl, by decide +kernel, by decide +kernel⟩
abbrev t__law_fits : Stmt := top 80
theorem sc__law_fits : FnScope ["_law_told_here", "_law_found", "_law_pieces_here", "_law_low", "_law_is_in", "_law_high", "_law_is_last", "_law_forms", "_law_start", "_law_slope", "_law_here", "_law_there"] ["_law_told_here"] (defScope t__law_fits) := ⟨rfl, rfl, rfl, by decide +kernel, rfl, by decide +kernel, by decide +kernel⟩
abbrev t__law_near : Stmt := top 81
theorem sc__law_near : FnScope ["_law_draws", "_law_told_here", "_law_found", "_law_way", "_law_at"] ["_law_draws", "_law_told_here"] (defScope t__law_near) := ⟨rfl, rfl, rfl, by decide +kernel, rfl, by decide +kernel, by decide +kernel⟩
abbrev t__law_parted : Stmt := top 82
theorem sc__law_parted : FnScope ["_law_told_here", "_law_other", "_law_corners_here", "_law_piece", "_law_k", "_law_low", "_law_far", "_law_rooms", "_law_share", "_law_room"] ["_law_told_here", "_law_other"] (defScope t__law_parted) := ⟨rfl, rfl, rfl, by decide +kernel, rfl, by decide +kernel, by decide +kernel⟩
abbrev t_law : Stmt := top 83
theorem sc_law : FnScope ["_law_script", "_law_turn", "_law_draws", "_law_told_here", "_law_due", "_law_rooms", "_law_room", "_law_below", "_law_other", "_law_found"] ["_law_script"] (defScope t_law) := ⟨rfl, rfl, rfl, by decide +kernel, rfl, by decide +kernel, by decide +kernel⟩
abbrev t_Behind___init__ : Stmt := sub 54 0
theorem sc_Behind___init__ : FnScope ["self", "room"] ["self", "room"] (defScope t_Behind___init__) := ⟨rfl, rfl, rfl, by decide +kernel, rfl, by decide +kernel, by decide +kernel⟩
abbrev t_Behind_asked : Stmt := sub 54 1
theorem sc_Behind_asked : FnScope ["self", "one", "other", "slope", "corner", "here", "there"] ["self", "one", "other"] (defScope t_Behind_asked) := ⟨rfl, rfl, rfl, by decide +kernel, rfl, by decide +kernel, by decide +kernel⟩
/-- what the top has left: each def -/
structure Tx (E : En) : Prop where
  bf : Bf E.mg
  d_is_list : Df E t_is_list "is_list" ["thing"]
  d_is_whole : Df E t_is_whole "is_whole" ["thing"]
  d_is_natural : Df E t_is_natural "is_natural" ["thing"]
  d_is_word : Df E t_is_word "is_word" ["thing"]
  d_lowest : Df E t_lowest "lowest" ["top", "bottom"]
  d_is_frac : Df E t_is_frac "is_frac" ["thing"]
  d_frac_of : Df E t_frac_of "frac_of" ["thing"]
  d_is_width : Df E t_is_width "is_width" ["thing"]
  d_plus : Df E t_plus "plus" ["one", "two"]
  d_minus : Df E t_minus "minus" ["one", "two"]
  d_times : Df E t_times "times" ["one", "two"]
  d_over : Df E t_over "over" ["one", "two"]
  d_is_less : Df E t_is_less "is_less" ["one", "two"]
  d_is_upto : Df E t_is_upto "is_upto" ["one", "two"]
  d_least_of : Df E t_least_of "least_of" ["fractions"]
  d_flat_form : Df E t_flat_form "flat_form" ["fraction"]
  d_plus_form : Df E t_plus_form "plus_form" ["one", "other"]
  d_minus_form : Df E t_minus_form "minus_form" ["one", "other"]
  d_scaled_form : Df E t_scaled_form "scaled_form" ["form", "share"]
  d_plain_ask : Df E t_plain_ask "plain_ask" ["one", "other"]
  d_worth_at : Df E t_worth_at "worth_at" ["form", "width"]
  d_is_tagged : Df E t_is_tagged "is_tagged" ["thing", "tag"]
  d_is_length : Df E t_is_length "is_length" ["thing"]
  d_is_letter_sign : Df E t_is_letter_sign "is_letter_sign" ["thing"]
  d_is_spot : Df E t_is_spot "is_spot" ["thing"]
  d_is_told_word : Df E t_is_told_word "is_told_word" ["thing", "word"]
  d_is_size : Df E t_is_size "is_size" ["thing"]
  d_is_plain_value : Df E t_is_plain_value "is_plain_value" ["word", "value"]
  d_checked_told : Df E t_checked_told "checked_told" ["thing"]
  d_length_form : Df E t_length_form "length_form" ["length", "room"]
  d_told_forms : Df E t_told_forms "told_forms" ["told", "room"]
  d_held_form : Df E t_held_form "held_form" ["form", "least", "most", "ask"]
  d_margin_form : Df E t_margin_form "margin_form" ["margin"]
  d_across_forms : Df E t_across_forms "across_forms" ["told", "room", "ask"]
  d_forms_in : Df E t_forms_in "forms_in" ["told", "room", "ask"]
  d_across_of : Df E t_across_of "across_of" ["told", "room"]
  d_pieces_of : Df E t_pieces_of "pieces_of" ["told"]
  d_in_rooms : Df E t_in_rooms "in_rooms" ["told"]
  d_fits_from : Df E t_fits_from "fits_from" ["told"]
  d_parted_from : Df E t_parted_from "parted_from" ["told", "other"]
  d__law_source : Df E t__law_source "_law_source" ["_law_script", "_law_place"]
  d__law_draw : Df E t__law_draw "_law_draw" ["_law_draws", "_law_many"]
  d__law_pick : Df E t__law_pick "_law_pick" ["_law_draws", "_law_some"]
  d__law_same : Df E t__law_same "_law_same" ["_law_found", "_law_due"]
  d__law_lowest : Df E t__law_lowest "_law_lowest" ["_law_top", "_law_bottom"]
  d__law_plus : Df E t__law_plus "_law_plus" ["_law_one", "_law_other"]
  d__law_minus : Df E t__law_minus "_law_minus" ["_law_one", "_law_other"]
  d__law_times : Df E t__law_times "_law_times" ["_law_one", "_law_other"]
  d__law_over : Df E t__law_over "_law_over" ["_law_one", "_law_other"]
  d__law_less : Df E t__law_less "_law_less" ["_law_one", "_law_other"]
  d__law_sorted : Df E t__law_sorted "_law_sorted" ["_law_fractions"]
  d__law_length : Df E t__law_length "_law_length" ["_law_draws", "_law_most"]
  d__law_told : Df E t__law_told "_law_told" ["_law_draws"]
  d__law_handed_told : Df E t__law_handed_told "_law_handed_told" ["_law_draws", "_law_told_here"]
  d__law_worth : Df E t__law_worth "_law_worth" ["_law_length_here", "_law_room"]
  d__law_held : Df E t__law_held "_law_held" ["_law_number", "_law_least", "_law_most"]
  d__law_across : Df E t__law_across "_law_across" ["_law_told_here", "_law_room"]
  d__law_form : Df E t__law_form "_law_form" ["_law_told_here", "_law_one", "_law_other", "_law_place"]
  d__law_corners : Df E t__law_corners "_law_corners" ["_law_told_here"]
  d__law_pieces : Df E t__law_pieces "_law_pieces" ["_law_told_here"]
  d__law_fits : Df E t__law_fits "_law_fits" ["_law_told_here"]
  d__law_near : Df E t__law_near "_law_near" ["_law_draws", "_law_told_here"]
  d__law_parted : Df E t__law_parted "_law_parted" ["_law_told_here", "_law_other"]
  d_law : Df E t_law "law" ["_law_script"]

end Law
set_option Elab.async false
set_option linter.all false
set_option maxRecDepth 100000
set_option maxHeartbeats 4000000
namespace Law
open PySem PySem.Spec PyProof.Rows L2 Gh
variable {E : En} {s : Sx}
def isL : Kn → Bool := fun k => [Kn.list, .tuple].any (isK k)
def isW : Kn → Bool := fun k => isK k .int && !isK k .bool
theorem rn_is_list (T : Tx E) {x : D} {k : Kn} (hk : x.kind = some k) : Rn E 1 "is_list" [x] s (.bl (isL k)) s := by
  refine T.d_is_list.rn sc_is_list rfl rfl fun fa cdv A outer sh H0 EX S0 p hr => ?_
  conv => arg 2; whnf
  exact bk_cons (bs_ret (ed_isiT T.bf (ed_var 0 rfl (.inl rfl) rfl) hk (cns_cons (cn_list T.bf) (cns_cons (cn_tuple T.bf) cns_nil))) ⟨rfl, rfl⟩)
theorem rn_is_whole (T : Tx E) {x : D} {k : Kn} (hk : x.kind = some k) : Rn E 1 "is_whole" [x] s (.bl (isW k)) s := by
  refine T.d_is_whole.rn sc_is_whole rfl rfl fun fa cdv A outer sh H0 EX S0 p hr => ?_
  conv => arg 2; whnf
  exact bk_cons (bs_ret (ed_and (ed_isi T.bf (ed_var 0 rfl (.inl rfl) rfl) hk (cn_int T.bf)) fun _ => (ed_one (ed_not (ed_isi T.bf (ed_var 0 rfl (.inl rfl) rfl) hk (cn_bool T.bf))))) ⟨rfl, rfl⟩)
/-- an int from 0 on -/
def isN : D → Bool
  | .int i => decide (0 ≤ i)
  | _ => false
theorem isW_int {x : D} {k : Kn} (hk : x.kind = some k) : isW k = true → ∃ i, x = .int i := by
  cases x <;> cases hk <;> intro h <;> first | exact ⟨_, rfl⟩ | cases h
theorem rn_is_natural (T : Tx E) {x : D} {k : Kn} (hk : x.kind = some k) : Rn E 2 "is_natural" [x] s (.bl (isN x)) s := by
  refine T.d_is_natural.rn sc_is_natural rfl rfl fun fa cdv A outer sh H0 EX S0 p hr => ?_
  conv => arg 2; whnf
  refine bk_cons ?_
  cases e : isW k with
  | true =>
    obtain ⟨i, rfl⟩ := isW_int hk e
    refine bs_ret (ed_andT (ed_cl (ea_cons (ed_var 0 rfl (.inl rfl) rfl) ea_nil) (hr.mono (by decide)) ((rn_is_whole T hk).is (by rw [e]))) (ed_one (cp_ge (ed_var 0 rfl (.inl rfl) rfl) ed_int).ed)) ⟨rfl, rfl⟩
  | false =>
    have e2 : isN x = false := by cases x <;> cases hk <;> first | rfl | cases e
    refine bs_ret (ed_andF (ed_cl (ea_cons (ed_var 0 rfl (.inl rfl) rfl) ea_nil) (hr.mono (by decide)) ((rn_is_whole T hk).is (by rw [e])))) ⟨by rw [e2], rfl⟩
/-- the loop of Euclid, by the frames -/
theorem rn_lowestN (T : Tx E) {t : Int} {b : Nat} (hb : b ≠ 0) (hs : b < 2 ^ 8000) : Rn E 1 "lowest" [.int t, .int b] s (fr (mkRat t b)) s := by
  refine T.d_lowest.rn sc_lowest rfl rfl fun fa cdv A outer sh H0 EX S0 p hr => ?_
  conv => arg 2; whnf
  refine bk_cons (bs_par 2 3 rfl sc_lowest.nd rfl rfl (by decide) rfl rfl (ea_cons (ed_abs T.bf (ed_var 0 rfl (.inl rfl) rfl)) (ea_cons (ed_var 1 rfl (.inl rfl) rfl) ea_nil)) ?_)
  refine bk_cons (bs_while PassesOwn.never (fun ρ s' => s' = s ∧ ∃ x y : Nat, ρ = [.val (.int t), .val (.int b), .val (.int x), .val (.int y)] ∧ Nat.gcd x y = Nat.gcd t.natAbs b) (fun ρ _ => match ρ with | [_, _, _, .val (.int y)] => y.toNat | _ => 0) ⟨rfl, t.natAbs, b, rfl, rfl⟩ ?_)
  rintro ρ s' ⟨rfl, x, y, rfl, g⟩
  refine ⟨_, _, (cp_gt (ed_var 3 rfl (.inl rfl) rfl) ed_int).et, fun h => ?_, fun h => ?_⟩
  · have hy : (0 : Int) < y := of_decide_eq_true h
    refine bk_cons (bs_par 2 3 rfl sc_lowest.nd rfl rfl (by decide) rfl rfl (ea_cons (ed_var 3 rfl (.inl rfl) rfl) (ea_cons (ed_bin (ed_var 2 rfl (.inl rfl) rfl) (ed_var 3 rfl (.inl rfl) rfl) rfl hy) ea_nil)) (bk_nil ?_))
    refine ⟨⟨rfl, y, x % y, ?_, ?_⟩, ?_⟩
    · rfl
    · rw [← g]; exact (gcd_step x y (by omega)).symm
    · show ((x : Int) % (y : Int)).toNat < (y : Int).toNat
      have := Int.emod_lt_of_pos (x : Int) hy
      have := Int.emod_nonneg (x : Int) (by omega : (y : Int) ≠ 0)
      omega
  · have hy : y = 0 := by
      have h1 : ¬ ((0 : Int) < (y : Int)) := of_decide_eq_false h
      omega
    subst hy
    rw [Nat.gcd_zero_right] at g
    have hx : 0 < x := by
      rw [g]; exact Nat.gcd_pos_of_pos_right _ (by omega)
    have hx2 : x < 2 ^ 8000 := Nat.lt_of_le_of_lt (by rw [g]; exact Nat.gcd_le_right _ (by omega)) hs
    have hc : ∀ i : Int, CDivW i x := fun i => wide_div (by omega) (b := 8000) (by rw [Int.natAbs_natCast]; exact hx2) (by decide) (by decide)
    refine bk_cons (bs_ret (ed_tup (ea_cons (ed_bin (ed_var 0 rfl (.inl rfl) rfl) (ed_var 2 rfl (.inl rfl) rfl) rfl (hc t)) (ea_cons (ed_bin (ed_var 1 rfl (.inl rfl) rfl) (ed_var 2 rfl (.inl rfl) rfl) rfl (hc b)) ea_nil))) ⟨?_, rfl⟩)
    unfold fr
    rw [mk_num t b hb, mk_den t b hb, ← g]
theorem rn_lowest (T : Tx E) {t b : Int} (hb : 0 < b) (hs : b.natAbs < 2 ^ 8000) : Rn E 1 "lowest" [.int t, .int b] s (fr (mkRat t b.toNat)) s := by
  obtain ⟨n, rfl⟩ := Int.eq_ofNat_of_zero_le (Int.le_of_lt hb)
  exact rn_lowestN T (by omega) (by simpa using hs)
section
variable {a b : Rat}
theorem rn_plus (T : Tx E) (ha : Sz 3000 a) (hb : Sz 3000 b) : Rn E 2 "plus" [fr a, fr b] s (fr (a + b)) s := by
  refine T.d_plus.rn sc_plus rfl rfl fun fa cdv A outer sh H0 EX S0 p hr => ?_
  conv => arg 2; whnf
  refine bk_cons (bs_ret (ed_cl (ea_cons (ed_bin (ed_bin (ed_ix (ed_var 0 rfl (.inl rfl) rfl) ed_int rfl) (ed_ix (ed_var 1 rfl (.inl rfl) rfl) ed_int rfl) rfl (mulW ha.n hb.d)) (ed_bin (ed_ix (ed_var 1 rfl (.inl rfl) rfl) ed_int rfl) (ed_ix (ed_var 0 rfl (.inl rfl) rfl) ed_int rfl) rfl (mulW hb.n ha.d)) rfl trivial) (ea_cons (ed_bin (ed_ix (ed_var 0 rfl (.inl rfl) rfl) ed_int rfl) (ed_ix (ed_var 1 rfl (.inl rfl) rfl) ed_int rfl) rfl (mulW ha.d hb.d)) ea_nil)) (hr.mono (by decide)) (rn_lowest T (dd_pos a b) (dd_size ha hb))) ⟨?_, rfl⟩)
  rw [dd_nat, add_mk]
theorem rn_minus (T : Tx E) (ha : Sz 3000 a) (hb : Sz 3000 b) : Rn E 2 "minus" [fr a, fr b] s (fr (a - b)) s := by
  refine T.d_minus.rn sc_minus rfl rfl fun fa cdv A outer sh H0 EX S0 p hr => ?_
  conv => arg 2; whnf
  refine bk_cons (bs_ret (ed_cl (ea_cons (ed_bin (ed_bin (ed_ix (ed_var 0 rfl (.inl rfl) rfl) ed_int rfl) (ed_ix (ed_var 1 rfl (.inl rfl) rfl) ed_int rfl) rfl (mulW ha.n hb.d)) (ed_bin (ed_ix (ed_var 1 rfl (.inl rfl) rfl) ed_int rfl) (ed_ix (ed_var 0 rfl (.inl rfl) rfl) ed_int rfl) rfl (mulW hb.n ha.d)) rfl trivial) (ea_cons (ed_bin (ed_ix (ed_var 0 rfl (.inl rfl) rfl) ed_int rfl) (ed_ix (ed_var 1 rfl (.inl rfl) rfl) ed_int rfl) rfl (mulW ha.d hb.d)) ea_nil)) (hr.mono (by decide)) (rn_lowest T (dd_pos a b) (dd_size ha hb))) ⟨?_, rfl⟩)
  rw [dd_nat, sub_mk]
theorem rn_times (T : Tx E) (ha : Sz 3000 a) (hb : Sz 3000 b) : Rn E 2 "times" [fr a, fr b] s (fr (a * b)) s := by
  refine T.d_times.rn sc_times rfl rfl fun fa cdv A outer sh H0 EX S0 p hr => ?_
  conv => arg 2; whnf
  refine bk_cons (bs_ret (ed_cl (ea_cons (ed_bin (ed_ix (ed_var 0 rfl (.inl rfl) rfl) ed_int rfl) (ed_ix (ed_var 1 rfl (.inl rfl) rfl) ed_int rfl) rfl (mulW ha.n hb.n)) (ea_cons (ed_bin (ed_ix (ed_var 0 rfl (.inl rfl) rfl) ed_int rfl) (ed_ix (ed_var 1 rfl (.inl rfl) rfl) ed_int rfl) rfl (mulW ha.d hb.d)) ea_nil)) (hr.mono (by decide)) (rn_lowest T (dd_pos a b) (dd_size ha hb))) ⟨?_, rfl⟩)
  rw [dd_nat, mul_mk]
theorem rn_is_upto (T : Tx E) (ha : Sz 3000 a) (hb : Sz 3000 b) : Rn E 1 "is_upto" [fr a, fr b] s (.bl (decide (a ≤ b))) s := by
  refine T.d_is_upto.rn sc_is_upto rfl rfl fun fa cdv A outer sh H0 EX S0 p hr => ?_
  conv => arg 2; whnf
  refine bk_cons (bs_ret (Cp.ed (cp_le (ed_bin (ed_ix (ed_var 0 rfl (.inl rfl) rfl) ed_int rfl) (ed_ix (ed_var 1 rfl (.inl rfl) rfl) ed_int rfl) rfl (mulW ha.n hb.d)) (ed_bin (ed_ix (ed_var 1 rfl (.inl rfl) rfl) ed_int rfl) (ed_ix (ed_var 0 rfl (.inl rfl) rfl) ed_int rfl) rfl (mulW hb.n ha.d)))) ⟨?_, rfl⟩)
  exact congrArg D.bl (decide_eq_decide.mpr (Rat.le_iff a b).symm)
end
end Law
set_option Elab.async false
set_option linter.all false
set_option maxRecDepth 100000
set_option maxHeartbeats 4000000
namespace Law
open PySem PySem.Spec PyProof.Rows L2 Gh
variable {E : En} {s : Sx}
mutual
/-- plain data -/
def dat : D → Bool
  | .lst xs => dats xs
  | .tup xs => dats xs
  | .mut => false
  | .ref _ => false
  | .ty _ => false
  | .scr _ => false
  | .ins .. => false
  | .met .. => false
  | _ => true
def dats : List D → Bool
  | [] => true
  | x :: xs => dat x && dats xs
end
theorem dat_kind {x : D} (h : dat x = true) : ∃ k, x.kind = some k := by
  cases x <;> first | exact ⟨_, rfl⟩ | (unfold dat at h; cases h)
theorem dats_cons {x : D} {xs : List D} (h : dats (x :: xs) = true) : dat x = true ∧ dats xs = true := by
  unfold dats at h; exact Bool.and_eq_true_iff.mp h
theorem dats_mem {xs : List D} (h : dats xs = true) {x : D} (m : x ∈ xs) : dat x = true := by
  induction xs with
  | nil => cases m
  | cons y ys ih =>
    obtain ⟨h1, h2⟩ := dats_cons h
    rcases List.mem_cons.mp m with rfl | m
    · exact h1
    · exact ih h2 m
theorem dats_of {xs : List D} (h : ∀ x ∈ xs, dat x = true) : dats xs = true := by
  induction xs with
  | nil => unfold dats; rfl
  | cons y ys ih => unfold dats; rw [h y List.mem_cons_self, ih fun x m => h x (List.mem_cons_of_mem _ m)]; rfl
/-- its items, if it is a list or tuple -/
def items : D → Option (List D)
  | .lst xs => some xs
  | .tup xs => some xs
  | _ => none
theorem items_or {x : D} {xs : List D} (h : items x = some xs) : x = .lst xs ∨ x = .tup xs := by
  cases x <;> first | (cases h; exact .inl rfl) | (cases h; exact .inr rfl) | cases h
theorem items_dat {x : D} {xs : List D} (h : items x = some xs) (d : dat x = true) : dats xs = true := by
  cases x <;> first | (cases h; unfold dat at d; exact d) | cases h
theorem items_size {x : D} {xs : List D} (h : items x = some xs) : x.size = some xs.length := by
  cases x <;> first | (cases h; rfl) | cases h
theorem items_at {x : D} {xs : List D} (h : items x = some xs) (i : Int) : x.at i = atI xs i := by
  cases x <;> first | (cases h; rfl) | cases h
theorem isL_items {x : D} {k : Kn} (hk : x.kind = some k) (hd : dat x = true) : isL k = (items x).isSome := by
  cases x <;> first | (cases hk; rfl) | (unfold dat at hd; cases hd)
theorem isW_iff {x : D} {k : Kn} (hk : x.kind = some k) : isW k = (match x with | .int _ => true | _ => false) := by
  cases x <;> first | (cases hk; rfl) | cases hk
/-- a pair of ints, the second above 0 -/
def isFrL : List D → Bool
  | [.int _, .int b] => decide (0 < b)
  | _ => false
theorem isFrL_len {xs : List D} (h : ¬ xs.length = 2) : isFrL xs = false := by
  unfold isFrL
  split
  · exact absurd rfl h
  · rfl
def isFr (x : D) : Bool := match items x with
  | some xs => isFrL xs
  | none => false
theorem eqC_int (i : Int) : (D.int i).eqC := ⟨by unfold D.pure; rfl, by simp [D.py, SeqAt.shaped, PyData.canLay0, PyData.depth]⟩
theorem eqC_bl (b : Bool) : (D.bl b).eqC := ⟨by unfold D.pure; rfl, by simp [D.py, SeqAt.shaped, PyData.canLay0, PyData.depth]⟩
theorem eqC_non : D.non.eqC := ⟨by unfold D.pure; rfl, by simp [D.py, SeqAt.shaped, PyData.canLay0, PyData.depth]⟩
theorem eqb_int (i j : Int) : (D.int i).eqb (.int j) = decide (i = j) := by
  simp [D.eqb, D.py, PyData.eqv]
  rw [Bool.eq_iff_iff]; simp
theorem eqb_str (i j : Str) : (D.str i).eqb (.str j) = (i == j) := by simp [D.eqb, D.py, PyData.eqv]
theorem rn_is_frac (T : Tx E) {x : D} (hx : dat x = true) : Rn E 3 "is_frac" [x] s (.bl (isFr x)) s := by
  obtain ⟨k, hk⟩ := dat_kind hx
  refine T.d_is_frac.rn sc_is_frac rfl rfl fun fa cdv A outer sh H0 EX S0 p hr => ?_
  conv => arg 2; whnf
  refine bk_cons ?_
  have h1 := isL_items hk hx
  cases e : items x with
  | none =>
    rw [e] at h1
    refine bs_ret (ed_andF (ed_cl (ea_cons (ed_var 0 rfl (.inl rfl) rfl) ea_nil) (hr.mono (by decide)) ((rn_is_list T hk).is (by rw [h1]; rfl)))) ⟨by unfold isFr; rw [e], rfl⟩
  | some xs =>
    rw [e] at h1
    have hd := items_dat e hx
    have R1 : Rn E 1 "is_list" [x] s (.bl true) s := (rn_is_list T hk).is (by rw [h1]; rfl)
    by_cases hl : xs.length = 2
    · match xs, hl with
      | [u, v], _ =>
        obtain ⟨d1, d2⟩ := dats_cons hd
        obtain ⟨d2, _⟩ := dats_cons d2
        obtain ⟨k1, hk1⟩ := dat_kind d1
        obtain ⟨k2, hk2⟩ := dat_kind d2
        have i0 : x.at 0 = some u := by rw [items_at e]; rfl
        have i1 : x.at 1 = some v := by rw [items_at e]; rfl
        have w1 := isW_iff hk1
        have w2 := isW_iff hk2
        refine bs_ret (ed_andT (ed_cl (ea_cons (ed_var 0 rfl (.inl rfl) rfl) ea_nil) (hr.mono (by decide)) R1) (ed_andT ((Cp.ed (cp_eq hr (ed_len T.bf (ed_var 0 rfl (.inl rfl) rfl) (items_size e)) ed_int (eqC_int _) (eqC_int _))).is (y := .bl true) (by rw [eqb_int]; rfl)) ?_)) ⟨rfl, rfl⟩
        cases u with
        | int i =>
          refine ed_andT (ed_cl (ea_cons (ed_ix (ed_var 0 rfl (.inl rfl) rfl) ed_int i0) ea_nil) (hr.mono (by decide)) ((rn_is_whole T hk1).is (by rw [w1]))) ?_
          cases v with
          | int j => exact (ed_andT (ed_cl (ea_cons (ed_ix (ed_var 0 rfl (.inl rfl) rfl) ed_int i1) ea_nil) (hr.mono (by decide)) ((rn_is_whole T hk2).is (by rw [w2]))) (ed_one (Cp.ed (cp_gt (ed_ix (ed_var 0 rfl (.inl rfl) rfl) ed_int i1) ed_int)))).is (by unfold isFr; rw [e]; rfl)
          | _ => exact (ed_andF (ed_cl (ea_cons (ed_ix (ed_var 0 rfl (.inl rfl) rfl) ed_int i1) ea_nil) (hr.mono (by decide)) ((rn_is_whole T hk2).is (by rw [w2])))).is (by unfold isFr; rw [e]; rfl)
        | _ => exact (ed_andF (ed_cl (ea_cons (ed_ix (ed_var 0 rfl (.inl rfl) rfl) ed_int i0) ea_nil) (hr.mono (by decide)) ((rn_is_whole T hk1).is (by rw [w1])))).is (by unfold isFr; rw [e]; rfl)
    · refine bs_ret (ed_andT (ed_cl (ea_cons (ed_var 0 rfl (.inl rfl) rfl) ea_nil) (hr.mono (by decide)) R1) (ed_andF ((Cp.ed (cp_eq hr (ed_len T.bf (ed_var 0 rfl (.inl rfl) rfl) (items_size e)) ed_int (eqC_int _) (eqC_int _))).is (y := .bl false) (by rw [eqb_int]; exact congrArg D.bl (decide_eq_false (by omega)))))) ⟨?_, rfl⟩
      unfold isFr
      rw [e]
      exact congrArg D.bl (isFrL_len hl).symm
/-- the rational of a pair that is a fraction -/
def frq (x : D) : Rat := match items x with
  | some [.int t, .int b] => mkRat t b.toNat
  | _ => 0
theorem isFr_items {x : D} (h : isFr x = true) : ∃ t b, items x = some [.int t, .int b] ∧ 0 < b := by
  unfold isFr at h
  cases e : items x with
  | none => rw [e] at h; cases h
  | some xs =>
    rw [e] at h
    match xs, h with
    | [.int t, .int b], h => exact ⟨t, b, rfl, of_decide_eq_true h⟩
theorem rn_frac_of (T : Tx E) {x : D} (hx : isFr x = true) (hs : ∀ t b, items x = some [.int t, .int b] → b.natAbs < 2 ^ 8000) : Rn E 2 "frac_of" [x] s (fr (frq x)) s := by
  obtain ⟨t, b, e, hb⟩ := isFr_items hx
  refine T.d_frac_of.rn sc_frac_of rfl rfl fun fa cdv A outer sh H0 EX S0 p hr => ?_
  conv => arg 2; whnf
  have i0 : x.at 0 = some (.int t) := by rw [items_at e]; rfl
  have i1 : x.at 1 = some (.int b) := by rw [items_at e]; rfl
  refine bk_cons (bs_ret (ed_cl (ea_cons (ed_ix (ed_var 0 rfl (.inl rfl) rfl) ed_int i0) (ea_cons (ed_ix (ed_var 0 rfl (.inl rfl) rfl) ed_int i1) ea_nil)) (hr.mono (by decide)) (rn_lowest T hb (hs t b e))) ⟨?_, rfl⟩)
  unfold frq; rw [e]
/-- a fraction from 0 on -/
def topGe : D → Bool := fun x => match items x with
  | some (.int t :: _) => decide (0 ≤ t)
  | _ => false
def isWd (x : D) : Bool := isFr x && topGe x
theorem rn_is_width (T : Tx E) {x : D} (hx : dat x = true) : Rn E 4 "is_width" [x] s (.bl (isWd x)) s := by
  refine T.d_is_width.rn sc_is_width rfl rfl fun fa cdv A outer sh H0 EX S0 p hr => ?_
  conv => arg 2; whnf
  refine bk_cons ?_
  cases h : isFr x with
  | true =>
    obtain ⟨t, b, e, hb⟩ := isFr_items h
    have i0 : x.at 0 = some (.int t) := by rw [items_at e]; rfl
    refine bs_ret (ed_andT (ed_cl (ea_cons (ed_var 0 rfl (.inl rfl) rfl) ea_nil) (hr.mono (by decide)) ((rn_is_frac T hx).is (by rw [h]))) (ed_one (Cp.ed (cp_ge (ed_ix (ed_var 0 rfl (.inl rfl) rfl) ed_int i0) ed_int)))) ⟨?_, rfl⟩
    unfold isWd topGe
    rw [h, e]; rfl
  | false =>
    exact bs_ret (ed_andF (ed_cl (ea_cons (ed_var 0 rfl (.inl rfl) rfl) ea_nil) (hr.mono (by decide)) ((rn_is_frac T hx).is (by rw [h])))) ⟨by unfold isWd; rw [h]; rfl, rfl⟩
/-! forms -/
section
variable {a b c d : Rat}
theorem rn_plus_form (T : Tx E) (ha : Sz 3000 a) (hb : Sz 3000 b) (hc : Sz 3000 c) (hd : Sz 3000 d) : Rn E 3 "plus_form" [fm a b, fm c d] s (fm (a + c) (b + d)) s := by
  refine T.d_plus_form.rn sc_plus_form rfl rfl fun fa cdv A outer sh H0 EX S0 p hr => ?_
  conv => arg 2; whnf
  exact bk_cons (bs_ret (ed_tup (ea_cons (ed_cl (ea_cons (ed_ix (ed_var 0 rfl (.inl rfl) rfl) ed_int rfl) (ea_cons (ed_ix (ed_var 1 rfl (.inl rfl) rfl) ed_int rfl) ea_nil)) (hr.mono (by decide)) (rn_plus T ha hc)) (ea_cons (ed_cl (ea_cons (ed_ix (ed_var 0 rfl (.inl rfl) rfl) ed_int rfl) (ea_cons (ed_ix (ed_var 1 rfl (.inl rfl) rfl) ed_int rfl) ea_nil)) (hr.mono (by decide)) (rn_plus T hb hd)) ea_nil))) ⟨rfl, rfl⟩)
theorem rn_minus_form (T : Tx E) (ha : Sz 3000 a) (hb : Sz 3000 b) (hc : Sz 3000 c) (hd : Sz 3000 d) : Rn E 3 "minus_form" [fm a b, fm c d] s (fm (a - c) (b - d)) s := by
  refine T.d_minus_form.rn sc_minus_form rfl rfl fun fa cdv A outer sh H0 EX S0 p hr => ?_
  conv => arg 2; whnf
  exact bk_cons (bs_ret (ed_tup (ea_cons (ed_cl (ea_cons (ed_ix (ed_var 0 rfl (.inl rfl) rfl) ed_int rfl) (ea_cons (ed_ix (ed_var 1 rfl (.inl rfl) rfl) ed_int rfl) ea_nil)) (hr.mono (by decide)) (rn_minus T ha hc)) (ea_cons (ed_cl (ea_cons (ed_ix (ed_var 0 rfl (.inl rfl) rfl) ed_int rfl) (ea_cons (ed_ix (ed_var 1 rfl (.inl rfl) rfl) ed_int rfl) ea_nil)) (hr.mono (by decide)) (rn_minus T hb hd)) ea_nil))) ⟨rfl, rfl⟩)
theorem rn_scaled_form (T : Tx E) (ha : Sz 3000 a) (hb : Sz 3000 b) (hc : Sz 3000 c) : Rn E 3 "scaled_form" [fm a b, fr c] s (fm (a * c) (b * c)) s := by
  refine T.d_scaled_form.rn sc_scaled_form rfl rfl fun fa cdv A outer sh H0 EX S0 p hr => ?_
  conv => arg 2; whnf
  exact bk_cons (bs_ret (ed_tup (ea_cons (ed_cl (ea_cons (ed_ix (ed_var 0 rfl (.inl rfl) rfl) ed_int rfl) (ea_cons (ed_var 1 rfl (.inl rfl) rfl) ea_nil)) (hr.mono (by decide)) (rn_times T ha hc)) (ea_cons (ed_cl (ea_cons (ed_ix (ed_var 0 rfl (.inl rfl) rfl) ed_int rfl) (ea_cons (ed_var 1 rfl (.inl rfl) rfl) ea_nil)) (hr.mono (by decide)) (rn_times T hb hc)) ea_nil))) ⟨rfl, rfl⟩)
theorem rn_plain_ask (T : Tx E) (ha : Sz 3000 a) (hc : Sz 3000 c) : Rn E 2 "plain_ask" [fm a b, fm c d] s (.bl (decide (a ≤ c))) s := by
  refine T.d_plain_ask.rn sc_plain_ask rfl rfl fun fa cdv A outer sh H0 EX S0 p hr => ?_
  conv => arg 2; whnf
  exact bk_cons (bs_ret (ed_cl (ea_cons (ed_ix (ed_var 0 rfl (.inl rfl) rfl) ed_int rfl) (ea_cons (ed_ix (ed_var 1 rfl (.inl rfl) rfl) ed_int rfl) ea_nil)) (hr.mono (by decide)) (rn_is_upto T ha hc)) ⟨rfl, rfl⟩)
end
end Law
set_option Elab.async false
set_option linter.all false
set_option maxRecDepth 100000
set_option maxHeartbeats 4000000
namespace Gh
open PySem PySem.Spec PyProof.Rows L2
section
variable {F : Fx} {ρ : List G} {s s1 s2 : Sx} {tg iter elt : Expr} {items : List D} {scope : Scope} {pos : Pos}
theorem Et.is {e : Expr} {x y : Bool} (h : Et F ρ s e x s1) (z : x = y) : Et F ρ s e y s1 := by rw [← z]; exact h
theorem Cp.is {op : CmpOp} {a b : Expr} {x y : Bool} (h : Cp F ρ s op a b x s1) (z : x = y) : Cp F ρ s op a b y s1 := by rw [← z]; exact h
/-- [elt for tg in iter], nothing drawn in the turns -/
theorem el_map (own : List (Str × Nat)) (f : D → D) (hc : F.X.calm = true) (hN : F.X.N.Nodup) (hi : Ei F ρ s tg iter items s1) (ok : BlkOk F.X.N F.X.env.scope scope own) (hl : items.length ≤ sizeLine)
    (h : ∀ (i : Nat) (d : D), items[i]? = some d → ∃ ρ2 js, (∀ c, Eg (F.blk scope c) tg d (gwipe ρ (own.map (·.2))) ρ2 js) ∧ (∀ j ∈ js, j ∈ own.map (·.2)) ∧ ∀ c, Ed (F.blk scope c) ρ2 s1 elt (f d) s1)
    (hs : ∀ x, foldedSetIterable iter F.X.env x = pure x := by intro _; rfl) : El F ρ s (.ListComp elt [⟨tg, iter, [], 0⟩] scope pos) (items.map f) s1 := by
  have z := el_comp (pos := pos) own hc hN (st := fun _ => s1) hi ok (Comp.map f hl h) hi.1 hs
  simp only [List.take_length] at z
  exact z
end
end Gh
namespace Law
open PySem PySem.Spec PyProof.Rows L2 Gh
variable {E : En} {s : Sx}
def acrossD : List D := [.str "width", .str "least", .str "most", .str "mleft", .str "mright", .str "pleft", .str "pright"]
def menusAt (z : Str) : Option (Option D) := if z ∈ (["width", "least", "most", "mleft", "mright", "pleft", "pright"] : List Str) then some none else none
def firstsAt (z : Str) : Option (Option D) := if z = ("most" : Str) then some (some (.str "none")) else none
/-- the top: defs and constants -/
structure Tc (E : En) : Prop extends Tx E where
  c_ZERO : Cst E "ZERO" (fr 0)
  c_ONE : Cst E "ONE" (fr 1)
  c_ALL : Cst E "ALL_ROOMS" (fm 0 1)
  c_HALF : Cst E "HALF" (fr (1 / 2))
  c_FLAT : Cst E "FLAT_ZERO" (fm 0 0)
  c_ACROSS : Cst E "ACROSS" (.tup acrossD)
  k_MENUS : Kdt E "MENUS" menusAt
  k_FIRSTS : Kdt E "FIRSTS" firstsAt
theorem Tc.ask (T : Tc E) : ∃ a, Hf E "plain_ask" a := by
  obtain ⟨fa, fd, F, hm, hb⟩ := T.d_plain_ask.ok
  exact ⟨fa, ⟨hm⟩⟩
theorem rn_flat_form (T : Tc E) {q : Rat} : Rn E 1 "flat_form" [fr q] s (fm q 0) s := by
  refine T.d_flat_form.rn sc_flat_form rfl rfl fun fa cdv A outer sh H0 EX S0 p hr => ?_
  conv => arg 2; whnf
  exact bk_cons (bs_ret (ed_tup (ea_cons (ed_var 0 rfl (.inl rfl) rfl) (ea_cons (ed_cst T.c_ZERO) ea_nil))) ⟨rfl, rfl⟩)
/-! told lengths -/
inductive Ln
  | nat (n : Nat)
  | part (n : Nat)
  | auto
def Ln.D : Ln → Gh.D
  | .nat n => .int n
  | .part n => .tup [.str "part", .int n]
  | .auto => .str "auto"
/-- as handed: a tuple may be a list -/
inductive Hd : Ln → Gh.D → Prop
  | same (l : Ln) : Hd l l.D
  | lst (n : Nat) : Hd (.part n) (.lst [.str "part", .int n])
theorem Hd.items {n : Nat} {x : D} (h : Hd (.part n) x) : items x = some [.str "part", .int n] := by
  cases h <;> rfl
theorem Hd.dat {l : Ln} {x : D} (h : Hd l x) : dat x = true := by
  cases h with
  | same => cases l <;> rfl
  | lst => rfl
theorem eqC_str {x : Str} (h : PyData.strOk x = true := by decide +kernel) : (D.str x).eqC := ⟨by unfold D.pure; rfl, by simp [D.py, SeqAt.shaped, PyData.canLay0, PyData.depth, h]⟩
def toldIs (w : Str) : D → Bool
  | .str v => v == w
  | _ => false
theorem rn_is_told_word (T : Tc E) {x : D} {w : Str} (hx : dat x = true) (hq : ∀ v, x = .str v → PyData.strOk v = true) (hw : PyData.strOk w = true) : Rn E 1 "is_told_word" [x, .str w] s (.bl (toldIs w x)) s := by
  obtain ⟨k, hk⟩ := dat_kind hx
  refine T.d_is_told_word.rn sc_is_told_word rfl rfl fun fa cdv A outer sh H0 EX S0 p hr => ?_
  conv => arg 2; whnf
  refine bk_cons ?_
  cases x with
  | str v => exact bs_ret (ed_andT ((ed_isi T.bf (ed_var 0 rfl (.inl rfl) rfl) hk (cn_str T.bf)).is (by cases hk; rfl)) (ed_one (Cp.ed (cp_eq hr (ed_var 0 rfl (.inl rfl) rfl) (ed_var 1 rfl (.inl rfl) rfl) (eqC_str (hq v rfl)) (eqC_str hw))))) ⟨by rw [eqb_str]; rfl, rfl⟩
  | _ => first
    | (unfold dat at hx; cases hx; done)
    | exact bs_ret (ed_andF ((ed_isi T.bf (ed_var 0 rfl (.inl rfl) rfl) hk (cn_str T.bf)).is (by cases hk; rfl))) ⟨rfl, rfl⟩
theorem rn_is_tagged (T : Tc E) {x : D} {n : Nat} {w : Str} (hx : items x = some [.str w, .int n]) (hw : PyData.strOk w = true) : Rn E 3 "is_tagged" [x, .str w] s (.bl true) s := by
  have hd : dat x = true := by cases x <;> cases hx <;> rfl
  obtain ⟨k, hk⟩ := dat_kind hd
  have h1 := isL_items hk hd
  have i0 : x.at 0 = some (.str w) := by rw [items_at hx]; rfl
  have i1 : x.at 1 = some (.int n) := by rw [items_at hx]; rfl
  refine T.d_is_tagged.rn sc_is_tagged rfl rfl fun fa cdv A outer sh H0 EX S0 p hr => ?_
  conv => arg 2; whnf
  refine bk_cons (bs_ifF (Ew.et (ew_orF (et_not (k := true) (et_val (ed_cl (ea_cons (ed_var 0 rfl (.inl rfl) rfl) ea_nil) (hr.mono (by decide)) ((rn_is_list T.toTx hk).is (by rw [h1, hx]; rfl))))) (ew_orF (Cp.et ((cp_ne hr (ed_len T.bf (ed_var 0 rfl (.inl rfl) rfl) (items_size hx)) ed_int (eqC_int _) (eqC_int _)).is (y := false) (by rw [eqb_int]; rfl))) (ew_or1 (et_not (k := true) (et_val ((ed_isi T.bf (ed_ix (ed_var 0 rfl (.inl rfl) rfl) ed_int i0) rfl (cn_str T.bf)).is rfl))))))) (bk_nil ?_))
  · refine bk_cons (bs_ret (ed_andT ((Cp.ed (cp_eq hr (ed_ix (ed_var 0 rfl (.inl rfl) rfl) ed_int i0) (ed_var 1 rfl (.inl rfl) rfl) (eqC_str hw) (eqC_str hw))).is (y := .bl true) (by rw [eqb_str, beq_self_eq_true])) (ed_one (ed_cl (ea_cons (ed_ix (ed_var 0 rfl (.inl rfl) rfl) ed_int i1) ea_nil) (hr.mono (by decide)) (rn_is_natural T.toTx rfl)))) ⟨?_, rfl⟩)
    show D.bl (decide (0 ≤ (n : Int))) = _
    rw [decide_eq_true (by omega)]
theorem isN_nat (n : Nat) : isN (.int n) = true := by unfold isN; exact decide_eq_true (by omega)
theorem rn_is_length (T : Tc E) {x : D} {l : Ln} (h : Hd l x) (ha : l ≠ .auto) : Rn E 4 "is_length" [x] s (.bl true) s := by
  refine T.d_is_length.rn sc_is_length rfl rfl fun fa cdv A outer sh H0 EX S0 p hr => ?_
  conv => arg 2; whnf
  refine bk_cons ?_
  obtain ⟨k, hk⟩ := dat_kind h.dat
  cases l with
  | auto => exact absurd rfl ha
  | nat n =>
    cases h
    exact bs_ret (ed_orT (ed_cl (ea_cons (ed_var 0 rfl (.inl rfl) rfl) ea_nil) (hr.mono (by decide)) ((rn_is_natural T.toTx hk).is (congrArg D.bl (isN_nat n))))) ⟨rfl, rfl⟩
  | part n => exact bs_ret (ed_orF (ed_cl (ea_cons (ed_var 0 rfl (.inl rfl) rfl) ea_nil) (hr.mono (by decide)) ((rn_is_natural T.toTx hk).is (by cases h <;> rfl))) (ed_one (ed_cl (ea_cons (ed_var 0 rfl (.inl rfl) rfl) (ea_cons ed_str ea_nil)) (hr.mono (by decide)) (rn_is_tagged T h.items (by decide +kernel))))) ⟨rfl, rfl⟩
end Law
set_option Elab.async false
set_option linter.all false
set_option maxRecDepth 100000
set_option maxHeartbeats 4000000
namespace Law
open PySem PySem.Spec PyProof.Rows L2 Gh
variable {E : En} {s : Sx}
abbrev ss (xs : List Str) : List V := xs.map V.str
def moD : Option Nat → D
  | none => .str "none"
  | some m => .int m
theorem moD_dat (m : Option Nat) : dat (moD m) = true := by cases m <;> rfl
theorem Hd.str {l : Ln} {x : D} (h : Hd l x) : ∀ v, x = .str v → PyData.strOk v = true := by
  rintro v rfl
  cases l with
  | auto => cases h; decide +kernel
  | nat n => cases h
  | part n => cases h
def Ln.isA : Ln → Bool
  | .auto => true
  | _ => false
theorem Hd.told {l : Ln} {x : D} (h : Hd l x) : toldIs "auto" x = l.isA := by
  cases h with
  | same => cases l <;> first | rfl | decide +kernel
  | lst => rfl
/-- width, margins -/
theorem rn_pvA (T : Tc E) {w : Str} {x : D} {l : Ln} (h : Hd l x) (h1 : menusAt w = some none) (h2 : inV (.str w) (ss ["width", "base", "mleft", "mright"]) = true) : Rn E 6 "is_plain_value" [.str w, x] s (.bl true) s := by
  refine T.d_is_plain_value.rn sc_is_plain_value rfl rfl fun fa cdv A outer sh H0 EX S0 p hr => ?_
  conv => arg 2; whnf
  refine bk_cons (bs_ifF (Cp.et (cp_inKD T.k_MENUS (ed_var 0 rfl (.inl rfl) rfl) h1)) (bk_nil ?_))
  refine bk_cons (bs_ifT (Cp.et ((cp_in (ed_var 0 rfl (.inl rfl) rfl) (ed_tup (ea_cons ed_str (ea_cons ed_str (ea_cons ed_str (ea_cons ed_str ea_nil))))) (.inr rfl) rfl rfl).is h2)) (bk_cons ?_))
  have R := (rn_is_told_word (s := s) T h.dat h.str (w := "auto") (by decide +kernel)).is (congrArg D.bl h.told)
  cases l with
  | auto => exact bs_ret (ed_orT (ed_cl (ea_cons (ed_var 1 rfl (.inl rfl) rfl) (ea_cons ed_str ea_nil)) (hr.mono (by decide)) R)) ⟨rfl, rfl⟩
  | _ => exact bs_ret (ed_orF (ed_cl (ea_cons (ed_var 1 rfl (.inl rfl) rfl) (ea_cons ed_str ea_nil)) (hr.mono (by decide)) R) (ed_one (ed_cl (ea_cons (ed_var 1 rfl (.inl rfl) rfl) ea_nil) (hr.mono (by decide)) (rn_is_length T h (by intro z; cases z))))) ⟨rfl, rfl⟩
/-- pads -/
theorem rn_pvP (T : Tc E) {w : Str} {x : D} {l : Ln} (h : Hd l x) (ha : l ≠ .auto) (h1 : menusAt w = some none) (h2 : inV (.str w) (ss ["width", "base", "mleft", "mright"]) = false) (h3 : inV (.str w) (ss ["pleft", "pright"]) = true) : Rn E 6 "is_plain_value" [.str w, x] s (.bl true) s := by
  refine T.d_is_plain_value.rn sc_is_plain_value rfl rfl fun fa cdv A outer sh H0 EX S0 p hr => ?_
  conv => arg 2; whnf
  refine bk_cons (bs_ifF (Cp.et (cp_inKD T.k_MENUS (ed_var 0 rfl (.inl rfl) rfl) h1)) (bk_nil ?_))
  refine bk_cons (bs_ifF (Cp.et ((cp_in (ed_var 0 rfl (.inl rfl) rfl) (ed_tup (ea_cons ed_str (ea_cons ed_str (ea_cons ed_str (ea_cons ed_str ea_nil))))) (.inr rfl) rfl rfl).is h2)) (bk_nil ?_))
  refine bk_cons (bs_ifT (Cp.et ((cp_in (ed_var 0 rfl (.inl rfl) rfl) (ed_tup (ea_cons ed_str (ea_cons ed_str ea_nil))) (.inr rfl) rfl rfl).is h3)) (bk_cons ?_))
  exact bs_ret (ed_cl (ea_cons (ed_var 1 rfl (.inl rfl) rfl) ea_nil) (hr.mono (by decide)) (rn_is_length T h ha)) ⟨rfl, rfl⟩
theorem rn_pvM (T : Tc E) (m : Option Nat) : Rn E 6 "is_plain_value" [.str "most", moD m] s (.bl true) s := by
  refine T.d_is_plain_value.rn sc_is_plain_value rfl rfl fun fa cdv A outer sh H0 EX S0 p hr => ?_
  conv => arg 2; whnf
  refine bk_cons (bs_ifF (Cp.et (cp_inKD (o := none) T.k_MENUS (ed_var 0 rfl (.inl rfl) rfl) (if_pos (by decide +kernel)))) (bk_nil ?_))
  refine bk_cons (bs_ifF (Cp.et ((cp_in (ed_var 0 rfl (.inl rfl) rfl) (ed_tup (ea_cons ed_str (ea_cons ed_str (ea_cons ed_str (ea_cons ed_str ea_nil))))) (.inr rfl) rfl rfl).is (by decide +kernel))) (bk_nil ?_))
  refine bk_cons (bs_ifF (Cp.et ((cp_in (ed_var 0 rfl (.inl rfl) rfl) (ed_tup (ea_cons ed_str (ea_cons ed_str ea_nil))) (.inr rfl) rfl rfl).is (by decide +kernel))) (bk_nil ?_))
  refine bk_cons (bs_ifT (Cp.et ((cp_in (ed_var 0 rfl (.inl rfl) rfl) (ed_tup (ea_cons ed_str (ea_cons ed_str ea_nil))) (.inr rfl) rfl rfl).is (by decide +kernel))) (bk_cons ?_))
  have hf : firstsAt "most" = some (some (.str "none")) := rfl
  cases m with
  | none => exact bs_ret (ed_orT (ed_cl (ea_cons (ed_var 1 rfl (.inl rfl) rfl) (ea_cons (ed_ixKD T.k_FIRSTS (ed_var 0 rfl (.inl rfl) rfl) hf) ea_nil)) (hr.mono (by decide)) ((rn_is_told_word T (moD_dat none) (w := "none") (by rintro v z; cases z; decide +kernel) (by decide +kernel)).is rfl))) ⟨rfl, rfl⟩
  | some m => exact bs_ret (ed_orF (ed_cl (ea_cons (ed_var 1 rfl (.inl rfl) rfl) (ea_cons (ed_ixKD T.k_FIRSTS (ed_var 0 rfl (.inl rfl) rfl) hf) ea_nil)) (hr.mono (by decide)) ((rn_is_told_word T (moD_dat (some m)) (w := "none") (by rintro v z; cases z) (by decide +kernel)).is rfl)) (ed_one (ed_cl (ea_cons (ed_var 1 rfl (.inl rfl) rfl) ea_nil) (hr.mono (by decide)) ((rn_is_natural T.toTx (x := .int m) rfl).is (congrArg D.bl (isN_nat m)))))) ⟨rfl, rfl⟩
theorem rn_pvL (T : Tc E) (m : Nat) : Rn E 6 "is_plain_value" [.str "least", .int m] s (.bl true) s := by
  refine T.d_is_plain_value.rn sc_is_plain_value rfl rfl fun fa cdv A outer sh H0 EX S0 p hr => ?_
  conv => arg 2; whnf
  refine bk_cons (bs_ifF (Cp.et (cp_inKD (o := none) T.k_MENUS (ed_var 0 rfl (.inl rfl) rfl) (if_pos (by decide +kernel)))) (bk_nil ?_))
  refine bk_cons (bs_ifF (Cp.et ((cp_in (ed_var 0 rfl (.inl rfl) rfl) (ed_tup (ea_cons ed_str (ea_cons ed_str (ea_cons ed_str (ea_cons ed_str ea_nil))))) (.inr rfl) rfl rfl).is (by decide +kernel))) (bk_nil ?_))
  refine bk_cons (bs_ifF (Cp.et ((cp_in (ed_var 0 rfl (.inl rfl) rfl) (ed_tup (ea_cons ed_str (ea_cons ed_str ea_nil))) (.inr rfl) rfl rfl).is (by decide +kernel))) (bk_nil ?_))
  refine bk_cons (bs_ifF (Cp.et ((cp_in (ed_var 0 rfl (.inl rfl) rfl) (ed_tup (ea_cons ed_str (ea_cons ed_str ea_nil))) (.inr rfl) rfl rfl).is (by decide +kernel))) (bk_nil ?_))
  refine bk_cons (bs_ifF (Cp.et ((cp_eq hr (ed_var 0 rfl (.inl rfl) rfl) ed_str eqC_str eqC_str).is (by rw [eqb_str]; decide +kernel))) (bk_nil ?_))
  refine bk_cons (bs_ifF (Cp.et ((cp_eq hr (ed_var 0 rfl (.inl rfl) rfl) ed_str eqC_str eqC_str).is (by rw [eqb_str]; decide +kernel))) (bk_nil ?_))
  refine bk_cons (bs_ifF (Cp.et ((cp_eq hr (ed_var 0 rfl (.inl rfl) rfl) ed_str eqC_str eqC_str).is (by rw [eqb_str]; decide +kernel))) (bk_nil ?_))
  refine bk_cons (bs_ifF (Cp.et ((cp_eq hr (ed_var 0 rfl (.inl rfl) rfl) ed_str eqC_str eqC_str).is (by rw [eqb_str]; decide +kernel))) (bk_nil ?_))
  refine bk_cons (bs_ifF (Cp.et ((cp_in (ed_var 0 rfl (.inl rfl) rfl) (ed_tup (ea_cons ed_str (ea_cons ed_str ea_nil))) (.inr rfl) rfl rfl).is (by decide +kernel))) (bk_nil ?_))
  exact bk_cons (bs_ret (ed_cl (ea_cons (ed_var 1 rfl (.inl rfl) rfl) ea_nil) (hr.mono (by decide)) ((rn_is_natural T.toTx (x := .int m) rfl).is (congrArg D.bl (isN_nat m)))) ⟨rfl, rfl⟩)
/-! told rows -/
structure Tl where
  w : Ln
  least : Nat
  most : Option Nat
  ml : Ln
  mr : Ln
  pl : Ln
  pr : Ln
/-- the pads are lengths -/
structure Tl.Ok (t : Tl) : Prop where
  pl : t.pl ≠ .auto
  pr : t.pr ≠ .auto
def Tl.ds (t : Tl) : List D := [t.w.D, .int t.least, moD t.most, t.ml.D, t.mr.D, t.pl.D, t.pr.D]
/-- as handed -/
inductive Th (t : Tl) : List D → Prop
  | mk {a d e f g : D} (h1 : Hd t.w a) (h2 : Hd t.ml d) (h3 : Hd t.mr e) (h4 : Hd t.pl f) (h5 : Hd t.pr g) : Th t [a, .int t.least, moD t.most, d, e, f, g]
theorem Th.same (t : Tl) : Th t t.ds := .mk (.same _) (.same _) (.same _) (.same _) (.same _)
theorem Th.len {t : Tl} {hs : List D} (h : Th t hs) : hs.length = 7 := by cases h; rfl
theorem Th.dats {t : Tl} {hs : List D} (h : Th t hs) : dats hs = true := by
  cases h with
  | mk h1 h2 h3 h4 h5 =>
    refine dats_of fun x m => ?_
    simp only [List.mem_cons, List.not_mem_nil, or_false] at m
    rcases m with rfl | rfl | rfl | rfl | rfl | rfl | rfl
    · exact h1.dat
    · rfl
    · exact moD_dat _
    · exact h2.dat
    · exact h3.dat
    · exact h4.dat
    · exact h5.dat
theorem th_pv (T : Tc E) {t : Tl} (ok : t.Ok) {hs : List D} (h : Th t hs) {i : Nat} {d : D} (hi : (zipD acrossD hs)[i]? = some d) : ∃ w v, d = .tup [.str w, v] ∧ ∀ s, Rn E 6 "is_plain_value" [.str w, v] s (.bl true) s := by
  cases h with
  | mk h1 h2 h3 h4 h5 =>
    match i, hi with
    | 0, hi => cases hi; exact ⟨_, _, rfl, fun s => rn_pvA T h1 (if_pos (by decide +kernel)) (by decide +kernel)⟩
    | 1, hi => cases hi; exact ⟨_, _, rfl, fun s => rn_pvL T _⟩
    | 2, hi => cases hi; exact ⟨_, _, rfl, fun s => rn_pvM T _⟩
    | 3, hi => cases hi; exact ⟨_, _, rfl, fun s => rn_pvA T h2 (if_pos (by decide +kernel)) (by decide +kernel)⟩
    | 4, hi => cases hi; exact ⟨_, _, rfl, fun s => rn_pvA T h3 (if_pos (by decide +kernel)) (by decide +kernel)⟩
    | 5, hi => cases hi; exact ⟨_, _, rfl, fun s => rn_pvP T h4 ok.pl (if_pos (by decide +kernel)) (by decide +kernel) (by decide +kernel)⟩
    | 6, hi => cases hi; exact ⟨_, _, rfl, fun s => rn_pvP T h5 ok.pr (if_pos (by decide +kernel)) (by decide +kernel) (by decide +kernel)⟩
    | i + 7, hi => cases hi
theorem rn_checked_told (T : Tc E) {t : Tl} (ok : t.Ok) {x : D} {hs : List D} (h : Th t hs) (hx : items x = some hs) : Rn E 7 "checked_told" [x] s (.tup hs) s := by
  have hd : dat x = true := by
    have := h.dats
    cases x <;> cases hx <;> (unfold dat; exact this)
  obtain ⟨k, hk⟩ := dat_kind hd
  have h1 := isL_items hk hd
  refine T.d_checked_told.rn sc_checked_told rfl rfl fun fa cdv A outer sh H0 EX S0 p hr => ?_
  conv => arg 2; whnf
  refine bk_cons (bs_ifF (Ew.et (ew_orF (et_not (k := true) (et_val (ed_cl (ea_cons (ed_var 0 rfl (.inl rfl) rfl) ea_nil) (hr.mono (by decide)) ((rn_is_list T.toTx hk).is (by rw [h1, hx]; rfl))))) (ew_or1 (Cp.et ((cp_ne hr (ed_len T.bf (ed_var 0 rfl (.inl rfl) rfl) (items_size hx)) ed_int (eqC_int _) (eqC_int _)).is (y := false) (by rw [eqb_int, h.len]; rfl)))))) (bk_nil ?_))
  have hz : (zipD acrossD hs).length = 7 := by simp [zipD, h.len, acrossD]
  refine bk_cons (bs_ifF (s1 := s) (et_not (k := true) (et_val ((ed_all T.bf rfl (bs := List.replicate 7 true) ?_).is rfl))) (bk_nil ?_))
  · refine Ed.is (El.ed (el_map [("word", 1), ("value", 2)] (fun _ => .bl true) rfl sc_checked_told.nd (ei_zipM T.bf (ed_cst T.c_ACROSS) (.inr rfl) (ed_var 0 rfl (.inl rfl) rfl) (items_or hx)) (blkOk_by rfl) (by rw [hz]; decide) (fun i d hi => by
      obtain ⟨w, v, rfl, R⟩ := th_pv T ok h hi
      exact ⟨_, _, fun c => eg_tup rfl (egs_cons (eg_name 1 sc_checked_told.nd rfl (.inl rfl)) (egs_cons (eg_name 2 sc_checked_told.nd rfl (.inl rfl)) egs_nil)), by decide, fun c => ed_cl (ea_cons (ed_var 1 rfl (.inl rfl) rfl) (ea_cons (ed_var 2 rfl (.inl rfl) rfl) ea_nil)) (hr.mono (by decide)) (R _)⟩))) ?_
    rw [List.map_replicate, List.map_const', hz]
  · exact bk_cons (bs_ret (ed_tupleOf T.bf (ed_var 0 rfl (.inl rfl) rfl) (items_or hx)) ⟨rfl, rfl⟩)
end Law
set_option Elab.async false
set_option linter.all false
set_option maxRecDepth 100000
set_option maxHeartbeats 4000000
namespace Law
open PySem PySem.Spec PyProof.Rows L2 Gh
variable {E : En} {s : Sx}
/-! the numbers -/
def Ln.wt (r : Rat) : Ln → Rat
  | .nat n => n
  | .part n => r * mkRat n 100
  | .auto => 0
def Ln.fD (r : Rat) : Ln → Gh.D
  | .nat n => fm n 0
  | .part n => fm (r * mkRat n 100) 0
  | .auto => .str "auto"
def Ln.n : Ln → Nat
  | .nat n => n
  | .part n => n
  | .auto => 0
def moF : Option Nat → D
  | none => .str "none"
  | some m => fm m 0
theorem _root_.Gh.Sz.nat {n : Nat} (h : n < 2 ^ 14) : Sz 14 (n : Rat) := ⟨by simpa using h, by simp⟩
theorem _root_.Gh.Sz.zero {n : Nat} (h : 0 < n := by decide) : Sz n 0 := ⟨by simpa using Nat.two_pow_pos n, by simpa using Nat.one_lt_two_pow (Nat.ne_of_gt h)⟩
theorem Ln.sz {r : Rat} (hr : Sz 110 r) {l : Ln} (h : l.n < 2 ^ 14) : Sz 124 (l.wt r) := by
  cases l with
  | nat n => exact (Sz.nat h).mono (by decide)
  | part n => exact hr.mul (.mk (n := 14) (t := (n : Int)) h (by decide) (by decide))
  | auto => exact .zero
theorem Ln.fD_of {r : Rat} {l : Ln} (h : l ≠ .auto) : l.fD r = fm (l.wt r) 0 := by
  cases l <;> first | rfl | exact absurd rfl h
/-- a held number -/
def heldR (x l : Rat) (m : Option Nat) : Rat :=
  let f : Rat := match m with | none => x | some m => if x ≤ (m : Rat) then x else (m : Rat)
  if l ≤ f then f else l
structure Five where
  left : Rat
  near : Rat
  kept : Rat
  far : Rat
  right : Rat
def Five.qs (f : Five) : List Rat := [f.left, f.near, f.kept, f.far, f.right]
def Tl.free (t : Tl) (r : Rat) : Rat := r - t.ml.wt r - t.pl.wt r - t.pr.wt r - t.mr.wt r
def Tl.kept (t : Tl) (r : Rat) : Rat := heldR (if t.w.isA then t.free r else t.w.wt r) t.least t.most
def Tl.spare (t : Tl) (r : Rat) : Rat := t.free r - t.kept r
def Tl.left (t : Tl) (r : Rat) : Rat := if t.ml.isA && !decide (t.spare r ≤ 0) then (if t.mr.isA then t.spare r * (1 / 2) else t.spare r) else t.ml.wt r
def Tl.right (t : Tl) (r : Rat) : Rat := r - (t.left r + t.pl.wt r + (t.kept r + t.pr.wt r))
def Tl.five (t : Tl) (r : Rat) : Five := ⟨t.left r, t.pl.wt r, t.kept r, t.pr.wt r, t.right r⟩
/-- all its numbers are small -/
structure Tl.Sm (t : Tl) : Prop where
  w : t.w.n < 2 ^ 14
  least : t.least < 2 ^ 14
  most : ∀ m, t.most = some m → m < 2 ^ 14
  ml : t.ml.n < 2 ^ 14
  mr : t.mr.n < 2 ^ 14
  pl : t.pl.n < 2 ^ 14
  pr : t.pr.n < 2 ^ 14
section
variable {t : Tl} {r : Rat}
theorem Tl.Sm.zfree (h : t.Sm) (hr : Sz 110 r) : Sz 610 (t.free r) := (((hr.sub (Ln.sz hr h.ml)).sub (Ln.sz hr h.pl)).sub (Ln.sz hr h.pr)).sub (Ln.sz hr h.mr)
theorem heldR_sz {n : Nat} {x l : Rat} {m : Option Nat} (hx : Sz n x) (hl : Sz n l) (hm : ∀ k, m = some k → Sz n (k : Rat)) : Sz n (heldR x l m) := by
  unfold heldR
  cases m with
  | none => dsimp only; split <;> assumption
  | some m =>
    have := hm m rfl
    dsimp only; split <;> (try split) <;> assumption
theorem Tl.Sm.zw (h : t.Sm) (hr : Sz 110 r) : Sz 610 (if t.w.isA then t.free r else t.w.wt r) := by
  split
  · exact h.zfree hr
  · exact (Ln.sz hr h.w).mono (by decide)
theorem Tl.Sm.zkept (h : t.Sm) (hr : Sz 110 r) : Sz 610 (t.kept r) := heldR_sz (h.zw hr) ((Sz.nat h.least).mono (by decide)) fun k e => (Sz.nat (h.most k e)).mono (by decide)
theorem Tl.Sm.zspare (h : t.Sm) (hr : Sz 110 r) : Sz 1221 (t.spare r) := (h.zfree hr).sub (h.zkept hr)
theorem Tl.Sm.zleft (h : t.Sm) (hr : Sz 110 r) : Sz 1230 (t.left r) := by
  unfold Tl.left
  split
  · split
    · exact ((h.zspare hr).mul (n := 2) ⟨by decide +kernel, by decide +kernel⟩).mono (by decide)
    · exact (h.zspare hr).mono (by decide)
  · exact (Ln.sz hr h.ml).mono (by decide)
theorem Tl.Sm.zright (h : t.Sm) (hr : Sz 110 r) : Sz 2300 (t.right r) := (hr.sub (((h.zleft hr).add (Ln.sz hr h.pl)).add ((h.zkept hr).add (Ln.sz hr h.pr)))).mono (by decide)
end
/-! flat forms -/
section
variable {a c : Rat}
theorem rn_plus0 (T : Tc E) (ha : Sz 3000 a) (hc : Sz 3000 c) : Rn E 3 "plus_form" [fm a 0, fm c 0] s (fm (a + c) 0) s := (rn_plus_form T.toTx ha .zero hc .zero).is (by rw [Rat.add_zero])
theorem rn_minus0 (T : Tc E) (ha : Sz 3000 a) (hc : Sz 3000 c) : Rn E 3 "minus_form" [fm a 0, fm c 0] s (fm (a - c) 0) s := (rn_minus_form T.toTx ha .zero hc .zero).is (by rw [show (0 : Rat) - 0 = 0 by decide +kernel])
theorem rn_scaled0 (T : Tc E) (ha : Sz 3000 a) (hc : Sz 3000 c) : Rn E 3 "scaled_form" [fm a 0, fr c] s (fm (a * c) 0) s := (rn_scaled_form T.toTx ha .zero hc).is (by rw [Rat.zero_mul])
end
/-- what length_form tells of a handed thing -/
def lenF (r : Rat) : D → D
  | .str v => .str v
  | .int n => fm n 0
  | x => match items x with
    | some [_, .int n] => fm (r * mkRat n 100) 0
    | _ => .non
theorem Hd.lenF {l : Ln} {x : D} (h : Hd l x) (r : Rat) : lenF r x = l.fD r := by
  cases h with
  | same => cases l <;> rfl
  | lst => rfl
theorem lenF_mo (m : Option Nat) (r : Rat) : lenF r (moD m) = moF m := by cases m <;> rfl
theorem fr_nat (n : Nat) : (.tup [.int n, .int 1] : D) = fr (n : Rat) := rfl
theorem rn_length_str (T : Tc E) {v : Str} {d : D} : Rn E 5 "length_form" [.str v, d] s (.str v) s := by
  refine T.d_length_form.rn sc_length_form rfl rfl fun fa cdv A outer sh H0 EX S0 p hr => ?_
  conv => arg 2; whnf
  exact bk_cons (bs_ifT (et_val ((ed_isi T.bf (ed_var 0 rfl (.inl rfl) rfl) rfl (cn_str T.bf)).is rfl)) (bk_cons (bs_ret (ed_var 0 rfl (.inl rfl) rfl) ⟨rfl, rfl⟩)))
theorem rn_length_nat (T : Tc E) {n : Nat} {d : D} : Rn E 5 "length_form" [.int n, d] s (fm n 0) s := by
  refine T.d_length_form.rn sc_length_form rfl rfl fun fa cdv A outer sh H0 EX S0 p hr => ?_
  conv => arg 2; whnf
  refine bk_cons (bs_ifF (et_val ((ed_isi T.bf (ed_var 0 rfl (.inl rfl) rfl) rfl (cn_str T.bf)).is rfl)) (bk_nil ?_))
  exact bk_cons (bs_ifT (et_val (ed_cl (ea_cons (ed_var 0 rfl (.inl rfl) rfl) ea_nil) (hr.mono (by decide)) ((rn_is_natural T.toTx rfl).is (congrArg D.bl (isN_nat n))))) (bk_cons (bs_ret (ed_cl (ea_cons ((ed_tup (ea_cons (ed_var 0 rfl (.inl rfl) rfl) (ea_cons ed_int ea_nil))).is (fr_nat n)) ea_nil) (hr.mono (by decide)) (rn_flat_form T)) ⟨rfl, rfl⟩)))
theorem rn_length_part (T : Tc E) {n : Nat} {x : D} {r : Rat} (h : Hd (.part n) x) (hn : n < 2 ^ 14) (hr : Sz 110 r) : Rn E 5 "length_form" [x, fm r 0] s (fm (r * mkRat n 100) 0) s := by
  have hx := h.items
  have i1 : x.at 1 = some (.int n) := by rw [items_at hx]; rfl
  have hk : ∃ k, x.kind = some k ∧ isK k .str = false := by cases h <;> exact ⟨_, rfl, rfl⟩
  obtain ⟨k, hk, hk2⟩ := hk
  have hN : isN x = false := by cases h <;> rfl
  refine T.d_length_form.rn sc_length_form rfl rfl fun fa cdv A outer sh H0 EX S0 p hrm => ?_
  conv => arg 2; whnf
  refine bk_cons (bs_ifF (et_val ((ed_isi T.bf (ed_var 0 rfl (.inl rfl) rfl) hk (cn_str T.bf)).is (by rw [hk2]))) (bk_nil ?_))
  refine bk_cons (bs_ifF (et_val (ed_cl (ea_cons (ed_var 0 rfl (.inl rfl) rfl) ea_nil) (hrm.mono (by decide)) ((rn_is_natural T.toTx hk).is (congrArg D.bl hN)))) (bk_nil ?_))
  exact bk_cons (bs_ret (ed_cl (ea_cons (ed_var 1 rfl (.inl rfl) rfl) (ea_cons (ed_cl (ea_cons (ed_tup (ea_cons (ed_ix (ed_var 0 rfl (.inl rfl) rfl) ed_int i1) (ea_cons ed_int ea_nil))) ea_nil) (hrm.mono (by decide)) ((rn_frac_of T.toTx (x := .tup [.int n, .int 100]) rfl (by
    intro t b e
    cases e
    decide +kernel)).is (show _ = fr (mkRat n 100) from rfl))) ea_nil)) (hrm.mono (by decide)) (rn_scaled0 T (hr.mono (by decide)) ((Sz.mk (n := 14) (t := (n : Int)) hn (by decide) (by decide)).mono (by decide)))) ⟨rfl, rfl⟩)
theorem rn_length_form (T : Tc E) {l : Ln} {x : D} {r : Rat} (h : Hd l x) (hn : l.n < 2 ^ 14) (hr : Sz 110 r) : Rn E 5 "length_form" [x, fm r 0] s (l.fD r) s := by
  cases l with
  | nat n => cases h; exact rn_length_nat T
  | part n => exact rn_length_part T h hn hr
  | auto => cases h; exact rn_length_str T
theorem rn_length_mo (T : Tc E) {m : Option Nat} {d : D} : Rn E 5 "length_form" [moD m, d] s (moF m) s := by
  cases m with
  | none => exact rn_length_str T
  | some m => exact rn_length_nat T
def Tl.fs (t : Tl) (r : Rat) : List D := [t.w.fD r, fm t.least 0, moF t.most, t.ml.fD r, t.mr.fD r, t.pl.fD r, t.pr.fD r]
theorem th_fs {t : Tl} {hs : List D} (h : Th t hs) (r : Rat) : hs.map (lenF r) = t.fs r := by
  cases h with
  | mk h1 h2 h3 h4 h5 =>
    simp only [List.map_cons, List.map_nil, h1.lenF, h2.lenF, h3.lenF, h4.lenF, h5.lenF, lenF_mo]
    rfl
theorem th_len (T : Tc E) {t : Tl} (ok : t.Sm) {hs : List D} (h : Th t hs) {r : Rat} (hr : Sz 110 r) {i : Nat} {d : D} (hi : hs[i]? = some d) : ∀ s, Rn E 5 "length_form" [d, fm r 0] s (lenF r d) s := by
  cases h with
  | mk h1 h2 h3 h4 h5 =>
    match i, hi with
    | 0, hi => cases hi; exact fun s => (rn_length_form T h1 ok.w hr).is (h1.lenF r).symm
    | 1, hi => cases hi; exact fun s => rn_length_nat T
    | 2, hi => cases hi; exact fun s => (rn_length_mo T).is (lenF_mo _ r).symm
    | 3, hi => cases hi; exact fun s => (rn_length_form T h2 ok.ml hr).is (h2.lenF r).symm
    | 4, hi => cases hi; exact fun s => (rn_length_form T h3 ok.mr hr).is (h3.lenF r).symm
    | 5, hi => cases hi; exact fun s => (rn_length_form T h4 ok.pl hr).is (h4.lenF r).symm
    | 6, hi => cases hi; exact fun s => (rn_length_form T h5 ok.pr hr).is (h5.lenF r).symm
    | i + 7, hi => cases hi
theorem rn_told_forms (T : Tc E) {t : Tl} (ok : t.Sm) {hs : List D} (h : Th t hs) {r : Rat} (hr : Sz 110 r) : Rn E 6 "told_forms" [.tup hs, fm r 0] s (.tup (t.fs r)) s := by
  refine T.d_told_forms.rn sc_told_forms rfl rfl fun fa cdv A outer sh H0 EX S0 p hrm => ?_
  conv => arg 2; whnf
  refine bk_cons (bs_ret (ed_tupleOf T.bf (El.ed (el_map [("length", 2)] (lenF r) rfl sc_told_forms.nd (ei_seq (ed_var 0 rfl (.inl rfl) rfl) (.inr rfl)) (blkOk_by rfl) (by rw [h.len]; decide) (fun i d hi => ?_))) (.inl rfl)) ⟨by rw [th_fs h], rfl⟩)
  exact ⟨_, _, fun c => eg_name 2 sc_told_forms.nd rfl (.inl rfl), by decide, fun c => ed_cl (ea_cons (ed_var 2 rfl (.inl rfl) rfl) (ea_cons (ed_var 1 rfl (.inr (.inl rfl)) rfl) ea_nil)) (hrm.mono (by decide)) (th_len T ok h hr hi _)⟩
end Law
set_option Elab.async false
set_option linter.all false
set_option maxRecDepth 100000
set_option maxHeartbeats 4000000
namespace Law
open PySem PySem.Spec PyProof.Rows L2 Gh
variable {E : En} {s : Sx}
theorem moF_eqC (m : Option Nat) : (moF m).eqC := by
  cases m with
  | none => exact eqC_str
  | some m => exact (eqD.fm _ _).eqC
theorem fD_eqC (l : Ln) (r : Rat) : (l.fD r).eqC := by
  cases l with
  | auto => exact eqC_str
  | _ => exact (eqD.fm _ _).eqC
theorem fD_auto (l : Ln) (r : Rat) : (l.fD r).eqb (.str "auto") = l.isA := by
  cases l with
  | auto => show (D.str _).eqb _ = _; rw [eqb_str]; decide +kernel
  | _ => exact fm_str _ _ _
theorem rn_held_form (T : Tc E) {x l : Rat} {m : Option Nat} {c : Addr} (hc : Hf E "plain_ask" c) (hx : Sz 3000 x) (hl : Sz 3000 l) (hm : ∀ k, m = some k → Sz 3000 (k : Rat)) :
    Rn E 3 "held_form" [fm x 0, fm l 0, moF m, .ref c] s (fm (heldR x l m) 0) s := by
  refine T.d_held_form.rn sc_held_form rfl rfl fun fa cdv A outer sh H0 EX S0 p hr => ?_
  conv => arg 2; whnf
  cases m with
  | none =>
    refine bk_cons (bs_set 4 sc_held_form.nd rfl (.inl rfl) (d := fm x 0) (ed_ifT (s1 := s) (Ew.et (ew_orT (Cp.et ((cp_eq hr (ed_var 2 rfl (.inl rfl) rfl) ed_str (moF_eqC none) eqC_str).is (by show (D.str _).eqb _ = _; rw [eqb_str]; decide +kernel))))) (ed_var 0 rfl (.inl rfl) rfl)) ?_)
    refine bk_cons (bs_ret (ed_if (et_val (ed_clL 3 hc rfl (.inl rfl) rfl (ea_cons (ed_var 1 rfl (.inl rfl) rfl) (ea_cons (ed_var 4 rfl (.inl rfl) rfl) ea_nil)) (hr.mono (by decide)) (rn_plain_ask T.toTx hl hx))) (fun _ => (ed_var 4 rfl (.inl rfl) rfl)) (fun _ => (ed_var 1 rfl (.inl rfl) rfl))) ⟨?_, rfl⟩)
    unfold heldR
    by_cases h : l ≤ x <;> simp [h]
  | some m =>
    have hm := hm m rfl
    have e : (moF (some m)).eqb (.str "none") = false := fm_str _ _ _
    have hf : Sz 3000 (if x ≤ (m : Rat) then x else (m : Rat)) := by split <;> assumption
    refine bk_cons (bs_set 4 sc_held_form.nd rfl (.inl rfl) (d := fm (if x ≤ (m : Rat) then x else (m : Rat)) 0) (Ed.is (ed_if (s1 := s) (Ew.et (ew_orF (Cp.et ((cp_eq hr (ed_var 2 rfl (.inl rfl) rfl) ed_str (moF_eqC _) eqC_str).is e)) (ew_or1 (et_val (ed_clL 3 hc rfl (.inl rfl) rfl (ea_cons (ed_var 0 rfl (.inl rfl) rfl) (ea_cons (ed_var 2 rfl (.inl rfl) rfl) ea_nil)) (hr.mono (by decide)) (rn_plain_ask T.toTx hx hm)))))) (fun _ => (ed_var 0 rfl (.inl rfl) rfl)) (fun _ => (ed_var 2 rfl (.inl rfl) rfl))) ?_) ?_)
    · by_cases h : x ≤ (m : Rat) <;> simp [h]; rfl
    refine bk_cons (bs_ret (ed_if (et_val (ed_clL 3 hc rfl (.inl rfl) rfl (ea_cons (ed_var 1 rfl (.inl rfl) rfl) (ea_cons (ed_var 4 rfl (.inl rfl) rfl) ea_nil)) (hr.mono (by decide)) (rn_plain_ask T.toTx hl hf))) (fun _ => (ed_var 4 rfl (.inl rfl) rfl)) (fun _ => (ed_var 1 rfl (.inl rfl) rfl))) ⟨?_, rfl⟩)
    unfold heldR
    dsimp only
    generalize (if x ≤ (m : Rat) then x else (m : Rat)) = f
    by_cases h : l ≤ f <;> simp [h]
theorem rn_margin_form (T : Tc E) (l : Ln) (r : Rat) : Rn E 1 "margin_form" [l.fD r] s (fm (l.wt r) 0) s := by
  refine T.d_margin_form.rn sc_margin_form rfl rfl fun fa cdv A outer sh H0 EX S0 p hr => ?_
  conv => arg 2; whnf
  refine bk_cons (bs_ret (ed_if (Cp.et (cp_eq hr (ed_var 0 rfl (.inl rfl) rfl) ed_str (fD_eqC l r) eqC_str)) (fun _ => (ed_cst T.c_FLAT)) (fun _ => (ed_var 0 rfl (.inl rfl) rfl))) ⟨?_, rfl⟩)
  rw [fD_auto]
  cases l <;> rfl
def fiveD (f : Five) : D := .tup [fm f.left 0, fm f.near 0, fm f.kept 0, fm f.far 0, fm f.right 0]
theorem rn_across_forms (T : Tc E) {t : Tl} (ok : t.Ok) (sm : t.Sm) {r : Rat} (hr : Sz 110 r) {c : Addr} (hc : Hf E "plain_ask" c) : Rn E 5 "across_forms" [.tup (t.fs r), fm r 0, .ref c] s (fiveD (t.five r)) s := by
  have z0 : ∀ {n q}, Sz n q → n ≤ 3000 → Sz 3000 q := fun h l => h.mono l
  have zr : Sz 3000 r := z0 hr (by decide)
  have z1 := Ln.sz hr sm.ml
  have z2 := Ln.sz hr sm.pl
  have z3 := Ln.sz hr sm.pr
  have z4 := Ln.sz hr sm.mr
  have f1 := Ln.fD_of (r := r) ok.pl
  have f2 := Ln.fD_of (r := r) ok.pr
  refine T.d_across_forms.rn sc_across_forms rfl rfl fun fa cdv A outer sh H0 EX S0 p hrm => ?_
  conv => arg 2; whnf
  unfold Tl.fs
  rw [f1, f2]
  refine bk_cons (bs_asg (ed_var 0 rfl (.inl rfl) rfl) (eg_tup rfl (egs_cons (eg_name 3 sc_across_forms.nd rfl (.inl rfl)) (egs_cons (eg_name 4 sc_across_forms.nd rfl (.inl rfl)) (egs_cons (eg_name 5 sc_across_forms.nd rfl (.inl rfl)) (egs_cons (eg_name 6 sc_across_forms.nd rfl (.inl rfl)) (egs_cons (eg_name 7 sc_across_forms.nd rfl (.inl rfl)) (egs_cons (eg_name 8 sc_across_forms.nd rfl (.inl rfl)) (egs_cons (eg_name 9 sc_across_forms.nd rfl (.inl rfl)) egs_nil)))))))) ?_)
  refine bk_cons (bs_set 10 sc_across_forms.nd rfl (.inl rfl) (ed_cl (ea_cons (ed_var 6 rfl (.inl rfl) rfl) ea_nil) (hrm.mono (by decide)) (rn_margin_form T t.ml r)) ?_)
  refine bk_cons (bs_set 11 sc_across_forms.nd rfl (.inl rfl) (ed_cl (ea_cons (ed_cl (ea_cons (ed_cl (ea_cons (ed_var 1 rfl (.inl rfl) rfl) (ea_cons (ed_var 10 rfl (.inl rfl) rfl) ea_nil)) (hrm.mono (by decide)) (rn_minus0 T zr (z0 z1 (by decide)))) (ea_cons (ed_var 8 rfl (.inl rfl) rfl) ea_nil)) (hrm.mono (by decide)) (rn_minus0 T (z0 (hr.sub z1) (by decide)) (z0 z2 (by decide)))) (ea_cons (ed_var 9 rfl (.inl rfl) rfl) ea_nil)) (hrm.mono (by decide)) (rn_minus0 T (z0 ((hr.sub z1).sub z2) (by decide)) (z0 z3 (by decide)))) ?_)
  refine bk_cons (bs_set 12 sc_across_forms.nd rfl (.inl rfl) (d := fm (t.free r) 0) (ed_cl (ea_cons (ed_var 11 rfl (.inl rfl) rfl) (ea_cons (ed_cl (ea_cons (ed_var 7 rfl (.inl rfl) rfl) ea_nil) (hrm.mono (by decide)) (rn_margin_form T t.mr r)) ea_nil)) (hrm.mono (by decide)) (rn_minus0 T (z0 (((hr.sub z1).sub z2).sub z3) (by decide)) (z0 z4 (by decide)))) ?_)
  refine bk_cons (bs_set 13 sc_across_forms.nd rfl (.inl rfl) (d := fm (t.kept r) 0) (ed_cl (ea_cons (Ed.is (y := fm (if t.w.isA then t.free r else t.w.wt r) 0) (ed_if (Cp.et (cp_eq hrm (ed_var 3 rfl (.inl rfl) rfl) ed_str (fD_eqC t.w r) eqC_str)) (fun _ => (ed_var 12 rfl (.inl rfl) rfl)) (fun _ => (ed_var 3 rfl (.inl rfl) rfl))) ?_) (ea_cons (ed_var 4 rfl (.inl rfl) rfl) (ea_cons (ed_var 5 rfl (.inl rfl) rfl) (ea_cons (ed_var 2 rfl (.inl rfl) rfl) ea_nil)))) (hrm.mono (by decide)) (rn_held_form T hc ((sm.zw hr).mono (by decide)) ((Sz.nat sm.least).mono (by decide)) fun k e => (Sz.nat (sm.most k e)).mono (by decide))) ?_)
  · rw [fD_auto]
    cases t.w <;> rfl
  refine bk_cons (bs_set 14 sc_across_forms.nd rfl (.inl rfl) (d := fm (t.spare r) 0) (ed_cl (ea_cons (ed_var 12 rfl (.inl rfl) rfl) (ea_cons (ed_var 13 rfl (.inl rfl) rfl) ea_nil)) (hrm.mono (by decide)) (rn_minus0 T ((sm.zfree hr).mono (by decide)) ((sm.zkept hr).mono (by decide)))) ?_)
  have fin : Bk (bodyF E ["told", "room", "ask", "width", "least", "most", "mleft", "mright", "near", "far", "left", "rest", "free", "kept", "spare", "right"] "across_forms" t_across_forms s fa cdv A outer sh H0 EX S0 p) ((defBody t_across_forms).drop 7) [.val (.tup [t.w.fD r, fm t.least 0, moF t.most, t.ml.fD r, t.mr.fD r, fm (t.pl.wt r) 0, fm (t.pr.wt r) 0]), .val (fm r 0), .val (.ref c), .val (t.w.fD r), .val (fm t.least 0), .val (moF t.most), .val (t.ml.fD r), .val (t.mr.fD r), .val (fm (t.pl.wt r) 0), .val (fm (t.pr.wt r) 0), .val (fm (t.left r) 0), .val (fm (r - t.ml.wt r - t.pl.wt r - t.pr.wt r) 0), .val (fm (t.free r) 0), .val (fm (t.kept r) 0), .val (fm (t.spare r) 0), .no] s
      ⟨fun _ t' => fiveD (t.five r) = .non ∧ t' = s, fun r' t' => r' = fiveD (t.five r) ∧ t' = s, fun _ _ => False, fun _ _ => False, fun _ _ _ => False⟩ := by
    conv => arg 2; whnf
    exact bk_cons (bs_set 15 sc_across_forms.nd rfl (.inl rfl) (ed_cl (ea_cons (ed_var 1 rfl (.inl rfl) rfl) (ea_cons (ed_cl (ea_cons (ed_cl (ea_cons (ed_var 10 rfl (.inl rfl) rfl) (ea_cons (ed_var 8 rfl (.inl rfl) rfl) ea_nil)) (hrm.mono (by decide)) (rn_plus0 T ((sm.zleft hr).mono (by decide)) (z2.mono (by decide)))) (ea_cons (ed_cl (ea_cons (ed_var 13 rfl (.inl rfl) rfl) (ea_cons (ed_var 9 rfl (.inl rfl) rfl) ea_nil)) (hrm.mono (by decide)) (rn_plus0 T ((sm.zkept hr).mono (by decide)) (z3.mono (by decide)))) ea_nil)) (hrm.mono (by decide)) (rn_plus0 T (((sm.zleft hr).add z2).mono (by decide)) (((sm.zkept hr).add z3).mono (by decide)))) ea_nil)) (hrm.mono (by decide)) (rn_minus0 T zr ((((sm.zleft hr).add z2).add ((sm.zkept hr).add z3)).mono (by decide))))
      (bk_cons (bs_ret (ed_tup (ea_cons (ed_var 10 rfl (.inl rfl) rfl) (ea_cons (ed_var 8 rfl (.inl rfl) rfl) (ea_cons (ed_var 13 rfl (.inl rfl) rfl) (ea_cons (ed_var 9 rfl (.inl rfl) rfl) (ea_cons (ed_var 15 rfl (.inl rfl) rfl) ea_nil)))))) ⟨rfl, rfl⟩)))
  refine bk_cons (bs_if (Ew.et (ew_and (Cp.et (cp_eq hrm (ed_var 6 rfl (.inl rfl) rfl) ed_str (fD_eqC t.ml r) eqC_str)) fun _ => (ew_and1 (et_not (et_val (ed_clL 2 hc rfl (.inl rfl) rfl (ea_cons (ed_var 14 rfl (.inl rfl) rfl) (ea_cons (ed_cst T.c_FLAT) ea_nil)) (hrm.mono (by decide)) (rn_plain_ask T.toTx ((sm.zspare hr).mono (by decide)) .zero))))))) (fun h => ?_) (fun h => ?_))
  · rw [fD_auto] at h
    have e : t.left r = if t.mr.isA then t.spare r * (1 / 2) else t.spare r := by unfold Tl.left; rw [if_pos h]
    refine bk_cons (bs_set 10 sc_across_forms.nd rfl (.inl rfl) (d := fm (t.left r) 0) (Ed.is (ed_if (Cp.et (cp_eq hrm (ed_var 7 rfl (.inl rfl) rfl) ed_str (fD_eqC t.mr r) eqC_str)) (fun _ => (ed_cl (ea_cons (ed_var 14 rfl (.inl rfl) rfl) (ea_cons (ed_cst T.c_HALF) ea_nil)) (hrm.mono (by decide)) (rn_scaled0 T ((sm.zspare hr).mono (by decide)) ⟨by decide +kernel, by decide +kernel⟩))) (fun _ => (ed_var 14 rfl (.inl rfl) rfl))) ?_) (bk_nil fin))
    rw [fD_auto, e]
    cases t.mr.isA <;> rfl
  · rw [fD_auto] at h
    have e : t.left r = t.ml.wt r := by unfold Tl.left; rw [h]; rfl
    rw [e] at fin
    exact bk_nil fin
theorem rn_forms_in (T : Tc E) {t : Tl} (ok : t.Ok) (sm : t.Sm) {hs : List D} (h : Th t hs) {r : Rat} (hr : Sz 110 r) {c : Addr} (hc : Hf E "plain_ask" c) : Rn E 7 "forms_in" [.tup hs, fm r 0, .ref c] s (fiveD (t.five r)) s := by
  refine T.d_forms_in.rn sc_forms_in rfl rfl fun fa cdv A outer sh H0 EX S0 p hrm => ?_
  conv => arg 2; whnf
  exact bk_cons (bs_ret (ed_cl (ea_cons (ed_cl (ea_cons (ed_var 0 rfl (.inl rfl) rfl) (ea_cons (ed_var 1 rfl (.inl rfl) rfl) ea_nil)) (hrm.mono (by decide)) (rn_told_forms T sm h hr)) (ea_cons (ed_var 1 rfl (.inl rfl) rfl) (ea_cons (ed_var 2 rfl (.inl rfl) rfl) ea_nil))) (hrm.mono (by decide)) (rn_across_forms T ok sm hr hc)) ⟨rfl, rfl⟩)
end Law
set_option Elab.async false
set_option linter.all false
set_option maxRecDepth 100000
set_option maxHeartbeats 4000000
namespace Law
open PySem PySem.Spec PyProof.Rows L2 Gh
variable {E : En} {s : Sx}
/-- a room as handed -/
structure Rm (y : D) (r : Rat) : Prop where
  dat : dat y = true
  wd : isWd y = true
  sz : ∀ t b, items y = some [.int t, .int b] → b.natAbs < 2 ^ 8000
  val : frq y = r
theorem Rm.fr {y : D} {r : Rat} (h : Rm y r) : isFr y = true := by
  have := h.wd
  unfold isWd at this
  exact (Bool.and_eq_true_iff.mp this).1
def at0 (d : D) : D := (d.at 0).getD .non
theorem rn_across_of (T : Tc E) {t : Tl} (ok : t.Ok) (sm : t.Sm) {x : D} {hs : List D} (h : Th t hs) (hx : items x = some hs) {y : D} {r : Rat} (hy : Rm y r) (hr : Sz 110 r) :
    Rn E 9 "across_of" [x, y] s (.tup ((t.five r).qs.map fr)) s := by
  obtain ⟨c, hc⟩ := T.ask
  refine T.d_across_of.rn sc_across_of rfl rfl fun fa cdv A outer sh H0 EX S0 p hrm => ?_
  conv => arg 2; whnf
  refine bk_cons (bs_set 2 sc_across_of.nd rfl (.inl rfl) (ed_cl (ea_cons (ed_var 0 rfl (.inl rfl) rfl) ea_nil) (hrm.mono (by decide)) (rn_checked_told T ok h hx)) ?_)
  refine bk_cons (bs_ifF (et_not (k := true) (et_val (ed_cl (ea_cons (ed_var 1 rfl (.inl rfl) rfl) ea_nil) (hrm.mono (by decide)) ((rn_is_width T.toTx hy.dat).is (by rw [hy.wd]))))) (bk_nil ?_))
  refine bk_cons (bs_ret (ed_tupleOf T.bf (El.ed (el_map [("form", 3)] at0 rfl sc_across_of.nd (ei_seq (ed_cl (ea_cons (ed_var 2 rfl (.inl rfl) rfl) (ea_cons (ed_cl (ea_cons (ed_cl (ea_cons (ed_var 1 rfl (.inl rfl) rfl) ea_nil) (hrm.mono (by decide)) ((rn_frac_of T.toTx hy.fr hy.sz).is (by rw [hy.val]))) ea_nil) (hrm.mono (by decide)) (rn_flat_form T)) (ea_cons (ed_fun hc) ea_nil))) (hrm.mono (by decide)) (rn_forms_in T ok sm h hr hc)) (.inr rfl)) (blkOk_by rfl) (by show 5 ≤ sizeLine; decide) (fun i d hi => ?_))) (.inl rfl)) ⟨rfl, rfl⟩)
  have hd : ∃ y, d.at 0 = some y ∧ at0 d = y := by
    match i, hi with
    | 0, hi => cases hi; exact ⟨_, rfl, rfl⟩
    | 1, hi => cases hi; exact ⟨_, rfl, rfl⟩
    | 2, hi => cases hi; exact ⟨_, rfl, rfl⟩
    | 3, hi => cases hi; exact ⟨_, rfl, rfl⟩
    | 4, hi => cases hi; exact ⟨_, rfl, rfl⟩
    | i + 5, hi => cases hi
  obtain ⟨y, h1, h2⟩ := hd
  rw [h2]
  exact ⟨_, _, fun c => eg_name 3 sc_across_of.nd rfl (.inl rfl), by decide, fun c => ed_ix (ed_var 3 rfl (.inl rfl) rfl) ed_int h1⟩
theorem all_map {α : Type} (xs : List α) (f : α → Bool) : (xs.map f).all id = xs.all f := by simp [List.all_map]
end Law
set_option Elab.async false
set_option linter.all false
set_option maxRecDepth 100000
set_option maxHeartbeats 4000000
namespace Law
open PySem PySem.Spec PyProof.Rows L2 Gh
variable {E : En} {s : Sx}
/-- a stream of draws with at most n drawn -/
def St (n : Nat) (s : Sx) : Prop := ∃ c z m : Nat, s = some [.int c, .int z, .int m] ∧ z < 2 ^ 31 ∧ m ≤ n
theorem St.mono {m n : Nat} (h : St m s) (l : m ≤ n) : St n s := by
  obtain ⟨c, z, k, e, h1, h2⟩ := h
  exact ⟨c, z, k, e, h1, Nat.le_trans h2 l⟩
theorem St.some {n : Nat} (h : St n s) : s.isSome = true := by
  obtain ⟨c, z, k, e, _⟩ := h
  rw [e]; rfl
theorem mulS {a b : Int} (ha : a.natAbs < 2 ^ 100) (hb : b.natAbs < 2 ^ 100) : CMulW a b := wide_mul ha hb (by decide) (by decide) (by decide)
theorem rn_draw (T : Tc E) {n many : Nat} (h : St n s) (hn : n < 2 ^ 40) (hm : 0 < many) (hm2 : many < 2 ^ 60) : ∃ (d : Nat) (s' : Sx), d < many ∧ St (n + 1) s' ∧ Rn E 1 "_law_draw" [.mut, .int many] s (.int d) s' := by
  obtain ⟨c, z, m, rfl, hz, hmn⟩ := h
  by_cases hc : 0 < c
  · refine ⟨c % many, some [.int ((c / many : Nat) : Int), .int z, .int m], Nat.mod_lt _ hm, ⟨_, _, _, rfl, hz, by omega⟩, ?_⟩
    refine T.d__law_draw.rn sc__law_draw rfl rfl fun fa cdv A outer sh H0 EX S0 p hr => ?_
    conv => arg 2; whnf
    refine bk_cons (bs_ifT (Cp.et ((cp_gt (ed_ixM (d := .int ((c : Int))) (ed_var 0 rfl (.inl rfl) rfl) ed_int rfl) ed_int).is (decide_eq_true (by omega)))) ?_)
    refine bk_cons (bs_set 2 sc__law_draw.nd rfl (.inl rfl) (ed_bin (ed_intI T.bf (ed_ixM (d := .int ((c : Int))) (ed_var 0 rfl (.inl rfl) rfl) ed_int rfl)) (ed_var 1 rfl (.inl rfl) rfl) rfl (by show (0 : Int) < many; omega)) ?_)
    refine bk_cons (bs_stM 0 rfl (.inl rfl) rfl (ed_bin (ed_ixM (d := .int ((c : Int))) (ed_var 0 rfl (.inl rfl) rfl) ed_int rfl) (ed_var 1 rfl (.inl rfl) rfl) rfl (wide_div (i := (c : Int)) (b := 60) (by omega) (by omega) (by decide) (by decide))) ed_int rfl ?_)
    exact bk_cons (bs_ret (ed_var 2 rfl (.inl rfl) rfl) ⟨rfl, rfl⟩)
  · have hc : c = 0 := by omega
    subst hc
    have hb : ((z : Int) + 7919 * ((m + 1 : Nat) : Int)).natAbs < 2 ^ 60 := by omega
    have h5 : (0 : Int) ≤ ((z : Int) + 7919 * ((m + 1 : Nat) : Int)) ^ (5 : Int).toNat % 2147483647 := Int.emod_nonneg _ (by decide)
    have h6 : ((z : Int) + 7919 * ((m + 1 : Nat) : Int)) ^ (5 : Int).toNat % 2147483647 < 2147483647 := Int.emod_lt_of_pos _ (by decide)
    generalize hw : ((z : Int) + 7919 * ((m + 1 : Nat) : Int)) ^ (5 : Int).toNat % 2147483647 = w at h5 h6
    have h7 : (0 : Int) ≤ ((w + ((m + 1 : Nat) : Int)) * 40692 % 2147483629 / 16) % many := Int.emod_nonneg _ (by omega)
    have h8 : ((w + ((m + 1 : Nat) : Int)) * 40692 % 2147483629 / 16) % many < many := Int.emod_lt_of_pos _ (by omega)
    refine ⟨(((w + ((m + 1 : Nat) : Int)) * 40692 % 2147483629 / 16) % many).toNat, some [.int ((0 : Nat) : Int), .int z, .int ((m + 1 : Nat) : Int)], by omega, ⟨_, _, _, rfl, hz, by omega⟩, ?_⟩
    refine T.d__law_draw.rn sc__law_draw rfl rfl fun fa cdv A outer sh H0 EX S0 p hr => ?_
    conv => arg 2; whnf
    refine bk_cons (bs_ifF (Cp.et ((cp_gt (ed_ixM (d := .int (((0 : Nat) : Int))) (ed_var 0 rfl (.inl rfl) rfl) ed_int rfl) ed_int).is (decide_eq_false (by omega)))) (bk_nil ?_))
    refine bk_cons (bs_stM 0 (n := .int ((m + 1 : Nat) : Int)) rfl (.inl rfl) rfl (Ed.is (ed_bin (ed_ixM (d := .int ((m : Int))) (ed_var 0 rfl (.inl rfl) rfl) ed_int rfl) ed_int rfl trivial) (congrArg D.int (by omega))) ed_int rfl ?_)
    refine bk_cons (bs_set 3 (d := .int w) sc__law_draw.nd rfl (.inl rfl) (Ed.is (ed_bin (ed_bin (ed_intI T.bf (ed_bin (ed_ixM (d := .int ((z : Int))) (ed_var 0 rfl (.inl rfl) rfl) ed_int rfl) (ed_bin ed_int (ed_ixM (d := .int (((m + 1 : Nat) : Int))) (ed_var 0 rfl (.inl rfl) rfl) ed_int rfl) rfl (mulS (by decide) (by omega))) rfl trivial)) ed_int rfl ⟨by decide, by decide, by omega⟩) ed_int rfl (by show (0 : Int) < 2147483647; decide)) (congrArg D.int hw)) ?_)
    refine bk_cons (bs_ret (Ed.is (ed_bin (ed_bin (ed_bin (ed_intI T.bf (ed_bin (ed_bin (ed_var 3 rfl (.inl rfl) rfl) (ed_ixM (d := .int (((m + 1 : Nat) : Int))) (ed_var 0 rfl (.inl rfl) rfl) ed_int rfl) rfl trivial) ed_int rfl (mulS (by omega) (by decide)))) ed_int rfl (by show (0 : Int) < 2147483629; decide)) ed_int rfl (wide_div (i := (w + ((m + 1 : Nat) : Int)) * 40692 % 2147483629) (b := 60) (by decide) (by decide) (by decide) (by decide))) (ed_var 1 rfl (.inl rfl) rfl) rfl (by show (0 : Int) < many; omega)) (congrArg D.int (Int.toNat_of_nonneg h7).symm)) ⟨rfl, rfl⟩)
/-- one of a list -/
theorem rn_pick (T : Tc E) {n : Nat} {xs : List D} (h : St n s) (hn : n < 2 ^ 40) (hx : xs ≠ []) (hx2 : xs.length < 2 ^ 60) : ∃ (d : D) (s' : Sx), d ∈ xs ∧ St (n + 1) s' ∧ Rn E 2 "_law_pick" [.mut, .lst xs] s d s' := by
  obtain ⟨i, s', hi, h', R⟩ := rn_draw T h hn (many := xs.length) (List.length_pos_iff.mpr hx) hx2
  refine ⟨xs[i], s', List.getElem_mem hi, h', ?_⟩
  have kd : s.isSome = s'.isSome := by rw [h.some, h'.some]
  refine T.d__law_pick.rn sc__law_pick kd rfl fun fa cdv A outer sh H0 EX S0 p hr => ?_
  conv => arg 2; whnf
  refine bk_cons (bs_ret (ed_ix (ed_var 1 rfl (.inl rfl) rfl) (ed_cl (ea_cons (ed_var 0 rfl (.inl rfl) rfl) (ea_cons (ed_len T.bf (ed_var 1 rfl (.inl rfl) rfl) rfl) ea_nil)) (hr.mono (by decide)) R) ?_) ⟨rfl, rfl⟩)
  show atI xs (i : Int) = some xs[i]
  unfold atI ixN
  simp [hi]
/-- the stream of a script -/
theorem rn_source (T : Tc E) {ns : List Int} {k : Nat} (hk : k < 2 ^ 40) (hl : ns.length < 2 ^ 40) : ∃ c z : Nat, z < 2 ^ 31 ∧ RnL E 1 "_law_source" [.scr ns, .int k] none [.int c, .int z, .int 0] none := by
  let cell : Int := if h : k < ns.length then ns[k] else (cutD ns none (some 1)).sum % 1000003 + 13 * k + 3
  have hz : ∀ v : Int, ((v + 48271 * cell) % 2147483629).toNat < 2 ^ 31 := fun v => by
    have := Int.emod_lt_of_pos (v + 48271 * cell) (show (0 : Int) < 2147483629 by decide)
    omega
  let fold : Nat → Int := fun i => (ns.take i).foldl (fun v o => (v * 37 + o) % 2147483629) (7919 * k + 17)
  have hf : ∀ i, (fold i).natAbs < 2 ^ 100 := fun i => by
    suffices ∀ (l : List Int) (v : Int), v.natAbs < 2 ^ 100 → (l.foldl (fun v o => (v * 37 + o) % 2147483629) v).natAbs < 2 ^ 100 from this _ _ (by omega)
    intro l
    induction l with
    | nil => exact fun v h => h
    | cons o l ih =>
      intro v _
      refine ih _ ?_
      show ((v * 37 + o) % 2147483629).natAbs < 2 ^ 100
      have h1 := Int.emod_lt_of_pos (v * 37 + o) (show (0 : Int) < 2147483629 by decide)
      have h2 := Int.emod_nonneg (v * 37 + o) (show (2147483629 : Int) ≠ 0 by decide)
      omega
  refine ⟨if 10 ^ 18 ≤ cell then cell.toNat else 0, ((fold ns.length + 48271 * cell) % 2147483629).toNat, hz _, ?_⟩
  refine T.d__law_source.rnL sc__law_source rfl rfl fun fa cdv A outer sh H0 EX S0 p hr => ?_
  conv => arg 2; whnf
  refine bkl_cons (bs_set 2 (d := .int cell) (s1 := none) sc__law_source.nd rfl (.inl rfl) ?_ ?_)
  · by_cases h : k < ns.length
    · refine ed_ifT (Cp.et ((cp_lt (ed_var 1 rfl (.inl rfl) rfl) (ed_len T.bf (ed_var 0 rfl (.inl rfl) rfl) rfl)).is (decide_eq_true (by omega)))) (ed_ixS (ed_var 0 rfl (.inl rfl) rfl) (ed_var 1 rfl (.inl rfl) rfl) ?_)
      show atI ns (k : Int) = some cell
      unfold atI ixN
      simp [h, cell]
    · refine ed_ifF (Cp.et ((cp_lt (ed_var 1 rfl (.inl rfl) rfl) (ed_len T.bf (ed_var 0 rfl (.inl rfl) rfl) rfl)).is (decide_eq_false (by omega)))) (Ed.is (ed_bin (ed_bin (ed_bin (ed_intI T.bf (ed_sum T.bf rfl (El.ed (el_sliceS (ed_var 0 rfl (.inl rfl) rfl) .none (.some ed_int))))) ed_int rfl (by show (0 : Int) < 1000003; decide)) (ed_bin ed_int (ed_var 1 rfl (.inl rfl) rfl) rfl (mulS (by decide) (by omega))) rfl trivial) ed_int rfl trivial) ?_)
      simp only [cell, h, dite_false]
  refine bkl_cons (bs_set 3 (d := .int (fold 0)) sc__law_source.nd rfl (.inl rfl) (ed_bin (ed_bin ed_int (ed_var 1 rfl (.inl rfl) rfl) rfl (mulS (by decide) (by omega))) ed_int rfl trivial) ?_)
  refine bkl_cons (bs_for PassesOwn.never rfl (ei_scr (ed_var 0 rfl (.inl rfl) rfl)) (fun i ρ s' => s' = none ∧ ∃ g, ρ = [.val (.scr ns), .val (.int k), .val (.int cell), .val (.int (fold i)), g]) ⟨rfl, _, rfl⟩ ?_ ?_)
  · rintro i d ρ' s' hi ⟨rfl, g, rfl⟩
    rw [List.getElem?_map] at hi
    cases e : ns[i]? with
    | none => rw [e] at hi; cases hi
    | some o =>
      rw [e] at hi; cases hi
      refine ⟨_, _, eg_name 4 sc__law_source.nd rfl (.inl rfl), bk_cons (bs_set 3 sc__law_source.nd rfl (.inl rfl) (ed_bin (ed_intI T.bf (ed_bin (ed_bin (ed_var 3 rfl (.inl rfl) rfl) ed_int rfl (mulS (hf i) (by decide))) (ed_var 4 rfl (.inl rfl) rfl) rfl trivial)) ed_int rfl (by show (0 : Int) < 2147483629; decide)) (bk_nil ⟨rfl, .val (.int o), ?_⟩))⟩
      have e2 : fold (i + 1) = (fold i * 37 + o) % 2147483629 := by
        show (ns.take (i + 1)).foldl _ _ = _
        rw [List.take_add_one, e]
        simp [fold]
      rw [e2]; rfl
  · rintro ρ' s' ⟨rfl, g, rfl⟩
    rw [List.length_map]
    refine bkl_ret (el_lst (ea_cons (Ed.is (ed_if (Cp.et (cp_ge (ed_var 2 rfl (.inl rfl) rfl) (ed_bin ed_int ed_int rfl ⟨by decide, by decide, by decide⟩))) (fun _ => (ed_var 2 rfl (.inl rfl) rfl)) (fun _ => ed_int)) ?_) (ea_cons (Ed.is (ed_bin (ed_intI T.bf (ed_bin (ed_var 3 rfl (.inl rfl) rfl) (ed_mul (.inl ⟨by decide, by decide⟩) ed_int (ed_var 2 rfl (.inl rfl) rfl)) rfl trivial)) ed_int rfl (by show (0 : Int) < 2147483629; decide)) ?_) (ea_cons ed_int ea_nil))))
    · show (if decide ((10 : Int) ^ (18 : Int).toNat ≤ cell) = true then D.int cell else D.int 0) = _
      by_cases hc : (10 : Int) ^ 18 ≤ cell
      · have e : decide ((10 : Int) ^ (18 : Int).toNat ≤ cell) = true := decide_eq_true hc
        rw [e, if_pos hc, Int.toNat_of_nonneg (by omega)]; rfl
      · have e : decide ((10 : Int) ^ (18 : Int).toNat ≤ cell) = false := decide_eq_false hc
        rw [e, if_neg hc]; rfl
    · exact congrArg D.int (Int.toNat_of_nonneg (Int.emod_nonneg _ (by decide))).symm
end Law
set_option Elab.async false
set_option linter.all false
set_option maxRecDepth 100000
set_option maxHeartbeats 4000000
namespace Law
open PySem PySem.Spec PyProof.Rows L2 Gh
variable {E : En} {s : Sx}
/-- the loop of Euclid, by the frames -/
theorem rn_law_lowestN (T : Tc E) {t : Int} {b : Nat} (hb : b ≠ 0) (hs : b < 2 ^ 8000) : Rn E 1 "_law_lowest" [.int t, .int b] s (fr (mkRat t b)) s := by
  refine T.d__law_lowest.rn sc__law_lowest rfl rfl fun fa cdv A outer sh H0 EX S0 p hr => ?_
  conv => arg 2; whnf
  refine bk_cons (bs_par 2 3 rfl sc__law_lowest.nd rfl rfl (by decide) rfl rfl (ea_cons (ed_abs T.bf (ed_var 0 rfl (.inl rfl) rfl)) (ea_cons (ed_var 1 rfl (.inl rfl) rfl) ea_nil)) ?_)
  refine bk_cons (bs_while PassesOwn.never (fun ρ s' => s' = s ∧ ∃ x y : Nat, ρ = [.val (.int t), .val (.int b), .val (.int x), .val (.int y)] ∧ Nat.gcd x y = Nat.gcd t.natAbs b) (fun ρ _ => match ρ with | [_, _, _, .val (.int y)] => y.toNat | _ => 0) ⟨rfl, t.natAbs, b, rfl, rfl⟩ ?_)
  rintro ρ s' ⟨rfl, x, y, rfl, g⟩
  refine ⟨_, _, (cp_gt (ed_var 3 rfl (.inl rfl) rfl) ed_int).et, fun h => ?_, fun h => ?_⟩
  · have hy : (0 : Int) < y := of_decide_eq_true h
    refine bk_cons (bs_par 2 3 rfl sc__law_lowest.nd rfl rfl (by decide) rfl rfl (ea_cons (ed_var 3 rfl (.inl rfl) rfl) (ea_cons (ed_bin (ed_var 2 rfl (.inl rfl) rfl) (ed_var 3 rfl (.inl rfl) rfl) rfl hy) ea_nil)) (bk_nil ?_))
    refine ⟨⟨rfl, y, x % y, ?_, ?_⟩, ?_⟩
    · rfl
    · rw [← g]; exact (gcd_step x y (by omega)).symm
    · show ((x : Int) % (y : Int)).toNat < (y : Int).toNat
      have := Int.emod_lt_of_pos (x : Int) hy
      have := Int.emod_nonneg (x : Int) (by omega : (y : Int) ≠ 0)
      omega
  · have hy : y = 0 := by
      have h1 : ¬ ((0 : Int) < (y : Int)) := of_decide_eq_false h
      omega
    subst hy
    rw [Nat.gcd_zero_right] at g
    have hx : 0 < x := by
      rw [g]; exact Nat.gcd_pos_of_pos_right _ (by omega)
    have hx2 : x < 2 ^ 8000 := Nat.lt_of_le_of_lt (by rw [g]; exact Nat.gcd_le_right _ (by omega)) hs
    have hc : ∀ i : Int, CDivW i x := fun i => wide_div (by omega) (b := 8000) (by rw [Int.natAbs_natCast]; exact hx2) (by decide) (by decide)
    refine bk_cons (bs_ret (ed_tup (ea_cons (ed_bin (ed_var 0 rfl (.inl rfl) rfl) (ed_var 2 rfl (.inl rfl) rfl) rfl (hc t)) (ea_cons (ed_bin (ed_var 1 rfl (.inl rfl) rfl) (ed_var 2 rfl (.inl rfl) rfl) rfl (hc b)) ea_nil))) ⟨?_, rfl⟩)
    unfold fr
    rw [mk_num t b hb, mk_den t b hb, ← g]
theorem rn_law_lowest (T : Tc E) {t b : Int} (hb : 0 < b) (hs : b.natAbs < 2 ^ 8000) : Rn E 1 "_law_lowest" [.int t, .int b] s (fr (mkRat t b.toNat)) s := by
  obtain ⟨n, rfl⟩ := Int.eq_ofNat_of_zero_le (Int.le_of_lt hb)
  exact rn_law_lowestN T (by omega) (by simpa using hs)
section
variable {a b : Rat}
theorem rn_law_plus (T : Tc E) (ha : Sz 3000 a) (hb : Sz 3000 b) : Rn E 2 "_law_plus" [fr a, fr b] s (fr (a + b)) s := by
  refine T.d__law_plus.rn sc__law_plus rfl rfl fun fa cdv A outer sh H0 EX S0 p hr => ?_
  conv => arg 2; whnf
  refine bk_cons (bs_ret (ed_cl (ea_cons (ed_bin (ed_bin (ed_ix (ed_var 0 rfl (.inl rfl) rfl) ed_int rfl) (ed_ix (ed_var 1 rfl (.inl rfl) rfl) ed_int rfl) rfl (mulW ha.n hb.d)) (ed_bin (ed_ix (ed_var 1 rfl (.inl rfl) rfl) ed_int rfl) (ed_ix (ed_var 0 rfl (.inl rfl) rfl) ed_int rfl) rfl (mulW hb.n ha.d)) rfl trivial) (ea_cons (ed_bin (ed_ix (ed_var 0 rfl (.inl rfl) rfl) ed_int rfl) (ed_ix (ed_var 1 rfl (.inl rfl) rfl) ed_int rfl) rfl (mulW ha.d hb.d)) ea_nil)) (hr.mono (by decide)) (rn_law_lowest T (dd_pos a b) (dd_size ha hb))) ⟨?_, rfl⟩)
  rw [dd_nat, add_mk]
theorem rn_law_minus (T : Tc E) (ha : Sz 3000 a) (hb : Sz 3000 b) : Rn E 2 "_law_minus" [fr a, fr b] s (fr (a - b)) s := by
  refine T.d__law_minus.rn sc__law_minus rfl rfl fun fa cdv A outer sh H0 EX S0 p hr => ?_
  conv => arg 2; whnf
  refine bk_cons (bs_ret (ed_cl (ea_cons (ed_bin (ed_bin (ed_ix (ed_var 0 rfl (.inl rfl) rfl) ed_int rfl) (ed_ix (ed_var 1 rfl (.inl rfl) rfl) ed_int rfl) rfl (mulW ha.n hb.d)) (ed_bin (ed_ix (ed_var 1 rfl (.inl rfl) rfl) ed_int rfl) (ed_ix (ed_var 0 rfl (.inl rfl) rfl) ed_int rfl) rfl (mulW hb.n ha.d)) rfl trivial) (ea_cons (ed_bin (ed_ix (ed_var 0 rfl (.inl rfl) rfl) ed_int rfl) (ed_ix (ed_var 1 rfl (.inl rfl) rfl) ed_int rfl) rfl (mulW ha.d hb.d)) ea_nil)) (hr.mono (by decide)) (rn_law_lowest T (dd_pos a b) (dd_size ha hb))) ⟨?_, rfl⟩)
  rw [dd_nat, sub_mk]
theorem rn_law_times (T : Tc E) (ha : Sz 3000 a) (hb : Sz 3000 b) : Rn E 2 "_law_times" [fr a, fr b] s (fr (a * b)) s := by
  refine T.d__law_times.rn sc__law_times rfl rfl fun fa cdv A outer sh H0 EX S0 p hr => ?_
  conv => arg 2; whnf
  refine bk_cons (bs_ret (ed_cl (ea_cons (ed_bin (ed_ix (ed_var 0 rfl (.inl rfl) rfl) ed_int rfl) (ed_ix (ed_var 1 rfl (.inl rfl) rfl) ed_int rfl) rfl (mulW ha.n hb.n)) (ea_cons (ed_bin (ed_ix (ed_var 0 rfl (.inl rfl) rfl) ed_int rfl) (ed_ix (ed_var 1 rfl (.inl rfl) rfl) ed_int rfl) rfl (mulW ha.d hb.d)) ea_nil)) (hr.mono (by decide)) (rn_law_lowest T (dd_pos a b) (dd_size ha hb))) ⟨?_, rfl⟩)
  rw [dd_nat, mul_mk]

theorem rn_law_less (T : Tc E) (ha : Sz 3000 a) (hb : Sz 3000 b) : Rn E 1 "_law_less" [fr a, fr b] s (.bl (decide (a < b))) s := by
  refine T.d__law_less.rn sc__law_less rfl rfl fun fa cdv A outer sh H0 EX S0 p hr => ?_
  conv => arg 2; whnf
  refine bk_cons (bs_ret (Cp.ed (cp_lt (ed_bin (ed_ix (ed_var 0 rfl (.inl rfl) rfl) ed_int rfl) (ed_ix (ed_var 1 rfl (.inl rfl) rfl) ed_int rfl) rfl (mulW ha.n hb.d)) (ed_bin (ed_ix (ed_var 1 rfl (.inl rfl) rfl) ed_int rfl) (ed_ix (ed_var 0 rfl (.inl rfl) rfl) ed_int rfl) rfl (mulW hb.n ha.d)))) ⟨?_, rfl⟩)
  exact congrArg D.bl (decide_eq_decide.mpr (Rat.lt_iff a b).symm)
/-- times a pair in any terms -/
theorem rn_law_timesP (T : Tc E) {n m : Nat} (ha : Sz 3000 a) (hn : n < 2 ^ 3000) (hm : m < 2 ^ 3000) (hm0 : m ≠ 0) : Rn E 2 "_law_times" [fr a, .tup [.int n, .int m]] s (fr (a * mkRat n m)) s := by
  refine T.d__law_times.rn sc__law_times rfl rfl fun fa cdv A outer sh H0 EX S0 p hr => ?_
  conv => arg 2; whnf
  have h1 : ((n : Int)).natAbs < 2 ^ 3000 := hn
  have h2 : ((m : Int)).natAbs < 2 ^ 3000 := hm
  have h3 : 0 < (a.den : Int) * (m : Int) := Int.mul_pos (den_pos a) (by omega)
  have h4 : ((a.den : Int) * (m : Int)).natAbs < 2 ^ 8000 := by
    rw [Int.natAbs_mul]; exact lt_8000 (Nat.lt_of_lt_of_le (two_pow_mul ha.d h2) (Nat.pow_le_pow_right (by decide) (by decide)))
  refine bk_cons (bs_ret (ed_cl (ea_cons (ed_bin (ed_ix (ed_var 0 rfl (.inl rfl) rfl) ed_int rfl) (ed_ix (ed_var 1 rfl (.inl rfl) rfl) ed_int rfl) rfl (mulW ha.n h1)) (ea_cons (ed_bin (ed_ix (ed_var 0 rfl (.inl rfl) rfl) ed_int rfl) (ed_ix (ed_var 1 rfl (.inl rfl) rfl) ed_int rfl) rfl (mulW ha.d h2)) ea_nil)) (hr.mono (by decide)) (rn_law_lowest T h3 h4)) ⟨?_, rfl⟩)
  rw [← Int.natCast_mul, Int.toNat_natCast]
  have e := Rat.mkRat_mul_mkRat a.num n a.den m
  rw [Rat.mkRat_self] at e
  rw [e]
theorem sgn_pos {x : Int} (h : x ≠ 0) : 0 < (if 0 < x then (1 : Int) else -1) * x := by
  by_cases z : 0 < x
  · rw [if_pos z]; omega
  · rw [if_neg z]; omega
/-- a fraction by another one -/
def ovr (a b : Rat) : Rat := mkRat ((if 0 < b.num then (1 : Int) else -1) * a.num * b.den) ((if 0 < b.num then (1 : Int) else -1) * a.den * b.num).toNat
theorem rn_law_over (T : Tc E) (ha : Sz 1000 a) (hb : Sz 1000 b) (h0 : b.num ≠ 0) : Rn E 2 "_law_over" [fr a, fr b] s (fr (ovr a b)) s := by
  refine T.d__law_over.rn sc__law_over rfl rfl fun fa cdv A outer sh H0 EX S0 p hr => ?_
  conv => arg 2; whnf
  refine bk_cons (bs_set 2 (d := .int (if 0 < b.num then (1 : Int) else -1)) sc__law_over.nd rfl (.inl rfl) (Ed.is (ed_if (Cp.et (cp_gt (ed_ix (ed_var 1 rfl (.inl rfl) rfl) ed_int rfl) ed_int)) (fun _ => ed_int) (fun _ => (ed_neg ed_int))) ?_) ?_)
  · by_cases z : 0 < b.num
    · rw [decide_eq_true z, if_pos z]; rfl
    · rw [decide_eq_false z, if_neg z]; rfl
  have hs : (if 0 < b.num then (1 : Int) else -1).natAbs < 2 ^ 3000 := by
    split <;> exact Nat.one_lt_two_pow (by decide)
  have hsg : (if 0 < b.num then (1 : Int) else -1).natAbs = 1 := by split <;> rfl
  have e : (if 0 < b.num then (1 : Int) else -1) * a.den * b.num = a.den * ((if 0 < b.num then (1 : Int) else -1) * b.num) := by
    rw [Int.mul_comm _ (a.den : Int), Int.mul_assoc]
  have w1 : ((if 0 < b.num then (1 : Int) else -1) * a.num).natAbs < 2 ^ 3000 := by
    rw [Int.natAbs_mul, hsg, Nat.one_mul]; exact (ha.mono (by decide)).n
  have w2 : ((if 0 < b.num then (1 : Int) else -1) * a.den).natAbs < 2 ^ 3000 := by
    rw [Int.natAbs_mul, hsg, Nat.one_mul]; exact (ha.mono (by decide)).d
  have w3 : ((if 0 < b.num then (1 : Int) else -1) * a.den * b.num).natAbs < 2 ^ 8000 := by
    rw [Int.natAbs_mul]; exact lt_8000 (Nat.lt_of_lt_of_le (two_pow_mul w2 (hb.mono (m := 1000) (n := 3000) (by decide)).n) (Nat.pow_le_pow_right (by decide) (by decide)))
  refine bk_cons (bs_ret (ed_cl (ea_cons (ed_bin (ed_bin (ed_var 2 rfl (.inl rfl) rfl) (ed_ix (ed_var 0 rfl (.inl rfl) rfl) ed_int rfl) rfl (mulW hs (ha.mono (by decide)).n)) (ed_ix (ed_var 1 rfl (.inl rfl) rfl) ed_int rfl) rfl (mulW w1 (hb.mono (by decide)).d)) (ea_cons (ed_bin (ed_bin (ed_var 2 rfl (.inl rfl) rfl) (ed_ix (ed_var 0 rfl (.inl rfl) rfl) ed_int rfl) rfl (mulW hs (ha.mono (by decide)).d)) (ed_ix (ed_var 1 rfl (.inl rfl) rfl) ed_int rfl) rfl (mulW w2 (hb.mono (by decide)).n)) ea_nil)) (hr.mono (by decide)) (rn_law_lowest T ?_ w3)) ⟨rfl, rfl⟩)
  rw [e]
  exact Int.mul_pos (den_pos a) (sgn_pos h0)
theorem ovr_sz (h0 : b.num ≠ 0) : ∀ m n, a.num.natAbs < 2 ^ m → a.den < 2 ^ n → b.num.natAbs < 2 ^ m → b.den < 2 ^ n → Sz (m + n) (ovr a b) := by
  intro m n h1 h2 h3 h4
  have hsg : (if 0 < b.num then (1 : Int) else -1).natAbs = 1 := by split <;> rfl
  have hp : 0 < (if 0 < b.num then (1 : Int) else -1) * a.den * b.num := by
    rw [Int.mul_comm _ (a.den : Int), Int.mul_assoc]; exact Int.mul_pos (den_pos a) (sgn_pos h0)
  refine .mk ?_ ?_ (by omega)
  · rw [Int.natAbs_mul, Int.natAbs_mul, hsg, Nat.one_mul]; exact two_pow_mul h1 h4
  · have : ((if 0 < b.num then (1 : Int) else -1) * a.den * b.num).toNat = ((if 0 < b.num then (1 : Int) else -1) * a.den * b.num).natAbs := by omega
    rw [this, Int.natAbs_mul, Int.natAbs_mul, hsg, Nat.one_mul]
    rw [Nat.add_comm m n]; exact two_pow_mul h2 h3
end
/-! same -/
theorem rn_same_int (T : Tc E) (i : Int) : Rn E 1 "_law_same" [.int i, .int i] s (.bl true) s := by
  refine T.d__law_same.rn sc__law_same rfl rfl fun fa cdv A outer sh H0 EX S0 p hr => ?_
  conv => arg 2; whnf
  refine bk_cons (bs_ifF (et_val ((ed_isiT T.bf (ed_var 1 rfl (.inl rfl) rfl) rfl (cns_cons (cn_list T.bf) (cns_cons (cn_tuple T.bf) cns_nil))).is rfl)) (bk_nil ?_))
  refine bk_cons (bs_ifF (et_val ((ed_isi T.bf (ed_var 1 rfl (.inl rfl) rfl) rfl (cn_dict T.bf)).is rfl)) (bk_nil ?_))
  refine bk_cons (bs_ifT (et_val ((ed_isi T.bf (ed_var 1 rfl (.inl rfl) rfl) rfl (cn_int T.bf)).is rfl)) (bk_cons ?_))
  exact bs_ret (ed_andT ((ed_isi T.bf (ed_var 0 rfl (.inl rfl) rfl) rfl (cn_int T.bf)).is rfl) (ed_andT ((Cp.ed (cp_eq hr (ed_isi T.bf (ed_var 0 rfl (.inl rfl) rfl) rfl (cn_bool T.bf)) (ed_isi T.bf (ed_var 1 rfl (.inl rfl) rfl) rfl (cn_bool T.bf)) (eqC_bl _) (eqC_bl _))).is (by simp [D.eqb, D.py, PyData.eqv])) (ed_one ((Cp.ed (cp_eq hr (ed_var 0 rfl (.inl rfl) rfl) (ed_var 1 rfl (.inl rfl) rfl) (eqC_int _) (eqC_int _))).is (by rw [eqb_int, decide_eq_true rfl]))))) ⟨rfl, rfl⟩
theorem rn_same_bl (T : Tc E) (i : Bool) : Rn E 1 "_law_same" [.bl i, .bl i] s (.bl true) s := by
  refine T.d__law_same.rn sc__law_same rfl rfl fun fa cdv A outer sh H0 EX S0 p hr => ?_
  conv => arg 2; whnf
  refine bk_cons (bs_ifF (et_val ((ed_isiT T.bf (ed_var 1 rfl (.inl rfl) rfl) rfl (cns_cons (cn_list T.bf) (cns_cons (cn_tuple T.bf) cns_nil))).is rfl)) (bk_nil ?_))
  refine bk_cons (bs_ifF (et_val ((ed_isi T.bf (ed_var 1 rfl (.inl rfl) rfl) rfl (cn_dict T.bf)).is rfl)) (bk_nil ?_))
  refine bk_cons (bs_ifT (et_val ((ed_isi T.bf (ed_var 1 rfl (.inl rfl) rfl) rfl (cn_int T.bf)).is rfl)) (bk_cons ?_))
  exact bs_ret (ed_andT ((ed_isi T.bf (ed_var 0 rfl (.inl rfl) rfl) rfl (cn_int T.bf)).is rfl) (ed_andT ((Cp.ed (cp_eq hr (ed_isi T.bf (ed_var 0 rfl (.inl rfl) rfl) rfl (cn_bool T.bf)) (ed_isi T.bf (ed_var 1 rfl (.inl rfl) rfl) rfl (cn_bool T.bf)) (eqC_bl _) (eqC_bl _))).is (by simp [D.eqb, D.py, PyData.eqv])) (ed_one ((Cp.ed (cp_eq hr (ed_var 0 rfl (.inl rfl) rfl) (ed_var 1 rfl (.inl rfl) rfl) (eqC_bl _) (eqC_bl _))).is (by simp [D.eqb, D.py, PyData.eqv]))))) ⟨rfl, rfl⟩
theorem zip_self {xs : List D} {i : Nat} {d : D} (h : (zipD xs xs)[i]? = some d) : ∃ y ∈ xs, d = .tup [y, y] := by
  unfold zipD at h
  rw [List.getElem?_zipWith] at h
  cases e : xs[i]? with
  | none => rw [e] at h; cases h
  | some y => rw [e] at h; cases h; exact ⟨y, List.mem_of_getElem? e, rfl⟩
theorem rn_same_tup (T : Tc E) {k : Nat} {xs : List D} (hl : xs.length ≤ 1000) (h : ∀ x ∈ xs, ∀ s, Rn E (k + 1) "_law_same" [x, x] s (.bl true) s) : Rn E (k + 2) "_law_same" [.tup xs, .tup xs] s (.bl true) s := by
  have hz : (zipD xs xs).length = xs.length := by simp [zipD]
  refine T.d__law_same.rn sc__law_same rfl rfl fun fa cdv A outer sh H0 EX S0 p hr => ?_
  conv => arg 2; whnf
  refine bk_cons (bs_ifT (et_val ((ed_isiT T.bf (ed_var 1 rfl (.inl rfl) rfl) rfl (cns_cons (cn_list T.bf) (cns_cons (cn_tuple T.bf) cns_nil))).is rfl)) (bk_cons ?_))
  refine bs_ifF (Ew.et (ew_orF (Cp.et ((cp_ne hr (ed_isi T.bf (ed_var 0 rfl (.inl rfl) rfl) rfl (cn_list T.bf)) (ed_isi T.bf (ed_var 1 rfl (.inl rfl) rfl) rfl (cn_list T.bf)) (eqC_bl _) (eqC_bl _)).is (by simp [D.eqb, D.py, PyData.eqv]))) (ew_or1 (Cp.et ((cp_ne hr (ed_isi T.bf (ed_var 0 rfl (.inl rfl) rfl) rfl (cn_tuple T.bf)) (ed_isi T.bf (ed_var 1 rfl (.inl rfl) rfl) rfl (cn_tuple T.bf)) (eqC_bl _) (eqC_bl _)).is (by simp [D.eqb, D.py, PyData.eqv])))))) (bk_nil (bk_cons ?_))
  refine bs_ret (ed_andT ((Cp.ed (cp_eq hr (ed_len T.bf (ed_var 0 rfl (.inl rfl) rfl) rfl) (ed_len T.bf (ed_var 1 rfl (.inl rfl) rfl) rfl) (eqC_int _) (eqC_int _))).is (by rw [eqb_int, decide_eq_true rfl])) (ed_one (Ed.is (ed_all T.bf rfl (bs := List.replicate xs.length true) (Ed.is (El.ed (el_map [("_law_x", 2), ("_law_y", 3)] (fun _ => .bl true) rfl sc__law_same.nd (ei_zipM T.bf (ed_var 0 rfl (.inl rfl) rfl) (.inr rfl) (ed_var 1 rfl (.inl rfl) rfl) (.inr rfl)) (blkOk_by rfl) (by rw [hz]; exact Nat.le_trans hl (by decide)) (fun i d hi => ?_))) ?_)) ?_))) ⟨rfl, rfl⟩
  · obtain ⟨y, m, rfl⟩ := zip_self hi
    exact ⟨_, _, fun c => eg_tup rfl (egs_cons (eg_name 2 sc__law_same.nd rfl (.inl rfl)) (egs_cons (eg_name 3 sc__law_same.nd rfl (.inl rfl)) egs_nil)), by decide, fun c => ed_cl (ea_cons (ed_var 2 rfl (.inl rfl) rfl) (ea_cons (ed_var 3 rfl (.inl rfl) rfl) ea_nil)) hr (h y m _)⟩
  · rw [List.map_replicate, List.map_const', hz]
  · rw [List.all_replicate]; simp
theorem rn_same_fr (T : Tc E) (q : Rat) : Rn E 2 "_law_same" [fr q, fr q] s (.bl true) s := rn_same_tup (k := 0) T (show 2 ≤ 1000 by decide) fun x m s => by
  simp only [List.mem_cons, List.not_mem_nil, or_false] at m
  rcases m with rfl | rfl <;> exact rn_same_int T _
theorem rn_same_frs (T : Tc E) (qs : List Rat) (hl : qs.length ≤ 1000) : Rn E 3 "_law_same" [.tup (qs.map fr), .tup (qs.map fr)] s (.bl true) s := rn_same_tup (k := 1) T (by simpa using hl) fun x m s => by
  obtain ⟨q, _, rfl⟩ := List.mem_map.mp m
  exact rn_same_fr T q
end Law
set_option Elab.async false
set_option linter.all false
set_option maxRecDepth 100000
set_option maxHeartbeats 4000000
namespace Gh
open PySem PySem.Spec PyProof.Rows L2
section
variable {F : Fx} {ρ : List G} {s s1 s2 : Sx} {tg iter elt t : Expr} {items : List D} {scope : Scope} {pos : Pos}
/-- [elt for tg in iter if t], nothing drawn in the turns -/
theorem el_filter (own : List (Str × Nat)) (f : D → D) (g : D → Bool) (hc : F.X.calm = true) (hN : F.X.N.Nodup) (hi : Ei F ρ s tg iter items s1) (ok : BlkOk F.X.N F.X.env.scope scope own) (hl : items.length ≤ sizeLine)
    (h : ∀ (i : Nat) (d : D), items[i]? = some d → ∃ ρ2 js, (∀ c, Eg (F.blk scope c) tg d (gwipe ρ (own.map (·.2))) ρ2 js) ∧ (∀ j ∈ js, j ∈ own.map (·.2)) ∧ (∀ c, Et (F.blk scope c) ρ2 s1 t (g d) s1) ∧ (g d = true → ∀ c, Ed (F.blk scope c) ρ2 s1 elt (f d) s1))
    (hs : ∀ x, foldedSetIterable iter F.X.env x = pure x := by intro _; rfl) : El F ρ s (.ListComp elt [⟨tg, iter, [t], 0⟩] scope pos) ((items.filter g).map f) s1 := by
  have z := el_comp (pos := pos) own hc hN (st := fun _ => s1) hi ok (Comp.filter f g hl h) hi.1 hs
  simp only [List.take_length] at z
  exact z
end
end Gh
namespace Law
open PySem PySem.Spec PyProof.Rows L2 Gh
variable {E : En} {s : Sx}
open Classical in
/-- step by step -/
theorem trace {α : Type} {R : α → α → Prop} {G : Nat → α → Prop} {N : Nat} (x0 : α) (h0 : G 0 x0) (hs : ∀ i x, i < N → G i x → ∃ y, R x y ∧ G (i + 1) y) :
    ∃ tr : Nat → α, tr 0 = x0 ∧ (∀ i, i ≤ N → G i (tr i)) ∧ ∀ i, i < N → R (tr i) (tr (i + 1)) := by
  let nx : Nat → α → α := fun i x => if h : i < N ∧ G i x then Classical.choose (hs i x h.1 h.2) else x
  have hn : ∀ i x, i < N → G i x → R x (nx i x) ∧ G (i + 1) (nx i x) := fun i x h1 h2 => by
    have e : nx i x = Classical.choose (hs i x h1 h2) := dif_pos ⟨h1, h2⟩
    rw [e]
    exact Classical.choose_spec (hs i x h1 h2)
  let tr : Nat → α := fun n => Nat.rec x0 (fun i x => nx i x) n
  have hg : ∀ i, i ≤ N → G i (tr i) := fun i => by
    induction i with
    | zero => exact fun _ => h0
    | succ i ih => exact fun h => (hn i (tr i) (by omega) (ih (by omega))).2
  exact ⟨tr, rfl, hg, fun i h => (hn i (tr i) h (hg i (by omega))).1⟩
/-- put in its place, once -/
def insQ (ys : List Rat) (q : Rat) : List Rat :=
  let p := (ys.filter fun y => decide (y < q)).length
  if (ys.drop p).take 1 = [q] then ys else ys.take p ++ [q] ++ ys.drop p
theorem insQ_mem {ys : List Rat} {q z : Rat} (h : z ∈ insQ ys q) : z ∈ ys ∨ z = q := by
  unfold insQ at h
  dsimp only at h
  split at h
  · exact .inl h
  · rcases List.mem_append.mp h with h | h
    · rcases List.mem_append.mp h with h | h
      · exact .inl (List.mem_of_mem_take h)
      · exact .inr (List.mem_singleton.mp h)
    · exact .inl (List.mem_of_mem_drop h)
theorem insQ_len (ys : List Rat) (q : Rat) : (insQ ys q).length ≤ ys.length + 1 := by
  unfold insQ
  dsimp only
  split
  · omega
  · simp only [List.length_append, List.length_take, List.length_drop, List.length_singleton]; omega
def sortQ (qs : List Rat) : List Rat := qs.foldl insQ []
theorem foldQ_mem {qs ys : List Rat} {z : Rat} (h : z ∈ qs.foldl insQ ys) : z ∈ ys ∨ z ∈ qs := by
  induction qs generalizing ys with
  | nil => exact .inl h
  | cons q qs ih =>
    rcases ih h with h | h
    · rcases insQ_mem h with h | h
      · exact .inl h
      · exact .inr (h ▸ List.mem_cons_self)
    · exact .inr (List.mem_cons_of_mem _ h)
theorem foldQ_len (qs ys : List Rat) : (qs.foldl insQ ys).length ≤ ys.length + qs.length := by
  induction qs generalizing ys with
  | nil => simp
  | cons q qs ih =>
    have := ih (insQ ys q)
    have := insQ_len ys q
    simp only [List.foldl_cons, List.length_cons]; omega
theorem cut_to {α : Type} (xs : List α) (p : Nat) (h : p ≤ xs.length) : Gh.cutD xs none (some (p : Int)) = xs.take p := by
  unfold Gh.cutD
  rw [HT.sIx_none, HT.sIx_nat, List.drop_zero, Nat.sub_zero, Nat.min_eq_left h]
theorem cut_from {α : Type} (xs : List α) (p : Nat) (h : p ≤ xs.length) : Gh.cutD xs (some (p : Int)) none = xs.drop p := by
  unfold Gh.cutD
  rw [HT.sIx_none, HT.sIx_nat, Nat.min_eq_left h, List.take_of_length_le (by rw [List.length_drop]; omega)]
theorem cut_one {α : Type} (xs : List α) (p : Nat) (h : p ≤ xs.length) : Gh.cutD xs (some (p : Int)) (some ((p : Int) + 1)) = (xs.drop p).take 1 := by
  have e : (p : Int) + 1 = ((p + 1 : Nat) : Int) := by omega
  unfold Gh.cutD
  rw [e, HT.sIx_nat, HT.sIx_nat, Nat.min_eq_left h]
  rcases Nat.lt_or_ge p xs.length with z | z
  · rw [Nat.min_eq_left (by omega), show p + 1 - p = 1 by omega]
  · rw [Nat.min_eq_right (by omega), List.drop_of_length_le (by omega)]; simp
def unfr : D → Rat
  | .tup [.int t, .int b] => mkRat t b.toNat
  | _ => 0
theorem unfr_fr (q : Rat) : unfr (fr q) = q := by
  show mkRat q.num (q.den : Int).toNat = q
  rw [Int.toNat_natCast, Rat.mkRat_self]
theorem rn_sorted (T : Tc E) {qs : List Rat} (hl : qs.length ≤ 1000) (hq : ∀ q ∈ qs, Sz 3000 q) : Rn E 2 "_law_sorted" [.lst (qs.map fr)] s (.lst ((sortQ qs).map fr)) s := by
  have hm : ∀ i, ∀ z ∈ (qs.take i).foldl insQ [], z ∈ qs := fun i z m => by
    rcases foldQ_mem m with m | m
    · cases m
    · exact List.mem_of_mem_take m
  have hlen : ∀ i, ((qs.take i).foldl insQ []).length ≤ 1000 := fun i => by
    have := foldQ_len (qs.take i) []
    have := List.length_take_le' i qs
    simp at *; omega
  have hz : 1001 ≤ sizeLine := by decide
  refine T.d__law_sorted.rn sc__law_sorted rfl rfl fun fa cdv A outer sh H0 EX S0 p hr => ?_
  conv => arg 2; whnf
  refine bk_cons (bs_set 1 sc__law_sorted.nd rfl (.inl rfl) (El.ed (el_lst ea_nil)) ?_)
  refine bk_cons (bs_for PassesOwn.never rfl (ei_seq (ed_var 0 rfl (.inl rfl) rfl) (.inl rfl)) (fun i ρ s' => s' = s ∧ ∃ g2 g3, ρ = [.val (.lst (qs.map fr)), .val (.lst (((qs.take i).foldl insQ []).map fr)), g2, g3, .no]) ⟨rfl, _, _, rfl⟩ ?_ ?_)
  · rintro i d ρ' s' hi ⟨rfl, g2, g3, rfl⟩
    rw [List.getElem?_map] at hi
    cases e : qs[i]? with
    | none => rw [e] at hi; cases hi
    | some q =>
      rw [e] at hi; cases hi
      have e2 : (qs.take (i + 1)).foldl insQ [] = insQ ((qs.take i).foldl insQ []) q := by
        rw [List.take_add_one, e]; simp
      have hmi := hm i
      have hli := hlen i
      generalize hys : (qs.take i).foldl insQ [] = ys at *
      have zq := hq q (List.mem_of_getElem? e)
      have hp : (ys.filter fun y => decide (y < q)).length ≤ ys.length := List.length_filter_le _ _
      have hg : ((ys.map fr).filter fun d => decide (unfr d < q)) = (ys.filter fun y => decide (y < q)).map fr := by
        rw [List.filter_map]
        congr 1
        exact List.filter_congr fun y _ => by simp [unfr_fr]
      refine ⟨_, _, eg_name 2 sc__law_sorted.nd rfl (.inr rfl), bk_cons (bs_set 3 (d := .int ((ys.filter fun y => decide (y < q)).length : Nat)) sc__law_sorted.nd rfl (.inl rfl) (Ed.is (ed_lenV T.bf (El.ev (el_filter [("_law_other", 4)] id (fun d => decide (unfr d < q)) rfl sc__law_sorted.nd (ei_seq (ed_var 1 rfl (.inl rfl) rfl) (.inl rfl)) (blkOk_by rfl) (by rw [List.length_map]; omega) (fun i d hi => ?_)))) ?_) ?_)⟩
      · obtain ⟨y, m, rfl⟩ := List.mem_map.mp (List.mem_of_getElem? hi)
        refine ⟨_, _, fun c => eg_name 4 sc__law_sorted.nd rfl (.inl rfl), by decide, fun c => Et.is (et_val (ed_cl (ea_cons (ed_var 4 rfl (.inl rfl) rfl) (ea_cons (ed_var 2 rfl (.inr (.inl rfl)) rfl) ea_nil)) (hr.mono (by decide)) (rn_law_less T (hq y (hmi y m)) zq))) (by rw [unfr_fr]), fun _ c => ed_var 4 rfl (.inl rfl) rfl⟩
      · rw [List.map_id, hg, List.length_map]
      · have hc1 : ∀ (u v : List D), u.length + v.length ≤ 2002 → u.length + v.length ≤ sizeLine := fun u v h => Nat.le_trans h (by decide)
        have hpm : (ys.filter fun y => decide (y < q)).length ≤ (ys.map fr).length := by rw [List.length_map]; exact hp
        refine bk_cons (bs_if (Cp.et (cp_neV hr (El.ev (El.is (el_slice (ed_var 1 rfl (.inl rfl) rfl) (.some (ed_var 3 rfl (.inl rfl) rfl)) (.some (ed_bin (ed_var 3 rfl (.inl rfl) rfl) ed_int rfl trivial))) (cut_one _ _ hpm))) (El.ev (el_lst (ea_cons (ed_var 2 rfl (.inr (.inl rfl)) rfl) ea_nil))) (eqDs.of (n := 1) fun x m => ?_).lst.eqC (eqDs.cons (eqD.fr q) .nil).lst.eqC)) (fun hb => ?_) (fun hb => ?_))
        · obtain ⟨z, _, rfl⟩ := List.mem_map.mp (List.mem_of_mem_drop (List.mem_of_mem_take m))
          exact .fr z
        · have hb' : ¬ (ys.drop (ys.filter fun y => decide (y < q)).length).take 1 = [q] := fun z => by
            rw [← List.map_drop, ← List.map_take, z, lst_eqb] at hb
            have := frs_eqbs [q] [q]
            simp only [List.map_cons, List.map_nil] at this hb
            rw [this] at hb
            simp at hb
          refine bk_cons (bs_set 1 sc__law_sorted.nd rfl (.inl rfl) (El.ed (El.is (el_catV (hc1 _ _ ?_) (El.ev (el_catV (hc1 _ _ ?_) (El.ev (El.is (el_slice (ed_var 1 rfl (.inl rfl) rfl) .none (.some (ed_var 3 rfl (.inl rfl) rfl))) (cut_to _ _ hpm))) (El.ev (el_lst (ea_cons (ed_var 2 rfl (.inr (.inl rfl)) rfl) ea_nil))))) (El.ev (El.is (el_slice (ed_var 1 rfl (.inl rfl) rfl) (.some (ed_var 3 rfl (.inl rfl) rfl)) .none) (cut_from _ _ hpm)))) rfl)) (bk_nil (bk_nil ⟨rfl, .val (fr q), .val (.int ((ys.filter fun y => decide (y < q)).length : Nat)), ?_⟩)))
          · simp; omega
          · simp; omega
          · rw [e2]
            unfold insQ
            dsimp only
            rw [if_neg hb']
            simp only [List.map_append, List.map_take, List.map_drop, List.map_cons, List.map_nil]
            rfl
        · have hb' : (ys.drop (ys.filter fun y => decide (y < q)).length).take 1 = [q] := by
            rw [← List.map_drop, ← List.map_take, lst_eqb] at hb
            have := frs_eqbs ((ys.drop (ys.filter fun y => decide (y < q)).length).take 1) [q]
            simp only [List.map_cons, List.map_nil] at this
            rw [this] at hb
            simpa using hb
          refine bk_nil (bk_nil ⟨rfl, .val (fr q), .val (.int ((ys.filter fun y => decide (y < q)).length : Nat)), ?_⟩)
          rw [e2]
          unfold insQ
          dsimp only
          rw [if_pos hb']
          rfl
  · rintro ρ' s' ⟨rfl, g2, g3, rfl⟩
    rw [List.length_map, List.take_length]
    exact bk_cons (bs_ret (ed_var 1 rfl (.inl rfl) rfl) ⟨rfl, rfl⟩)
end Law
set_option Elab.async false
set_option linter.all false
set_option maxRecDepth 100000
set_option maxHeartbeats 4000000
namespace Gh
open PySem PySem.Spec PyProof.Rows L2
section
variable {F : Fx} {ρ : List G} {tg iter elt t : Expr} {scope : Scope} {pos : Pos}
/-- two turns -/
theorem Comp.two {vs : List Nat} {x0 x1 y0 y1 : D} {s0 s1 s2 : Sx} (h0 : ∃ ρ2 js, (∀ c, Eg (F.blk scope c) tg x0 (gwipe ρ vs) ρ2 js) ∧ (∀ j ∈ js, j ∈ vs) ∧ ∀ c, Ed (F.blk scope c) ρ2 s0 elt y0 s1)
    (h1 : ∃ ρ2 js, (∀ c, Eg (F.blk scope c) tg x1 (gwipe ρ vs) ρ2 js) ∧ (∀ j ∈ js, j ∈ vs) ∧ ∀ c, Ed (F.blk scope c) ρ2 s1 elt y1 s2) :
    Comp F ρ scope vs tg [] elt [x0, x1] (fun i => [y0, y1].take i) (fun i => match i with | 0 => s0 | 1 => s1 | _ => s2) := by
  refine ⟨rfl, fun i hi => Nat.le_trans (List.length_take_le' i _) (by show 2 ≤ sizeLine; decide), fun i d hd => ?_⟩
  match i, hd with
  | 0, hd =>
    cases hd
    obtain ⟨ρ2, js, e1, e2, e3⟩ := h0
    exact ⟨ρ2, js, e1, e2, true, s0, fun c => .inl ⟨rfl, rfl, rfl⟩, fun _ => ⟨y0, e3, rfl⟩, fun z => by cases z⟩
  | 1, hd =>
    cases hd
    obtain ⟨ρ2, js, e1, e2, e3⟩ := h1
    exact ⟨ρ2, js, e1, e2, true, s1, fun c => .inl ⟨rfl, rfl, rfl⟩, fun _ => ⟨y1, e3, rfl⟩, fun z => by cases z⟩
  | i + 2, hd => cases hd
end
end Gh
namespace Law
open PySem PySem.Spec PyProof.Rows L2 Gh
variable {E : En} {s : Sx}
theorem rn_pickM (T : Tc E) {α : Type} {n : Nat} (f : α → D) (ls : List α) (h : St n s) (hn : n < 2 ^ 40) (hx : ls ≠ []) (hx2 : ls.length < 2 ^ 60) : ∃ (l : α) (s' : Sx), l ∈ ls ∧ St (n + 1) s' ∧ Rn E 2 "_law_pick" [.mut, .lst (ls.map f)] s (f l) s' := by
  obtain ⟨d, s', m, h', R⟩ := rn_pick T h hn (xs := ls.map f) (by simpa using hx) (by simpa using hx2)
  obtain ⟨l, ml, rfl⟩ := List.mem_map.mp m
  exact ⟨l, s', ml, h', R⟩
abbrev nD : Nat → D := fun k => .int k
theorem rn_length (T : Tc E) {n m : Nat} (h : St n s) (hn : n + 2 < 2 ^ 40) (hm : m < 2 ^ 14) : ∃ (l : Ln) (s' : Sx), l ≠ .auto ∧ l.n < 2 ^ 14 ∧ St (n + 2) s' ∧ Rn E 3 "_law_length" [.mut, .int m] s l.D s' := by
  obtain ⟨d, s1, hd, h1, R1⟩ := rn_draw T h (by omega) (many := 3) (by decide) (by decide)
  by_cases z : d = 0
  · subst z
    obtain ⟨k, s2, mk, h2, R2⟩ := rn_pickM T nD [0, 5, 10, 20, 25, 33, 50, 50, 100, 120, 299, 300] h1 (by omega) (by simp) (by decide)
    have hk : k < 2 ^ 14 := by
      simp only [List.mem_cons, List.not_mem_nil, or_false] at mk
      omega
    refine ⟨.part k, s2, (fun z => by cases z), hk, h2, ?_⟩
    refine T.d__law_length.rn sc__law_length (by rw [h.some, h2.some]) rfl fun fa cdv A outer sh H0 EX S0 p hr => ?_
    conv => arg 2; whnf
    refine bk_cons (bs_ifT (Cp.et ((cp_eq hr (ed_cl (ea_cons (ed_var 0 rfl (.inl rfl) rfl) (ea_cons ed_int ea_nil)) (hr.mono (by decide)) R1) ed_int (eqC_int _) (eqC_int _)).is (by rw [eqb_int]; rfl))) (bk_cons (bs_ret (ed_tup (ea_cons ed_str (ea_cons (ed_cl (ea_cons (ed_var 0 rfl (.inl rfl) rfl) (ea_cons (El.ed (el_lst (ea_cons ed_int (ea_cons ed_int (ea_cons ed_int (ea_cons ed_int (ea_cons ed_int (ea_cons ed_int (ea_cons ed_int (ea_cons ed_int (ea_cons ed_int (ea_cons ed_int (ea_cons ed_int (ea_cons ed_int ea_nil)))))))))))))) ea_nil)) (hr.mono (by decide)) R2) ea_nil))) ⟨rfl, rfl⟩)))
  · obtain ⟨k, s2, mk, h2, R2⟩ := rn_pickM T nD [0, 0, 1, 2, 3, 7, 10, 20, m, m, 10000] h1 (by omega) (by simp) (by show 11 < _; decide)
    have hk : k < 2 ^ 14 := by
      simp only [List.mem_cons, List.not_mem_nil, or_false] at mk
      omega
    refine ⟨.nat k, s2, (fun z => by cases z), hk, h2, ?_⟩
    refine T.d__law_length.rn sc__law_length (by rw [h.some, h2.some]) rfl fun fa cdv A outer sh H0 EX S0 p hr => ?_
    conv => arg 2; whnf
    refine bk_cons (bs_ifF (Cp.et ((cp_eq hr (ed_cl (ea_cons (ed_var 0 rfl (.inl rfl) rfl) (ea_cons ed_int ea_nil)) (hr.mono (by decide)) R1) ed_int (eqC_int _) (eqC_int _)).is (by rw [eqb_int]; exact decide_eq_false (by omega)))) (bk_nil ?_))
    exact bk_cons (bs_ret (ed_cl (ea_cons (ed_var 0 rfl (.inl rfl) rfl) (ea_cons (El.ed (el_lst (ea_cons ed_int (ea_cons ed_int (ea_cons ed_int (ea_cons ed_int (ea_cons ed_int (ea_cons ed_int (ea_cons ed_int (ea_cons ed_int (ea_cons (ed_var 1 rfl (.inl rfl) rfl) (ea_cons (ed_var 1 rfl (.inl rfl) rfl) (ea_cons ed_int ea_nil))))))))))))) ea_nil)) (hr.mono (by decide)) R2) ⟨rfl, rfl⟩)
theorem rn_told (T : Tc E) {n : Nat} (h : St n s) (hn : n + 100 < 2 ^ 40) : ∃ (t : Tl) (s' : Sx), t.Ok ∧ t.Sm ∧ St (n + 20) s' ∧ Rn E 4 "_law_told" [.mut] s (.tup t.ds) s' := by
  obtain ⟨l1, s1, a1, b1, h1, L1⟩ := rn_length T h (by omega) (m := 60) (by decide)
  obtain ⟨w, s2, mw, h2, P2⟩ := rn_pickM T Ln.D [.auto, .auto, l1, .part 50] h1 (by omega) (by simp) (by show 4 < _; decide)
  obtain ⟨le, s3, mle, h3, P3⟩ := rn_pickM T nD [0, 0, 0, 0, 5, 12, 40, 9999] h2 (by omega) (by simp) (by decide)
  obtain ⟨mo, s4, mmo, h4, P4⟩ := rn_pickM T moD [none, none, none, some 8, some 30, some 50, some 0, some 10000] h3 (by omega) (by simp) (by decide)
  obtain ⟨l5, s5, a5, b5, h5, L5⟩ := rn_length T h4 (by omega) (m := 15) (by decide)
  obtain ⟨ml, s6, mml, h6, P6⟩ := rn_pickM T Ln.D [.auto, l5, .nat 0] h5 (by omega) (by simp) (by show 3 < _; decide)
  obtain ⟨l7, s7, a7, b7, h7, L7⟩ := rn_length T h6 (by omega) (m := 15) (by decide)
  obtain ⟨mr, s8, mmr, h8, P8⟩ := rn_pickM T Ln.D [.auto, l7, .nat 0] h7 (by omega) (by simp) (by show 3 < _; decide)
  obtain ⟨l9, s9, a9, b9, h9, L9⟩ := rn_length T h8 (by omega) (m := 9) (by decide)
  obtain ⟨pl, s10, mpl, h10, P10⟩ := rn_pickM T Ln.D [.nat 0, .nat 0, l9] h9 (by omega) (by simp) (by show 3 < _; decide)
  obtain ⟨l11, s11, a11, b11, h11, L11⟩ := rn_length T h10 (by omega) (m := 9) (by decide)
  obtain ⟨pr, s12, mpr, h12, P12⟩ := rn_pickM T Ln.D [.nat 0, .nat 0, l11] h11 (by omega) (by simp) (by show 3 < _; decide)
  simp only [List.mem_cons, List.not_mem_nil, or_false] at mw mle mmo mml mmr mpl mpr
  refine ⟨⟨w, le, mo, ml, mr, pl, pr⟩, s12, ⟨?_, ?_⟩, ⟨?_, ?_, ?_, ?_, ?_, ?_, ?_⟩, h12.mono (by omega), ?_⟩
  · rcases mpl with rfl | rfl | rfl <;> first | assumption | (intro z; cases z)
  · rcases mpr with rfl | rfl | rfl <;> first | assumption | (intro z; cases z)
  · rcases mw with rfl | rfl | rfl | rfl <;> first | assumption | simp [Ln.n]
  · show le < _; omega
  · rintro m rfl
    simp at mmo; omega
  · rcases mml with rfl | rfl | rfl <;> first | assumption | simp [Ln.n]
  · rcases mmr with rfl | rfl | rfl <;> first | assumption | simp [Ln.n]
  · rcases mpl with rfl | rfl | rfl <;> first | assumption | simp [Ln.n]
  · rcases mpr with rfl | rfl | rfl <;> first | assumption | simp [Ln.n]
  refine T.d__law_told.rn sc__law_told (by rw [h.some, h12.some]) rfl fun fa cdv A outer sh H0 EX S0 p hr => ?_
  conv => arg 2; whnf
  refine bk_cons (bs_set 1 sc__law_told.nd rfl (.inl rfl) (ed_cl (ea_cons (ed_var 0 rfl (.inr (.inl rfl)) rfl) (ea_cons (El.ed (el_lst (ea_cons ed_str (ea_cons ed_str (ea_cons (ed_cl (ea_cons (ed_var 0 rfl (.inr (.inl rfl)) rfl) (ea_cons ed_int ea_nil)) (hr.mono (by decide)) L1) (ea_cons (ed_tup (ea_cons ed_str (ea_cons ed_int ea_nil))) ea_nil)))))) ea_nil)) (hr.mono (by decide)) P2) ?_)
  refine bk_cons (bs_set 2 sc__law_told.nd rfl (.inl rfl) (ed_cl (ea_cons (ed_var 0 rfl (.inr (.inl rfl)) rfl) (ea_cons (El.ed (el_lst (ea_cons ed_int (ea_cons ed_int (ea_cons ed_int (ea_cons ed_int (ea_cons ed_int (ea_cons ed_int (ea_cons ed_int (ea_cons ed_int ea_nil)))))))))) ea_nil)) (hr.mono (by decide)) P3) ?_)
  refine bk_cons (bs_set 3 sc__law_told.nd rfl (.inl rfl) (ed_cl (ea_cons (ed_var 0 rfl (.inr (.inl rfl)) rfl) (ea_cons (El.ed (el_lst (ea_cons ed_str (ea_cons ed_str (ea_cons ed_str (ea_cons ed_int (ea_cons ed_int (ea_cons ed_int (ea_cons ed_int (ea_cons ed_int ea_nil)))))))))) ea_nil)) (hr.mono (by decide)) P4) ?_)
  refine bk_cons (bs_setLc 4 [("_law_k", 5)] rfl sc__law_told.nd rfl rfl rfl (ei_range1 (j := 2) T.bf ed_int (by decide) (by decide)) (blkOk_by rfl) (Comp.two (x0 := .int 0) (x1 := .int 1) (s0 := s4) (s1 := s6) (s2 := s8) (y0 := ml.D) (y1 := mr.D) ?_ ?_) ?_)
  · exact ⟨_, _, fun c => eg_name 5 sc__law_told.nd rfl (.inl rfl), by decide, fun c => ed_cl (ea_cons (ed_var 0 rfl (.inr (.inl rfl)) rfl) (ea_cons (El.ed (el_lst (ea_cons ed_str (ea_cons (ed_cl (ea_cons (ed_var 0 rfl (.inr (.inl rfl)) rfl) (ea_cons ed_int ea_nil)) (hr.mono (by decide)) L5) (ea_cons ed_int ea_nil))))) ea_nil)) (hr.mono (by decide)) P6⟩
  · exact ⟨_, _, fun c => eg_name 5 sc__law_told.nd rfl (.inl rfl), by decide, fun c => ed_cl (ea_cons (ed_var 0 rfl (.inr (.inl rfl)) rfl) (ea_cons (El.ed (el_lst (ea_cons ed_str (ea_cons (ed_cl (ea_cons (ed_var 0 rfl (.inr (.inl rfl)) rfl) (ea_cons ed_int ea_nil)) (hr.mono (by decide)) L7) (ea_cons ed_int ea_nil))))) ea_nil)) (hr.mono (by decide)) P8⟩
  refine bk_cons (bs_setLc 6 [("_law_k", 5)] rfl sc__law_told.nd rfl rfl rfl (ei_range1 (j := 2) T.bf ed_int (by decide) (by decide)) (blkOk_by rfl) (Comp.two (x0 := .int 0) (x1 := .int 1) (s0 := s8) (s1 := s10) (s2 := s12) (y0 := pl.D) (y1 := pr.D) ?_ ?_) ?_)
  · exact ⟨_, _, fun c => eg_name 5 sc__law_told.nd rfl (.inl rfl), by decide, fun c => ed_cl (ea_cons (ed_var 0 rfl (.inr (.inl rfl)) rfl) (ea_cons (El.ed (el_lst (ea_cons ed_int (ea_cons ed_int (ea_cons (ed_cl (ea_cons (ed_var 0 rfl (.inr (.inl rfl)) rfl) (ea_cons ed_int ea_nil)) (hr.mono (by decide)) L9) ea_nil))))) ea_nil)) (hr.mono (by decide)) P10⟩
  · exact ⟨_, _, fun c => eg_name 5 sc__law_told.nd rfl (.inl rfl), by decide, fun c => ed_cl (ea_cons (ed_var 0 rfl (.inr (.inl rfl)) rfl) (ea_cons (El.ed (el_lst (ea_cons ed_int (ea_cons ed_int (ea_cons (ed_cl (ea_cons (ed_var 0 rfl (.inr (.inl rfl)) rfl) (ea_cons ed_int ea_nil)) (hr.mono (by decide)) L11) ea_nil))))) ea_nil)) (hr.mono (by decide)) P12⟩
  exact bk_cons (bs_ret (ed_tup (ea_cons (ed_var 1 rfl (.inl rfl) rfl) (ea_cons (ed_var 2 rfl (.inl rfl) rfl) (ea_cons (ed_var 3 rfl (.inl rfl) rfl) (ea_cons (ed_ixV (ev_own 4 rfl (.inl rfl) rfl) ed_int rfl) (ea_cons (ed_ixV (ev_own 4 rfl (.inl rfl) rfl) ed_int rfl) (ea_cons (ed_ixV (ev_own 6 rfl (.inl rfl) rfl) ed_int rfl) (ea_cons (ed_ixV (ev_own 6 rfl (.inl rfl) rfl) ed_int rfl) ea_nil)))))))) ⟨rfl, rfl⟩)
end Law
set_option Elab.async false
set_option linter.all false
set_option maxRecDepth 100000
set_option maxHeartbeats 4000000
namespace Law
open PySem PySem.Spec PyProof.Rows L2 Gh
variable {E : En} {s : Sx}
/-- one thing handed: a tuple, or a list of the same -/
def Hn (x y : D) : Prop := y = x ∨ ∃ xs, x = .tup xs ∧ y = .lst xs
theorem Hn.hd {l : Ln} {y : D} (h : Hn l.D y) : Hd l y := by
  rcases h with rfl | ⟨xs, e, rfl⟩
  · exact .same l
  · cases l with
    | nat n => cases e
    | auto => cases e
    | part n => cases e; exact .lst n
theorem Hn.mo {m : Option Nat} {y : D} (h : Hn (moD m) y) : y = moD m := by
  rcases h with rfl | ⟨xs, e, rfl⟩
  · rfl
  · cases m <;> cases e
theorem Hn.int {n : Int} {y : D} (h : Hn (.int n) y) : y = .int n := by
  rcases h with rfl | ⟨xs, e, rfl⟩
  · rfl
  · cases e
def isTu : D → Bool
  | .tup _ => true
  | _ => false
/-- a turn of it -/
def Tn (E : En) (x : D) (s : Sx) (y : D) (s' : Sx) : Prop := (isTu x = false ∧ y = x ∧ s' = s) ∨ ∃ (xs : List D) (k : Nat), x = .tup xs ∧ Rn E 1 "_law_draw" [.mut, .int 2] s (.int k) s' ∧ y = (if k = 0 then .lst xs else x)
theorem Tn.hn {x y : D} {s' : Sx} (h : Tn E x s y s') : Hn x y := by
  rcases h with ⟨_, e, _⟩ | ⟨xs, k, rfl, _, e⟩
  · exact .inl e
  · by_cases z : k = 0
    · rw [if_pos z] at e; exact .inr ⟨xs, rfl, e⟩
    · rw [if_neg z] at e; exact .inl e
theorem rn_handed (T : Tc E) {n : Nat} {t : Tl} (h : St n s) (hn : n + 100 < 2 ^ 40) : ∃ (x : D) (hs : List D) (s' : Sx), items x = some hs ∧ Th t hs ∧ St (n + 8) s' ∧ Rn E 2 "_law_handed_told" [.mut, .tup t.ds] s x s' := by
  obtain ⟨tr, t0, tg, ts⟩ := trace (α := List D × Sx) (N := 7) (R := fun x y => ∃ d v, t.ds[x.1.length]? = some d ∧ Tn E d x.2 v y.2 ∧ y.1 = x.1 ++ [v])
    (G := fun i x => x.1.length = i ∧ (∀ (j : Nat) (v : D), x.1[j]? = some v → ∃ d, t.ds[j]? = some d ∧ Hn d v) ∧ St (n + i) x.2) ([], s) ⟨rfl, (fun j v e => by cases e), h⟩ (by
      rintro i ⟨hs, s1⟩ hi ⟨h1, h2, h3⟩
      dsimp only at h1 h2 h3
      have hd : ∃ d, t.ds[hs.length]? = some d := ⟨_, List.getElem?_eq_getElem (by rw [h1]; exact hi)⟩
      obtain ⟨d, hd⟩ := hd
      have key : ∃ v s2, Tn E d s1 v s2 ∧ St (n + (i + 1)) s2 := by
        cases z : isTu d with
        | false => exact ⟨d, s1, .inl ⟨z, rfl, rfl⟩, h3.mono (by omega)⟩
        | true =>
          cases d with
          | tup xs =>
            obtain ⟨k, s2, hk, h4, R⟩ := rn_draw T h3 (by omega) (many := 2) (by decide) (by decide)
            exact ⟨_, s2, .inr ⟨xs, k, rfl, R, rfl⟩, h4⟩
          | _ => cases z
      obtain ⟨v, s2, k1, k2⟩ := key
      refine ⟨(hs ++ [v], s2), ⟨d, v, hd, k1, rfl⟩, by simp [h1], fun j u e => ?_, k2⟩
      rcases Nat.lt_or_ge j hs.length with z | z
      · rw [List.getElem?_append_left z] at e; exact h2 j u e
      · rw [List.getElem?_append_right z] at e
        cases zz : j - hs.length with
        | zero =>
          rw [zz] at e; cases e
          have : j = hs.length := by omega
          subst this
          exact ⟨d, hd, k1.hn⟩
        | succ m => rw [zz] at e; cases e)
  have hlen : ∀ i, i ≤ 7 → (tr i).1.length = i := fun i hi => (tg i hi).1
  obtain ⟨g1, g2, g3⟩ := tg 7 (Nat.le_refl _)
  have hth : Th t (tr 7).1 := by
    match e : (tr 7).1, g1 with
    | [a, b, c, d, e', f, g], _ =>
      rw [e] at g2
      obtain ⟨_, q0, r0⟩ := g2 0 a rfl
      obtain ⟨_, q1, r1⟩ := g2 1 b rfl
      obtain ⟨_, q2, r2⟩ := g2 2 c rfl
      obtain ⟨_, q3, r3⟩ := g2 3 d rfl
      obtain ⟨_, q4, r4⟩ := g2 4 e' rfl
      obtain ⟨_, q5, r5⟩ := g2 5 f rfl
      obtain ⟨_, q6, r6⟩ := g2 6 g rfl
      cases q0; cases q1; cases q2; cases q3; cases q4; cases q5; cases q6
      rw [r1.int, r2.mo]
      exact .mk r0.hd r3.hd r4.hd r5.hd r6.hd
  obtain ⟨k, s', hk, h', R⟩ := rn_draw T g3 (by omega) (many := 2) (by decide) (by decide)
  refine ⟨if k = 0 then .lst (tr 7).1 else .tup (tr 7).1, (tr 7).1, s', by split <;> rfl, hth, h', ?_⟩
  refine T.d__law_handed_told.rn sc__law_handed_told (by rw [h.some, h'.some]) rfl fun fa cdv A outer sh H0 EX S0 p hr => ?_
  conv => arg 2; whnf
  refine bk_cons (bs_setLc 2 [("_law_one", 3)] rfl sc__law_handed_told.nd rfl rfl rfl (out := fun i => (tr i).1) (st := fun i => (tr i).2) (by rw [t0]; exact ei_seq (ed_var 1 rfl (.inl rfl) rfl) (.inr rfl)) (blkOk_by rfl) ⟨by rw [t0], fun i hi => by rw [hlen i hi]; exact Nat.le_trans hi (by show 7 ≤ sizeLine; decide), fun i d hd => ?_⟩ ?_)
  · have hi : i < 7 := by
      rcases Nat.lt_or_ge i 7 with z | z
      · exact z
      · rw [List.getElem?_eq_none (by exact z)] at hd; cases hd
    obtain ⟨d', v, k1, k2, k3⟩ := ts i hi
    rw [hlen i (by omega), hd] at k1
    cases k1
    refine ⟨_, _, fun c => eg_name 3 sc__law_handed_told.nd rfl (.inl rfl), by decide, true, (tr i).2, fun c => .inl ⟨rfl, rfl, rfl⟩, fun _ => ⟨v, fun c => ?_, k3⟩, fun z => by cases z⟩
    have hk : ∃ kk, d.kind = some kk ∧ isK kk .tuple = isTu d := by
      have : d ∈ t.ds := List.mem_of_getElem? hd
      simp only [Tl.ds, List.mem_cons, List.not_mem_nil, or_false] at this
      have hl : ∀ l : Ln, ∃ kk, l.D.kind = some kk ∧ isK kk .tuple = isTu l.D := fun l => by cases l <;> exact ⟨_, rfl, rfl⟩
      rcases this with rfl | rfl | rfl | rfl | rfl | rfl | rfl
      · exact hl _
      · exact ⟨_, rfl, rfl⟩
      · cases t.most <;> exact ⟨_, rfl, rfl⟩
      · exact hl _
      · exact hl _
      · exact hl _
      · exact hl _
    obtain ⟨kk, hk1, hk2⟩ := hk
    rcases k2 with ⟨z, rfl, e⟩ | ⟨xs, m, rfl, R1, e⟩
    · rw [e]
      exact ed_ifF (Ew.et (ew_andF (et_val (Ed.is (ed_isi T.bf (ed_var 3 rfl (.inl rfl) rfl) hk1 (cn_tuple T.bf)) (by rw [hk2, z]))))) (ed_var 3 rfl (.inl rfl) rfl)
    · by_cases z : m = 0
      · rw [e, if_pos z]
        exact ed_ifT (Ew.et (ew_andT (et_val (Ed.is (ed_isi T.bf (ed_var 3 rfl (.inl rfl) rfl) hk1 (cn_tuple T.bf)) (by rw [hk2]; rfl))) (ew_and1 (Cp.et (Cp.is (cp_eq hr (ed_cl (ea_cons (ed_var 0 rfl (.inr (.inl rfl)) rfl) (ea_cons ed_int ea_nil)) (hr.mono (by decide)) R1) ed_int (eqC_int _) (eqC_int _)) (by rw [eqb_int]; exact decide_eq_true (by omega))))))) (El.ed (el_listOf T.bf (ed_var 3 rfl (.inl rfl) rfl) (.inr rfl)))
      · rw [e, if_neg z]
        exact ed_ifF (Ew.et (ew_andT (et_val (Ed.is (ed_isi T.bf (ed_var 3 rfl (.inl rfl) rfl) hk1 (cn_tuple T.bf)) (by rw [hk2]; rfl))) (ew_and1 (Cp.et (Cp.is (cp_eq hr (ed_cl (ea_cons (ed_var 0 rfl (.inr (.inl rfl)) rfl) (ea_cons ed_int ea_nil)) (hr.mono (by decide)) R1) ed_int (eqC_int _) (eqC_int _)) (by rw [eqb_int]; exact decide_eq_false (by omega))))))) (ed_var 3 rfl (.inl rfl) rfl)
  · refine bk_freeze 2 rfl (bk_cons ?_)
    by_cases z : k = 0
    · rw [if_pos z]
      exact bs_ret (ed_ifT (Cp.et (Cp.is (cp_eq hr (ed_cl (ea_cons (ed_var 0 rfl (.inr (.inl rfl)) rfl) (ea_cons ed_int ea_nil)) (hr.mono (by decide)) R) ed_int (eqC_int _) (eqC_int _)) (by rw [eqb_int]; exact decide_eq_true (by omega)))) (ed_var 2 rfl (.inl rfl) rfl)) ⟨rfl, rfl⟩
    · rw [if_neg z]
      exact bs_ret (ed_ifF (Cp.et (Cp.is (cp_eq hr (ed_cl (ea_cons (ed_var 0 rfl (.inr (.inl rfl)) rfl) (ea_cons ed_int ea_nil)) (hr.mono (by decide)) R) ed_int (eqC_int _) (eqC_int _)) (by rw [eqb_int]; exact decide_eq_false (by omega)))) (ed_tupleOf T.bf (ed_var 2 rfl (.inl rfl) rfl) (.inl rfl))) ⟨rfl, rfl⟩
theorem LD_eqC (l : Ln) : l.D.eqC := by
  cases l with
  | nat n => exact eqC_int _
  | part n => exact (eqDs.cons (n := 0) .str (.cons (.int _) .nil)).tup.eqC
  | auto => exact eqC_str
theorem LD_auto (l : Ln) : l.D.eqb (.str "auto") = l.isA := by
  cases l with
  | auto => show (D.str _).eqb _ = _; rw [eqb_str]; decide +kernel
  | nat n => exact int_str _ _
  | part n => exact tup_str _ _
theorem fr_zero : (.tup [.int 0, .int 1] : D) = fr 0 := rfl
theorem fr_one : (.tup [.int 1, .int 1] : D) = fr 1 := rfl
theorem rn_worth (T : Tc E) {l : Ln} {r : Rat} (hl : l.n < 2 ^ 14) (hr : Sz 110 r) : Rn E 3 "_law_worth" [l.D, fr r] s (fr (l.wt r)) s := by
  refine T.d__law_worth.rn sc__law_worth rfl rfl fun fa cdv A outer sh H0 EX S0 p hrm => ?_
  conv => arg 2; whnf
  have ha := LD_auto l
  have hk : ∃ kk, l.D.kind = some kk := by cases l <;> exact ⟨_, rfl⟩
  cases l with
  | auto => exact bk_cons (bs_ifT (Cp.et (Cp.is (cp_eq hrm (ed_var 0 rfl (.inl rfl) rfl) ed_str (LD_eqC _) eqC_str) ha)) (bk_cons (bs_ret (ed_tup (ea_cons ed_int (ea_cons ed_int ea_nil))) ⟨fr_zero, rfl⟩)))
  | nat n =>
    refine bk_cons (bs_ifF (Cp.et (Cp.is (cp_eq hrm (ed_var 0 rfl (.inl rfl) rfl) ed_str (LD_eqC _) eqC_str) ha)) (bk_nil (bk_cons (bs_ret (ed_ifT (et_val (Ed.is (ed_isi T.bf (ed_var 0 rfl (.inl rfl) rfl) (k := .int) rfl (cn_int T.bf)) rfl)) (ed_cl (ea_cons (ed_var 0 rfl (.inl rfl) rfl) (ea_cons ed_int ea_nil)) (hrm.mono (by decide)) (rn_law_lowestN (b := 1) T (by decide) (by decide +kernel)))) ⟨?_, rfl⟩))))
    show fr (mkRat n 1) = fr (n : Rat)
    congr 1
    exact Rat.mkRat_one n
  | part n =>
    exact bk_cons (bs_ifF (Cp.et (Cp.is (cp_eq hrm (ed_var 0 rfl (.inl rfl) rfl) ed_str (LD_eqC _) eqC_str) ha)) (bk_nil (bk_cons (bs_ret (ed_ifF (et_val (Ed.is (ed_isi T.bf (ed_var 0 rfl (.inl rfl) rfl) (k := .tuple) rfl (cn_int T.bf)) rfl)) (ed_cl (ea_cons (ed_var 1 rfl (.inl rfl) rfl) (ea_cons (ed_tup (ea_cons (ed_ix (ed_var 0 rfl (.inl rfl) rfl) ed_int rfl) (ea_cons ed_int ea_nil))) ea_nil)) (hrm.mono (by decide)) (rn_law_timesP (n := n) (m := 100) T (hr.mono (by decide)) (Nat.lt_of_lt_of_le hl (Nat.pow_le_pow_right (by decide) (by decide))) (Nat.lt_of_lt_of_le (show 100 < 2 ^ 7 by decide) (Nat.pow_le_pow_right (by decide) (by decide))) (by decide)))) ⟨rfl, rfl⟩))))
theorem moD_eqC (m : Option Nat) : (moD m).eqC := by
  cases m with
  | none => exact eqC_str
  | some m => exact eqC_int _
theorem rn_law_held (T : Tc E) {x : Rat} {l : Nat} {m : Option Nat} (hx : Sz 3000 x) (hl : l < 2 ^ 14) (hm : ∀ k, m = some k → k < 2 ^ 14) : Rn E 2 "_law_held" [fr x, .int l, moD m] s (fr (heldR x l m)) s := by
  have zl : Sz 3000 (l : Rat) := (Sz.nat hl).mono (by decide)
  refine T.d__law_held.rn sc__law_held rfl rfl fun fa cdv A outer sh H0 EX S0 p hr => ?_
  conv => arg 2; whnf
  have fin : ∀ f : Rat, Sz 3000 f → Bk (bodyF E ["_law_number", "_law_least", "_law_most", "_law_found"] "_law_held" t__law_held s fa cdv A outer sh H0 EX S0 p) ((defBody t__law_held).drop 1) [.val (fr x), .val (.int l), .val (moD m), .val (fr f)] s ⟨fun _ t => fr (if (l : Rat) ≤ f then f else l) = .non ∧ t = s, fun r t => r = fr (if (l : Rat) ≤ f then f else l) ∧ t = s, fun _ _ => False, fun _ _ => False, fun _ _ _ => False⟩ := fun f hf => by
    conv => arg 2; whnf
    refine bk_cons (bs_ret (ed_if (et_val (ed_cl (ea_cons (ed_var 3 rfl (.inl rfl) rfl) (ea_cons (Ed.is (ed_tup (ea_cons (ed_var 1 rfl (.inl rfl) rfl) (ea_cons ed_int ea_nil))) (fr_nat l)) ea_nil)) (hr.mono (by decide)) (rn_law_less T hf zl))) (fun _ => (ed_tup (ea_cons (ed_var 1 rfl (.inl rfl) rfl) (ea_cons ed_int ea_nil)))) (fun _ => (ed_var 3 rfl (.inl rfl) rfl))) ⟨?_, rfl⟩)
    by_cases h : (l : Rat) ≤ f
    · rw [if_pos h, if_neg (by rw [decide_eq_false (Rat.not_lt.mpr h)]; decide)]
    · rw [if_neg h, if_pos (decide_eq_true (Rat.not_le.mp h))]; rfl
  cases m with
  | none =>
    exact bk_cons (bs_set 3 (d := fr x) sc__law_held.nd rfl (.inl rfl) (ed_ifF (s1 := s) (Ew.et (ew_andF (Cp.et (Cp.is (cp_ne hr (ed_var 2 rfl (.inl rfl) rfl) ed_str (moD_eqC none) eqC_str) (by show (!(D.str _).eqb _) = _; rw [eqb_str]; decide +kernel))))) (ed_var 0 rfl (.inl rfl) rfl)) (fin x hx))
  | some m =>
    have zm : Sz 3000 (m : Rat) := (Sz.nat (hm m rfl)).mono (by decide)
    have hf : Sz 3000 (if x ≤ (m : Rat) then x else (m : Rat)) := by split <;> assumption
    refine bk_cons (bs_set 3 (d := fr (if x ≤ (m : Rat) then x else (m : Rat))) sc__law_held.nd rfl (.inl rfl) (Ed.is (ed_if (s1 := s) (Ew.et (ew_andT (Cp.et (Cp.is (cp_ne hr (ed_var 2 rfl (.inl rfl) rfl) ed_str (moD_eqC _) eqC_str) (by show (!(D.int _).eqb _) = _; rw [int_str]; rfl))) (ew_and1 (et_val (ed_cl (ea_cons (Ed.is (ed_tup (ea_cons (ed_var 2 rfl (.inl rfl) rfl) (ea_cons ed_int ea_nil))) (fr_nat m)) (ea_cons (ed_var 0 rfl (.inl rfl) rfl) ea_nil)) (hr.mono (by decide)) (rn_law_less T zm hx)))))) (fun _ => (ed_tup (ea_cons (ed_var 2 rfl (.inl rfl) rfl) (ea_cons ed_int ea_nil)))) (fun _ => (ed_var 0 rfl (.inl rfl) rfl))) ?_) (fin _ hf))
    by_cases h : x ≤ (m : Rat)
    · rw [if_pos h, if_neg (by rw [decide_eq_false (Rat.not_lt.mpr h)]; decide)]
    · rw [if_neg h, if_pos (decide_eq_true (Rat.not_le.mp h))]; rfl
end Law
set_option Elab.async false
set_option linter.all false
set_option maxRecDepth 100000
set_option maxHeartbeats 4000000
namespace Law
open PySem PySem.Spec PyProof.Rows L2 Gh
variable {E : En} {s : Sx}
theorem fr_half : (.tup [.int 1, .int 2] : D) = fr (1 / 2) := by
  have h1 : (1 / 2 : Rat).num = 1 := by decide +kernel
  have h2 : (1 / 2 : Rat).den = 2 := by decide +kernel
  unfold fr
  rw [h1, h2]; rfl
abbrev N_across : List Str := ["_law_told_here", "_law_room", "_law_width", "_law_least", "_law_most", "_law_mleft", "_law_mright", "_law_pleft", "_law_pright", "_law_left", "_law_near_here", "_law_far", "_law_rest", "_law_kept", "_law_spare", "_law_right"]
theorem rn_law_across (T : Tc E) {t : Tl} (sm : t.Sm) {r : Rat} (hr : Sz 110 r) : Rn E 4 "_law_across" [.tup t.ds, fr r] s (.tup ((t.five r).qs.map fr)) s := by
  have z1 := Ln.sz hr sm.ml
  have z2 := Ln.sz hr sm.pl
  have z3 := Ln.sz hr sm.pr
  have z4 := Ln.sz hr sm.mr
  have zr : Sz 3000 r := hr.mono (by decide)
  refine T.d__law_across.rn sc__law_across rfl rfl fun fa cdv A outer sh H0 EX S0 p hrm => ?_
  conv => arg 2; whnf
  unfold Tl.ds
  refine bk_cons (bs_asg (ed_var 0 rfl (.inl rfl) rfl) (eg_tup rfl (egs_cons (eg_name 2 sc__law_across.nd rfl (.inl rfl)) (egs_cons (eg_name 3 sc__law_across.nd rfl (.inl rfl)) (egs_cons (eg_name 4 sc__law_across.nd rfl (.inl rfl)) (egs_cons (eg_name 5 sc__law_across.nd rfl (.inl rfl)) (egs_cons (eg_name 6 sc__law_across.nd rfl (.inl rfl)) (egs_cons (eg_name 7 sc__law_across.nd rfl (.inl rfl)) (egs_cons (eg_name 8 sc__law_across.nd rfl (.inl rfl)) egs_nil)))))))) ?_)
  refine bk_cons (bs_par3 9 10 11 rfl sc__law_across.nd rfl rfl rfl (by decide) (by decide) (by decide) rfl rfl rfl (ea_cons (ed_cl (ea_cons (ed_var 5 rfl (.inl rfl) rfl) (ea_cons (ed_var 1 rfl (.inl rfl) rfl) ea_nil)) (hrm.mono (by decide)) (rn_worth T sm.ml hr)) (ea_cons (ed_cl (ea_cons (ed_var 7 rfl (.inl rfl) rfl) (ea_cons (ed_var 1 rfl (.inl rfl) rfl) ea_nil)) (hrm.mono (by decide)) (rn_worth T sm.pl hr)) (ea_cons (ed_cl (ea_cons (ed_var 8 rfl (.inl rfl) rfl) (ea_cons (ed_var 1 rfl (.inl rfl) rfl) ea_nil)) (hrm.mono (by decide)) (rn_worth T sm.pr hr)) ea_nil))) ?_)
  refine bk_cons (bs_set 12 sc__law_across.nd rfl (.inl rfl) (d := fr (t.free r)) (Ed.is (ed_cl (ea_cons (ed_cl (ea_cons (ed_cl (ea_cons (ed_var 1 rfl (.inl rfl) rfl) (ea_cons (ed_var 9 rfl (.inl rfl) rfl) ea_nil)) (hrm.mono (by decide)) (rn_law_minus T zr (z1.mono (by decide)))) (ea_cons (ed_var 10 rfl (.inl rfl) rfl) ea_nil)) (hrm.mono (by decide)) (rn_law_minus T ((hr.sub z1).mono (by decide)) (z2.mono (by decide)))) (ea_cons (ed_cl (ea_cons (ed_var 11 rfl (.inl rfl) rfl) (ea_cons (ed_cl (ea_cons (ed_var 6 rfl (.inl rfl) rfl) (ea_cons (ed_var 1 rfl (.inl rfl) rfl) ea_nil)) (hrm.mono (by decide)) (rn_worth T sm.mr hr)) ea_nil)) (hrm.mono (by decide)) (rn_law_plus T (z3.mono (by decide)) (z4.mono (by decide)))) ea_nil)) (hrm.mono (by decide)) (rn_law_minus T (((hr.sub z1).sub z2).mono (by decide)) ((z3.add z4).mono (by decide)))) (congrArg fr (by unfold Tl.free; grind))) ?_)
  refine bk_cons (bs_set 13 sc__law_across.nd rfl (.inl rfl) (d := fr (t.kept r)) (ed_cl (ea_cons (Ed.is (y := fr (if t.w.isA then t.free r else t.w.wt r)) (ed_if (Cp.et (cp_eq hrm (ed_var 2 rfl (.inl rfl) rfl) ed_str (LD_eqC t.w) eqC_str)) (fun _ => (ed_var 12 rfl (.inl rfl) rfl)) (fun _ => (ed_cl (ea_cons (ed_var 2 rfl (.inl rfl) rfl) (ea_cons (ed_var 1 rfl (.inl rfl) rfl) ea_nil)) (hrm.mono (by decide)) (rn_worth T sm.w hr)))) ?_) (ea_cons (ed_var 3 rfl (.inl rfl) rfl) (ea_cons (ed_var 4 rfl (.inl rfl) rfl) ea_nil))) (hrm.mono (by decide)) (rn_law_held T ((sm.zw hr).mono (by decide)) sm.least sm.most)) ?_)
  · rw [LD_auto]
    cases t.w.isA <;> rfl
  refine bk_cons (bs_set 14 sc__law_across.nd rfl (.inl rfl) (d := fr (t.spare r)) (ed_cl (ea_cons (ed_var 12 rfl (.inl rfl) rfl) (ea_cons (ed_var 13 rfl (.inl rfl) rfl) ea_nil)) (hrm.mono (by decide)) (rn_law_minus T ((sm.zfree hr).mono (by decide)) ((sm.zkept hr).mono (by decide)))) ?_)
  have fin : Bk (bodyF E N_across "_law_across" t__law_across s fa cdv A outer sh H0 EX S0 p) ((defBody t__law_across).drop 6) [.val (.tup [t.w.D, .int t.least, moD t.most, t.ml.D, t.mr.D, t.pl.D, t.pr.D]), .val (fr r), .val t.w.D, .val (.int t.least), .val (moD t.most), .val t.ml.D, .val t.mr.D, .val t.pl.D, .val t.pr.D, .val (fr (t.left r)), .val (fr (t.pl.wt r)), .val (fr (t.pr.wt r)), .val (fr (t.free r)), .val (fr (t.kept r)), .val (fr (t.spare r)), .no] s
      ⟨fun _ t' => D.tup ((t.five r).qs.map fr) = .non ∧ t' = s, fun r' t' => r' = .tup ((t.five r).qs.map fr) ∧ t' = s, fun _ _ => False, fun _ _ => False, fun _ _ _ => False⟩ := by
    conv => arg 2; whnf
    refine bk_cons (bs_set 15 sc__law_across.nd rfl (.inl rfl) (d := fr (t.right r)) (Ed.is (ed_cl (ea_cons (ed_cl (ea_cons (ed_var 1 rfl (.inl rfl) rfl) (ea_cons (ed_var 9 rfl (.inl rfl) rfl) ea_nil)) (hrm.mono (by decide)) (rn_law_minus T zr ((sm.zleft hr).mono (by decide)))) (ea_cons (ed_cl (ea_cons (ed_cl (ea_cons (ed_var 10 rfl (.inl rfl) rfl) (ea_cons (ed_var 13 rfl (.inl rfl) rfl) ea_nil)) (hrm.mono (by decide)) (rn_law_plus T (z2.mono (by decide)) ((sm.zkept hr).mono (by decide)))) (ea_cons (ed_var 11 rfl (.inl rfl) rfl) ea_nil)) (hrm.mono (by decide)) (rn_law_plus T ((z2.add (sm.zkept hr)).mono (by decide)) (z3.mono (by decide)))) ea_nil)) (hrm.mono (by decide)) (rn_law_minus T ((hr.sub (sm.zleft hr)).mono (by decide)) (((z2.add (sm.zkept hr)).add z3).mono (by decide)))) (congrArg fr (by unfold Tl.right; grind))) ?_)
    exact bk_cons (bs_ret (ed_tup (ea_cons (ed_var 9 rfl (.inl rfl) rfl) (ea_cons (ed_var 10 rfl (.inl rfl) rfl) (ea_cons (ed_var 13 rfl (.inl rfl) rfl) (ea_cons (ed_var 11 rfl (.inl rfl) rfl) (ea_cons (ed_var 15 rfl (.inl rfl) rfl) ea_nil)))))) ⟨rfl, rfl⟩)
  have hlt : decide ((0 : Rat) < t.spare r) = !decide (t.spare r ≤ 0) := by
    by_cases h : t.spare r ≤ 0
    · rw [decide_eq_true h, decide_eq_false (Rat.not_lt.mpr h)]; rfl
    · rw [decide_eq_false h, decide_eq_true (Rat.not_le.mp h)]; rfl
  refine bk_cons (bs_if (Ew.et (ew_and (Cp.et (cp_eq hrm (ed_var 5 rfl (.inl rfl) rfl) ed_str (LD_eqC t.ml) eqC_str)) fun _ => (ew_and1 (et_val (ed_cl (ea_cons (Ed.is (ed_tup (ea_cons ed_int (ea_cons ed_int ea_nil))) fr_zero) (ea_cons (ed_var 14 rfl (.inl rfl) rfl) ea_nil)) (hrm.mono (by decide)) (rn_law_less T .zero ((sm.zspare hr).mono (by decide)))))))) (fun h => ?_) (fun h => ?_))
  · rw [LD_auto, hlt] at h
    have e : t.left r = if t.mr.isA then t.spare r * (1 / 2) else t.spare r := by unfold Tl.left; rw [if_pos h]
    refine bk_cons (bs_set 9 sc__law_across.nd rfl (.inl rfl) (d := fr (t.left r)) (Ed.is (ed_if (Cp.et (cp_eq hrm (ed_var 6 rfl (.inl rfl) rfl) ed_str (LD_eqC t.mr) eqC_str)) (fun _ => (ed_cl (ea_cons (ed_var 14 rfl (.inl rfl) rfl) (ea_cons (Ed.is (ed_tup (ea_cons ed_int (ea_cons ed_int ea_nil))) fr_half) ea_nil)) (hrm.mono (by decide)) (rn_law_times T ((sm.zspare hr).mono (by decide)) ⟨by decide +kernel, by decide +kernel⟩))) (fun _ => (ed_var 14 rfl (.inl rfl) rfl))) ?_) (bk_nil fin))
    rw [LD_auto, e]
    cases t.mr.isA <;> rfl
  · rw [LD_auto, hlt] at h
    have e : t.left r = t.ml.wt r := by unfold Tl.left; rw [h]; rfl
    rw [e] at fin
    exact bk_nil fin
/-- the five are the room -/
theorem five_sum (t : Tl) (r : Rat) : 0 + t.left r + t.pl.wt r + t.kept r + t.pr.wt r + t.right r = r := by unfold Tl.right; grind
end Law
set_option Elab.async false
set_option linter.all false
set_option maxRecDepth 100000
set_option maxHeartbeats 4000000
namespace Law
open PySem PySem.Spec PyProof.Rows L2 Gh
variable {E : En} {s : Sx}
/-- so many hundredths -/
def Hu (B : Nat) (q : Rat) : Prop := ∃ k : Int, q * 100 = (k : Rat) ∧ k.natAbs ≤ B
theorem Hu.mono {B C : Nat} {q : Rat} (h : Hu B q) (l : B ≤ C) : Hu C q := by
  obtain ⟨k, e, h⟩ := h
  exact ⟨k, e, Nat.le_trans h l⟩
theorem Hu.add {B C : Nat} {p q : Rat} (h : Hu B p) (g : Hu C q) : Hu (B + C) (p + q) := by
  obtain ⟨k, e, h⟩ := h
  obtain ⟨l, f, g⟩ := g
  exact ⟨k + l, by rw [Rat.add_mul, e, f, Rat.intCast_add], by omega⟩
theorem Hu.sub {B C : Nat} {p q : Rat} (h : Hu B p) (g : Hu C q) : Hu (B + C) (p - q) := by
  obtain ⟨k, e, h⟩ := h
  obtain ⟨l, f, g⟩ := g
  exact ⟨k - l, by rw [Rat.intCast_sub, ← e, ← f]; grind, by omega⟩
theorem Hu.zero {B : Nat} : Hu B 0 := ⟨0, by rw [Rat.zero_mul]; rfl, by simp⟩
theorem Hu.one : Hu 100 1 := ⟨100, by rw [Rat.one_mul]; rfl, by decide⟩
theorem Hu.nat {n : Nat} (h : n < 2 ^ 14) : Hu (2 ^ 21) (n : Rat) := ⟨(n : Int) * 100, by rw [Rat.intCast_mul]; rfl, by omega⟩
theorem Hu.mk {B : Nat} {q : Rat} (h : Hu B q) : ∃ k : Int, q = mkRat k 100 ∧ k.natAbs ≤ B := by
  obtain ⟨k, e, h⟩ := h
  refine ⟨k, ?_, h⟩
  rw [Rat.mkRat_eq_div]
  have : q = (k : Rat) / 100 := by grind
  exact this
theorem Hu.num {B : Nat} {q : Rat} (h : Hu B q) : q.num.natAbs ≤ B ∧ q.den ≤ 100 := by
  obtain ⟨k, e, h⟩ := h.mk
  rw [e]
  constructor
  · rw [mk_num k 100 (by decide)]
    exact Nat.le_trans (Int.natAbs_ediv_le_natAbs ..) h
  · rw [Rat.den_mkRat, if_neg (by decide)]
    exact Nat.div_le_self ..
theorem Hu.part {n : Nat} (h : n < 2 ^ 14) : Hu (2 ^ 21) (mkRat n 100) := ⟨n, by rw [Rat.mkRat_eq_div]; have : ((n : Int) : Rat) / ((100 : Nat) : Rat) * 100 = ((n : Int) : Rat) := by { have h : ((100 : Nat) : Rat) = 100 := rfl; rw [h]; grind }; exact this, by omega⟩
theorem Hu.sz {B : Nat} {q : Rat} (h : Hu B q) (hB : B < 2 ^ 40) : Sz 40 q := by
  have := h.num
  exact ⟨by omega, by omega⟩
theorem Ln.hu0 {l : Ln} (h : l.n < 2 ^ 14) : Hu (2 ^ 21) (l.wt 0) := by
  cases l with
  | nat n => exact .nat h
  | part n => show Hu _ (0 * _); rw [Rat.zero_mul]; exact .zero
  | auto => exact .zero
theorem Ln.hu1 {l : Ln} (h : l.n < 2 ^ 14) : Hu (2 ^ 21) (l.wt 1 - l.wt 0) := by
  cases l with
  | nat n => show Hu _ ((n : Rat) - n); rw [Rat.sub_self]; exact .zero
  | part n => show Hu _ (1 * _ - 0 * _); rw [Rat.zero_mul, Rat.one_mul]; have : mkRat (n : Int) 100 - 0 = mkRat (n : Int) 100 := by grind
              rw [this]; exact .part h
  | auto => show Hu _ ((0 : Rat) - 0); rw [Rat.sub_self]; exact .zero
theorem sz1 : Sz 40 1 := ⟨by decide, by decide⟩
/-- the sum of what stands beside -/
def nr (ls : List Ln) : Rat × Rat := ls.foldl (fun a l => (a.1 + l.wt 0, a.2 + (l.wt 1 - l.wt 0))) (0, 0)
theorem nr_snoc (ls : List Ln) (l : Ln) : nr (ls ++ [l]) = ((nr ls).1 + l.wt 0, (nr ls).2 + (l.wt 1 - l.wt 0)) := by simp [nr]
theorem nr_hu (ls : List Ln) (h : ∀ l ∈ ls, l.n < 2 ^ 14) : ∀ i, Hu (i * 2 ^ 21) (nr (ls.take i)).1 ∧ Hu (i * 2 ^ 21) (nr (ls.take i)).2
  | 0 => ⟨.zero, .zero⟩
  | i + 1 => by
    have ih := nr_hu ls h i
    rw [List.take_add_one]
    cases e : ls[i]? with
    | none => rw [show (none : Option Ln).toList = [] from rfl, List.append_nil]; exact ⟨ih.1.mono (by omega), ih.2.mono (by omega)⟩
    | some l =>
      have hl := h l (List.mem_of_getElem? e)
      rw [show (some l).toList = [l] from rfl, nr_snoc]
      exact ⟨(ih.1.add (Ln.hu0 hl)).mono (by omega), (ih.2.add (Ln.hu1 hl)).mono (by omega)⟩
def Tl.beside (t : Tl) : List Ln := [t.ml, t.pl, t.pr, t.mr]
def Tl.forms (t : Tl) : List (Rat × Rat) := [(0 - (nr t.beside).1, 1 - (nr t.beside).2), (0, 0), ((t.least : Rat), 0)] ++ (match t.most with | some m => [((m : Rat), 0)] | none => []) ++ (if t.w.isA then [] else [(t.w.wt 0, t.w.wt 1 - t.w.wt 0)])
theorem Tl.Sm.mem {t : Tl} (h : t.Sm) : ∀ l ∈ t.beside, l.n < 2 ^ 14 := by
  intro l m
  simp only [Tl.beside, List.mem_cons, List.not_mem_nil, or_false] at m
  rcases m with rfl | rfl | rfl | rfl
  · exact h.ml
  · exact h.pl
  · exact h.pr
  · exact h.mr
theorem forms_hu {t : Tl} (h : t.Sm) : ∀ f ∈ t.forms, Hu (2 ^ 24) f.1 ∧ Hu (2 ^ 24) f.2 := by
  have hn := nr_hu t.beside h.mem 4
  have e : t.beside.take 4 = t.beside := rfl
  rw [e] at hn
  intro f m
  rcases List.mem_append.mp m with m | m
  · rcases List.mem_append.mp m with m | m
    · simp only [List.mem_cons, List.not_mem_nil, or_false] at m
      rcases m with rfl | rfl | rfl
      · exact ⟨(Hu.zero (B := 0).sub hn.1).mono (by decide), (Hu.one.sub hn.2).mono (by decide)⟩
      · exact ⟨.zero, .zero⟩
      · exact ⟨(Hu.nat h.least).mono (by decide), .zero⟩
    · cases e : t.most with
      | none => rw [e] at m; cases m
      | some k => rw [e] at m; rw [List.mem_singleton.mp m]; exact ⟨(Hu.nat (h.most k e)).mono (by decide), .zero⟩
  · cases e : t.w.isA with
    | true => rw [e] at m; cases m
    | false => rw [e] at m; rw [List.mem_singleton.mp m]; exact ⟨(Ln.hu0 h.w).mono (by decide), (Ln.hu1 h.w).mono (by decide)⟩
theorem forms_len (t : Tl) : t.forms.length ≤ 5 := by
  unfold Tl.forms
  cases t.most <;> cases t.w.isA <;> simp
abbrev fp (f : Rat × Rat) : D := fm f.1 f.2
/-- where two of them meet -/
def meet (f g : Rat × Rat) : List Rat := if (f.2 - g.2).num = 0 then [] else if 0 < (ovr (g.1 - f.1) (f.2 - g.2)).num then [ovr (g.1 - f.1) (f.2 - g.2)] else []
def meets1 (fs : List (Rat × Rat)) (f : Rat × Rat) : List Rat := fs.flatMap (meet f)
def meets (fs gs : List (Rat × Rat)) : List Rat := gs.flatMap (meets1 fs)
theorem meet_ok {f g : Rat × Rat} (h1 : Hu (2 ^ 24) f.1) (h2 : Hu (2 ^ 24) f.2) (h3 : Hu (2 ^ 24) g.1) (h4 : Hu (2 ^ 24) g.2) {q : Rat} (m : q ∈ meet f g) : 0 < q.num ∧ Sz 40 q := by
  unfold meet at m
  split at m
  · cases m
  · rename_i h0
    split at m
    · rename_i hp
      rw [List.mem_singleton.mp m]
      have n1 := (h3.sub h1).num
      have n2 := (h2.sub h4).num
      exact ⟨hp, (ovr_sz h0 26 7 (by omega) (by omega) (by omega) (by omega)).mono (by decide)⟩
    · cases m
theorem meet_len (f g : Rat × Rat) : (meet f g).length ≤ 1 := by
  unfold meet
  split
  · simp
  · split <;> simp
theorem meets1_len (fs : List (Rat × Rat)) (f : Rat × Rat) : (meets1 fs f).length ≤ fs.length := by
  unfold meets1
  induction fs with
  | nil => simp
  | cons g gs ih =>
    have := meet_len f g
    rw [List.flatMap_cons, List.length_append, List.length_cons]; omega
theorem meets_len (fs : List (Rat × Rat)) : ∀ gs : List (Rat × Rat), (meets fs gs).length ≤ gs.length * fs.length
  | [] => by simp [meets]
  | g :: gs => by
    have := meets1_len fs g
    have := meets_len fs gs
    show ((g :: gs).flatMap (meets1 fs)).length ≤ _
    rw [List.flatMap_cons, List.length_append, List.length_cons, Nat.add_mul]
    unfold meets at this
    omega
theorem meets_mem {fs gs : List (Rat × Rat)} {q : Rat} (h : q ∈ meets fs gs) : ∃ f ∈ gs, ∃ g ∈ fs, q ∈ meet f g := by
  obtain ⟨f, mf, h⟩ := List.mem_flatMap.mp h
  obtain ⟨g, mg, h⟩ := List.mem_flatMap.mp h
  exact ⟨f, mf, g, mg, h⟩
def Tl.corn (t : Tl) : List Rat := sortQ (0 :: meets t.forms t.forms)
theorem corn_ok {t : Tl} (sm : t.Sm) : ∀ q ∈ t.corn, 0 ≤ q.num ∧ Sz 40 q := by
  intro q m
  rcases foldQ_mem m with m | m
  · cases m
  · rcases List.mem_cons.mp m with rfl | m
    · exact ⟨by decide, .zero⟩
    · obtain ⟨f, mf, g, mg, h⟩ := meets_mem m
      obtain ⟨a1, a2⟩ := forms_hu sm f mf
      obtain ⟨b1, b2⟩ := forms_hu sm g mg
      obtain ⟨c1, c2⟩ := meet_ok a1 a2 b1 b2 h
      exact ⟨by omega, c2⟩
theorem corn_len (t : Tl) : t.corn.length ≤ 26 := by
  have h1 := foldQ_len (0 :: meets t.forms t.forms) []
  have h2 := meets_len t.forms t.forms
  have h3 := forms_len t
  have h4 : t.forms.length * t.forms.length ≤ 25 := Nat.mul_le_mul h3 h3
  unfold Tl.corn sortQ
  simp only [List.length_nil, List.length_cons] at *
  omega
end Law
set_option Elab.async false
set_option linter.all false
set_option maxRecDepth 100000
set_option maxHeartbeats 4000000
namespace Law
open PySem PySem.Spec PyProof.Rows L2 Gh
variable {E : En} {s : Sx}
abbrev N_corners : List Str := ["_law_told_here", "_law_width", "_law_least", "_law_most", "_law_mleft", "_law_mright", "_law_pleft", "_law_pright", "_law_zero", "_law_one", "_law_near_here", "_law_length_here", "_law_start", "_law_slope", "_law_forms", "_law_found", "_law_form_here", "_law_other", "_law_room"]
/-- the names of it, from the told ones on -/
abbrev cfr (t : Tl) (near : D) (g11 g12 g13 forms found g16 g17 g18 : G) : List G :=
  [.val (.tup t.ds), .val t.w.D, .val (.int t.least), .val (moD t.most), .val t.ml.D, .val t.mr.D, .val t.pl.D, .val t.pr.D, .val (fr 0), .val (fr 1), .val near, g11, g12, g13, forms, found, g16, g17, g18]
theorem fm_at0 (a b : Rat) : (fm a b).at 0 = some (fr a) := rfl
theorem fm_at1 (a b : Rat) : (fm a b).at 1 = some (fr b) := rfl
theorem fr_at0 (a : Rat) : (fr a).at 0 = some (.int a.num) := rfl
/-- the loops over the forms -/
theorem bk_corners (T : Tc E) {fs : List (Rat × Rat)} {t : Tl} (hf : ∀ f ∈ fs, Hu (2 ^ 24) f.1 ∧ Hu (2 ^ 24) f.2) (hl : fs.length ≤ 5) {near : D} {g11 g12 g13 g15 : G} (fa : Addr) (cdv : Value) (A : Around) (outer : List Env) (sh : Shared) (H0 : Hp) (EX : XK) (S0 : List Addr) (p : Addr) (hr : Room 4 (bodyF E N_corners "_law_corners" t__law_corners s fa cdv A outer sh H0 EX S0 p).X.A) :
    Bk (bodyF E N_corners "_law_corners" t__law_corners s fa cdv A outer sh H0 EX S0 p) ((defBody t__law_corners).drop 7) (cfr t near g11 g12 g13 (.val (.lst (fs.map fp))) g15 .no .no .no) s
      ⟨fun _ t' => D.lst ((sortQ (0 :: meets fs fs)).map fr) = .non ∧ t' = s, fun r' t' => r' = .lst ((sortQ (0 :: meets fs fs)).map fr) ∧ t' = s, fun _ _ => False, fun _ _ => False, fun _ _ _ => False⟩ := by
  have zl : 1000 ≤ sizeLine := by decide
  have hsz : ∀ f ∈ fs, Sz 3000 f.1 ∧ Sz 3000 f.2 := fun f m => ⟨((hf f m).1.sz (by decide)).mono (by decide), ((hf f m).2.sz (by decide)).mono (by decide)⟩
  have hml : ∀ i, (meets fs (fs.take i)).length ≤ 25 := fun i => by
    have h1 := meets_len fs (fs.take i)
    have h2 : (fs.take i).length ≤ 5 := Nat.le_trans (List.length_take_le' i fs) hl
    have h3 : (fs.take i).length * fs.length ≤ 25 := Nat.mul_le_mul h2 hl
    omega
  conv => arg 2; whnf
  refine bk_cons (bs_setOwn 15 sc__law_corners.nd rfl (.inl rfl) (el_lst (ea_cons (ed_var 8 rfl (.inl rfl) rfl) ea_nil)) ?_)
  refine bk_cons (bs_for PassesOwn.never rfl (ei_seq (ed_var 14 rfl (.inl rfl) rfl) (.inl rfl)) (fun i ρ s' => s' = s ∧ ∃ g13 g16 g17 g18, ρ = cfr t near g11 g12 g13 (.val (.lst (fs.map fp))) (.own ((0 :: meets fs (fs.take i)).map fr)) g16 g17 g18) ⟨rfl, _, _, _, _, rfl⟩ ?_ ?_)
  · rintro i d ρ' s' hi ⟨rfl, g13, g16, g17, g18, rfl⟩
    rw [List.getElem?_map] at hi
    cases e : fs[i]? with
    | none => rw [e] at hi; cases hi
    | some f =>
      rw [e] at hi; cases hi
      have mf := List.mem_of_getElem? e
      have e2 : meets fs (fs.take (i + 1)) = meets fs (fs.take i) ++ meets1 fs f := by
        rw [List.take_add_one, e]
        simp [meets]
      have hli := hml i
      have hli2 := hml (i + 1)
      rw [e2, List.length_append] at hli2
      refine ⟨_, _, eg_name 16 sc__law_corners.nd rfl (.inl rfl), bk_cons (bs_for PassesOwn.never rfl (ei_seq (ed_var 14 rfl (.inl rfl) rfl) (.inl rfl)) (fun j ρ s1 => s1 = s' ∧ ∃ g13 g17 g18, ρ = cfr t near g11 g12 g13 (.val (.lst (fs.map fp))) (.own ((0 :: (meets fs (fs.take i) ++ meets1 (fs.take j) f)).map fr)) (.val (fp f)) g17 g18) ⟨rfl, g13, g17, g18, by rw [show meets1 (fs.take 0) f = [] from rfl, List.append_nil]; rfl⟩ ?_ ?_)⟩
      · rintro j d ρ2 s1 hj ⟨rfl, g13, g17, g18, rfl⟩
        rw [List.getElem?_map] at hj
        cases e3 : fs[j]? with
        | none => rw [e3] at hj; cases hj
        | some g =>
          rw [e3] at hj; cases hj
          have mg := List.mem_of_getElem? e3
          have e4 : meets1 (fs.take (j + 1)) f = meets1 (fs.take j) f ++ meet f g := by
            rw [List.take_add_one, e3]
            simp [meets1]
          have e5 : (0 :: (meets fs (fs.take i) ++ meets1 (fs.take (j + 1)) f)).map fr = (0 :: (meets fs (fs.take i) ++ meets1 (fs.take j) f)).map fr ++ (meet f g).map fr := by rw [e4]; simp
          have hlj : (meets1 (fs.take j) f).length ≤ 5 := Nat.le_trans (meets1_len _ _) (Nat.le_trans (List.length_take_le' j fs) hl)
          have zf := hsz f mf
          have zg := hsz g mg
          have zs : Sz 1000 (f.2 - g.2) := (((hf f mf).2.sub (hf g mg).2).sz (by decide)).mono (by decide)
          have zd : Sz 1000 (g.1 - f.1) := (((hf g mg).1.sub (hf f mf).1).sz (by decide)).mono (by decide)
          refine ⟨_, _, eg_name 17 sc__law_corners.nd rfl (.inl rfl), bk_cons (bs_set 13 sc__law_corners.nd rfl (.inl rfl) (ed_cl (ea_cons (ed_ix (ed_var 16 rfl (.inl rfl) rfl) ed_int (fm_at1 _ _)) (ea_cons (ed_ix (ed_var 17 rfl (.inl rfl) rfl) ed_int (fm_at1 _ _)) ea_nil)) (hr.mono (by decide)) (rn_law_minus T zf.2 zg.2)) ?_)⟩
          refine bk_cons (bs_if (Cp.et (cp_ne hr (ed_ix (ed_var 13 rfl (.inl rfl) rfl) ed_int (fr_at0 _)) ed_int (eqC_int _) (eqC_int _))) (fun hb => ?_) (fun hb => ?_))
          · have h0 : (f.2 - g.2).num ≠ 0 := by rw [eqb_int] at hb; simpa using hb
            refine bk_cons (bs_set 18 sc__law_corners.nd rfl (.inl rfl) (ed_cl (ea_cons (ed_cl (ea_cons (ed_ix (ed_var 17 rfl (.inl rfl) rfl) ed_int (fm_at0 _ _)) (ea_cons (ed_ix (ed_var 16 rfl (.inl rfl) rfl) ed_int (fm_at0 _ _)) ea_nil)) (hr.mono (by decide)) (rn_law_minus T zg.1 zf.1)) (ea_cons (ed_var 13 rfl (.inl rfl) rfl) ea_nil)) (hr.mono (by decide)) (rn_law_over T zd zs h0)) ?_)
            by_cases hp : 0 < (ovr (g.1 - f.1) (f.2 - g.2)).num
            · have em : meet f g = [ovr (g.1 - f.1) (f.2 - g.2)] := by unfold meet; rw [if_neg h0, if_pos hp]
              refine bk_cons (bs_extend 15 rfl (.inl rfl) rfl (el_ifT (Cp.et (Cp.is (cp_gt (ed_ix (ed_var 18 rfl (.inl rfl) rfl) ed_int (fr_at0 _)) ed_int) (decide_eq_true hp))) (el_lst (ea_cons (ed_var 18 rfl (.inl rfl) rfl) ea_nil))) ?_ (bk_nil (bk_nil ⟨rfl, .val (fr (f.2 - g.2)), .val (fp g), .val (fr (ovr (g.1 - f.1) (f.2 - g.2))), ?_⟩)))
              · simp; omega
              · rw [e5, em]; rfl
            · have em : meet f g = [] := by unfold meet; rw [if_neg h0, if_neg hp]
              refine bk_cons (bs_extend 15 rfl (.inl rfl) rfl (el_ifF (Cp.et (Cp.is (cp_gt (ed_ix (ed_var 18 rfl (.inl rfl) rfl) ed_int (fr_at0 _)) ed_int) (decide_eq_false hp))) (el_lst ea_nil)) ?_ (bk_nil (bk_nil ⟨rfl, .val (fr (f.2 - g.2)), .val (fp g), .val (fr (ovr (g.1 - f.1) (f.2 - g.2))), ?_⟩)))
              · simp; omega
              · rw [e5, em]; rfl
          · have h0 : (f.2 - g.2).num = 0 := by rw [eqb_int] at hb; simpa using hb
            have em : meet f g = [] := by unfold meet; rw [if_pos h0]
            refine bk_nil (bk_nil ⟨rfl, .val (fr (f.2 - g.2)), .val (fp g), g18, ?_⟩)
            rw [e4, em, List.append_nil]; rfl
      · rintro ρ2 s1 ⟨rfl, g13, g17, g18, rfl⟩
        rw [List.length_map, List.take_length]
        exact bk_nil ⟨rfl, _, _, _, _, by rw [e2]⟩
  · rintro ρ' s' ⟨rfl, g13, g16, g17, g18, rfl⟩
    rw [List.length_map, List.take_length]
    have hl2 := hml fs.length
    rw [List.take_length] at hl2
    refine bk_freeze 15 rfl (bk_cons (bs_ret (ed_cl (ea_cons (ed_var 15 rfl (.inl rfl) rfl) ea_nil) (hr.mono (by decide)) (rn_sorted T ?_ ?_)) ⟨rfl, rfl⟩))
    · rw [List.length_cons]; omega
    · intro q m
      rcases List.mem_cons.mp m with rfl | m
      · exact .zero
      · obtain ⟨f, mf, g, mg, h⟩ := meets_mem m
        exact (meet_ok (hf f mf).1 (hf f mf).2 (hf g mg).1 (hf g mg).2 h).2.mono (by decide)
end Law
set_option Elab.async false
set_option linter.all false
set_option maxRecDepth 100000
set_option maxHeartbeats 4000000
namespace Law
open PySem PySem.Spec PyProof.Rows L2 Gh
variable {E : En} {s : Sx}
theorem LD_mo (m : Option Nat) : (moD m).eqb (.str "none") = m.isNone := by
  cases m with
  | none => show (D.str _).eqb _ = _; rw [eqb_str]; decide +kernel
  | some m => exact int_str _ _
theorem nfm (n : Nat) : (.tup [.tup [.int n, .int 1], fr 0] : D) = fp ((n : Rat), 0) := rfl
theorem rn_corners (T : Tc E) {t : Tl} (sm : t.Sm) : Rn E 5 "_law_corners" [.tup t.ds] s (.lst (t.corn.map fr)) s := by
  have zb := nr_hu t.beside sm.mem
  have z40 : ∀ {q : Rat} {B : Nat}, Hu B q → B < 2 ^ 40 → Sz 3000 q := fun h l => (h.sz l).mono (by decide)
  have s1 : Sz 3000 1 := sz1.mono (by decide)
  refine T.d__law_corners.rn sc__law_corners rfl rfl fun fa cdv A outer sh H0 EX S0 p hr => ?_
  have fin := fun (g11 g12 g13 : G) (near : D) => bk_corners (s := s) (near := near) (g11 := g11) (g12 := g12) (g13 := g13) (g15 := .no) (t := t) T (forms_hu sm) (forms_len t) fa cdv A outer sh H0 EX S0 p hr
  conv => arg 2; whnf
  refine bk_cons (bs_asg (ed_var 0 rfl (.inl rfl) rfl) (eg_tup rfl (egs_cons (eg_name 1 sc__law_corners.nd rfl (.inl rfl)) (egs_cons (eg_name 2 sc__law_corners.nd rfl (.inl rfl)) (egs_cons (eg_name 3 sc__law_corners.nd rfl (.inl rfl)) (egs_cons (eg_name 4 sc__law_corners.nd rfl (.inl rfl)) (egs_cons (eg_name 5 sc__law_corners.nd rfl (.inl rfl)) (egs_cons (eg_name 6 sc__law_corners.nd rfl (.inl rfl)) (egs_cons (eg_name 7 sc__law_corners.nd rfl (.inl rfl)) egs_nil)))))))) ?_)
  refine bk_cons (bs_asg (d := .tup [fr 0, fr 1]) (ed_tup (ea_cons (Ed.is (ed_tup (ea_cons ed_int (ea_cons ed_int ea_nil))) fr_zero) (ea_cons (Ed.is (ed_tup (ea_cons ed_int (ea_cons ed_int ea_nil))) fr_one) ea_nil))) (eg_tup rfl (egs_cons (eg_name 8 sc__law_corners.nd rfl (.inl rfl)) (egs_cons (eg_name 9 sc__law_corners.nd rfl (.inl rfl)) egs_nil))) ?_)
  refine bk_cons (bs_set 10 (d := fm 0 0) sc__law_corners.nd rfl (.inl rfl) (ed_tup (ea_cons (ed_var 8 rfl (.inl rfl) rfl) (ea_cons (ed_var 8 rfl (.inl rfl) rfl) ea_nil))) ?_)
  refine bk_cons (bs_for PassesOwn.never rfl (ei_seq (ed_tup (ea_cons (ed_var 4 rfl (.inl rfl) rfl) (ea_cons (ed_var 6 rfl (.inl rfl) rfl) (ea_cons (ed_var 7 rfl (.inl rfl) rfl) (ea_cons (ed_var 5 rfl (.inl rfl) rfl) ea_nil))))) (.inr rfl)) (fun i ρ s' => s' = s ∧ ∃ g11 g12 g13, ρ = cfr t (fp (nr (t.beside.take i))) g11 g12 g13 .no .no .no .no .no) ⟨rfl, _, _, _, rfl⟩ ?_ ?_)
  · rintro i d ρ' s' hi ⟨rfl, g11, g12, g13, rfl⟩
    have hl : ∃ l ∈ t.beside, t.beside[i]? = some l ∧ d = l.D := by
      match i, hi with
      | 0, hi => cases hi; exact ⟨t.ml, by simp [Tl.beside], rfl, rfl⟩
      | 1, hi => cases hi; exact ⟨t.pl, by simp [Tl.beside], rfl, rfl⟩
      | 2, hi => cases hi; exact ⟨t.pr, by simp [Tl.beside], rfl, rfl⟩
      | 3, hi => cases hi; exact ⟨t.mr, by simp [Tl.beside], rfl, rfl⟩
      | i + 4, hi => cases hi
    obtain ⟨l, ml, e, rfl⟩ := hl
    have hn := sm.mem l ml
    have e2 : nr (t.beside.take (i + 1)) = ((nr (t.beside.take i)).1 + l.wt 0, (nr (t.beside.take i)).2 + (l.wt 1 - l.wt 0)) := by
      rw [List.take_add_one, e]; exact nr_snoc _ _
    have hi4 : i < 4 := by
      rcases Nat.lt_or_ge i 4 with z | z
      · exact z
      · rw [List.getElem?_eq_none (by exact z)] at e; cases e
    have w0 : Sz 3000 (l.wt 0) := z40 (Ln.hu0 hn) (by decide)
    have w1 : Sz 3000 (l.wt 1) := (Ln.sz (sz1.mono (by decide)) hn).mono (by decide)
    have w2 : Sz 3000 (l.wt 1 - l.wt 0) := z40 (Ln.hu1 hn) (by decide)
    have n1 : Sz 3000 (nr (t.beside.take i)).1 := z40 (zb i).1 (by omega)
    have n2 : Sz 3000 (nr (t.beside.take i)).2 := z40 (zb i).2 (by omega)
    refine ⟨_, _, eg_name 11 sc__law_corners.nd rfl (.inl rfl), bk_cons (bs_par 12 13 rfl sc__law_corners.nd rfl rfl (by decide) rfl rfl (ea_cons (ed_cl (ea_cons (ed_var 11 rfl (.inl rfl) rfl) (ea_cons (ed_var 8 rfl (.inl rfl) rfl) ea_nil)) (hr.mono (by decide)) (rn_worth T hn .zero)) (ea_cons (ed_cl (ea_cons (ed_cl (ea_cons (ed_var 11 rfl (.inl rfl) rfl) (ea_cons (ed_var 9 rfl (.inl rfl) rfl) ea_nil)) (hr.mono (by decide)) (rn_worth T hn (sz1.mono (by decide)))) (ea_cons (ed_cl (ea_cons (ed_var 11 rfl (.inl rfl) rfl) (ea_cons (ed_var 8 rfl (.inl rfl) rfl) ea_nil)) (hr.mono (by decide)) (rn_worth T hn .zero)) ea_nil)) (hr.mono (by decide)) (rn_law_minus T w1 w0)) ea_nil)) ?_)⟩
    refine bk_cons (bs_set 10 sc__law_corners.nd rfl (.inl rfl) (ed_tup (ea_cons (ed_cl (ea_cons (ed_ix (ed_var 10 rfl (.inl rfl) rfl) ed_int (fm_at0 _ _)) (ea_cons (ed_var 12 rfl (.inl rfl) rfl) ea_nil)) (hr.mono (by decide)) (rn_law_plus T n1 w0)) (ea_cons (ed_cl (ea_cons (ed_ix (ed_var 10 rfl (.inl rfl) rfl) ed_int (fm_at1 _ _)) (ea_cons (ed_var 13 rfl (.inl rfl) rfl) ea_nil)) (hr.mono (by decide)) (rn_law_plus T n2 w2)) ea_nil))) (bk_nil ⟨rfl, .val l.D, .val (fr (l.wt 0)), .val (fr (l.wt 1 - l.wt 0)), ?_⟩))
    rw [e2]; rfl
  · rintro ρ' s' ⟨rfl, g11, g12, g13, rfl⟩
    have e : t.beside.take [t.ml.D, t.pl.D, t.pr.D, t.mr.D].length = t.beside := rfl
    rw [e]
    have n1 : Sz 3000 (nr t.beside).1 := z40 (zb 4).1 (by decide)
    have n2 : Sz 3000 (nr t.beside).2 := z40 (zb 4).2 (by decide)
    have w0 : Sz 3000 (t.w.wt 0) := z40 (Ln.hu0 sm.w) (by decide)
    have w1 : Sz 3000 (t.w.wt 1) := (Ln.sz (sz1.mono (by decide)) sm.w).mono (by decide)
    refine bk_cons (bs_setOwn 14 (ds := [fp (0 - (nr t.beside).1, 1 - (nr t.beside).2), fp (0, 0), fp ((t.least : Rat), 0)]) sc__law_corners.nd rfl (.inl rfl) (el_lst (ea_cons (ed_tup (ea_cons (ed_cl (ea_cons (ed_var 8 rfl (.inl rfl) rfl) (ea_cons (ed_ix (ed_var 10 rfl (.inl rfl) rfl) ed_int (fm_at0 _ _)) ea_nil)) (hr.mono (by decide)) (rn_law_minus T .zero n1)) (ea_cons (ed_cl (ea_cons (ed_var 9 rfl (.inl rfl) rfl) (ea_cons (ed_ix (ed_var 10 rfl (.inl rfl) rfl) ed_int (fm_at1 _ _)) ea_nil)) (hr.mono (by decide)) (rn_law_minus T s1 n2)) ea_nil))) (ea_cons (ed_tup (ea_cons (ed_var 8 rfl (.inl rfl) rfl) (ea_cons (ed_var 8 rfl (.inl rfl) rfl) ea_nil))) (ea_cons (ed_tup (ea_cons (ed_tup (ea_cons (ed_var 2 rfl (.inl rfl) rfl) (ea_cons ed_int ea_nil))) (ea_cons (ed_var 8 rfl (.inl rfl) rfl) ea_nil))) ea_nil)))) ?_)
    have last : ∀ (ms : List (Rat × Rat)), ms = (match t.most with | some m => [((m : Rat), (0 : Rat))] | none => []) → Bk (bodyF E N_corners "_law_corners" t__law_corners s' fa cdv A outer sh H0 EX S0 p) ((defBody t__law_corners).drop 6) (cfr t (fp (nr t.beside)) g11 g12 g13 (.own ([fp (0 - (nr t.beside).1, 1 - (nr t.beside).2), fp (0, 0), fp ((t.least : Rat), 0)] ++ ms.map fp)) .no .no .no .no) s'
        ⟨fun _ t' => D.lst (t.corn.map fr) = .non ∧ t' = s', fun r' t' => r' = .lst (t.corn.map fr) ∧ t' = s', fun _ _ => False, fun _ _ => False, fun _ _ _ => False⟩ := by
      intro ms hms
      have hml : ms.length ≤ 1 := by rw [hms]; cases t.most <;> simp
      conv => arg 2; whnf
      cases hw : t.w.isA with
      | true =>
        refine bk_cons (bs_ifF (Cp.et (Cp.is (cp_ne hr (ed_var 1 rfl (.inl rfl) rfl) ed_str (LD_eqC t.w) eqC_str) (by rw [LD_auto, hw]; rfl))) (bk_nil (bk_freeze 14 rfl ?_)))
        have ef : t.forms.map fp = [fp (0 - (nr t.beside).1, 1 - (nr t.beside).2), fp (0, 0), fp ((t.least : Rat), 0)] ++ ms.map fp := by unfold Tl.forms; rw [hms, hw]; simp <;> (cases t.most <;> rfl)
        have := fin g11 g12 g13 (fp (nr t.beside))
        rw [ef] at this
        exact this
      | false =>
        refine bk_cons (bs_ifT (Cp.et (Cp.is (cp_ne hr (ed_var 1 rfl (.inl rfl) rfl) ed_str (LD_eqC t.w) eqC_str) (by rw [LD_auto, hw]; rfl))) ?_)
        refine bk_cons (bs_set 12 sc__law_corners.nd rfl (.inl rfl) (ed_cl (ea_cons (ed_var 1 rfl (.inl rfl) rfl) (ea_cons (ed_var 8 rfl (.inl rfl) rfl) ea_nil)) (hr.mono (by decide)) (rn_worth T sm.w .zero)) ?_)
        refine bk_cons (bs_append 14 rfl (.inl rfl) rfl (ed_tup (ea_cons (ed_var 12 rfl (.inl rfl) rfl) (ea_cons (ed_cl (ea_cons (ed_cl (ea_cons (ed_var 1 rfl (.inl rfl) rfl) (ea_cons (ed_var 9 rfl (.inl rfl) rfl) ea_nil)) (hr.mono (by decide)) (rn_worth T sm.w (sz1.mono (by decide)))) (ea_cons (ed_var 12 rfl (.inl rfl) rfl) ea_nil)) (hr.mono (by decide)) (rn_law_minus T w1 w0)) ea_nil))) ?_ (bk_nil (bk_freeze 14 rfl ?_)))
        · have : 5 < sizeLine := by decide
          simp only [List.length_append, List.length_cons, List.length_nil, List.length_map]; omega
        · have ef : t.forms.map fp = [fp (0 - (nr t.beside).1, 1 - (nr t.beside).2), fp (0, 0), fp ((t.least : Rat), 0)] ++ ms.map fp ++ [fp (t.w.wt 0, t.w.wt 1 - t.w.wt 0)] := by unfold Tl.forms; rw [hms, hw]; simp <;> (cases t.most <;> rfl)
          have := fin g11 (.val (fr (t.w.wt 0))) g13 (fp (nr t.beside))
          rw [ef] at this
          exact this
    cases hm : t.most with
    | none =>
      refine bk_cons (bs_extend 14 rfl (.inl rfl) rfl (el_ifF (Cp.et (Cp.is (cp_ne hr (ed_var 3 rfl (.inl rfl) rfl) ed_str (moD_eqC _) eqC_str) (by rw [LD_mo, hm]; rfl))) (el_lst ea_nil)) (by show 3 ≤ sizeLine; decide) ?_)
      exact last [] (by rw [hm])
    | some m =>
      refine bk_cons (bs_extend 14 (ds := [fp ((m : Rat), 0)]) rfl (.inl rfl) rfl (el_ifT (Cp.et (Cp.is (cp_ne hr (ed_var 3 rfl (.inl rfl) rfl) ed_str (moD_eqC _) eqC_str) (by rw [LD_mo, hm]; rfl))) (el_lst (ea_cons (Ed.is (ed_tup (ea_cons (ed_tup (ea_cons (ed_var 3 (d := .int m) rfl (.inl rfl) (by show some (G.val (moD t.most)) = _; rw [hm]; rfl)) (ea_cons ed_int ea_nil))) (ea_cons (ed_var 8 rfl (.inl rfl) rfl) ea_nil))) (nfm m)) ea_nil))) (by show 4 ≤ sizeLine; decide) ?_)
      exact last [((m : Rat), 0)] (by rw [hm])
end Law
set_option Elab.async false
set_option linter.all false
set_option maxRecDepth 100000
set_option maxHeartbeats 4000000
/-! what blocks are across, told by forms -/
namespace Law
open PySem PySem.Spec PyProof.Rows L2 Gh
abbrev Fo := Rat × Rat
def ev (f : Fo) (r : Rat) : Rat := f.1 + f.2 * r
def sb (f g : Fo) : Fo := (f.1 - g.1, f.2 - g.2)
def ad (f g : Fo) : Fo := (f.1 + g.1, f.2 + g.2)
def sc (f : Fo) (q : Rat) : Fo := (f.1 * q, f.2 * q)
theorem ev_sb (f g : Fo) (r : Rat) : ev (sb f g) r = ev f r - ev g r := by unfold ev sb; grind
theorem ev_ad (f g : Fo) (r : Rat) : ev (ad f g) r = ev f r + ev g r := by unfold ev ad; grind
theorem ev_sc (f : Fo) (q r : Rat) : ev (sc f q) r = ev f r * q := by unfold ev sc; grind
def Ln.fo : Ln → Fo
  | .auto => (0, 0)
  | .nat n => ((n : Rat), 0)
  | .part n => (0, mkRat n 100)
theorem Ln.fo_at (l : Ln) (r : Rat) : ev l.fo r = l.wt r := by
  cases l <;> unfold ev Ln.fo Ln.wt <;> grind
def Tl.freeF (t : Tl) : Fo := sb (sb (sb (sb (0, 1) t.ml.fo) t.pl.fo) t.pr.fo) t.mr.fo
theorem Tl.freeF_at (t : Tl) (r : Rat) : ev t.freeF r = t.free r := by
  unfold Tl.freeF Tl.free
  rw [ev_sb, ev_sb, ev_sb, ev_sb, Ln.fo_at, Ln.fo_at, Ln.fo_at, Ln.fo_at]
  have : ev (0, 1) r = r := by unfold ev; grind
  rw [this]
def nF (n : Nat) : Fo := ((n : Rat), 0)
theorem nF_at (n : Nat) (r : Rat) : ev (nF n) r = n := by unfold ev nF; grind
theorem z_at (r : Rat) : ev (0, 0) r = 0 := by unfold ev; grind
def foundF (ask : Fo → Fo → Bool) (x : Fo) : Option Nat → Fo
  | none => x
  | some k => if ask x (nF k) then x else nF k
def heldF (ask : Fo → Fo → Bool) (x : Fo) (l : Nat) (m : Option Nat) : Fo := if ask (nF l) (foundF ask x m) then foundF ask x m else nF l
def Tl.xF (t : Tl) : Fo := if t.w.isA then t.freeF else t.w.fo
def Tl.keptF (t : Tl) (ask : Fo → Fo → Bool) : Fo := heldF ask t.xF t.least t.most
def Tl.spareF (t : Tl) (ask : Fo → Fo → Bool) : Fo := sb t.freeF (t.keptF ask)
def Tl.leftF (t : Tl) (ask : Fo → Fo → Bool) : Fo := if t.ml.isA && !ask (t.spareF ask) (0, 0) then (if t.mr.isA then sc (t.spareF ask) (1 / 2) else t.spareF ask) else t.ml.fo
def Tl.rightF (t : Tl) (ask : Fo → Fo → Bool) : Fo := sb (0, 1) (ad (ad (t.leftF ask) t.pl.fo) (ad (t.keptF ask) t.pr.fo))
def Tl.fiveF (t : Tl) (ask : Fo → Fo → Bool) : List Fo := [t.leftF ask, t.pl.fo, t.keptF ask, t.pr.fo, t.rightF ask]
def Tl.askd (t : Tl) (ask : Fo → Fo → Bool) : List (Fo × Fo) := (match t.most with | none => [] | some k => [(t.xF, nF k)]) ++ [(nF t.least, foundF ask t.xF t.most)] ++ (if t.ml.isA then [(t.spareF ask, (0, 0))] else [])
structure Ok2 (ask : Fo → Fo → Bool) (r : Rat) (f g : Fo) : Prop where
  yes : ask f g = true → ev f r ≤ ev g r
  no : ask f g = false → ev g r ≤ ev f r
theorem Tl.xF_at (t : Tl) (r : Rat) : ev t.xF r = if t.w.isA then t.free r else t.w.wt r := by
  unfold Tl.xF
  split
  · exact t.freeF_at r
  · exact Ln.fo_at _ r
theorem isA_wt {l : Ln} (h : l.isA = true) (r : Rat) : l.wt r = 0 := by
  cases l <;> first | rfl | cases h
theorem five_of {t : Tl} {ask : Fo → Fo → Bool} {r : Rat} (h : ∀ p ∈ t.askd ask, Ok2 ask r p.1 p.2) : (t.fiveF ask).map (ev · r) = (t.five r).qs := by
  have hf : ev (foundF ask t.xF t.most) r = (match t.most with | none => (if t.w.isA then t.free r else t.w.wt r) | some m => if (if t.w.isA then t.free r else t.w.wt r) ≤ (m : Rat) then (if t.w.isA then t.free r else t.w.wt r) else (m : Rat)) := by
    unfold Tl.askd at h
    cases e : t.most with
    | none => exact t.xF_at r
    | some k =>
      rw [e] at h
      obtain ⟨h1, h2⟩ := h (t.xF, nF k) (List.mem_append_left _ (List.mem_append_left _ List.mem_cons_self))
      rw [t.xF_at, nF_at] at h1 h2
      show ev (if ask t.xF (nF k) then t.xF else nF k) r = if (if t.w.isA then t.free r else t.w.wt r) ≤ (k : Rat) then (if t.w.isA then t.free r else t.w.wt r) else (k : Rat)
      cases z : ask t.xF (nF k) with
      | true =>
        have := h1 z
        rw [if_pos rfl, t.xF_at, if_pos this]
      | false =>
        have := h2 z
        rw [if_neg (by simp), nF_at]
        split <;> grind
  have hk : ev (t.keptF ask) r = t.kept r := by
    obtain ⟨h1, h2⟩ := h (nF t.least, foundF ask t.xF t.most) (List.mem_append_left _ (List.mem_append_right _ List.mem_cons_self))
    rw [hf, nF_at] at h1 h2
    have hkd : t.kept r = if (t.least : Rat) ≤ ev (foundF ask t.xF t.most) r then ev (foundF ask t.xF t.most) r else (t.least : Rat) := by rw [hf]; rfl
    rw [hf.symm] at h1 h2
    rw [hkd]
    unfold Tl.keptF heldF
    cases z : ask (nF t.least) (foundF ask t.xF t.most) with
    | true =>
      have := h1 z
      rw [if_pos rfl, if_pos this]
    | false =>
      have := h2 z
      rw [if_neg (by simp), nF_at]
      split <;> grind
  have hs : ev (t.spareF ask) r = t.spare r := by unfold Tl.spareF Tl.spare; rw [ev_sb, t.freeF_at, hk]
  have hl : ev (t.leftF ask) r = t.left r := by
    unfold Tl.leftF Tl.left
    cases ea : t.ml.isA with
    | false => simp [Ln.fo_at]
    | true =>
      obtain ⟨h1, h2⟩ := h (t.spareF ask, (0, 0)) (List.mem_append_right _ (by rw [ea, if_pos rfl]; exact List.mem_cons_self))
      rw [hs, z_at] at h1 h2
      have hw := isA_wt ea r
      cases z : ask (t.spareF ask) (0, 0) with
      | true =>
        have := h1 z
        simp [Ln.fo_at, this]
      | false =>
        have := h2 z
        simp only [Bool.not_false, Bool.and_self, if_true, Bool.true_and, Bool.not_eq_true', decide_eq_false_iff_not]
        by_cases z2 : t.spare r ≤ 0
        · have e0 : t.spare r = 0 := by grind
          simp only [z2, not_true_eq_false, if_false]
          rw [hw]
          split
          · rw [ev_sc, hs, e0]; grind
          · rw [hs, e0]
        · simp only [z2, not_false_eq_true, if_true]
          split
          · rw [ev_sc, hs]
          · rw [hs]
  have e01 : ev (0, 1) r = r := by unfold ev; grind
  have hr : ev (t.rightF ask) r = t.right r := by
    unfold Tl.rightF Tl.right
    rw [ev_sb, ev_ad, ev_ad, ev_ad, hl, hk, Ln.fo_at, Ln.fo_at, e01]
  show [ev (t.leftF ask) r, ev t.pl.fo r, ev (t.keptF ask) r, ev t.pr.fo r, ev (t.rightF ask) r] = [t.left r, t.pl.wt r, t.kept r, t.pr.wt r, t.right r]
  rw [hl, hk, hr, Ln.fo_at, Ln.fo_at]
/-! ### just behind a room -/
def askB (low : Rat) (f g : Fo) : Bool := if ev f low = ev g low then decide (f.2 - g.2 ≤ 0) else decide (ev f low < ev g low)
/-- where two forms meet -/
def met (f g : Fo) : Rat := (g.1 - f.1) / (f.2 - g.2)
def crn (low : Rat) (f g : Fo) : List Rat := if f.2 - g.2 = 0 then [] else if low < met f g then [met f g] else []
theorem ev_met {f g : Fo} (h : f.2 - g.2 ≠ 0) (r : Rat) : ev f r - ev g r = (f.2 - g.2) * (r - met f g) := by
  have e : (f.2 - g.2) * met f g = g.1 - f.1 := by unfold met; grind
  unfold ev
  have : (f.2 - g.2) * (r - met f g) = (f.2 - g.2) * r - (f.2 - g.2) * met f g := by grind
  rw [this, e]; grind
theorem mul_le0 {a b : Rat} (ha : 0 ≤ a) (hb : b ≤ 0) : a * b ≤ 0 := by
  have := Rat.mul_nonneg ha (show 0 ≤ -b by grind)
  grind
theorem mul_ge0' {a b : Rat} (ha : a ≤ 0) (hb : b ≤ 0) : 0 ≤ a * b := by
  have := Rat.mul_nonneg (show 0 ≤ -a by grind) (show 0 ≤ -b by grind)
  grind
/-- the sign of a difference on one side of where two forms meet -/
theorem sgn_le {f g : Fo} (h : f.2 - g.2 ≠ 0) {r r' : Rat} (hs : (r ≤ met f g ∧ r' ≤ met f g) ∨ (met f g ≤ r ∧ met f g ≤ r')) (hr : r ≠ met f g) (hl : ev f r ≤ ev g r) : ev f r' ≤ ev g r' := by
  have e1 := ev_met h r
  have e2 := ev_met h r'
  rcases hs with ⟨a, b⟩ | ⟨a, b⟩
  · -- left of it: the slope is not below 0
    have h3 : 0 ≤ f.2 - g.2 := by
      rcases Rat.le_total (a := 0) (b := f.2 - g.2) with z | z
      · exact z
      · have h4 : (f.2 - g.2) * (r - met f g) ≤ 0 := by grind
        have h5 := mul_ge0' z (show r - met f g ≤ 0 by grind)
        have h6 : (f.2 - g.2) * (r - met f g) = 0 := by grind
        rcases Rat.mul_eq_zero.mp h6 with h7 | h7 <;> grind
    have := mul_le0 h3 (show r' - met f g ≤ 0 by grind)
    grind
  · have h3 : f.2 - g.2 ≤ 0 := by
      rcases Rat.le_total (a := f.2 - g.2) (b := 0) with z | z
      · exact z
      · have h4 : (f.2 - g.2) * (r - met f g) ≤ 0 := by grind
        have h5 := Rat.mul_nonneg z (show 0 ≤ r - met f g by grind)
        have h6 : (f.2 - g.2) * (r - met f g) = 0 := by grind
        rcases Rat.mul_eq_zero.mp h6 with h7 | h7 <;> grind
    have h8 := mul_le0 (show 0 ≤ -(f.2 - g.2) by grind) (show -(r' - met f g) ≤ 0 by grind)
    grind
theorem met_comm {f g : Fo} : met f g = met g f := by unfold met; grind
theorem sgn_ge {f g : Fo} (h : f.2 - g.2 ≠ 0) {r r' : Rat} (hs : (r ≤ met f g ∧ r' ≤ met f g) ∨ (met f g ≤ r ∧ met f g ≤ r')) (hr : r ≠ met f g) (hl : ev g r ≤ ev f r) : ev g r' ≤ ev f r' := by
  rw [met_comm] at hs hr
  exact sgn_le (by grind) hs hr hl
theorem askB_ok {low r : Rat} {f g : Fo} (h : low ≤ r) (hc : ∀ c ∈ crn low f g, r ≤ c) : Ok2 (askB low) r f g := by
  unfold crn at hc
  by_cases hz : f.2 - g.2 = 0
  · have e : ev f r - ev g r = ev f low - ev g low := by
      have e3 : f.2 = g.2 := by grind
      unfold ev
      rw [e3]; grind
    unfold askB
    constructor <;> intro z <;> split at z <;> simp at z <;> grind
  · rw [if_neg hz] at hc
    have e1 := ev_met hz low
    have e2 := ev_met hz r
    by_cases hm : low < met f g
    · rw [if_pos hm] at hc
      have hc := hc _ List.mem_cons_self
      have hne : ev f low ≠ ev g low := fun z => by
        have : (f.2 - g.2) * (low - met f g) = 0 := by grind
        rcases Rat.mul_eq_zero.mp this with h7 | h7 <;> grind
      have ea : askB low f g = decide (ev f low < ev g low) := if_neg hne
      have hs : (low ≤ met f g ∧ r ≤ met f g) ∨ (met f g ≤ low ∧ met f g ≤ r) := .inl ⟨by grind, hc⟩
      refine ⟨fun z => sgn_le hz hs (by grind) (by rw [ea] at z; simp at z; grind), fun z => sgn_ge hz hs (by grind) (by rw [ea] at z; simp at z; grind)⟩
    · by_cases he : met f g = low
      · have e0 : ev f low = ev g low := by rw [he] at e1; grind
        have ea : askB low f g = decide (f.2 - g.2 ≤ 0) := if_pos e0
        rw [he] at e2
        refine ⟨fun z => ?_, fun z => ?_⟩
        · have h3 : f.2 - g.2 ≤ 0 := by rw [ea] at z; simpa using z
          have := mul_le0 (show 0 ≤ r - low by grind) h3
          grind
        · have h3 : ¬ (f.2 - g.2 ≤ 0) := by rw [ea] at z; simpa using z
          have := Rat.mul_nonneg (show 0 ≤ f.2 - g.2 by grind) (show 0 ≤ r - low by grind)
          grind
      · have hne : ev f low ≠ ev g low := fun z => by
          have : (f.2 - g.2) * (low - met f g) = 0 := by grind
          rcases Rat.mul_eq_zero.mp this with h7 | h7 <;> grind
        have ea : askB low f g = decide (ev f low < ev g low) := if_neg hne
        have hs : (low ≤ met f g ∧ r ≤ met f g) ∨ (met f g ≤ low ∧ met f g ≤ r) := .inr ⟨by grind, by grind⟩
        refine ⟨fun z => sgn_le hz hs (by grind) (by rw [ea] at z; simp at z; grind), fun z => sgn_ge hz hs (by grind) (by rw [ea] at z; simp at z; grind)⟩
end Law
set_option Elab.async false
set_option linter.all false
set_option maxRecDepth 100000
set_option maxHeartbeats 4000000
/-! pieces: one way alone to tell a thing that hangs on rooms -/
namespace Law
open PySem PySem.Spec PyProof.Rows L2 Gh
def evs (F : List Fo) (r : Rat) : List Rat := F.map (ev · r)
theorem ev_two {f g : Fo} {a b : Rat} (h1 : ev f a = ev g a) (h2 : ev f b = ev g b) (h : a ≠ b) : f = g := by
  unfold ev at h1 h2
  have h3 : (f.2 - g.2) * (a - b) = 0 := by grind
  have h4 : f.2 = g.2 := by
    rcases Rat.mul_eq_zero.mp h3 with z | z
    · grind
    · exact absurd (by grind) h
  have h5 : f.1 = g.1 := by rw [h4] at h1; grind
  exact Prod.ext h5 h4
theorem evs_two {a b : Rat} (h : a ≠ b) : ∀ {F G : List Fo}, evs F a = evs G a → evs F b = evs G b → F = G
  | [], [], _, _ => rfl
  | [], _ :: _, e, _ => by simp [evs] at e
  | _ :: _, [], e, _ => by simp [evs] at e
  | f :: F, g :: G, e1, e2 => by
    simp only [evs, List.map_cons, List.cons.injEq] at e1 e2
    rw [ev_two e1.1 e2.1 h, evs_two h e1.2 e2.2]
abbrev Pc := Rat × List Fo
def RepTo (g : Rat → List Rat) (h : Option Rat) : List Pc → Prop
  | [] => False
  | [p] => (∀ x, h = some x → p.1 < x) ∧ ∀ r, p.1 ≤ r → (∀ x, h = some x → r ≤ x) → g r = evs p.2 r
  | p :: q :: rest => p.1 < q.1 ∧ p.2 ≠ q.2 ∧ (∀ r, p.1 ≤ r → r ≤ q.1 → g r = evs p.2 r) ∧ RepTo g h (q :: rest)
theorem RepTo.first {g : Rat → List Rat} {p : Pc} {P : List Pc} (h : RepTo g none (p :: P)) : ∃ m, p.1 < m ∧ (∀ r, p.1 ≤ r → r ≤ m → g r = evs p.2 r) := by
  cases P with
  | nil => exact ⟨p.1 + 1, by grind, fun r h1 _ => h.2 r h1 fun x z => by cases z⟩
  | cons q P => exact ⟨q.1, h.1, h.2.2.1⟩
theorem RepTo.uniq {g : Rat → List Rat} : ∀ {P Q : List Pc} {l : Rat} {F G : List Fo}, RepTo g none ((l, F) :: P) → RepTo g none ((l, G) :: Q) → F = G ∧ P = Q := by
  intro P
  induction P with
  | nil =>
    intro Q l F G h1 h2
    obtain ⟨m, hm, hg⟩ := h2.first
    have e : F = G := evs_two (a := l) (b := m) (by grind) ((h1.2 l Rat.le_refl (fun x z => by cases z)).symm.trans (hg l Rat.le_refl (by grind))) ((h1.2 m (by grind) (fun x z => by cases z)).symm.trans (hg m (by grind) Rat.le_refl))
    refine ⟨e, ?_⟩
    cases Q with
    | nil => rfl
    | cons q Q =>
      obtain ⟨a1, a2, a3, a4⟩ := h2
      obtain ⟨m2, hm2, hg2⟩ := a4.first
      have a1 : l < q.1 := a1
      have a2 : G ≠ q.2 := a2
      refine absurd ?_ a2
      rw [← e]
      exact evs_two (a := q.1) (b := m2) (by grind) ((h1.2 q.1 (by show l ≤ q.1; grind) (fun x z => by cases z)).symm.trans (hg2 q.1 Rat.le_refl (by grind))) ((h1.2 m2 (by show l ≤ m2; grind) (fun x z => by cases z)).symm.trans (hg2 m2 (by grind) Rat.le_refl))
  | cons p P ih =>
    intro Q l F G h1 h2
    obtain ⟨m, hm, hg⟩ := h1.first
    obtain ⟨m', hm', hg'⟩ := h2.first
    have hm : l < m := hm
    have hm' : l < m' := hm'
    have e : F = G := by
      rcases Rat.le_total (a := m) (b := m') with z | z
      · exact evs_two (a := l) (b := m) (by grind) ((hg l Rat.le_refl (by grind)).symm.trans (hg' l Rat.le_refl (by grind))) ((hg m (by show l ≤ m; grind) Rat.le_refl).symm.trans (hg' m (by show l ≤ m; grind) z))
      · exact evs_two (a := l) (b := m') (by grind) ((hg l Rat.le_refl (by grind)).symm.trans (hg' l Rat.le_refl (by grind))) ((hg m' (by show l ≤ m'; grind) z).symm.trans (hg' m' (by show l ≤ m'; grind) Rat.le_refl))
    refine ⟨e, ?_⟩
    obtain ⟨b1, b2, b3, b4⟩ := h1
    have b1 : l < p.1 := b1
    have b2 : F ≠ p.2 := b2
    obtain ⟨n, hn, hgn⟩ := b4.first
    cases Q with
    | nil =>
      refine absurd ?_ b2
      rw [e]
      exact evs_two (a := p.1) (b := n) (by grind) ((h2.2 p.1 (by show l ≤ p.1; grind) (fun x z => by cases z)).symm.trans (hgn p.1 Rat.le_refl (by grind))) ((h2.2 n (by show l ≤ n; grind) (fun x z => by cases z)).symm.trans (hgn n (by grind) Rat.le_refl))
    | cons q Q =>
      obtain ⟨a1, a2, a3, a4⟩ := h2
      have a1 : l < q.1 := a1
      have a2 : G ≠ q.2 := a2
      obtain ⟨n', hn', hgn'⟩ := a4.first
      have e1 : p.1 = q.1 := by
        rcases Rat.le_total (a := p.1) (b := q.1) with z | z
        · by_cases z2 : p.1 = q.1
          · exact z2
          · exfalso
            -- F' and G on what lies between
            refine b2 ?_
            rw [e]
            rcases Rat.le_total (a := n) (b := q.1) with y | y
            · exact evs_two (a := p.1) (b := n) (by grind) ((a3 p.1 (by show l ≤ p.1; grind) z).symm.trans (hgn p.1 Rat.le_refl (by grind))) ((a3 n (by show l ≤ n; grind) y).symm.trans (hgn n (by grind) Rat.le_refl))
            · exact evs_two (a := p.1) (b := q.1) z2 ((a3 p.1 (by show l ≤ p.1; grind) z).symm.trans (hgn p.1 Rat.le_refl (by grind))) ((a3 q.1 (by show l ≤ q.1; grind) Rat.le_refl).symm.trans (hgn q.1 z y))
        · by_cases z2 : p.1 = q.1
          · exact z2
          · exfalso
            refine a2 ?_
            rw [← e]
            rcases Rat.le_total (a := n') (b := p.1) with y | y
            · exact evs_two (a := q.1) (b := n') (by grind) ((b3 q.1 (by show l ≤ q.1; grind) z).symm.trans (hgn' q.1 Rat.le_refl (by grind))) ((b3 n' (by show l ≤ n'; grind) y).symm.trans (hgn' n' (by grind) Rat.le_refl))
            · exact evs_two (a := q.1) (b := p.1) (Ne.symm z2) ((b3 q.1 (by show l ≤ q.1; grind) z).symm.trans (hgn' q.1 Rat.le_refl (by grind))) ((b3 p.1 (by show l ≤ p.1; grind) Rat.le_refl).symm.trans (hgn' p.1 z y))
      obtain ⟨pl, pF⟩ := p
      obtain ⟨ql, qF⟩ := q
      have e1 : pl = ql := e1
      subst e1
      obtain ⟨e2, e3⟩ := ih b4 a4
      rw [e2, e3]
/-- one more piece from x on -/
def addP (M : List Pc) (x : Rat) (F : List Fo) : List Pc := if M.getLast?.map (·.2) = some F then M else M ++ [(x, F)]
theorem RepTo.add {g : Rat → List Rat} {h : Option Rat} {x : Rat} {F : List Fo} (hF : ∀ r, x ≤ r → (∀ y, h = some y → r ≤ y) → g r = evs F r) (hx : ∀ y, h = some y → x < y) : ∀ {M : List Pc}, RepTo g (some x) M → RepTo g h (addP M x F)
  | [], hM => hM.elim
  | [p], hM => by
    obtain ⟨h1, h2⟩ := hM
    have h1 := h1 x rfl
    unfold addP
    by_cases e : p.2 = F
    · rw [if_pos (by simp [e])]
      refine ⟨fun y hy => by have := hx y hy; grind, fun r hr hy => ?_⟩
      rcases Rat.le_total (a := r) (b := x) with z | z
      · exact h2 r hr fun y e => by cases e; exact z
      · rw [e]; exact hF r z hy
    · rw [if_neg (by simpa using e)]
      exact ⟨h1, e, fun r h3 h4 => h2 r h3 fun y e => by cases e; exact h4, hx, hF⟩
  | p :: q :: rest, hM => by
    obtain ⟨h1, h2, h3, h4⟩ := hM
    have ih := RepTo.add hF hx h4
    unfold addP at ih ⊢
    rw [List.getLast?_cons_cons]
    split at ih
    · rename_i e
      rw [if_pos e]
      exact ⟨h1, h2, h3, ih⟩
    · rename_i e
      rw [if_neg e]
      exact ⟨h1, h2, h3, ih⟩
theorem RepTo.start {g : Rat → List Rat} {h : Option Rat} {x : Rat} {F : List Fo} (hF : ∀ r, x ≤ r → (∀ y, h = some y → r ≤ y) → g r = evs F r) (hx : ∀ y, h = some y → x < y) : RepTo g h (addP [] x F) := by
  unfold addP
  rw [if_neg (by simp)]
  exact ⟨hx, hF⟩
/-! ### as data -/
def hD : Option Rat → D
  | none => .non
  | some q => fr q
def iv (l : Rat) (b : Bool) (h : Option Rat) : D := .tup [fr l, .bl b, hD h, .bl h.isSome]
def fsD (F : List Fo) : D := .tup (F.map fp)
def outH (h : Option Rat) : Bool → List Pc → List D
  | _, [] => []
  | b, [p] => [.tup [iv p.1 b h, fsD p.2]]
  | b, p :: q :: rest => .tup [iv p.1 b (some q.1), fsD p.2] :: outH h false (q :: rest)
theorem outH_snoc (h : Option Rat) : ∀ (M : List Pc) (b : Bool) (l : Rat) (F : List Fo), outH h b (M ++ [(l, F)]) = outH (some l) b M ++ [.tup [iv l (b && M.isEmpty) h, fsD F]]
  | [], b, l, F => by simp [outH]
  | [p], b, l, F => by simp [outH]
  | p :: q :: rest, b, l, F => by
    show outH h b (p :: q :: (rest ++ [(l, F)])) = outH (some l) b (p :: q :: rest) ++ _
    rw [outH, outH]
    have := outH_snoc h (q :: rest) false l F
    rw [List.cons_append] at this
    rw [this]
    simp
theorem outH_len (h : Option Rat) : ∀ (b : Bool) (M : List Pc), (outH h b M).length = M.length
  | _, [] => rfl
  | _, [p] => rfl
  | b, p :: q :: rest => by rw [outH, List.length_cons, outH_len h false (q :: rest)]; rfl
end Law
set_option Elab.async false
set_option linter.all false
set_option maxRecDepth 100000
set_option maxHeartbeats 4000000
/-! the corners, sorted; between two of them a block is told by forms -/
namespace Law
open PySem PySem.Spec PyProof.Rows L2 Gh
theorem split_lt {q : Rat} : ∀ {ys : List Rat}, ys.Pairwise (· < ·) → ys.take (ys.filter fun y => decide (y < q)).length = ys.filter (fun y => decide (y < q)) ∧ ∀ b ∈ ys.drop (ys.filter fun y => decide (y < q)).length, q ≤ b
  | [], _ => ⟨rfl, fun b m => by simp at m⟩
  | y :: ys, h => by
    obtain ⟨h1, h2⟩ := List.pairwise_cons.mp h
    obtain ⟨i1, i2⟩ := split_lt (q := q) h2
    by_cases z : y < q
    · rw [List.filter_cons_of_pos (by simpa using z), List.length_cons, List.take_succ_cons, List.drop_succ_cons, i1]
      exact ⟨rfl, i2⟩
    · have e : ys.filter (fun y => decide (y < q)) = [] := by
        rw [List.filter_eq_nil_iff]
        intro a m
        have := h1 a m
        simp only [decide_eq_true_eq]
        grind
      rw [List.filter_cons_of_neg (by simpa using z), e]
      refine ⟨rfl, fun b m => ?_⟩
      rcases List.mem_cons.mp m with rfl | m
      · grind
      · have := h1 b m
        grind
theorem insQ_ok {ys : List Rat} {q : Rat} (h : ys.Pairwise (· < ·)) : (insQ ys q).Pairwise (· < ·) ∧ ∀ z, z ∈ insQ ys q ↔ z ∈ ys ∨ z = q := by
  obtain ⟨h1, h2⟩ := split_lt (q := q) h
  unfold insQ
  dsimp only
  generalize hp : (ys.filter fun y => decide (y < q)).length = p at h1 h2 ⊢
  have e : ys = ys.take p ++ ys.drop p := (List.take_append_drop p ys).symm
  have hA : ∀ a ∈ ys.take p, a < q := fun a m => by
    rw [h1] at m
    simpa using (List.mem_filter.mp m).2
  split
  · rename_i hd
    have mq : q ∈ ys := List.mem_of_mem_drop (List.mem_of_mem_take (by rw [hd]; exact List.mem_cons_self))
    exact ⟨h, fun z => ⟨.inl, fun hz => hz.elim id fun e => e ▸ mq⟩⟩
  · rename_i hd
    have hB : ∀ b ∈ ys.drop p, q < b := fun b m => by
      have hb := h2 b m
      by_cases z : q = b
      · exfalso
        cases ed : ys.drop p with
        | nil => rw [ed] at m; cases m
        | cons c cs =>
          rw [ed] at m hd
          have hc := h2 c (by rw [ed]; exact List.mem_cons_self)
          have hpw : (c :: cs).Pairwise (· < ·) := by rw [← ed]; exact List.Pairwise.sublist (List.drop_sublist _ _) h
          rcases List.mem_cons.mp m with e2 | m
          · exact hd (by rw [z, e2]; rfl)
          · have := (List.pairwise_cons.mp hpw).1 b m
            grind
      · grind
    constructor
    · rw [List.append_assoc, List.pairwise_append]
      refine ⟨List.Pairwise.sublist (List.take_sublist _ _) h, ?_, fun a ma b mb => ?_⟩
      · rw [List.singleton_append, List.pairwise_cons]
        exact ⟨hB, List.Pairwise.sublist (List.drop_sublist _ _) h⟩
      · have := hA a ma
        rcases List.mem_append.mp mb with m | m
        · rw [List.mem_singleton.mp m]; exact this
        · have := hB b m
          grind
    · intro z
      rw [List.mem_append, List.mem_append, List.mem_singleton]
      have : z ∈ ys ↔ z ∈ ys.take p ∨ z ∈ ys.drop p := by rw [← List.mem_append, ← e]
      rw [this]
      grind
theorem sortQ_ok (qs : List Rat) : (sortQ qs).Pairwise (· < ·) ∧ ∀ z, z ∈ sortQ qs ↔ z ∈ qs := by
  suffices ∀ (l ys : List Rat), ys.Pairwise (· < ·) → (l.foldl insQ ys).Pairwise (· < ·) ∧ ∀ z, z ∈ l.foldl insQ ys ↔ z ∈ ys ∨ z ∈ l by
    obtain ⟨a, b⟩ := this qs [] .nil
    exact ⟨a, fun z => by rw [sortQ, b z]; simp⟩
  intro l
  induction l with
  | nil => exact fun ys h => ⟨h, fun z => by simp⟩
  | cons q l ih =>
    intro ys h
    obtain ⟨a, b⟩ := insQ_ok (q := q) h
    obtain ⟨c, d⟩ := ih _ a
    exact ⟨c, fun z => by rw [List.foldl_cons, d z, b z, List.mem_cons]; grind⟩
theorem ovr_eq {a b : Rat} (h : b.num ≠ 0) : ovr a b = a / b := by
  have hb : b ≠ 0 := fun z => h (by rw [z]; rfl)
  have e1 : a = (a.num : Rat) / (a.den : Rat) := by
    have := Rat.mkRat_self a
    rw [Rat.mkRat_eq_div] at this
    exact this.symm
  have e2 : b = (b.num : Rat) / (b.den : Rat) := by
    have := Rat.mkRat_self b
    rw [Rat.mkRat_eq_div] at this
    exact this.symm
  have n1 : (a.den : Rat) ≠ 0 := by
    intro z
    exact a.den_nz (by exact_mod_cast z)
  have n2 : (b.den : Rat) ≠ 0 := by
    intro z
    exact b.den_nz (by exact_mod_cast z)
  have n3 : (b.num : Rat) ≠ 0 := by
    intro z
    exact h (by exact_mod_cast z)
  unfold ovr
  have hp : 0 < (if 0 < b.num then (1 : Int) else -1) * a.den * b.num := by
    rw [Int.mul_comm _ (a.den : Int), Int.mul_assoc]; exact Int.mul_pos (den_pos a) (sgn_pos h)
  rw [Rat.mkRat_eq_div]
  have e3 : ((((if 0 < b.num then (1 : Int) else -1) * a.den * b.num).toNat : Nat) : Rat) = (((if 0 < b.num then (1 : Int) else -1) * a.den * b.num : Int) : Rat) := by
    rw [← Rat.intCast_natCast, Int.toNat_of_nonneg (by omega)]
  rw [e3]
  have hq : a / b = ((a.num : Rat) / (a.den : Rat)) / ((b.num : Rat) / (b.den : Rat)) := by rw [← e1, ← e2]
  rw [hq]
  simp only [Rat.intCast_mul]
  rw [show (((a.den : Nat) : Int) : Rat) = (a.den : Rat) from Rat.intCast_natCast _, show (((b.den : Nat) : Int) : Rat) = (b.den : Rat) from Rat.intCast_natCast _]
  have n4 : (((if 0 < b.num then (1 : Int) else -1) : Int) : Rat) ≠ 0 := by split <;> decide
  generalize (((if 0 < b.num then (1 : Int) else -1) : Int) : Rat) = s at n4
  grind
theorem npos {q : Rat} : 0 < q.num ↔ 0 < q := by
  rw [Rat.lt_iff]
  simp
theorem num_ne {q : Rat} (h : q ≠ 0) : q.num ≠ 0 := fun z => h (Rat.num_eq_zero.mp z)
theorem meet_eq {f g : Fo} (h : f.2 - g.2 ≠ 0) (hp : 0 < met f g) : met f g ∈ meet f g := by
  unfold meet
  rw [if_neg (num_ne h), ovr_eq (num_ne h)]
  have e : (g.1 - f.1) / (f.2 - g.2) = met f g := rfl
  rw [e, if_pos (npos.mpr hp)]
  exact List.mem_cons_self
theorem fo_wt (l : Ln) : l.fo = (l.wt 0, l.wt 1 - l.wt 0) := by
  cases l with
  | auto => show ((0 : Rat), (0 : Rat)) = (0, 0 - 0); grind
  | nat n => show ((n : Rat), (0 : Rat)) = ((n : Rat), (n : Rat) - n); congr 1; grind
  | part n => show ((0 : Rat), mkRat n 100) = (0 * mkRat n 100, 1 * mkRat n 100 - 0 * mkRat n 100); congr 1 <;> grind
theorem freeF_forms (t : Tl) : t.freeF ∈ t.forms := by
  have e : t.freeF = (0 - (nr t.beside).1, 1 - (nr t.beside).2) := by
    unfold Tl.freeF Tl.beside nr sb
    simp only [fo_wt, List.foldl_cons, List.foldl_nil]
    refine Prod.ext ?_ ?_ <;> simp only <;> grind
  rw [e]
  unfold Tl.forms
  simp
theorem least_forms (t : Tl) : nF t.least ∈ t.forms := by
  unfold Tl.forms nF
  simp
theorem most_forms {t : Tl} {k : Nat} (h : t.most = some k) : nF k ∈ t.forms := by
  unfold Tl.forms nF
  simp [h]
theorem xF_forms (t : Tl) : t.xF ∈ t.forms := by
  unfold Tl.xF
  split
  · exact freeF_forms t
  · rename_i h
    rw [fo_wt]
    unfold Tl.forms
    simp [h]
theorem foundF_forms (t : Tl) (ask : Fo → Fo → Bool) : foundF ask t.xF t.most ∈ t.forms := by
  cases e : t.most with
  | none => exact xF_forms t
  | some k =>
    show (if ask t.xF (nF k) then t.xF else nF k) ∈ _
    split
    · exact xF_forms t
    · exact most_forms e
theorem keptF_forms (t : Tl) (ask : Fo → Fo → Bool) : t.keptF ask ∈ t.forms := by
  unfold Tl.keptF heldF
  split
  · exact foundF_forms t ask
  · exact least_forms t
/-- each pair that is asked meets where two of the forms meet, or nowhere -/
theorem askd_met {t : Tl} {ask : Fo → Fo → Bool} {p : Fo × Fo} (m : p ∈ t.askd ask) : ∃ f ∈ t.forms, ∃ g ∈ t.forms, p.1.2 - p.2.2 = f.2 - g.2 ∧ met p.1 p.2 = met f g := by
  unfold Tl.askd at m
  rcases List.mem_append.mp m with m | m
  · rcases List.mem_append.mp m with m | m
    · cases e : t.most with
      | none => rw [e] at m; cases m
      | some k =>
        rw [e] at m
        rw [List.mem_singleton.mp m]
        exact ⟨_, xF_forms t, _, most_forms e, rfl, rfl⟩
    · rw [List.mem_singleton.mp m]
      exact ⟨_, least_forms t, _, foundF_forms t ask, rfl, rfl⟩
  · split at m
    · rw [List.mem_singleton.mp m]
      refine ⟨_, freeF_forms t, _, keptF_forms t ask, ?_, ?_⟩
      · unfold Tl.spareF sb; simp only; grind
      · unfold met Tl.spareF sb; simp only
        congr 1 <;> grind
    · cases m
/-- the corners at both sides of a room -/
structure Btw (t : Tl) (lo : Rat) (hi : Option Rat) : Prop where
  pos : 0 ≤ lo
  lt : ∀ h, hi = some h → lo < h
  no : ∀ c ∈ t.corn, c ≤ lo ∨ ∃ h, hi = some h ∧ h ≤ c
theorem corn_btw (t : Tl) {k : Nat} {lo : Rat} (h : t.corn[k]? = some lo) : Btw t lo t.corn[k + 1]? := by
  obtain ⟨h1, h2⟩ := sortQ_ok (0 :: meets t.forms t.forms)
  have hz : ∀ q ∈ t.corn, 0 ≤ q := fun q m => by
    rcases foldQ_mem m with m | m
    · cases m
    · rcases List.mem_cons.mp m with rfl | m
      · exact Rat.le_refl
      · obtain ⟨f, mf, g, mg, h⟩ := meets_mem m
        unfold meet at h
        split at h
        · cases h
        · split at h
          · rename_i hp
            rw [List.mem_singleton.mp h]
            exact Rat.le_of_lt (npos.mp hp)
          · cases h
  have hk : k < t.corn.length := (List.getElem?_eq_some_iff.mp h).1
  have get : ∀ (i j : Nat) (a b : Rat), t.corn[i]? = some a → t.corn[j]? = some b → i < j → a < b := fun i j a b ha hb hij => by
    obtain ⟨ia, ea⟩ := List.getElem?_eq_some_iff.mp ha
    obtain ⟨ib, eb⟩ := List.getElem?_eq_some_iff.mp hb
    have := (List.pairwise_iff_getElem.mp h1) i j ia ib hij
    rw [← ea, ← eb]; exact this
  refine ⟨hz lo (List.mem_of_getElem? h), fun x hx => get k (k + 1) _ _ h hx (by omega), fun c m => ?_⟩
  obtain ⟨i, hi⟩ := List.getElem?_of_mem m
  rcases Nat.lt_trichotomy i k with z | z | z
  · exact .inl (Rat.le_of_lt (get i k _ _ hi h z))
  · subst z
    rw [h] at hi; cases hi; exact .inl Rat.le_refl
  · have hl := (List.getElem?_eq_some_iff.mp hi).1
    have hs : t.corn[k + 1]? = some t.corn[k + 1] := List.getElem?_eq_getElem (by omega)
    refine .inr ⟨_, hs, ?_⟩
    by_cases e : i = k + 1
    · subst e
      rw [hs] at hi; cases hi; exact Rat.le_refl
    · exact Rat.le_of_lt (get (k + 1) i _ _ hs hi (by omega))
def askM (m : Rat) (f g : Fo) : Bool := decide (ev f m ≤ ev g m)
theorem askM_ok {t : Tl} {lo m r : Rat} {hi : Option Rat} (b : Btw t lo hi) (hm : lo < m) (hm2 : ∀ h, hi = some h → m < h) (hr : lo ≤ r) (hr2 : ∀ h, hi = some h → r ≤ h) {f g : Fo} {f' g' : Fo} (mf : f' ∈ t.forms) (mg : g' ∈ t.forms) (e1 : f.2 - g.2 = f'.2 - g'.2) (e2 : met f g = met f' g') : Ok2 (askM m) r f g := by
  by_cases hz : f.2 - g.2 = 0
  · have e : ev f r - ev g r = ev f m - ev g m := by
      have e3 : f.2 = g.2 := by grind
      unfold ev
      rw [e3]; grind
    unfold askM
    constructor <;> intro z <;> simp at z <;> grind
  · have side : met f g ≤ lo ∨ ∃ h, hi = some h ∧ h ≤ met f g := by
      by_cases hp : 0 < met f g
      · refine b.no _ ((sortQ_ok _).2 _ |>.mpr (List.mem_cons_of_mem _ ?_))
        refine List.mem_flatMap.mpr ⟨f', mf, List.mem_flatMap.mpr ⟨g', mg, ?_⟩⟩
        rw [e2]
        exact meet_eq (by rw [← e1]; exact hz) (by rw [← e2]; exact hp)
      · have := b.pos
        exact .inl (by grind)
    have hs : (m ≤ met f g ∧ r ≤ met f g) ∨ (met f g ≤ m ∧ met f g ≤ r) := by
      rcases side with z | ⟨h, e, z⟩
      · exact .inr ⟨by grind, by grind⟩
      · have := hm2 h e
        have := hr2 h e
        exact .inl ⟨by grind, by grind⟩
    have hne : m ≠ met f g := by
      rcases side with z | ⟨h, e, z⟩
      · grind
      · have := hm2 h e
        grind
    refine ⟨fun z => sgn_le hz hs hne (by simpa [askM] using z), fun z => sgn_ge hz hs hne ?_⟩
    have z2 : ¬ (ev f m ≤ ev g m) := by simpa [askM] using z
    grind
/-- between two corners a block is told by forms -/
theorem five_btw {t : Tl} {lo m r : Rat} {hi : Option Rat} (b : Btw t lo hi) (hm : lo < m) (hm2 : ∀ h, hi = some h → m < h) (hr : lo ≤ r) (hr2 : ∀ h, hi = some h → r ≤ h) : (t.five r).qs = evs (t.fiveF (askM m)) r := by
  refine (five_of fun p mp => ?_).symm
  obtain ⟨f, mf, g, mg, e1, e2⟩ := askd_met mp
  exact askM_ok b hm hm2 hr hr2 mf mg e1 e2
end Law
set_option Elab.async false
set_option linter.all false
set_option maxRecDepth 100000
set_option maxHeartbeats 4000000
/-! a stream for some statements alone: what it holds at the end is data -/
namespace Gh
open PySem PySem.Spec PyProof.Rows L2
mutual
/-- the stream's place told as a list -/
def D.fill (xs : List D) : D → D
  | .lst ds => .lst (D.fills xs ds)
  | .tup ds => .tup (D.fills xs ds)
  | .mut => .lst xs
  | .ins C ks ds => .ins C ks (D.fills xs ds)
  | .met f d => .met f (D.fill xs d)
  | .dK ks ds => .dK ks (D.fills xs ds)
  | .dT ks ds => .dT ks (D.fills xs ds)
  | .non => .non
  | .bl b => .bl b
  | .int i => .int i
  | .str x => .str x
  | .emp => .emp
  | .scr ns => .scr ns
  | .ty n => .ty n
  | .ref a => .ref a
def D.fills (xs : List D) : List D → List D
  | [] => []
  | d :: ds => D.fill xs d :: D.fills xs ds
end
theorem fills_length (xs : List D) : ∀ ds : List D, (D.fills xs ds).length = ds.length
  | [] => by simp [D.fills]
  | d :: ds => by simp [D.fills, fills_length xs ds]
section
variable {K : PySem.W.Frag} {p a : Addr} {S S' : List Addr} {H : Hp} {us : List V} {xs : List D}
mutual
theorem Rp.fill (ha : H a = some (.lst us)) (na : a ∉ S') (r : Rps K p S' H us xs) (w : ∀ b ∈ S', b ∈ S) : ∀ (d : D) (v : V), Rp K a S H v d → Rp K p S' H v (D.fill xs d)
  | .non, _, h => by cases h; simp only [D.fill]; exact .non
  | .bl _, _, h => by cases h; simp only [D.fill]; exact .bl _
  | .int _, _, h => by cases h; simp only [D.fill]; exact .int _
  | .str _, _, h => by cases h; simp only [D.fill]; exact .str _
  | .lst ds, _, h => by
    simp only [D.fill]
    cases h with
    | lst h1 h2 h3 => exact .lst (fun m => h1 (w _ m)) h2 (Rps.fill ha na r w ds _ h3)
  | .tup ds, _, h => by
    simp only [D.fill]
    cases h with
    | tup h1 h2 => exact .tup (h1.elim (fun ⟨n, x⟩ => .inl ⟨fun m => n (w _ m), x⟩) .inr) (Rps.fill ha na r w ds _ h2)
  | .emp, _, h => by
    simp only [D.fill]
    cases h with
    | emp h1 h2 => exact .emp (fun m => h1 (w _ m)) h2
  | .scr _, _, h => by
    simp only [D.fill]
    cases h with
    | scr h1 => exact .scr (h1.elim (fun ⟨n, x⟩ => .inl ⟨fun m => n (w _ m), x⟩) .inr)
  | .mut, _, h => by
    simp only [D.fill]
    cases h with
    | «mut» => exact .lst na ha r
  | .ty _, _, h => by cases h; simp only [D.fill]; exact .ty _
  | .ref _, _, h => by cases h; simp only [D.fill]; exact .ref _
  | .ins _ _ ds, _, h => by
    simp only [D.fill]
    cases h with
    | ins h1 h2 h3 h4 => exact .ins (fun m => h1 (w _ m)) h2 (Rps.fill ha na r w ds _ h3) (by rw [fills_length]; exact h4)
  | .met _ d, _, h => by
    simp only [D.fill]
    cases h with
    | met h1 h2 h3 => exact .met (fun m => h1 (w _ m)) h2 (Rp.fill ha na r w d _ h3)
  | .dK _ ds, _, h => by
    simp only [D.fill]
    cases h with
    | dK h1 h2 h3 h4 => exact .dK (fun m => h1 (w _ m)) h2 (Rps.fill ha na r w ds _ h3) (by rw [fills_length]; exact h4)
  | .dT _ ds, _, h => by
    simp only [D.fill]
    cases h with
    | dT h1 h2 h3 h4 => exact .dT (fun m => h1 (w _ m)) h2 (Rps.fill ha na r w ds _ h3) (by rw [fills_length]; exact h4)
theorem Rps.fill (ha : H a = some (.lst us)) (na : a ∉ S') (r : Rps K p S' H us xs) (w : ∀ b ∈ S', b ∈ S) : ∀ (ds : List D) (vs : List V), Rps K a S H vs ds → Rps K p S' H vs (D.fills xs ds)
  | [], _, h => by cases h; simp only [D.fills]; exact .nil
  | d :: ds, _, h => by
    simp only [D.fills]
    cases h with
    | cons h1 h2 => exact .cons (Rp.fill ha na r w d _ h1) (Rps.fill ha na r w ds _ h2)
end
end
def gF (xs : List D) : G → G
  | .val d => match d.lone with
    | true => .val d
    | false => .val (D.fill xs d)
  | .ow w ds => match D.lones ds with
    | true => .ow w ds
    | false => .no
  | .no => .no
theorem gF_ow {xs : List D} {g : G} {w : Ow} {ds : List D} (h : gF xs g = .ow w ds) : g = .ow w ds := by
  cases g with
  | no => cases h
  | val d =>
    simp only [gF] at h
    cases z : d.lone <;> rw [z] at h <;> cases h
  | ow u es =>
    simp only [gF] at h
    cases z : D.lones es <;> rw [z] at h <;> first | exact h | cases h
theorem mapF_ow {ρ : List G} {xs : List D} {i : Nat} {w : Ow} {ds : List D} (h : (ρ.map (gF xs))[i]? = some (.ow w ds)) : ρ[i]? = some (.ow w ds) := by
  rw [List.getElem?_map] at h
  cases e : ρ[i]? with
  | none => rw [e] at h; cases h
  | some g => rw [e] at h; rw [gF_ow (Option.some.inj h)]
/-- what is wished of the statements with the stream: it ends with xs, and they go on with that as data -/
abbrev GE.in3 (k : GE) (s : Sx) : GE := { nx := fun ρ2 s2 => ∃ xs, s2 = some xs ∧ D.lones xs = true ∧ k.nx (ρ2.map (gF xs)) s, rt := fun d _ => d.lone = true ∧ k.rt d s, xc := fun x ρ2 _ => x.d.lone = true ∧ k.xc x (ρ2.map gK2) s }
section
variable {F : Fx} {ρ : List G} {sts : List Stmt} {k : GE} {s : Sx} {O : List Addr} {σ : L2.St} {H : Hp} {a : Addr}
theorem Fm.enter3 {vs : List V} {xs : List D} {E : Ends} (f : Fm F O σ H ρ s) (ma : a ∈ O) (h1 : H a = some (.lst vs)) (r : Rps F.X.K F.p (O ++ F.S0) H vs xs) (hl : D.lones xs = true) (hn : ∀ (i : Nat) (w : Ow) (ds : List D), ρ[i]? = some (.ow w ds) → σ[i]? ≠ some (some (.ref a))) (q : k.ok F O H E) :
    Fm (F.strm2 a O H) (O.filter (· ≠ a)) σ H (ρ.map gK2) (some xs) ∧ (k.in3 s).ok (F.strm2 a O H) (O.filter (· ≠ a)) H E := by
  obtain ⟨g, ok⟩ := f.enter2 ma h1 r hl hn q
  refine ⟨g, ⟨fun O2 σ2 H2 ρ2 s2 f2 t2 n2 => ?_, ok.rt, fun O2 σ2 H2 ρ2 s2 f2 t2 n2 => n2.elim, fun O2 σ2 H2 ρ2 s2 f2 t2 n2 => n2.elim, ok.xc⟩⟩
  obtain ⟨ys, rfl, hy, n2⟩ := n2
  have inO : ∀ b, b ∈ O.filter (· ≠ a) → b ∈ O ∧ b ≠ a := fun b m => by
    obtain ⟨m1, m2⟩ := List.mem_filter.mp m
    exact ⟨m1, by simpa using m2⟩
  have sub : ∀ b ∈ O.filter (· ≠ a) ++ a :: F.S0, b ∈ O ++ F.S0 := fun b m => by
    rcases List.mem_append.mp m with m | m
    · exact List.mem_append_left _ (inO b m).1
    · rcases List.mem_cons.mp m with rfl | m
      · exact List.mem_append_left _ ma
      · exact List.mem_append_right _ m
  have gr : ∀ b ∈ O2, b ∈ O ∨ H b = none := fun b m => (t2.gr b m).imp (fun m => (inO b m).1) id
  obtain ⟨tb, _, us, ea, ra⟩ := f2.st
  have na : a ∉ O2 ++ F.S0 := fun m => by
    rcases List.mem_append.mp m with m | m
    · exact (f2.fre a m).2 List.mem_cons_self
    · exact (f.fre a ma).2 m
  have w2 : ∀ b ∈ O2 ++ F.S0, b ∈ O2 ++ (a :: F.S0) := fun b m => by
    rcases List.mem_append.mp m with m | m
    · exact List.mem_append_left _ m
    · exact List.mem_append_right _ (List.mem_cons_of_mem _ m)
  have r2 : Rps F.X.K F.p (O2 ++ F.S0) H2 us ys := ra.swap hy w2
  refine q.nx O2 σ2 H2 _ s ⟨strm2_xp f ma f2.ext, fun i gg hg => ?_, fun i w ds b h1 h2 => f2.own i w ds b (mapF_ow h1) h2, fun i j w u ds es b hne h1 h2 h3 => f2.dis i j w u ds es b hne (mapF_ow h1) (mapF_ow h2) h3, fun b m => ⟨?_, fun m2 => (f2.fre b m).2 (List.mem_cons_of_mem _ m2)⟩, fun b m => f2.trk b (w2 b m), strm2_st f ma f2.ext tb gr, f.pm, f.kd⟩ ⟨⟨fun b o n e nt => t2.xt.1 b o (fun m => n (sub b m)) e nt, t2.xt.2⟩, gr⟩ n2
  · rw [List.getElem?_map] at hg
    cases e : ρ2[i]? with
    | none => rw [e] at hg; cases hg
    | some g0 =>
      rw [e] at hg
      cases hg
      obtain ⟨o, ho, sl⟩ := f2.slot i g0 e
      refine ⟨o, ho, ?_⟩
      cases g0 with
      | no => trivial
      | ow u es =>
        simp only [gF]
        cases z : D.lones es with
        | false => trivial
        | true =>
          obtain ⟨b, ws, eo, m, hb, r, ft⟩ := sl
          subst eo
          exact ⟨b, ws, rfl, List.mem_append_left _ (f2.own i u es b e ho), hb, r.swap z w2, ft⟩
      | val d =>
        obtain ⟨v, eo, r⟩ := sl
        simp only [gF]
        cases z : d.lone with
        | true => exact ⟨v, eo, r.swap z w2⟩
        | false => exact ⟨v, eo, Rp.fill ea na r2 w2 d v r⟩
  · have e1 := (f2.fre b m).1
    by_cases zz : b ∈ O ∧ b ≠ a
    · exact (f.fre b zz.1).1
    · have e2 : (if b ∈ O ∧ b ≠ a then none else H b) = none := e1
      rw [if_neg zz] at e2
      exact f.ext.2 b e2
end
end Gh
set_option Elab.async false
set_option linter.all false
set_option maxRecDepth 100000
set_option maxHeartbeats 4000000
/-! x.pop() and what is taken of it; the stream compared with a list -/
namespace Gh
open PySem PySem.Spec PyProof.Rows L2
section
variable {F : Fx} {ρ ρ1 : List G} {s s1 s2 : Sx} {a b e tg : Expr} {d : D} {xs ys : List D} {pos p : Pos} {k : GE}
theorem em_pop0 (i : Nat) {x : Str} {px pa : Pos} {cpos : Pos} (hi : F.X.N[i]? = some x) (hv : Vis F.X.env.scope x) (hρ : ρ[i]? = some (.own (xs ++ [d])))
    (hd : (x == ("__debug__" : Str)) = false := by decide) (hcd : (x == ("__classdict__" : Str)) = false := by decide)
    (hb : attributeBase (.Name x px) "pop" F.X.env (eval (.Name x px) F.X.env) = eval (.Name x px) F.X.env := by rfl) (hline : (pa.endLine == cpos.line) = true := by rfl) :
    Em F ρ s (.Call (.Attribute (.Name x px) "pop" pa) [] [] cpos) d (ρ.set i (.own xs)) s :=
  ⟨rfl, fun O σ H f Q q => we (pe_bm0 PySem.F.plainAttrs_list PySem.F.slot_list_pop PySem.F.type_list_pop mt_pop (pe_var hi hv hd hcd) hb hline) (by
    obtain ⟨o, ho, c, vs, eo, m, h1, r, _⟩ := f.slot i _ hρ
    subst eo
    have el := r.length
    rw [List.length_append, List.length_singleton] at el
    have gd : (xs ++ [d])[xs.length]? = some d := by simp
    obtain ⟨v, hv', rv⟩ := r.get gd
    have el2 : vs.length - 1 = xs.length := by omega
    refine ⟨_, ho, .inl ⟨rfl, _, .inl (.inl h1)⟩, c, vs, v, rfl, rfl, h1, by rw [el2]; exact hv', ?_⟩
    obtain ⟨f2, x2⟩ := f.mut hρ ho (ds := xs) (by
      have := r.dropLast
      rwa [List.dropLast_concat] at this)
    exact q v _ f2 x2 (rv.ext x2))⟩
theorem em_ixT {i : Int} (ha : Em F ρ s a (.tup xs) ρ1 s1) (hb : Ed F ρ1 s1 b (.int i) s2) (h : atI xs i = some d) (hs : PlainIx b := by exact fun _ _ => rfl) : Em F ρ s (.Subscript a b pos) d ρ1 s2 :=
  ⟨ha.1.trans hb.1, fun O σ H f Q q => we (pe_ix ix_tup pe_we pe_we hs) (ha.2 O σ H f _ fun v H1 f1 x1 r1 => hb.2 O σ H1 f1 _ fun w H2 f2 x2 r2 => by
    cases r2
    cases r1.ext x2.xt with
    | tup h1 h2 =>
      obtain ⟨v, e, r⟩ := atI_rps h2 h
      exact ⟨_, _, i, v, rfl, rfl, h1.sq, e, q v H2 f2 (x1.trans x2.xt) r⟩)⟩
theorem em_sliceT {hi : Expr} {j : Int} {p2 : Pos} (ha : Em F ρ s a (.tup xs) ρ1 s1) (hb : Ed F ρ1 s1 hi (.int j) s2) : Em F ρ s (.Subscript a (.Slice none (some hi) none p2) pos) (.tup (cutD xs none (some j))) ρ1 s2 :=
  ⟨ha.1.trans hb.1, fun O σ H f Q q => we (pe_slice sl_tupA pe_we po_none (po_some pe_we)) (ha.2 O σ H f _ fun v H1 f1 x1 r1 => hb.2 O σ H1 f1 _ fun w H2 f2 x2 r2 => by
    cases r2
    refine ⟨_, rfl, ?_⟩
    cases r1.ext x2.xt with
    | tup h1 h2 =>
      refine ⟨_, _, rfl, h1.sq, fun z => q _ _ f2 (x1.trans x2.xt) ?_, fun z t n => q _ _ (f2.new n) ((x1.trans x2.xt).trans (.new n)) (.tup (.inl ⟨f2.fresh n, .inl upd_same⟩) ((rps_cut h2 none (some j)).ext (.new n)))⟩
      have e : cutD xs none (some j) = xs := by
        rw [h2.length] at z
        unfold cutD
        rw [z.1, z.2, List.drop_zero, Nat.sub_zero, List.take_length]
      rw [e]
      exact .tup h1 h2)⟩
theorem bs_asgEm {ρ' : List G} {js : List Nat} (h : Em F ρ s e d ρ1 s1) (hg : Eg F tg d ρ1 ρ' js) (hk : k.nx ρ' s1) (hs : swapsWithSole [tg] e pos.line F.X.env = pure false := by rfl) (hw : swappedStores [tg] e F.X.env = pure none := by rfl)
    (h1 : (assignEach [tg] F.X.env).map (·.2) = [assign tg F.X.env] := by rfl) : Bs F (.Assign [tg] e pos) ρ s k :=
  fun O σ H f E q => ws (ps_asg pe_we pg_wg hs hw h1) (h.2 O σ H f _ fun v H1 f1 x1 r1 => hg O σ H1 v s1 f1 r1 _ fun σ' f' _ _ => q.nx O σ' H1 ρ' s1 f' (.of x1) hk)
end
end Gh
set_option Elab.async false
set_option linter.all false
set_option maxRecDepth 100000
set_option maxHeartbeats 4000000
namespace Law
open PySem PySem.Spec PyProof.Rows L2 Gh
variable {E : En} {s : Sx} {a b : Rat}
theorem rn_over (T : Tc E) (ha : Sz 1000 a) (hb : Sz 1000 b) (h0 : b.num ≠ 0) : Rn E 2 "over" [fr a, fr b] s (fr (a / b)) s := by
  have w1 : (a.num * b.den).natAbs < 2 ^ 3000 := by
    rw [Int.natAbs_mul]; exact Nat.lt_of_lt_of_le (two_pow_mul ha.1 (show ((b.den : Int)).natAbs < 2 ^ 1000 by simpa using hb.2)) (Nat.pow_le_pow_right (by decide) (by decide))
  have w2 : ((a.den : Int) * b.num).natAbs < 2 ^ 3000 := by
    rw [Int.natAbs_mul]; exact Nat.lt_of_lt_of_le (two_pow_mul (show ((a.den : Int)).natAbs < 2 ^ 1000 by simpa using ha.2) hb.1) (Nat.pow_le_pow_right (by decide) (by decide))
  have e := ovr_eq (a := a) h0
  have za := ha.mono (n := 3000) (by decide)
  have zb := hb.mono (n := 3000) (by decide)
  refine T.d_over.rn sc_over rfl rfl fun fa cdv A outer sh H0 EX S0 p hr => ?_
  conv => arg 2; whnf
  by_cases hn : b.num < 0
  · refine bk_cons (bs_ifT (Cp.et ((cp_lt (ed_ix (ed_var 1 rfl (.inl rfl) rfl) ed_int rfl) ed_int).is (decide_eq_true hn))) (bk_cons (bs_ret (ed_cl (ea_cons (ed_bin ed_int (ed_bin (ed_ix (ed_var 0 rfl (.inl rfl) rfl) ed_int rfl) (ed_ix (ed_var 1 rfl (.inl rfl) rfl) ed_int rfl) rfl (mulW za.n zb.d)) rfl trivial) (ea_cons (ed_bin ed_int (ed_bin (ed_ix (ed_var 0 rfl (.inl rfl) rfl) ed_int rfl) (ed_ix (ed_var 1 rfl (.inl rfl) rfl) ed_int rfl) rfl (mulW za.d zb.n)) rfl trivial) ea_nil)) (hr.mono (by decide)) ((rn_lowest T.toTx ?_ ?_).is ?_)) ⟨rfl, rfl⟩)))
    · have := Int.mul_pos (den_pos a) (show 0 < -b.num by omega)
      rw [Int.mul_neg] at this; omega
    · rw [Int.zero_sub, Int.natAbs_neg]; exact lt_8000 (Nat.lt_of_lt_of_le w2 (Nat.pow_le_pow_right (by decide) (by decide)))
    · rw [← e]
      unfold ovr
      rw [if_neg (by omega)]
      congr 1
      congr 1
      · rw [Int.zero_sub, Int.mul_assoc, Int.neg_one_mul]
      · rw [Int.zero_sub, Int.mul_assoc, Int.neg_one_mul]
  · refine bk_cons (bs_ifF (Cp.et ((cp_lt (ed_ix (ed_var 1 rfl (.inl rfl) rfl) ed_int rfl) ed_int).is (decide_eq_false hn))) (bk_nil (bk_cons (bs_ret (ed_cl (ea_cons (ed_bin (ed_ix (ed_var 0 rfl (.inl rfl) rfl) ed_int rfl) (ed_ix (ed_var 1 rfl (.inl rfl) rfl) ed_int rfl) rfl (mulW za.n zb.d)) (ea_cons (ed_bin (ed_ix (ed_var 0 rfl (.inl rfl) rfl) ed_int rfl) (ed_ix (ed_var 1 rfl (.inl rfl) rfl) ed_int rfl) rfl (mulW za.d zb.n)) ea_nil)) (hr.mono (by decide)) ((rn_lowest T.toTx ?_ ?_).is ?_)) ⟨rfl, rfl⟩))))
    · exact Int.mul_pos (den_pos a) (by omega)
    · exact lt_8000 (Nat.lt_of_lt_of_le w2 (Nat.pow_le_pow_right (by decide) (by decide)))
    · rw [← e]
      unfold ovr
      rw [if_pos (by omega)]
      congr 1
      congr 1
      · rw [Int.one_mul]
      · rw [Int.one_mul]
theorem rn_is_less (T : Tc E) (ha : Sz 3000 a) (hb : Sz 3000 b) : Rn E 1 "is_less" [fr a, fr b] s (.bl (decide (a < b))) s := by
  refine T.d_is_less.rn sc_is_less rfl rfl fun fa cdv A outer sh H0 EX S0 p hr => ?_
  conv => arg 2; whnf
  refine bk_cons (bs_ret (Ed.is (Cp.ed (cp_lt (ed_bin (ed_ix (ed_var 0 rfl (.inl rfl) rfl) ed_int rfl) (ed_ix (ed_var 1 rfl (.inl rfl) rfl) ed_int rfl) rfl (mulW ha.n hb.d)) (ed_bin (ed_ix (ed_var 1 rfl (.inl rfl) rfl) ed_int rfl) (ed_ix (ed_var 0 rfl (.inl rfl) rfl) ed_int rfl) rfl (mulW hb.n ha.d)))) ?_) ⟨rfl, rfl⟩)
  exact congrArg D.bl (decide_eq_decide.mpr (Rat.lt_iff a b).symm)
theorem rn_worth_at (T : Tc E) {f : Fo} {r : Rat} (h1 : Sz 1000 f.1) (h2 : Sz 1000 f.2) (hr : Sz 1000 r) : Rn E 3 "worth_at" [fp f, fr r] s (fr (ev f r)) s := by
  refine T.d_worth_at.rn sc_worth_at rfl rfl fun fa cdv A outer sh H0 EX S0 p hrm => ?_
  conv => arg 2; whnf
  exact bk_cons (bs_ret (ed_cl (ea_cons (ed_ix (ed_var 0 rfl (.inl rfl) rfl) ed_int rfl) (ea_cons (ed_cl (ea_cons (ed_ix (ed_var 0 rfl (.inl rfl) rfl) ed_int rfl) (ea_cons (ed_var 1 rfl (.inl rfl) rfl) ea_nil)) (hrm.mono (by decide)) (rn_times T.toTx (h2.mono (by decide)) (hr.mono (by decide)))) ea_nil)) (hrm.mono (by decide)) (rn_plus T.toTx (h1.mono (by decide)) ((h2.mul hr).mono (by decide)))) ⟨rfl, rfl⟩)
/-- the least of some fractions -/
def leastQ (q : Rat) (qs : List Rat) : Rat := qs.foldl (fun m x => if x < m then x else m) q
theorem leastQ_mem (qs : List Rat) : ∀ q, leastQ q qs ∈ q :: qs := by
  induction qs with
  | nil => exact fun q => List.mem_cons_self
  | cons x qs ih =>
    intro q
    show leastQ (if x < q then x else q) qs ∈ _
    rcases List.mem_cons.mp (ih (if x < q then x else q)) with h | h
    · rw [h]
      split
      · exact List.mem_cons_of_mem _ List.mem_cons_self
      · exact List.mem_cons_self
    · exact List.mem_cons_of_mem _ (List.mem_cons_of_mem _ h)
theorem leastQ_le (qs : List Rat) : ∀ q, ∀ c ∈ q :: qs, leastQ q qs ≤ c := by
  induction qs with
  | nil =>
    intro q c m
    rw [List.mem_singleton.mp m]; exact Rat.le_refl
  | cons x qs ih =>
    intro q c m
    show leastQ (if x < q then x else q) qs ≤ c
    have h := ih (if x < q then x else q)
    have h0 := h _ List.mem_cons_self
    rcases List.mem_cons.mp m with rfl | m
    · split at h0 <;> grind
    · rcases List.mem_cons.mp m with rfl | m
      · split at h0 <;> grind
      · exact h c (List.mem_cons_of_mem _ m)
theorem rn_least_of (T : Tc E) {q : Rat} {qs : List Rat} (hs : ∀ c ∈ q :: qs, Sz 3000 c) : Rn E 2 "least_of" [.lst ((q :: qs).map fr)] s (fr (leastQ q qs)) s := by
  have hm : ∀ i, Sz 3000 (leastQ q (((q :: qs).take i).map id)) := fun i => by
    rcases List.mem_cons.mp (leastQ_mem (((q :: qs).take i).map id) q) with h | h
    · rw [h]; exact hs q List.mem_cons_self
    · rw [List.map_id] at h ⊢
      exact hs _ (List.mem_of_mem_take h)
  refine T.d_least_of.rn sc_least_of rfl rfl fun fa cdv A outer sh H0 EX S0 p hr => ?_
  conv => arg 2; whnf
  refine bk_cons (bs_set 1 sc_least_of.nd rfl (.inl rfl) (ed_ix (d := fr q) (ed_var 0 rfl (.inl rfl) rfl) ed_int (by show atI ((q :: qs).map fr) 0 = _; simp [atI, ixN])) ?_)
  refine bk_cons (bs_for PassesOwn.never rfl (ei_seq (ed_var 0 rfl (.inl rfl) rfl) (.inl rfl)) (fun i ρ s' => s' = s ∧ ∃ g, ρ = [.val (.lst ((q :: qs).map fr)), .val (fr (leastQ q (((q :: qs).take i).map id))), g]) ⟨rfl, _, rfl⟩ ?_ ?_)
  · rintro i d ρ' s' hi ⟨rfl, g, rfl⟩
    rw [List.getElem?_map] at hi
    cases e : (q :: qs)[i]? with
    | none => rw [e] at hi; cases hi
    | some c =>
      rw [e] at hi; cases hi
      have zc := hs c (List.mem_of_getElem? e)
      refine ⟨_, _, eg_name 2 sc_least_of.nd rfl (.inl rfl), bk_cons (bs_set 1 (d := fr (leastQ q (((q :: qs).take (i + 1)).map id))) sc_least_of.nd rfl (.inl rfl) (Ed.is (ed_if (et_val (ed_cl (ea_cons (ed_var 2 rfl (.inl rfl) rfl) (ea_cons (ed_var 1 rfl (.inl rfl) rfl) ea_nil)) (hr.mono (by decide)) (rn_is_less T zc (hm i)))) (fun _ => ed_var 2 rfl (.inl rfl) rfl) (fun _ => ed_var 1 rfl (.inl rfl) rfl)) ?_) (bk_nil ⟨rfl, _, rfl⟩))⟩
      have e2 : leastQ q (((q :: qs).take (i + 1)).map id) = if c < leastQ q (((q :: qs).take i).map id) then c else leastQ q (((q :: qs).take i).map id) := by
        rw [List.take_add_one, e, List.map_append]
        unfold leastQ
        rw [List.foldl_append]; rfl
      rw [e2]
      by_cases z : c < leastQ q (((q :: qs).take i).map id)
      · rw [decide_eq_true z, if_pos z]; rfl
      · rw [decide_eq_false z, if_neg z]; rfl
  · rintro ρ' s' ⟨rfl, g, rfl⟩
    have e : leastQ q (((q :: qs).take ((q :: qs).map fr).length).map id) = leastQ q qs := by
      rw [List.length_map, List.take_length, List.map_id]
      show leastQ (if q < q then q else q) qs = _
      rw [if_neg (by grind)]
    rw [e]
    exact bk_cons (bs_ret (ed_var 1 rfl (.inl rfl) rfl) ⟨rfl, rfl⟩)
/-- the class Behind -/
structure Bh (E : En) (C fI fA : Addr) : Prop where
  mg : E.mg "Behind" = some (.ref C)
  cls : Cls E.K C
  room : NoAttr E.K C "room"
  corners : NoAttr E.K C "corners"
  mkr : Mk E.K C fI
  asked : BMeth E.K C "asked" fA
  dI : Dm E t_Behind___init__ fI "__init__" "Behind.__init__" ["self", "room"]
  dA : Dm E t_Behind_asked fA "asked" "Behind.asked" ["self", "one", "other"]
abbrev bhD (C : Addr) (low : Rat) (d : D) : D := .ins C ["room", "corners"] [fr low, d]
theorem fp_at0 (f : Fo) : (fp f).at 0 = some (fr f.1) := rfl
theorem fp_at1 (f : Fo) : (fp f).at 1 = some (fr f.2) := rfl
theorem rn_asked (T : Tc E) {C fI fA : Addr} (B : Bh E C fI fA) {low : Rat} {f g : Fo} (hl : Sz 40 low) (h1 : Sz 100 f.1) (h2 : Sz 100 f.2) (h3 : Sz 100 g.1) (h4 : Sz 100 g.2) {cs : List D} (hc : cs.length ≤ 100) :
    RnA E 4 fA [bhD C low .mut, fp f, fp g] (some cs) (.bl (askB low f g)) (some (cs ++ (crn low f g).map fr)) := by
  have hsl : cs.length < sizeLine := Nat.lt_of_le_of_lt hc (by decide)
  refine B.dA.rn sc_Behind_asked rfl rfl fun cdv A outer sh H0 EX S0 p hr => ?_
  conv => arg 2; whnf
  have zs : Sz 201 (f.2 - g.2) := h2.sub h4
  have zt : Sz 201 (g.1 - f.1) := h3.sub h1
  refine bk_cons (bs_set 3 (d := fr (f.2 - g.2)) sc_Behind_asked.nd rfl (.inl rfl) (ed_cl (ea_cons (ed_ix (ed_var 1 rfl (.inl rfl) rfl) ed_int (fp_at1 f)) (ea_cons (ed_ix (ed_var 2 rfl (.inl rfl) rfl) ed_int (fp_at1 g)) ea_nil)) (hr.mono (by decide)) (rn_minus T.toTx (h2.mono (by decide)) (h4.mono (by decide)))) ?_)
  have zf : Sz 1000 (ev f low) := ((h1.add (h2.mul hl))).mono (by decide)
  have zg : Sz 1000 (ev g low) := ((h3.add (h4.mul hl))).mono (by decide)
  have fin : ∀ g4 : G, Bk (bodyM E ["self", "one", "other", "slope", "corner", "here", "there"] "Behind.asked" t_Behind_asked (some cs) fA cdv A outer sh H0 EX S0 p) ((defBody t_Behind_asked).drop 2) [.val (bhD C low .mut), .val (fp f), .val (fp g), .val (fr (f.2 - g.2)), g4, .no, .no] (some (cs ++ (crn low f g).map fr)) { nx := fun _ t => (.bl (askB low f g) : D) = .non ∧ t = some (cs ++ (crn low f g).map fr), rt := fun r t => r = .bl (askB low f g) ∧ t = some (cs ++ (crn low f g).map fr) } := by
    intro g4
    conv => arg 2; whnf
    refine bk_cons (bs_par 5 6 rfl sc_Behind_asked.nd rfl rfl (by decide) rfl rfl (ea_cons (ed_cl (ea_cons (ed_var 1 rfl (.inl rfl) rfl) (ea_cons (ed_fld B.cls B.room (ed_var 0 rfl (.inl rfl) rfl) rfl) ea_nil)) (hr.mono (by decide)) (rn_worth_at T (h1.mono (by decide)) (h2.mono (by decide)) (hl.mono (by decide)))) (ea_cons (ed_cl (ea_cons (ed_var 2 rfl (.inl rfl) rfl) (ea_cons (ed_fld B.cls B.room (ed_var 0 rfl (.inl rfl) rfl) rfl) ea_nil)) (hr.mono (by decide)) (rn_worth_at T (h3.mono (by decide)) (h4.mono (by decide)) (hl.mono (by decide)))) ea_nil)) ?_)
    refine bk_cons (bs_ret (Ed.is (ed_if (Cp.et (cp_ne hr (ed_var 5 rfl (.inl rfl) rfl) (ed_var 6 rfl (.inl rfl) rfl) (fr_eqC _) (fr_eqC _))) (fun _ => ed_cl (ea_cons (ed_var 5 rfl (.inl rfl) rfl) (ea_cons (ed_var 6 rfl (.inl rfl) rfl) ea_nil)) (hr.mono (by decide)) (rn_is_less T (zf.mono (by decide)) (zg.mono (by decide)))) (fun _ => ed_cl (ea_cons (ed_var 3 rfl (.inl rfl) rfl) (ea_cons (ed_cst T.c_ZERO) ea_nil)) (hr.mono (by decide)) (rn_is_upto T.toTx (zs.mono (by decide)) .zero))) ?_) ⟨rfl, rfl⟩)
    rw [fr_eqb]
    unfold askB
    by_cases z : ev f low = ev g low
    · rw [if_pos z, decide_eq_true z]; rfl
    · rw [if_neg z, decide_eq_false z]; rfl
  by_cases hz : f.2 - g.2 = 0
  · refine bk_cons (bs_ifF (Cp.et ((cp_ne hr (ed_var 3 rfl (.inl rfl) rfl) (ed_cst T.c_ZERO) (fr_eqC _) (fr_eqC _)).is (by rw [fr_eqb, decide_eq_true hz]; rfl))) (bk_nil ?_))
    have := fin .no
    unfold crn at this ⊢
    rw [if_pos hz] at this ⊢
    simp only [List.map_nil, List.append_nil] at this ⊢
    exact this
  · refine bk_cons (bs_ifT (Cp.et ((cp_ne hr (ed_var 3 rfl (.inl rfl) rfl) (ed_cst T.c_ZERO) (fr_eqC _) (fr_eqC _)).is (by rw [fr_eqb, decide_eq_false hz]; rfl))) ?_)
    have hz' := num_ne hz
    have zm : Sz 1000 (met f g) := by
      have := ovr_sz (a := g.1 - f.1) hz' 201 201 zt.1 zt.2 zs.1 zs.2
      rw [ovr_eq hz'] at this
      exact this.mono (by decide)
    refine bk_cons (bs_set 4 (d := fr (met f g)) sc_Behind_asked.nd rfl (.inl rfl) (ed_cl (ea_cons (ed_cl (ea_cons (ed_ix (ed_var 2 rfl (.inl rfl) rfl) ed_int (fp_at0 g)) (ea_cons (ed_ix (ed_var 1 rfl (.inl rfl) rfl) ed_int (fp_at0 f)) ea_nil)) (hr.mono (by decide)) (rn_minus T.toTx (h3.mono (by decide)) (h1.mono (by decide)))) (ea_cons (ed_var 3 rfl (.inl rfl) rfl) ea_nil)) (hr.mono (by decide)) (rn_over T (zt.mono (by decide)) (zs.mono (by decide)) hz')) ?_)
    by_cases hm : low < met f g
    · refine bk_cons (bs_ifT (et_val (Ed.is (ed_cl (ea_cons (ed_fld B.cls B.room (ed_var 0 rfl (.inl rfl) rfl) rfl) (ea_cons (ed_var 4 rfl (.inl rfl) rfl) ea_nil)) (hr.mono (by decide)) (rn_is_less T (hl.mono (by decide)) (zm.mono (by decide)))) (congrArg D.bl (decide_eq_true hm)))) ?_)
      refine bk_cons (bs_appMut (ed_fld B.cls B.corners (ed_var 0 rfl (.inl rfl) rfl) rfl) (ed_var 4 rfl (.inl rfl) rfl) hsl (bk_nil (bk_nil ?_)))
      have := fin (.val (fr (met f g)))
      unfold crn at this ⊢
      rw [if_neg hz, if_pos hm] at this ⊢
      exact this
    · refine bk_cons (bs_ifF (et_val (Ed.is (ed_cl (ea_cons (ed_fld B.cls B.room (ed_var 0 rfl (.inl rfl) rfl) rfl) (ea_cons (ed_var 4 rfl (.inl rfl) rfl) ea_nil)) (hr.mono (by decide)) (rn_is_less T (hl.mono (by decide)) (zm.mono (by decide)))) (congrArg D.bl (decide_eq_false hm)))) (bk_nil (bk_nil ?_)))
      have := fin (.val (fr (met f g)))
      unfold crn at this ⊢
      rw [if_neg hz, if_neg hm] at this ⊢
      simp only [List.map_nil, List.append_nil] at this ⊢
      exact this
end Law
set_option Elab.async false
set_option linter.all false
set_option maxRecDepth 100000
set_option maxHeartbeats 4000000
namespace Law
open PySem PySem.Spec PyProof.Rows L2 Gh
variable {E : En} {s : Sx}
/-! what was looked at, told by forms in all rooms -/
def Ln.oD : Ln → Gh.D
  | .auto => .str "auto"
  | .nat n => fm n 0
  | .part n => fm 0 (mkRat n 100)
theorem Ln.oD_of {l : Ln} (h : l ≠ .auto) : l.oD = fp l.fo := by
  cases l <;> first | rfl | exact absurd rfl h
theorem Ln.fo_sz {l : Ln} (h : l.n < 2 ^ 14) : Hu (2 ^ 21) l.fo.1 ∧ Hu (2 ^ 21) l.fo.2 := by
  rw [fo_wt]; exact ⟨Ln.hu0 h, Ln.hu1 h⟩
def lenO : D → D
  | .str v => .str v
  | .int n => fm n 0
  | x => match items x with
    | some [_, .int n] => fm 0 (mkRat n 100)
    | _ => .non
theorem Hd.lenO {l : Ln} {x : D} (h : Hd l x) : lenO x = l.oD := by
  cases h with
  | same => cases l <;> rfl
  | lst => rfl
theorem lenO_mo (m : Option Nat) : lenO (moD m) = moF m := by cases m <;> rfl
theorem rn_length_partO (T : Tc E) {n : Nat} {x : D} (h : Hd (.part n) x) (hn : n < 2 ^ 14) : Rn E 5 "length_form" [x, fm 0 1] s (fm 0 (mkRat n 100)) s := by
  have hx := h.items
  have i1 : x.at 1 = some (.int n) := by rw [items_at hx]; rfl
  have hk : ∃ k, x.kind = some k ∧ isK k .str = false := by cases h <;> exact ⟨_, rfl, rfl⟩
  obtain ⟨k, hk, hk2⟩ := hk
  have hN : isN x = false := by cases h <;> rfl
  refine T.d_length_form.rn sc_length_form rfl rfl fun fa cdv A outer sh H0 EX S0 p hrm => ?_
  conv => arg 2; whnf
  refine bk_cons (bs_ifF (et_val ((ed_isi T.bf (ed_var 0 rfl (.inl rfl) rfl) hk (cn_str T.bf)).is (by rw [hk2]))) (bk_nil ?_))
  refine bk_cons (bs_ifF (et_val (ed_cl (ea_cons (ed_var 0 rfl (.inl rfl) rfl) ea_nil) (hrm.mono (by decide)) ((rn_is_natural T.toTx hk).is (congrArg D.bl hN)))) (bk_nil ?_))
  refine bk_cons (bs_ret (ed_cl (ea_cons (ed_var 1 rfl (.inl rfl) rfl) (ea_cons (ed_cl (ea_cons (ed_tup (ea_cons (ed_ix (ed_var 0 rfl (.inl rfl) rfl) ed_int i1) (ea_cons ed_int ea_nil))) ea_nil) (hrm.mono (by decide)) ((rn_frac_of T.toTx (x := .tup [.int n, .int 100]) rfl (by
    intro t b e
    cases e
    decide +kernel)).is (show _ = fr (mkRat n 100) from rfl))) ea_nil)) (hrm.mono (by decide)) (rn_scaled_form T.toTx .zero (sz1.mono (by decide)) ((Sz.mk (n := 14) (t := (n : Int)) hn (by decide) (by decide)).mono (by decide)))) ⟨?_, rfl⟩)
  rw [Rat.zero_mul, Rat.one_mul]
theorem rn_length_formO (T : Tc E) {l : Ln} {x : D} (h : Hd l x) (hn : l.n < 2 ^ 14) : Rn E 5 "length_form" [x, fm 0 1] s l.oD s := by
  cases l with
  | nat n => cases h; exact rn_length_nat T
  | part n => exact rn_length_partO T h hn
  | auto => cases h; exact rn_length_str T
def Tl.os (t : Tl) : List D := [t.w.oD, fp (nF t.least), moF t.most, t.ml.oD, t.mr.oD, t.pl.oD, t.pr.oD]
theorem th_os {t : Tl} {hs : List D} (h : Th t hs) : hs.map lenO = t.os := by
  cases h with
  | mk h1 h2 h3 h4 h5 =>
    simp only [List.map_cons, List.map_nil, h1.lenO, h2.lenO, h3.lenO, h4.lenO, h5.lenO, lenO_mo]
    rfl
theorem th_lenO (T : Tc E) {t : Tl} (ok : t.Sm) {hs : List D} (h : Th t hs) {i : Nat} {d : D} (hi : hs[i]? = some d) : ∀ s, Rn E 5 "length_form" [d, fm 0 1] s (lenO d) s := by
  cases h with
  | mk h1 h2 h3 h4 h5 =>
    match i, hi with
    | 0, hi => cases hi; exact fun s => (rn_length_formO T h1 ok.w).is h1.lenO.symm
    | 1, hi => cases hi; exact fun s => rn_length_nat T
    | 2, hi => cases hi; exact fun s => (rn_length_mo T).is (lenO_mo _).symm
    | 3, hi => cases hi; exact fun s => (rn_length_formO T h2 ok.ml).is h2.lenO.symm
    | 4, hi => cases hi; exact fun s => (rn_length_formO T h3 ok.mr).is h3.lenO.symm
    | 5, hi => cases hi; exact fun s => (rn_length_formO T h4 ok.pl).is h4.lenO.symm
    | 6, hi => cases hi; exact fun s => (rn_length_formO T h5 ok.pr).is h5.lenO.symm
    | i + 7, hi => cases hi
theorem rn_told_formsO (T : Tc E) {t : Tl} (ok : t.Sm) {hs : List D} (h : Th t hs) : Rn E 6 "told_forms" [.tup hs, fm 0 1] s (.tup t.os) s := by
  refine T.d_told_forms.rn sc_told_forms rfl rfl fun fa cdv A outer sh H0 EX S0 p hrm => ?_
  conv => arg 2; whnf
  refine bk_cons (bs_ret (ed_tupleOf T.bf (El.ed (el_map [("length", 2)] lenO rfl sc_told_forms.nd (ei_seq (ed_var 0 rfl (.inl rfl) rfl) (.inr rfl)) (blkOk_by rfl) (by rw [h.len]; decide) (fun i d hi => ?_))) (.inl rfl)) ⟨by rw [th_os h], rfl⟩)
  exact ⟨_, _, fun c => eg_name 2 sc_told_forms.nd rfl (.inl rfl), by decide, fun c => ed_cl (ea_cons (ed_var 2 rfl (.inl rfl) rfl) (ea_cons (ed_var 1 rfl (.inr (.inl rfl)) rfl) ea_nil)) (hrm.mono (by decide)) (th_lenO T ok h hi _)⟩
theorem oD_eqC (l : Ln) : l.oD.eqC := by
  cases l with
  | auto => exact eqC_str
  | _ => exact (eqD.fm _ _).eqC
theorem oD_auto (l : Ln) : l.oD.eqb (.str "auto") = l.isA := by
  cases l with
  | auto => show (D.str _).eqb _ = _; rw [eqb_str]; decide +kernel
  | _ => exact fm_str _ _ _
theorem rn_margin_formO (T : Tc E) (l : Ln) : Rn E 1 "margin_form" [l.oD] s (fp l.fo) s := by
  refine T.d_margin_form.rn sc_margin_form rfl rfl fun fa cdv A outer sh H0 EX S0 p hr => ?_
  conv => arg 2; whnf
  refine bk_cons (bs_ret (ed_if (Cp.et (cp_eq hr (ed_var 0 rfl (.inl rfl) rfl) ed_str (oD_eqC l) eqC_str)) (fun _ => (ed_cst T.c_FLAT)) (fun _ => (ed_var 0 rfl (.inl rfl) rfl))) ⟨?_, rfl⟩)
  rw [oD_auto]
  cases l <;> rfl
structure Zf (n : Nat) (f : Fo) : Prop where
  a : Sz n f.1
  b : Sz n f.2
theorem Zf.mono {m n : Nat} {f : Fo} (h : Zf m f) (l : m ≤ n) : Zf n f := ⟨h.a.mono l, h.b.mono l⟩
theorem Zf.forms {t : Tl} (sm : t.Sm) {f : Fo} (m : f ∈ t.forms) : Zf 40 f := by
  obtain ⟨h1, h2⟩ := forms_hu sm f m
  exact ⟨h1.sz (by decide), h2.sz (by decide)⟩
theorem Zf.sb {m n : Nat} {f g : Fo} (h : Zf m f) (k : Zf n g) : Zf (m + n + 1) (sb f g) := ⟨h.a.sub k.a, h.b.sub k.b⟩
theorem Zf.ad {m n : Nat} {f g : Fo} (h : Zf m f) (k : Zf n g) : Zf (m + n + 1) (ad f g) := ⟨h.a.add k.a, h.b.add k.b⟩
theorem Zf.zero {n : Nat} (h : 0 < n := by decide) : Zf n (0, 0) := ⟨.zero h, .zero h⟩
theorem Zf.fo {l : Ln} (h : l.n < 2 ^ 14) : Zf 40 l.fo := ⟨(Ln.fo_sz h).1.sz (by decide), (Ln.fo_sz h).2.sz (by decide)⟩
theorem rn_minusF (T : Tc E) {f g : Fo} (h : Zf 3000 f) (k : Zf 3000 g) : Rn E 3 "minus_form" [fp f, fp g] s (fp (sb f g)) s := rn_minus_form T.toTx h.a h.b k.a k.b
theorem rn_plusF (T : Tc E) {f g : Fo} (h : Zf 3000 f) (k : Zf 3000 g) : Rn E 3 "plus_form" [fp f, fp g] s (fp (ad f g)) s := rn_plus_form T.toTx h.a h.b k.a k.b
def hcs (low : Rat) (x : Fo) (l : Nat) (m : Option Nat) : List Rat := (match m with | none => [] | some k => crn low x (nF k)) ++ crn low (nF l) (foundF (askB low) x m)
theorem crn_len (low : Rat) (f g : Fo) : (crn low f g).length ≤ 1 := by
  unfold crn; split
  · simp
  · split <;> simp
section
variable {C fI fA : Addr} {low : Rat}
theorem rn_askedZ (T : Tc E) (B : Bh E C fI fA) {f g : Fo} (hl : Sz 40 low) (h : Zf 100 f) (k : Zf 100 g) {cs : List D} (hc : cs.length ≤ 100) : RnA E 4 fA [bhD C low .mut, fp f, fp g] (some cs) (.bl (askB low f g)) (some (cs ++ (crn low f g).map fr)) :=
  rn_asked T B hl h.a h.b k.a k.b hc
theorem rn_held_formO (T : Tc E) (B : Bh E C fI fA) (hl : Sz 40 low) {x : Fo} {l : Nat} {m : Option Nat} (hx : Zf 100 x) (hn : Zf 100 (nF l)) (hm : ∀ k, m = some k → Zf 100 (nF k)) {cs : List D} (hc : cs.length ≤ 50) :
    Rn E 5 "held_form" [fp x, fp (nF l), moF m, .met fA (bhD C low .mut)] (some cs) (fp (heldF (askB low) x l m)) (some (cs ++ (hcs low x l m).map fr)) := by
  refine T.d_held_form.rn sc_held_form rfl rfl fun fa cdv A outer sh H0 EX S0 p hr => ?_
  conv => arg 2; whnf
  cases m with
  | none =>
    refine bk_cons (bs_set 4 sc_held_form.nd rfl (.inl rfl) (d := fp x) (s1 := some cs) (ed_ifT (s1 := some cs) (Ew.et (ew_orT (Cp.et ((cp_eq hr (ed_var 2 rfl (.inl rfl) rfl) ed_str (moF_eqC none) eqC_str).is (by show (D.str _).eqb _ = _; rw [eqb_str]; decide +kernel))))) (ed_var 0 rfl (.inl rfl) rfl)) ?_)
    refine bk_cons (bs_ret (ed_if (et_val (ed_clM 3 B.asked.fi rfl (.inl rfl) rfl (ea_cons (ed_var 1 rfl (.inl rfl) rfl) (ea_cons (ed_var 4 rfl (.inl rfl) rfl) ea_nil)) (hr.mono (by decide)) (rn_askedZ T B hl hn hx (by omega)))) (fun _ => (ed_var 4 rfl (.inl rfl) rfl)) (fun _ => (ed_var 1 rfl (.inl rfl) rfl))) ⟨?_, rfl⟩)
    unfold heldF
    show (if askB low (nF l) x = true then fp x else fp (nF l)) = fp (if askB low (nF l) x = true then x else nF l)
    split <;> rfl
  | some k =>
    have hk := hm k rfl
    have e : (moF (some k)).eqb (.str "none") = false := fm_str _ _ _
    have hf : Zf 100 (foundF (askB low) x (some k)) := by
      show Zf 100 (if askB low x (nF k) then x else nF k)
      split <;> assumption
    refine bk_cons (bs_set 4 sc_held_form.nd rfl (.inl rfl) (d := fp (foundF (askB low) x (some k))) (s1 := some (cs ++ (crn low x (nF k)).map fr)) (Ed.is (ed_if (s1 := some (cs ++ (crn low x (nF k)).map fr)) (Ew.et (ew_orF (Cp.et ((cp_eq hr (ed_var 2 rfl (.inl rfl) rfl) ed_str (moF_eqC _) eqC_str).is e)) (ew_or1 (et_val (ed_clM 3 B.asked.fi rfl (.inl rfl) rfl (ea_cons (ed_var 0 rfl (.inl rfl) rfl) (ea_cons (ed_var 2 rfl (.inl rfl) rfl) ea_nil)) (hr.mono (by decide)) (rn_askedZ T B hl hx hk (by omega))))))) (fun _ => (ed_var 0 rfl (.inl rfl) rfl)) (fun _ => (ed_var 2 rfl (.inl rfl) rfl))) ?_) ?_)
    · show (if askB low x (nF k) = true then fp x else fp (nF k)) = fp (if askB low x (nF k) = true then x else nF k)
      split <;> rfl
    have h1 := crn_len low x (nF k)
    refine bk_cons (bs_ret (ed_if (et_val (ed_clM 3 B.asked.fi rfl (.inl rfl) rfl (ea_cons (ed_var 1 rfl (.inl rfl) rfl) (ea_cons (ed_var 4 rfl (.inl rfl) rfl) ea_nil)) (hr.mono (by decide)) (rn_askedZ T B hl hn hf (by rw [List.length_append, List.length_map]; omega)))) (fun _ => (ed_var 4 rfl (.inl rfl) rfl)) (fun _ => (ed_var 1 rfl (.inl rfl) rfl))) ⟨?_, ?_⟩)
    · unfold heldF
      split <;> rfl
    · unfold hcs
      rw [List.map_append, List.append_assoc]
end
end Law
set_option Elab.async false
set_option linter.all false
set_option maxRecDepth 100000
set_option maxHeartbeats 4000000
namespace Law
open PySem PySem.Spec PyProof.Rows L2 Gh
variable {E : En} {s : Sx}
section
variable {C fI fA : Addr} {low : Rat} {t : Tl}
def Tl.cs1 (t : Tl) (low : Rat) : List Rat := hcs low t.xF t.least t.most
def Tl.cs2 (t : Tl) (low : Rat) : List Rat := if t.ml.isA then crn low (t.spareF (askB low)) (0, 0) else []
def Tl.cs (t : Tl) (low : Rat) : List Rat := t.cs1 low ++ t.cs2 low
theorem cs_askd (t : Tl) (low : Rat) : t.cs low = (t.askd (askB low)).flatMap fun p => crn low p.1 p.2 := by
  unfold Tl.cs Tl.cs1 Tl.cs2 Tl.askd hcs
  rw [List.flatMap_append, List.flatMap_append]
  congr 1
  · congr 1
    · cases t.most <;> simp
    · simp
  · split <;> simp
theorem hcs_len (low : Rat) (x : Fo) (l : Nat) (m : Option Nat) : (hcs low x l m).length ≤ 2 := by
  unfold hcs
  have h1 := crn_len low (nF l) (foundF (askB low) x m)
  cases m with
  | none => simp at *; omega
  | some k =>
    have h2 := crn_len low x (nF k)
    simp at *; omega
theorem cs_len (t : Tl) (low : Rat) : (t.cs low).length ≤ 3 := by
  unfold Tl.cs Tl.cs1 Tl.cs2
  have h1 := hcs_len low t.xF t.least t.most
  rw [List.length_append]
  split
  · have h2 := crn_len low (t.spareF (askB low)) (0, 0)
    omega
  · simp; omega
abbrev N_af : List Str := ["told", "room", "ask", "width", "least", "most", "mleft", "mright", "near", "far", "left", "rest", "free", "kept", "spare", "right"]
theorem rn_across_formsO (T : Tc E) (B : Bh E C fI fA) (hl : Sz 40 low) (ok : t.Ok) (sm : t.Sm) : Rn E 6 "across_forms" [.tup t.os, fm 0 1, .met fA (bhD C low .mut)] (some []) (fsD (t.fiveF (askB low))) (some ((t.cs low).map fr)) := by
  have f1 := Ln.oD_of ok.pl
  have f2 := Ln.oD_of ok.pr
  have z1 := Zf.fo sm.ml
  have z2 := Zf.fo sm.pl
  have z3 := Zf.fo sm.pr
  have z4 := Zf.fo sm.mr
  have z01 : Zf 40 ((0, 1) : Fo) := ⟨.zero, sz1⟩
  have zfree := Zf.forms sm (freeF_forms t)
  have zx := Zf.forms sm (xF_forms t)
  have zk := Zf.forms sm (keptF_forms t (askB low))
  have zsp : Zf 81 (t.spareF (askB low)) := zfree.sb zk
  have zhalf : Sz 2 (1 / 2) := ⟨by decide +kernel, by decide +kernel⟩
  have zleft : Zf 83 (t.leftF (askB low)) := by
    unfold Tl.leftF
    split
    · split
      · exact ⟨zsp.a.mul zhalf, zsp.b.mul zhalf⟩
      · exact zsp.mono (by decide)
    · exact z1.mono (by decide)
  refine T.d_across_forms.rn sc_across_forms rfl rfl fun fa cdv A outer sh H0 EX S0 p hrm => ?_
  conv => arg 2; whnf
  unfold Tl.os
  rw [f1, f2]
  refine bk_cons (bs_asg (ed_var 0 rfl (.inl rfl) rfl) (eg_tup rfl (egs_cons (eg_name 3 sc_across_forms.nd rfl (.inl rfl)) (egs_cons (eg_name 4 sc_across_forms.nd rfl (.inl rfl)) (egs_cons (eg_name 5 sc_across_forms.nd rfl (.inl rfl)) (egs_cons (eg_name 6 sc_across_forms.nd rfl (.inl rfl)) (egs_cons (eg_name 7 sc_across_forms.nd rfl (.inl rfl)) (egs_cons (eg_name 8 sc_across_forms.nd rfl (.inl rfl)) (egs_cons (eg_name 9 sc_across_forms.nd rfl (.inl rfl)) egs_nil)))))))) ?_)
  refine bk_cons (bs_set 10 sc_across_forms.nd rfl (.inl rfl) (ed_cl (ea_cons (ed_var 6 rfl (.inl rfl) rfl) ea_nil) (hrm.mono (by decide)) (rn_margin_formO T t.ml)) ?_)
  refine bk_cons (bs_set 11 sc_across_forms.nd rfl (.inl rfl) (ed_cl (ea_cons (ed_cl (ea_cons (ed_cl (ea_cons (ed_var 1 rfl (.inl rfl) rfl) (ea_cons (ed_var 10 rfl (.inl rfl) rfl) ea_nil)) (hrm.mono (by decide)) (rn_minusF (f := (0, 1)) T (z01.mono (by decide)) (z1.mono (by decide)))) (ea_cons (ed_var 8 rfl (.inl rfl) rfl) ea_nil)) (hrm.mono (by decide)) (rn_minusF T ((z01.sb z1).mono (by decide)) (z2.mono (by decide)))) (ea_cons (ed_var 9 rfl (.inl rfl) rfl) ea_nil)) (hrm.mono (by decide)) (rn_minusF T (((z01.sb z1).sb z2).mono (by decide)) (z3.mono (by decide)))) ?_)
  refine bk_cons (bs_set 12 sc_across_forms.nd rfl (.inl rfl) (d := fp t.freeF) (ed_cl (ea_cons (ed_var 11 rfl (.inl rfl) rfl) (ea_cons (ed_cl (ea_cons (ed_var 7 rfl (.inl rfl) rfl) ea_nil) (hrm.mono (by decide)) (rn_margin_formO T t.mr)) ea_nil)) (hrm.mono (by decide)) (rn_minusF T ((((z01.sb z1).sb z2).sb z3).mono (by decide)) (z4.mono (by decide)))) ?_)
  refine bk_cons (bs_set 13 sc_across_forms.nd rfl (.inl rfl) (d := fp (t.keptF (askB low))) (ed_cl (ea_cons (Ed.is (y := fp t.xF) (ed_if (Cp.et (cp_eq hrm (ed_var 3 rfl (.inl rfl) rfl) ed_str (oD_eqC t.w) eqC_str)) (fun _ => (ed_var 12 rfl (.inl rfl) rfl)) (fun _ => (ed_var 3 rfl (.inl rfl) rfl))) ?_) (ea_cons (ed_var 4 rfl (.inl rfl) rfl) (ea_cons (ed_var 5 rfl (.inl rfl) rfl) (ea_cons (ed_var 2 rfl (.inl rfl) rfl) ea_nil)))) (hrm.mono (by decide)) (rn_held_formO T B hl (zx.mono (by decide)) ((Zf.forms sm (least_forms t)).mono (by decide)) (fun k e => (Zf.forms sm (most_forms e)).mono (by decide)) (cs := []) (by simp))) ?_)
  · rw [oD_auto]
    unfold Tl.xF
    cases e : t.w <;> rfl
  refine bk_cons (bs_set 14 sc_across_forms.nd rfl (.inl rfl) (d := fp (t.spareF (askB low))) (ed_cl (ea_cons (ed_var 12 rfl (.inl rfl) rfl) (ea_cons (ed_var 13 rfl (.inl rfl) rfl) ea_nil)) (hrm.mono (by decide)) (rn_minusF T (zfree.mono (by decide)) (zk.mono (by decide)))) ?_)
  have fin : ∀ s9, Bk (bodyF E N_af "across_forms" t_across_forms (some []) fa cdv A outer sh H0 EX S0 p) ((defBody t_across_forms).drop 7) [.val (.tup [t.w.oD, fp (nF t.least), moF t.most, t.ml.oD, t.mr.oD, fp t.pl.fo, fp t.pr.fo]), .val (fm 0 1), .val (.met fA (bhD C low .mut)), .val t.w.oD, .val (fp (nF t.least)), .val (moF t.most), .val t.ml.oD, .val t.mr.oD, .val (fp t.pl.fo), .val (fp t.pr.fo), .val (fp (t.leftF (askB low))), .val (fp (sb (sb (sb (0, 1) t.ml.fo) t.pl.fo) t.pr.fo)), .val (fp t.freeF), .val (fp (t.keptF (askB low))), .val (fp (t.spareF (askB low))), .no] s9
      { nx := fun _ t' => fsD (t.fiveF (askB low)) = .non ∧ t' = s9, rt := fun r' t' => r' = fsD (t.fiveF (askB low)) ∧ t' = s9 } := by
    intro s9
    conv => arg 2; whnf
    exact bk_cons (bs_set 15 sc_across_forms.nd rfl (.inl rfl) (d := fp (t.rightF (askB low))) (ed_cl (ea_cons (ed_var 1 rfl (.inl rfl) rfl) (ea_cons (ed_cl (ea_cons (ed_cl (ea_cons (ed_var 10 rfl (.inl rfl) rfl) (ea_cons (ed_var 8 rfl (.inl rfl) rfl) ea_nil)) (hrm.mono (by decide)) (rn_plusF T (zleft.mono (by decide)) (z2.mono (by decide)))) (ea_cons (ed_cl (ea_cons (ed_var 13 rfl (.inl rfl) rfl) (ea_cons (ed_var 9 rfl (.inl rfl) rfl) ea_nil)) (hrm.mono (by decide)) (rn_plusF T (zk.mono (by decide)) (z3.mono (by decide)))) ea_nil)) (hrm.mono (by decide)) (rn_plusF T ((zleft.ad z2).mono (by decide)) ((zk.ad z3).mono (by decide)))) ea_nil)) (hrm.mono (by decide)) (rn_minusF (f := (0, 1)) T (z01.mono (by decide)) (((zleft.ad z2).ad (zk.ad z3)).mono (by decide))))
      (bk_cons (bs_ret (ed_tup (ea_cons (ed_var 10 rfl (.inl rfl) rfl) (ea_cons (ed_var 8 rfl (.inl rfl) rfl) (ea_cons (ed_var 13 rfl (.inl rfl) rfl) (ea_cons (ed_var 9 rfl (.inl rfl) rfl) (ea_cons (ed_var 15 rfl (.inl rfl) rfl) ea_nil)))))) ⟨rfl, rfl⟩)))
  have h1 := hcs_len low t.xF t.least t.most
  cases ea : t.ml.isA with
  | false =>
    refine bk_cons (bs_ifF (Ew.et (ew_andF (Cp.et ((cp_eq hrm (ed_var 6 rfl (.inl rfl) rfl) ed_str (oD_eqC t.ml) eqC_str).is (by rw [oD_auto]; exact ea))))) (bk_nil ?_))
    have e : t.leftF (askB low) = t.ml.fo := by unfold Tl.leftF; rw [ea]; rfl
    have e2 : t.cs low = t.cs1 low := by unfold Tl.cs Tl.cs2; rw [ea]; simp
    have := fin (some ((t.cs low).map fr))
    rw [e, e2] at this
    rw [e2]
    exact this
  | true =>
    refine bk_cons (bs_if (t := !askB low (t.spareF (askB low)) (0, 0)) (s1 := some ((t.cs low).map fr)) (Ew.et (ew_andT (Cp.et ((cp_eq hrm (ed_var 6 rfl (.inl rfl) rfl) ed_str (oD_eqC t.ml) eqC_str).is (by rw [oD_auto]; exact ea))) (ew_and1 (et_not (et_val ?_))))) (fun h => ?_) (fun h => ?_))
    · have e2 : (t.cs low).map fr = (t.cs1 low).map fr ++ (crn low (t.spareF (askB low)) (0, 0)).map fr := by
        unfold Tl.cs Tl.cs2; rw [ea, if_pos rfl, List.map_append]
      rw [e2]
      exact ed_clM 2 B.asked.fi rfl (.inl rfl) rfl (ea_cons (ed_var 14 rfl (.inl rfl) rfl) (ea_cons (ed_cst T.c_FLAT) ea_nil)) (hrm.mono (by decide)) (rn_askedZ (g := (0, 0)) T B hl (zsp.mono (by decide)) .zero (by simp only [List.nil_append, List.length_map]; omega))
    · have e : t.leftF (askB low) = if t.mr.isA then sc (t.spareF (askB low)) (1 / 2) else t.spareF (askB low) := by unfold Tl.leftF; rw [ea, h]; rfl
      refine bk_cons (bs_set 10 sc_across_forms.nd rfl (.inl rfl) (d := fp (t.leftF (askB low))) (Ed.is (ed_if (Cp.et (cp_eq hrm (ed_var 7 rfl (.inl rfl) rfl) ed_str (oD_eqC t.mr) eqC_str)) (fun _ => (ed_cl (ea_cons (ed_var 14 rfl (.inl rfl) rfl) (ea_cons (ed_cst T.c_HALF) ea_nil)) (hrm.mono (by decide)) (rn_scaled_form T.toTx (zsp.a.mono (by decide)) (zsp.b.mono (by decide)) (zhalf.mono (by decide))))) (fun _ => (ed_var 14 rfl (.inl rfl) rfl))) ?_) (bk_nil (fin _)))
      rw [oD_auto, e]
      cases t.mr.isA <;> rfl
    · have e : t.leftF (askB low) = t.ml.fo := by unfold Tl.leftF; rw [ea, h]; rfl
      have := fin (some ((t.cs low).map fr))
      rw [e] at this
      exact bk_nil this
theorem rn_forms_inO (T : Tc E) (B : Bh E C fI fA) (hl : Sz 40 low) (ok : t.Ok) (sm : t.Sm) {hs : List D} (h : Th t hs) : Rn E 7 "forms_in" [.tup hs, fm 0 1, .met fA (bhD C low .mut)] (some []) (fsD (t.fiveF (askB low))) (some ((t.cs low).map fr)) := by
  refine T.d_forms_in.rn sc_forms_in rfl rfl fun fa cdv A outer sh H0 EX S0 p hrm => ?_
  conv => arg 2; whnf
  exact bk_cons (bs_ret (ed_cl (ea_cons (ed_cl (ea_cons (ed_var 0 rfl (.inl rfl) rfl) (ea_cons (ed_var 1 rfl (.inl rfl) rfl) ea_nil)) (hrm.mono (by decide)) (rn_told_formsO T sm h)) (ea_cons (ed_var 1 rfl (.inl rfl) rfl) (ea_cons (ed_var 2 rfl (.inl rfl) rfl) ea_nil))) (hrm.mono (by decide)) (rn_across_formsO T B hl ok sm)) ⟨rfl, rfl⟩)
end
end Law
set_option Elab.async false
set_option linter.all false
set_option maxRecDepth 100000
set_option maxHeartbeats 4000000
namespace Law
open PySem PySem.Spec PyProof.Rows L2 Gh
variable {E : En} {s : Sx}
/-! Behind(low): a new instance with a new empty list -/
def spBh (C : Addr) : Sp := fun vs H Q _ => ∃ (x dx : Addr) (v : V), vs = [.ref x, v] ∧ H x = some (.ins C dx []) ∧ ∀ l, H l = none → l ≠ x → Q .non (upd (upd (upd H x (.ins C dx [("room", v)])) l (.lst [])) x (.ins C dx [("room", v), ("corners", .ref l)]))
theorem ok_behind {C fI fA : Addr} (B : Bh E C fI fA) : ∃ fd, Binds E.K fd ["self", "room"] [] ∧ FnOk E.P E.w E.K E.mg E.base CX0 1 fI fd ["self", "room"] (spBh C) := by
  obtain ⟨fd, F, hb⟩ := B.dI.ok
  refine ⟨fd, hb, F.ok sc_Behind___init__ (fun vs H Q EX h => ?_) fun cdv A outer sh H vs Q EX hr h => ⟨_, pss_cons (ps_fld (pe_var (i := 0) rfl (.inl rfl) rfl rfl) (pe_var (i := 1) rfl (.inl rfl) rfl rfl) (by rfl)) (pss_one (ps_fld (pe_var (i := 0) rfl (.inl rfl) rfl rfl) (pe_lst pa_nil) (by rfl))), ?_⟩⟩
  · obtain ⟨x, dx, v, rfl, _⟩ := h
    rfl
  · obtain ⟨x, dx, v, rfl, hx, q⟩ := h
    refine ⟨v, rfl, _, rfl, x, C, dx, _, rfl, hx, B.cls, B.room, by decide, ?_⟩
    refine ⟨by decide, fun l hl => ?_⟩
    have ne : l ≠ x := fun z => by rw [z, upd_same] at hl; cases hl
    rw [upd_ne ne] at hl
    refine ⟨_, rfl, x, C, dx, [("room", v)], rfl, by rw [upd_ne (Ne.symm ne)]; exact upd_same, B.cls, B.corners, (by show 1 < 1000; decide), ?_⟩
    exact q l hl ne
theorem bk_behind {F : Fx} {ρ : List G} {k : GE} {C fI fA : Addr} {low : Rat} {arg : Expr} {st2 : Stmt} {rest : List Stmt} {x : Str} {pos' p pos1 pos2 : Pos} (i : Nat) (B : Bh F.en C fI fA) (hN : F.X.N.Nodup) (hi : F.X.N[i]? = some x) (hx : Loc F.X.env.scope x) (ha : Ed F ρ s arg (fr low) s) (hr : Room 2 F.X.A)
    (h : ∀ a O H, Bs (F.strm2 a O H) st2 ((ρ.map gK2).set i (.val (bhD C low .mut))) (some []) (GE.in3 { k with nx := fun ρ' s' => Bk F rest ρ' s' k } s))
    (hs : swapsWith (.Call (.Name "Behind" p) [arg] [] pos1) (some (.Name x pos')) pos2.line F.X.env = pure false := by rfl)
    (hf : F.X.fn x = true ∨ F.X.env.scope.names.lookup x = some .local := by first | exact .inl rfl | exact .inr rfl | assumption) (hg : Gl F.X "Behind" := by rfl)
    (he : starEach [arg] F.X.env = (false, eval arg F.X.env) :: starEach [] F.X.env := by rfl) :
    Bk F (.Assign [.Name x pos'] (.Call (.Name "Behind" p) [arg] [] pos1) pos2 :: st2 :: rest) ρ s k := by
  obtain ⟨fd, hb, hok⟩ := ok_behind B
  intro O σ H f E q
  refine wb (pss_cons (ps_set hN hi hx (pe_make B.mkr hok hr hg B.mg hb .nil pass0 (pa_cons pe_we pa_nil he) (by decide) he rfl) hs hf) (pss_cons ps_ws pss_wb)) ?_
  refine ha.2 O σ H f _ fun v H1 f1 x1 r1 => ?_
  intro y dy ny ndy ney
  rw [List.append_nil]
  refine ⟨y, dy, v, rfl, upd_same, fun l hl nl => ⟨rfl, ?_⟩⟩
  have nl2 : l ≠ dy := fun z => by
    rw [z, upd_ne ney, upd_same] at hl; cases hl
  rw [upd_ne nl, upd_ne nl2] at hl
  -- the heap behind it
  generalize hH2 : upd (upd (upd (upd (upd H1 dy (HO.own y)) y (HO.ins C dy [])) y (HO.ins C dy [("room", v)])) l (HO.lst [])) y (HO.ins C dy [("room", v), ("corners", V.ref l)]) = H2
  have kp : ∀ b o, H1 b = some o → H2 b = some o := fun b o e => by
    rw [← hH2, upd_ne (ne_of_none e ny), upd_ne (ne_of_none e hl), upd_ne (ne_of_none e ny), upd_ne (ne_of_none e ny), upd_ne (ne_of_none e ndy)]
    exact e
  have ey : H2 y = some (.ins C dy [("room", v), ("corners", .ref l)]) := by rw [← hH2, upd_same]
  have el : H2 l = some (.lst []) := by rw [← hH2, upd_ne nl, upd_same]
  have xp : XP F.p s H1 H2 := ⟨fun b o e _ _ => kp b o e, fun b e => by
    cases e2 : H1 b with
    | none => rfl
    | some o => rw [kp b o e2] at e; cases e⟩
  have st : F.Sa (l :: O) H2 s := by
    have qq := f1.st
    cases s with
    | none => exact LamX.Tabs.ext qq kp
    | some ys =>
      obtain ⟨q1, q2, ws, q3, q4⟩ := qq
      exact ⟨LamX.Tabs.ext q1 kp, List.mem_cons_of_mem _ q2, ws, kp _ _ q3, (q4.fresh hl).ext (xt_all kp)⟩
  have f2 : Fm F (l :: O) σ H2 ρ s := f1.addO xp rfl st hl el
  have q2 : ({ k with nx := fun ρ' s' => Bk F rest ρ' s' k } : GE).ok F (l :: O) H2 { E with nx := fun σ' H' => WB F.X rest E σ' H' } := by
    have qq : k.ok F (l :: O) H2 E := q.to ⟨⟨fun b o n e nt => kp b o (x1.xt.1 b o n e nt), fun b e => x1.2 b (xp.2 b e)⟩, fun b m => (List.mem_cons.mp m).elim (fun z => .inr (x1.2 b (z ▸ hl))) .inl⟩
    exact ⟨fun O' σ' H' ρ' s' f' st h' => h' O' σ' H' f' E (qq.to st), qq.rt, qq.bk, qq.ct, qq.xc⟩
  obtain ⟨g1, g2⟩ := f2.enter3 (a := l) (vs := []) (xs := []) List.mem_cons_self el .nil (by simp [D.lones]) (fun j w ds hj => f1.notOwn hl j w ds hj) q2
  have ry : Rp F.X.K F.p (l :: O ++ F.S0) H2 v (fr low) := (r1.fresh hl).ext (xt_all kp)
  have my : y ∉ (l :: O).filter (· ≠ l) ++ (l :: F.S0) := fun m => by
    have m2 : y ∈ l :: (O ++ F.S0) := by
      rcases List.mem_append.mp m with m | m
      · rcases List.mem_cons.mp (List.mem_filter.mp m).1 with z | z
        · exact z ▸ List.mem_cons_self
        · exact List.mem_cons_of_mem _ (List.mem_append_left _ z)
      · rcases List.mem_cons.mp m with z | z
        · exact z ▸ List.mem_cons_self
        · exact List.mem_cons_of_mem _ (List.mem_append_right _ z)
    rcases List.mem_cons.mp m2 with z | z
    · exact nl z.symm
    · exact f1.fresh ny z
  have rv : Rp F.X.K l ((l :: O).filter (· ≠ l) ++ (l :: F.S0)) H2 v (fr low) := ry.swap (by simp [fr, D.lone, D.lones]) fun b m => by
    rcases List.mem_append.mp m with m | m
    · exact List.mem_append_left _ (List.mem_filter.mp m).1
    · rcases List.mem_cons.mp m with z | z
      · exact z ▸ List.mem_append_left _ List.mem_cons_self
      · exact List.mem_append_right _ z
  have g3 := g1.set (i := i) (v := .ref y) (d := bhD C low .mut) (Rp.ins (vs := [v, .ref l]) my ey (.cons rv (.cons .mut .nil)) rfl)
  exact h l (l :: O) H2 _ _ H2 g3 _ g2
end Law
set_option Elab.async false
set_option linter.all false
set_option maxRecDepth 100000
set_option maxHeartbeats 4000000
/-! the corners just behind a room: few, each a corner -/
namespace Law
open PySem PySem.Spec PyProof.Rows L2 Gh
def Tl.kand (t : Tl) : List Rat := (match t.most with | none => [] | some k => [met t.xF (nF k), met t.freeF (nF k)]) ++ [met (nF t.least) t.xF, met t.freeF t.xF, met t.freeF (nF t.least)]
theorem kand_len (t : Tl) : t.kand.length ≤ 5 := by
  unfold Tl.kand
  cases t.most <;> simp
theorem kept_cases (t : Tl) (ask : Fo → Fo → Bool) : t.keptF ask = t.xF ∨ t.keptF ask = nF t.least ∨ ∃ k, t.most = some k ∧ t.keptF ask = nF k := by
  unfold Tl.keptF heldF
  split
  · cases e : t.most with
    | none => exact .inl rfl
    | some k =>
      show (if ask t.xF (nF k) then t.xF else nF k) = _ ∨ _ ∨ ∃ k', _ ∧ (if ask t.xF (nF k) then t.xF else nF k) = _
      split
      · exact .inl rfl
      · exact .inr (.inr ⟨k, rfl, rfl⟩)
  · exact .inr (.inl rfl)
theorem cs_mem {t : Tl} (sm : t.Sm) {low c : Rat} (h0 : 0 ≤ low) (m : c ∈ t.cs low) : low < c ∧ c ∈ t.kand ∧ Sz 40 c := by
  rw [cs_askd] at m
  obtain ⟨p, mp, mc⟩ := List.mem_flatMap.mp m
  unfold crn at mc
  split at mc
  · cases mc
  · rename_i hz
    split at mc
    · rename_i hl
      have ec := List.mem_singleton.mp mc
      rw [ec]
      refine ⟨hl, ?_, ?_⟩
      · unfold Tl.askd at mp
        rcases List.mem_append.mp mp with mp | mp
        · rcases List.mem_append.mp mp with mp | mp
          · unfold Tl.kand
            cases e : t.most with
            | none => rw [e] at mp; cases mp
            | some k =>
              rw [e] at mp
              rw [List.mem_singleton.mp mp]
              simp
          · have ep := List.mem_singleton.mp mp
            rw [ep] at hz ⊢
            unfold Tl.kand
            cases e : t.most with
            | none => simp [foundF]
            | some k =>
              rw [e] at hz
              have hf : foundF (askB low) t.xF (some k) = if askB low t.xF (nF k) then t.xF else nF k := rfl
              rw [hf] at hz ⊢
              split at hz
              · rename_i z
                rw [if_pos z]; simp
              · exact absurd (show (0 : Rat) - 0 = 0 by grind) hz
        · split at mp
          · have ep := List.mem_singleton.mp mp
            rw [ep] at hz ⊢
            have e2 : met (t.spareF (askB low)) (0, 0) = met t.freeF (t.keptF (askB low)) := by
              unfold met Tl.spareF sb; simp only
              congr 1 <;> grind
            show met (t.spareF (askB low)) (0, 0) ∈ _
            rw [e2]
            unfold Tl.kand
            rcases kept_cases t (askB low) with e | e | ⟨k, e3, e⟩
            · rw [e]; simp
            · rw [e]; simp
            · rw [e, e3]; simp
          · cases mp
      · obtain ⟨f, mf, g, mg, e1, e2⟩ := askd_met mp
        rw [e2]
        have hz2 : f.2 - g.2 ≠ 0 := by rw [← e1]; exact hz
        have mm := meet_eq hz2 (by rw [← e2]; grind)
        obtain ⟨a1, a2⟩ := forms_hu sm f mf
        obtain ⟨b1, b2⟩ := forms_hu sm g mg
        exact (meet_ok a1 a2 b1 b2 mm).2
    · cases mc
def Tl.nxt (t : Tl) (low : Rat) : Option Rat := match t.cs low with | [] => none | q :: qs => some (leastQ q qs)
theorem nxt_ok {t : Tl} (sm : t.Sm) {low y : Rat} (h0 : 0 ≤ low) (h : t.nxt low = some y) : low < y ∧ y ∈ t.kand ∧ Sz 40 y := by
  unfold Tl.nxt at h
  cases e : t.cs low with
  | nil => rw [e] at h; cases h
  | cons q qs =>
    rw [e] at h
    cases h
    exact cs_mem sm h0 (by rw [e]; exact leastQ_mem qs q)
theorem five_nxt {t : Tl} {low r : Rat} (h : low ≤ r) (h2 : ∀ y, t.nxt low = some y → r ≤ y) : (t.five r).qs = evs (t.fiveF (askB low)) r := by
  refine (five_of fun p mp => askB_ok h fun c mc => ?_).symm
  have m : c ∈ t.cs low := by rw [cs_askd]; exact List.mem_flatMap.mpr ⟨p, mp, mc⟩
  unfold Tl.nxt at h2
  cases e : t.cs low with
  | nil => rw [e] at m; cases m
  | cons q qs =>
    rw [e] at h2 m
    have := h2 _ rfl
    have := leastQ_le qs q c m
    grind
def Tl.mu (t : Tl) : Option Rat → Nat
  | none => 0
  | some x => (t.kand.filter fun y => decide (x < y)).length + 1
theorem mu_lt {t : Tl} (sm : t.Sm) {low : Rat} (h0 : 0 ≤ low) : t.mu (t.nxt low) < t.mu (some low) := by
  cases e : t.nxt low with
  | none => exact Nat.succ_pos _
  | some y =>
    obtain ⟨h1, h2, _⟩ := nxt_ok sm h0 e
    show (t.kand.filter fun z => decide (y < z)).length + 1 < (t.kand.filter fun z => decide (low < z)).length + 1
    have key : ∀ l : List Rat, y ∈ l → (l.filter fun z => decide (y < z)).length < (l.filter fun z => decide (low < z)).length := by
      intro l
      have le : ∀ l : List Rat, (l.filter fun z => decide (y < z)).length ≤ (l.filter fun z => decide (low < z)).length := by
        intro l
        induction l with
        | nil => exact Nat.le_refl _
        | cons a l ih =>
          rw [List.filter_cons, List.filter_cons]
          by_cases z : y < a
          · have : low < a := by grind
            simp [z, this]; exact ih
          · by_cases z2 : low < a
            · simp [z, z2]; omega
            · simp [z, z2]; exact ih
      induction l with
      | nil => exact fun m => nomatch m
      | cons a l ih =>
        intro m
        rw [List.filter_cons, List.filter_cons]
        by_cases z : y < a
        · have : low < a := by grind
          rcases List.mem_cons.mp m with e | m
          · exfalso; grind
          · simp [z, this]; exact ih m
        · rcases List.mem_cons.mp m with e | m
          · have h9 : low < a := by grind
            have h8 := le l
            rw [if_neg (by simpa using z), if_pos (by simpa using h9), List.length_cons]
            omega
          · have := ih m
            by_cases z2 : low < a
            · simp [z, z2]; omega
            · simp [z, z2]; exact this
    have := key _ h2
    omega
theorem mu_0 (t : Tl) (x : Rat) : t.mu (some x) ≤ 6 := by
  have h1 := kand_len t
  have h2 := List.length_filter_le (fun y => decide (x < y)) t.kand
  show (t.kand.filter fun y => decide (x < y)).length + 1 ≤ 6
  omega
/-! data -/
theorem fr_lone (q : Rat) : (fr q).lone = true := by simp [fr, D.lone, D.lones]
theorem hD_lone (h : Option Rat) : (hD h).lone = true := by
  cases h with
  | none => simp [hD, D.lone]
  | some q => exact fr_lone q
theorem fp_lone (f : Fo) : (fp f).lone = true := by simp [fp, fm, D.lone, D.lones, fr_lone]
theorem fsD_lone (F : List Fo) : (fsD F).lone = true := by
  unfold fsD
  simp only [D.lone]
  exact lones_of fun x m => by
    obtain ⟨f, _, rfl⟩ := List.mem_map.mp m
    exact fp_lone f
theorem pc_lone (l : Rat) (b : Bool) (h : Option Rat) (F : List Fo) : (D.tup [iv l b h, fsD F]).lone = true := by
  simp [D.lone, D.lones, iv, fr_lone, hD_lone, fsD_lone]
theorem out_all {P : D → Prop} (hp : ∀ l b h F, P (.tup [iv l b h, fsD F])) (h : Option Rat) : ∀ (M : List Pc) (b : Bool), ∀ x ∈ outH h b M, P x
  | [], _, x, m => nomatch m
  | [p], b, x, m => by rw [List.mem_singleton.mp m]; exact hp ..
  | p :: q :: rest, b, x, m => by
    rw [outH] at m
    rcases List.mem_cons.mp m with rfl | m
    · exact hp ..
    · exact out_all hp h (q :: rest) false x m
theorem out_lone (h : Option Rat) (b : Bool) (M : List Pc) : D.lones (outH h b M) = true := lones_of (out_all pc_lone h M b)
theorem hD_eqD (h : Option Rat) : eqD 1 (hD h) := by
  cases h with
  | none => exact .non
  | some q => exact .fr q
theorem fsD_eqD (F : List Fo) : eqD 3 (fsD F) := (eqDs.of (n := 2) fun x m => by
  obtain ⟨f, _, rfl⟩ := List.mem_map.mp m
  exact .fm _ _).tup
theorem pc_eqD (l : Rat) (b : Bool) (h : Option Rat) (F : List Fo) : eqD 10 (.tup [iv l b h, fsD F]) :=
  (eqDs.cons ((eqDs.cons ((eqD.fr l).mono (by decide)) (.cons (.bl b) (.cons ((hD_eqD h).mono (by decide)) (.cons (.bl _) .nil)))).tup (n := 8)) (.cons ((fsD_eqD F).mono (by decide)) .nil)).tup
theorem out_eqC (h : Option Rat) (b : Bool) (M : List Pc) : (D.lst (outH h b M)).eqC := (eqDs.of (out_all pc_eqD h M b)).lst.eqC
theorem nil_eqb (xs : List D) : (D.lst xs).eqb (.lst []) = xs.isEmpty := by
  rw [lst_eqb]
  cases xs <;> rfl
theorem fp_eqb (f g : Fo) : (fp f).eqb (fp g) = decide (f = g) := by
  show (D.tup [fr f.1, fr f.2]).eqb (.tup [fr g.1, fr g.2]) = _
  rw [tup_eqb]
  have := frs_eqbs [f.1, f.2] [g.1, g.2]
  simp only [List.map_cons, List.map_nil] at this
  rw [this]
  obtain ⟨a, b⟩ := f
  obtain ⟨c, d⟩ := g
  simp
theorem fps_eqbs : ∀ F G : List Fo, eqbs (F.map fp) (G.map fp) = decide (F = G)
  | [], [] => rfl
  | [], _ :: _ => rfl
  | _ :: _, [] => rfl
  | f :: F, g :: G => by
    rw [List.map_cons, List.map_cons]
    show ((fp f).eqb (fp g) && eqbs (F.map fp) (G.map fp)) = _
    rw [fp_eqb, fps_eqbs F G]
    by_cases h1 : f = g <;> by_cases h2 : F = G <;> simp [h1, h2]
theorem fsD_eqb (F G : List Fo) : (fsD F).eqb (fsD G) = decide (F = G) := by
  unfold fsD; rw [tup_eqb, fps_eqbs]
end Law
set_option Elab.async false
set_option linter.all false
set_option maxRecDepth 100000
set_option maxHeartbeats 4000000
namespace Law
open PySem PySem.Spec PyProof.Rows L2 Gh
variable {E : En} {s : Sx}
theorem atI_last {α : Type} (A : List α) (d : α) : atI (A ++ [d]) (-1) = some d := by
  unfold atI ixN
  have e : ((A ++ [d]).length : Int) = (A.length : Int) + 1 := by simp
  rw [if_neg (by decide), if_pos (by omega), Option.bind_some, e]
  have e2 : (-1 + ((A.length : Int) + 1)).toNat = A.length := by omega
  rw [e2]; simp
abbrev fv (t : Tl) : Rat → List Rat := fun r => (t.five r).qs
structure PI (t : Tl) (low : Option Rat) (M : List Pc) : Prop where
  pos : ∀ x, low = some x → 0 ≤ x ∧ Sz 40 x
  few : M.length + t.mu low ≤ 6
  rep : (M = [] ∧ low = some 0) ∨ (RepTo (fv t) low M ∧ ∃ F P, M = (0, F) :: P)
theorem addP_len (M : List Pc) (x : Rat) (F : List Fo) : (addP M x F).length ≤ M.length + 1 := by
  unfold addP; split
  · omega
  · simp
theorem addP_head {F0 F : List Fo} {P : List Pc} {l x : Rat} : ∃ P', addP ((l, F0) :: P) x F = (l, F0) :: P' := by
  unfold addP; split
  · exact ⟨P, rfl⟩
  · exact ⟨P ++ [(x, F)], rfl⟩
theorem PI.step {t : Tl} (sm : t.Sm) {x : Rat} {M : List Pc} (h : PI t (some x) M) : PI t (t.nxt x) (addP M x (t.fiveF (askB x))) := by
  obtain ⟨h0, hz⟩ := h.pos x rfl
  have hF : ∀ r, x ≤ r → (∀ y, t.nxt x = some y → r ≤ y) → fv t r = evs (t.fiveF (askB x)) r := fun r h1 h2 => five_nxt h1 h2
  have hx : ∀ y, t.nxt x = some y → x < y := fun y e => (nxt_ok sm h0 e).1
  refine ⟨fun y e => ?_, ?_, .inr ?_⟩
  · obtain ⟨h1, _, h2⟩ := nxt_ok sm h0 e
    exact ⟨by grind, h2⟩
  · have h1 := addP_len M x (t.fiveF (askB x))
    have h2 := mu_lt sm h0
    have h3 := h.few
    omega
  · rcases h.rep with ⟨rfl, e⟩ | ⟨hr, F0, P, rfl⟩
    · cases e
      exact ⟨RepTo.start hF hx, _, [], by unfold addP; rw [if_neg (by simp)]; rfl⟩
    · obtain ⟨P', e⟩ := addP_head (l := 0) (F0 := F0) (P := P) (x := x) (F := t.fiveF (askB x))
      exact ⟨RepTo.add hF hx hr, F0, P', e⟩
def unH : D → Option Rat
  | .tup [.int a, .int b] => some (unfr (.tup [.int a, .int b]))
  | _ => none
theorem unH_hD (h : Option Rat) : unH (hD h) = h := by
  cases h with
  | none => rfl
  | some q => show some (unfr (fr q)) = _; rw [unfr_fr]
theorem th_lone {t : Tl} {hs : List D} (h : Th t hs) : D.lones hs = true := by
  have hd : ∀ {l : Ln} {x : D}, Hd l x → x.lone = true := fun {l x} h => by
    cases h with
    | same => cases l <;> simp [Ln.D, D.lone, D.lones]
    | lst => simp [D.lone, D.lones]
  cases h with
  | mk h1 h2 h3 h4 h5 =>
    have : (moD t.most).lone = true := by cases t.most <;> simp [moD, D.lone]
    simp [D.lones, hd h1, hd h2, hd h3, hd h4, hd h5, this, D.lone]
theorem gK2_val {d : D} (h : d.lone = true) : gK2 (.val d) = .val d := by simp only [gK2, h]
theorem gK2_own {ds : List D} (h : D.lones ds = true) : gK2 (.own ds) = .own ds := by simp only [gK2, h]
theorem gF_val {xs : List D} {d : D} (h : d.lone = true) : gF xs (.val d) = .val d := by simp only [gF, h]
theorem gF_own {xs ds : List D} (h : D.lones ds = true) : gF xs (.own ds) = .own ds := by simp only [gF, h]
theorem gF_bh {xs : List D} {C : Addr} {low : Rat} : gF xs (.val (bhD C low .mut)) = .val (bhD C low (.lst xs)) := by
  have e : (bhD C low .mut).lone = false := by simp [D.lone, D.lones, fr]
  simp only [gF, e]
  simp [D.fill, D.fills, fr]
theorem tup_lone {hs : List D} (h : D.lones hs = true) : (D.tup hs).lone = true := by simpa [D.lone] using h
theorem frs_lone (qs : List Rat) : D.lones (qs.map fr) = true := lones_of fun x m => by
  obtain ⟨q, _, rfl⟩ := List.mem_map.mp m
  exact fr_lone q
def pcs (t : Tl) : Nat → Option Rat → List Pc → List Pc
  | _, none, M => M
  | 0, some _, M => M
  | n + 1, some x, M => pcs t n (t.nxt x) (addP M x (t.fiveF (askB x)))
theorem pcs_none (t : Tl) (n : Nat) (M : List Pc) : pcs t n none M = M := by cases n <;> rfl
theorem pcs_ok {t : Tl} (sm : t.Sm) : ∀ (n : Nat) (low : Option Rat) (M : List Pc), t.mu low ≤ n → PI t low M → PI t none (pcs t n low M)
  | n, none, M, _, hp => by rw [pcs_none]; exact hp
  | 0, some x, M, h, _ => absurd h (Nat.not_succ_le_zero _)
  | n + 1, some x, M, h, hp => by
    have h1 := mu_lt sm (hp.pos x rfl).1
    exact pcs_ok sm n _ _ (by omega) (hp.step sm)
theorem PI.start (t : Tl) : PI t (some 0) [] := ⟨fun x e => by cases e; exact ⟨Rat.le_refl, .zero⟩, by have := mu_0 t 0; simpa using this, .inl ⟨rfl, rfl⟩⟩
theorem hD_some (q : Rat) : hD (some q) = fr q := rfl
section
variable {C fI fA : Addr} {t : Tl}
def whB : Stmt → List Stmt
  | .While _ b _ _ => b
  | _ => []
def ifC : Stmt → Expr
  | .If c _ _ _ => c
  | _ => .Constant .none 0 ⟨0, 0, 0, 0⟩
abbrev po_body : List Stmt := whB ((defBody t_pieces_of).getD 1 (.Pass ⟨0, 0, 0, 0⟩))
abbrev N_po : List Str := ["told", "found", "low", "behind", "forms", "high", "begin", "is_in"]
/-- behind the forms: the next room, the piece put to the others -/
theorem bk_piece (T : Tc E) (B : Bh E C fI fA) (sm : t.Sm) {hs : List D} {x : Rat} {M : List Pc} {g5 g6 g7 : G} (hp : PI t (some x) M) (fa : Addr) (cdv : Value) (A : Around) (outer : List Env) (sh : Shared) (H0 : Hp) (EX : XK) (S0 : List Addr) (p : Addr)
    (hr : Room 7 (bodyF E N_po "pieces_of" t_pieces_of s fa cdv A outer sh H0 EX S0 p).X.A) (k : GE)
    (hk : ∀ g3 g6 g7, k.nx [.val (.tup hs), .own (outH (t.nxt x) true (addP M x (t.fiveF (askB x)))), .val (hD (t.nxt x)), g3, .val (fsD (t.fiveF (askB x))), .val (hD (t.nxt x)), g6, g7] s) :
    Bk (bodyF E N_po "pieces_of" t_pieces_of s fa cdv A outer sh H0 EX S0 p) (po_body.drop 2) [.val (.tup hs), .own (outH (some x) true M), .val (fr x), .val (bhD C x (.lst ((t.cs x).map fr))), .val (fsD (t.fiveF (askB x))), g5, g6, g7] s k := by
  obtain ⟨h0, hz⟩ := hp.pos x rfl
  have hlen : M.length ≤ 6 := by have := hp.few; omega
  conv => arg 2; whnf
  have eqf : (D.lst ((t.cs x).map fr)).eqC := (eqD.frs _).lst.eqC
  have s3 : ∀ c ∈ t.cs x, Sz 3000 c := fun c m => (cs_mem sm h0 m).2.2.mono (by decide)
  refine bk_cons (bs_set 5 (d := hD (t.nxt x)) (s1 := s) sc_pieces_of.nd rfl (.inl rfl) ?_ ?_)
  · unfold Tl.nxt
    cases e : t.cs x with
    | nil =>
      rw [e] at eqf
      exact ed_ifF (s1 := s) (Cp.et ((cp_ne hr (ed_fld B.cls B.corners (ed_var 3 rfl (.inl rfl) rfl) rfl) (El.ed (el_lst ea_nil)) eqf (eqDs.nil (n := 1)).lst.eqC).is (by rw [nil_eqb]; rfl))) ed_non
    | cons q qs =>
      rw [e] at eqf s3
      exact ed_ifT (s1 := s) (Cp.et ((cp_ne hr (ed_fld B.cls B.corners (ed_var 3 rfl (.inl rfl) rfl) rfl) (El.ed (el_lst ea_nil)) eqf (eqDs.nil (n := 1)).lst.eqC).is (by rw [nil_eqb]; rfl))) (ed_cl (ea_cons (ed_fld B.cls B.corners (ed_var 3 rfl (.inl rfl) rfl) rfl) ea_nil) (hr.mono (by decide)) (rn_least_of T s3))
  refine bk_cons (bs_par 6 7 rfl sc_pieces_of.nd rfl rfl (by decide) rfl rfl (ea_cons (ed_var 2 rfl (.inl rfl) rfl) (ea_cons (Cp.ed ((cp_eqV hr (ev_own 1 rfl (.inl rfl) rfl) (El.ev (el_lst ea_nil)) (out_eqC _ _ _) (eqDs.nil (n := 1)).lst.eqC).is (nil_eqb _))) ea_nil)) ?_)
  have hnn : ∀ h : Option Rat, (!(hD h).isNon) = h.isSome := fun h => by cases h <;> rfl
  have fin : ∀ (ds : List D) (b : Rat) (i : Bool), ds.length ≤ 6 → ds ++ [.tup [iv b i (t.nxt x), fsD (t.fiveF (askB x))]] = outH (t.nxt x) true (addP M x (t.fiveF (askB x))) →
      Bk (bodyF E N_po "pieces_of" t_pieces_of s fa cdv A outer sh H0 EX S0 p) (po_body.drop 5) [.val (.tup hs), .own ds, .val (fr x), .val (bhD C x (.lst ((t.cs x).map fr))), .val (fsD (t.fiveF (askB x))), .val (hD (t.nxt x)), .val (fr b), .val (.bl i)] s k := by
    intro ds b i hl e
    conv => arg 2; whnf
    refine bk_cons (bs_append 1 rfl (.inl rfl) rfl (ed_tup (ea_cons (ed_tup (ea_cons (ed_var 6 rfl (.inl rfl) rfl) (ea_cons (ed_var 7 rfl (.inl rfl) rfl) (ea_cons (ed_var 5 rfl (.inl rfl) rfl) (ea_cons (Cp.ed ((cp_notN (ed_var 5 rfl (.inl rfl) rfl)).is (hnn _))) ea_nil))))) (ea_cons (ed_var 4 rfl (.inl rfl) rfl) ea_nil))) (Nat.lt_of_le_of_lt hl (by decide)) ?_)
    refine bk_cons (bs_set 2 sc_pieces_of.nd rfl (.inl rfl) (ed_var 5 rfl (.inl rfl) rfl) (bk_nil ?_))
    have := hk (.val (bhD C x (.lst ((t.cs x).map fr)))) (.val (fr b)) (.val (.bl i))
    rw [← e] at this
    exact this
  have hol : (outH (some x) true M).length ≤ 6 := by rw [outH_len]; exact hlen
  rcases List.eq_nil_or_concat M with e | ⟨M0, ⟨l, F0⟩, e⟩
  · subst e
    refine bk_cons (bs_ifF (Ew.et (ew_andF (Cp.et ((cp_neV hr (ev_own 1 rfl (.inl rfl) rfl) (El.ev (el_lst ea_nil)) (out_eqC _ _ _) (eqDs.nil (n := 1)).lst.eqC).is (by rw [nil_eqb]; rfl))))) (bk_nil ?_))
    exact fin _ x true (by simp [outH]) (by unfold addP; rw [if_neg (by simp)]; rfl)
  · rw [List.concat_eq_append] at e
    subst e
    have eo : outH (some x) true (M0 ++ [(l, F0)]) = outH (some l) true M0 ++ [.tup [iv l (true && M0.isEmpty) (some x), fsD F0]] := outH_snoc _ _ _ _ _
    have t1 : Et (bodyF E N_po "pieces_of" t_pieces_of s fa cdv A outer sh H0 EX S0 p) [.val (.tup hs), .own (outH (some x) true (M0 ++ [(l, F0)])), .val (fr x), .val (bhD C x (.lst ((t.cs x).map fr))), .val (fsD (t.fiveF (askB x))), .val (hD (t.nxt x)), .val (fr x), .val (.bl (outH (some x) true (M0 ++ [(l, F0)])).isEmpty)] s (ifC (po_body.getD 4 (.Pass ⟨0, 0, 0, 0⟩))) (decide (F0 = t.fiveF (askB x))) s := by
      refine Ew.et (ew_andT (Cp.et ((cp_neV hr (ev_own 1 rfl (.inl rfl) rfl) (El.ev (el_lst ea_nil)) (out_eqC _ _ _) (eqDs.nil (n := 1)).lst.eqC).is (by rw [nil_eqb, eo]; simp))) (ew_and1 (Cp.et ((cp_eq hr (ed_ix (ed_ixV (d := .tup [iv l (true && M0.isEmpty) (some x), fsD F0]) (ev_own 1 rfl (.inl rfl) rfl) (ed_neg ed_int) (by rw [eo]; exact atI_last _ _)) ed_int rfl) (ed_var 4 rfl (.inl rfl) rfl) ((fsD_eqD _).eqC) ((fsD_eqD _).eqC)).is (fsD_eqb _ _)))))
    by_cases ef : F0 = t.fiveF (askB x)
    · rw [decide_eq_true ef] at t1
      refine bk_cons (bs_ifT t1 ?_)
      rw [eo]
      refine bk_cons (bs_asgEm (em_sliceT (em_ixT (em_pop0 1 rfl (.inl rfl) rfl) ed_int rfl) ed_int) (eg_tup rfl (egs_cons (eg_name 6 sc_pieces_of.nd rfl (.inl rfl)) (egs_cons (eg_name 7 sc_pieces_of.nd rfl (.inl rfl)) egs_nil))) (bk_nil ?_))
      refine fin _ l (true && M0.isEmpty) ?_ ?_
      · have := hlen
        rw [outH_len]; simp at this; omega
      · unfold addP
        rw [if_pos (by simp [ef]), outH_snoc, ef]
    · rw [decide_eq_false ef] at t1
      refine bk_cons (bs_ifF t1 (bk_nil ?_))
      have ei : (outH (some x) true (M0 ++ [(l, F0)])).isEmpty = false := by rw [eo]; simp
      rw [ei]
      refine fin _ x false hol ?_
      unfold addP
      rw [if_neg (by simpa using ef), outH_snoc _ (M0 ++ [(l, F0)]), show (true && (M0 ++ [(l, F0)]).isEmpty) = false by simp]
theorem rn_pieces_of (T : Tc E) (B : Bh E C fI fA) (ok : t.Ok) (sm : t.Sm) {hs : List D} (h : Th t hs) : RnL E 8 "pieces_of" [.tup hs] s (outH none true (pcs t 6 (some 0) [])) s := by
  have hlo := tup_lone (th_lone h)
  refine T.d_pieces_of.rnL sc_pieces_of rfl rfl fun fa cdv A outer sh H0 EX S0 p hr => ?_
  conv => arg 2; whnf
  refine bkl_cons (bs_parOV 1 2 rfl sc_pieces_of.nd rfl rfl (by decide) rfl rfl (el_lst ea_nil) (ed_cst T.c_ZERO) ?_)
  refine bkl_cons (bs_while PassesOwn.never (fun ρ s' => s' = s ∧ ∃ (low : Option Rat) (M : List Pc) (g3 g4 g5 g6 g7 : G) (n : Nat), ρ = [.val (.tup hs), .own (outH low true M), .val (hD low), g3, g4, g5, g6, g7] ∧ PI t low M ∧ t.mu low ≤ n ∧ pcs t n low M = pcs t 6 (some 0) [])
    (fun ρ _ => match ρ with | [_, _, .val d, _, _, _, _, _] => t.mu (unH d) | _ => 0) ⟨rfl, some 0, [], _, _, _, _, _, 6, rfl, PI.start t, mu_0 t 0, rfl⟩ ?_)
  rintro ρ s' ⟨rfl, low, M, g3, g4, g5, g6, g7, n, rfl, hp, hmu, hpc⟩
  refine ⟨_, _, (cp_notN (ed_var 2 rfl (.inl rfl) rfl)).et, fun hb => ?_, fun hb => ?_⟩
  · cases low with
    | none => cases hb
    | some x =>
      obtain ⟨h0, hz⟩ := hp.pos x rfl
      obtain ⟨m, rfl⟩ : ∃ m, n = m + 1 := ⟨n - 1, by have : 1 ≤ t.mu (some x) := Nat.succ_le_succ (Nat.zero_le _); omega⟩
      have hm := mu_lt sm h0
      refine bk_behind 3 B sc_pieces_of.nd rfl (.inl rfl) (ed_var 2 rfl (.inl rfl) rfl) (hr.mono (by decide)) (fun a O H => ?_)
      have e2 : ([.val (.tup hs), .own (outH (some x) true M), .val (hD (some x)), g3, g4, g5, g6, g7] : List G).map gK2 = [.val (.tup hs), .own (outH (some x) true M), .val (fr x), gK2 g3, gK2 g4, gK2 g5, gK2 g6, gK2 g7] := by
        simp only [List.map_cons, List.map_nil, gK2_val hlo, gK2_own (out_lone _ _ _), hD_some, gK2_val (fr_lone x)]
      rw [e2]
      refine bs_set 4 (d := fsD (t.fiveF (askB x))) sc_pieces_of.nd rfl (.inl rfl) (ed_cl (ea_cons (ed_var 0 rfl (.inl rfl) rfl) (ea_cons (ed_cst T.c_ALL) (ea_cons (ed_bnd B.cls B.asked (ed_var 3 rfl (.inl rfl) rfl) (by decide)) ea_nil))) hr (rn_forms_inO T B hz ok sm h)) ?_
      refine ⟨_, rfl, frs_lone _, ?_⟩
      have e3 : ((([.val (.tup hs), .own (outH (some x) true M), .val (fr x), gK2 g3, gK2 g4, gK2 g5, gK2 g6, gK2 g7] : List G).set 3 (.val (bhD C x .mut))).set 4 (.val (fsD (t.fiveF (askB x))))).map (gF ((t.cs x).map fr)) = [.val (.tup hs), .own (outH (some x) true M), .val (fr x), .val (bhD C x (.lst ((t.cs x).map fr))), .val (fsD (t.fiveF (askB x))), gF ((t.cs x).map fr) (gK2 g5), gF ((t.cs x).map fr) (gK2 g6), gF ((t.cs x).map fr) (gK2 g7)] := by
        simp only [List.set_cons_succ, List.set_cons_zero, List.map_cons, List.map_nil, gF_val hlo, gF_own (out_lone _ _ _), gF_val (fr_lone x), gF_bh, gF_val (fsD_lone _)]
      rw [e3]
      refine bk_piece T B sm hp fa cdv A outer sh H0 EX S0 p hr _ fun g3' g6' g7' => ?_
      refine ⟨⟨rfl, t.nxt x, _, g3', _, _, g6', g7', m, rfl, hp.step sm, by omega, hpc⟩, ?_⟩
      show t.mu (unH (hD (t.nxt x))) < t.mu (unH (hD (some x)))
      rw [unH_hD, unH_hD]; exact hm
  · cases low with
    | some x => cases hb
    | none =>
      rw [pcs_none] at hpc
      rw [← hpc]
      exact bkl_retOwn 1 rfl (.inl rfl) rfl
theorem rn_in_rooms (T : Tc E) (B : Bh E C fI fA) (ok : t.Ok) (sm : t.Sm) {x : D} {hs : List D} (h : Th t hs) (hx : items x = some hs) : RnL E 9 "in_rooms" [x] s (outH none true (pcs t 6 (some 0) [])) s := by
  refine T.d_in_rooms.rnL sc_in_rooms rfl rfl fun fa cdv A outer sh H0 EX S0 p hr => ?_
  conv => arg 2; whnf
  exact bkl_ret (el_cl (ea_cons (ed_cl (ea_cons (ed_var 0 rfl (.inl rfl) rfl) ea_nil) (hr.mono (by decide)) (rn_checked_told T ok h hx)) ea_nil) (hr.mono (by decide)) (rn_pieces_of T B ok sm h))
end
end Law
set_option Elab.async false
set_option linter.all false
set_option maxRecDepth 100000
set_option maxHeartbeats 4000000
namespace Law
open PySem PySem.Spec PyProof.Rows L2 Gh
variable {E : En} {s : Sx}
theorem ixN_nat {n i : Nat} (h : i < n) : ixN n (i : Int) = some i := by
  unfold ixN
  rw [if_pos (by omega), if_pos (by omega)]
  congr 1
structure Okf (t : Tl) (F : List Fo) (r : Rat) : Prop where
  at_ : (t.five r).qs = evs F r
  sz : Sz 104 r
theorem five_zf {t : Tl} (sm : t.Sm) (ask : Fo → Fo → Bool) : ∀ f ∈ t.fiveF ask, Zf 250 f := by
  have z1 := Zf.fo sm.ml
  have z2 := Zf.fo sm.pl
  have z3 := Zf.fo sm.pr
  have z01 : Zf 40 ((0, 1) : Fo) := ⟨.zero, sz1⟩
  have zfree := Zf.forms sm (freeF_forms t)
  have zk := Zf.forms sm (keptF_forms t ask)
  have zsp : Zf 81 (t.spareF ask) := zfree.sb zk
  have zhalf : Sz 2 (1 / 2) := ⟨by decide +kernel, by decide +kernel⟩
  have zleft : Zf 83 (t.leftF ask) := by
    unfold Tl.leftF
    split
    · split
      · exact ⟨zsp.a.mul zhalf, zsp.b.mul zhalf⟩
      · exact zsp.mono (by decide)
    · exact z1.mono (by decide)
  intro f m
  simp only [Tl.fiveF, List.mem_cons, List.not_mem_nil, or_false] at m
  rcases m with rfl | rfl | rfl | rfl | rfl
  · exact zleft.mono (by decide)
  · exact z2.mono (by decide)
  · exact zk.mono (by decide)
  · exact z3.mono (by decide)
  · exact (z01.sb ((zleft.ad z2).ad (zk.ad z3))).mono (by decide)
theorem rn_law_form (T : Tc E) {t : Tl} (sm : t.Sm) {F : List Fo} (zF : ∀ f ∈ F, Zf 250 f) {r1 r2 : Rat} (h1 : Okf t F r1) (h2 : Okf t F r2) (hne : r1 ≠ r2) {k : Nat} {f : Fo} (hk : F[k]? = some f) : Rn E 6 "_law_form" [.tup t.ds, fr r1, fr r2, .int k] s (fp f) s := by
  have zf := zF f (List.mem_of_getElem? hk)
  have hk2 : k < F.length := (List.getElem?_eq_some_iff.mp hk).1
  have i1 : ((t.five r1).qs.map fr)[k]? = some (fr (ev f r1)) := by rw [h1.at_]; unfold evs; rw [List.map_map, List.getElem?_map, hk]; rfl
  have i2 : ((t.five r2).qs.map fr)[k]? = some (fr (ev f r2)) := by rw [h2.at_]; unfold evs; rw [List.map_map, List.getElem?_map, hk]; rfl
  have at_ : ∀ {xs : List D} {d : D}, xs[k]? = some d → (D.tup xs).at (k : Int) = some d := fun {xs d} h => by
    show atI xs (k : Int) = some d
    have hl := (List.getElem?_eq_some_iff.mp h).1
    unfold atI
    rw [ixN_nat hl, Option.bind_some, h]
  have z1 := h1.sz
  have z2 := h2.sz
  have v1 : Sz 605 (ev f r1) := zf.a.add (zf.b.mul z1)
  have v2 : Sz 605 (ev f r2) := zf.a.add (zf.b.mul z2)
  have hd : ev f r2 - ev f r1 = f.2 * (r2 - r1) := by unfold ev; grind
  have n2 : r2 - r1 ≠ 0 := by grind
  have zd : Sz 1000 (ev f r2 - ev f r1) := by rw [hd]; exact (zf.b.mul (z2.sub z1)).mono (by decide)
  have eb : ovr (ev f r2 - ev f r1) (r2 - r1) = f.2 := by rw [ovr_eq (num_ne n2), hd]; grind
  have ea : ev f r1 - f.2 * r1 = f.1 := by unfold ev; grind
  refine T.d__law_form.rn sc__law_form rfl rfl fun fa cdv A outer sh H0 EX S0 p hr => ?_
  conv => arg 2; whnf
  refine bk_cons (bs_par 4 5 rfl sc__law_form.nd rfl rfl (by decide) rfl rfl (ea_cons (ed_ix (ed_cl (ea_cons (ed_var 0 rfl (.inl rfl) rfl) (ea_cons (ed_var 1 rfl (.inl rfl) rfl) ea_nil)) (hr.mono (by decide)) (rn_law_across T sm (z1.mono (by decide)))) (ed_var 3 rfl (.inl rfl) rfl) (at_ i1)) (ea_cons (ed_ix (ed_cl (ea_cons (ed_var 0 rfl (.inl rfl) rfl) (ea_cons (ed_var 2 rfl (.inl rfl) rfl) ea_nil)) (hr.mono (by decide)) (rn_law_across T sm (z2.mono (by decide)))) (ed_var 3 rfl (.inl rfl) rfl) (at_ i2)) ea_nil)) ?_)
  refine bk_cons (bs_set 6 (d := fr f.2) sc__law_form.nd rfl (.inl rfl) (Ed.is (ed_cl (ea_cons (ed_cl (ea_cons (ed_var 5 rfl (.inl rfl) rfl) (ea_cons (ed_var 4 rfl (.inl rfl) rfl) ea_nil)) (hr.mono (by decide)) (rn_law_minus T (v2.mono (by decide)) (v1.mono (by decide)))) (ea_cons (ed_cl (ea_cons (ed_var 2 rfl (.inl rfl) rfl) (ea_cons (ed_var 1 rfl (.inl rfl) rfl) ea_nil)) (hr.mono (by decide)) (rn_law_minus T (z2.mono (by decide)) (z1.mono (by decide)))) ea_nil)) (hr.mono (by decide)) (rn_law_over T zd ((z2.sub z1).mono (by decide)) (num_ne n2))) (by rw [eb])) ?_)
  refine bk_cons (bs_ret (Ed.is (ed_tup (ea_cons (ed_cl (ea_cons (ed_var 4 rfl (.inl rfl) rfl) (ea_cons (ed_cl (ea_cons (ed_var 6 rfl (.inl rfl) rfl) (ea_cons (ed_var 1 rfl (.inl rfl) rfl) ea_nil)) (hr.mono (by decide)) (rn_law_times T (zf.b.mono (by decide)) (z1.mono (by decide)))) ea_nil)) (hr.mono (by decide)) (rn_law_minus T (v1.mono (by decide)) ((zf.b.mul z1).mono (by decide)))) (ea_cons (ed_var 6 rfl (.inl rfl) rfl) ea_nil))) ?_) ⟨rfl, rfl⟩)
  rw [ea]; rfl
/-! the law's pieces -/
def farQ (lo : Rat) : Option Rat → Rat
  | some h => h - lo
  | none => 3
def third (lo : Rat) (hi : Option Rat) (n : Nat) : Rat := lo + farQ lo hi * mkRat n 3
theorem mk3 : mkRat ((1 : Nat) : Int) 3 = (1 / 3 : Rat) ∧ mkRat ((2 : Nat) : Int) 3 = (2 / 3 : Rat) := ⟨by decide +kernel, by decide +kernel⟩
theorem third_ok {lo : Rat} {hi : Option Rat} (h : ∀ x, hi = some x → lo < x) : lo < third lo hi 1 ∧ third lo hi 1 < third lo hi 2 ∧ ∀ x, hi = some x → third lo hi 2 < x := by
  obtain ⟨e1, e2⟩ := mk3
  unfold third
  rw [e1, e2]
  cases hi with
  | none => exact ⟨by simp only [farQ]; grind, by simp only [farQ]; grind, fun x z => by cases z⟩
  | some y =>
    have := h y rfl
    exact ⟨by simp only [farQ]; grind, by simp only [farQ]; grind, fun x z => by cases z; simp only [farQ]; grind⟩
theorem third_sz {lo : Rat} {hi : Option Rat} (h1 : Sz 33 lo) (h2 : ∀ x, hi = some x → Sz 33 x) {n : Nat} (hn : n < 4) : Sz 104 (third lo hi n) := by
  unfold third
  have z3 : Sz 3 (mkRat n 3) := .mk (t := (n : Int)) (by omega) (by decide) (by decide)
  cases hi with
  | none =>
    have z : Sz 2 (3 : Rat) := ⟨by decide +kernel, by decide +kernel⟩
    exact (h1.add (z.mul z3)).mono (by decide)
  | some y => exact (h1.add (((h2 y rfl).sub h1).mul z3)).mono (by decide)
theorem corn_sz {t : Tl} (sm : t.Sm) : ∀ q ∈ t.corn, Sz 33 q := by
  intro q m
  rcases foldQ_mem m with m | m
  · cases m
  · rcases List.mem_cons.mp m with rfl | m
    · exact .zero
    · obtain ⟨f, mf, g, mg, h⟩ := meets_mem m
      obtain ⟨a1, a2⟩ := forms_hu sm f mf
      obtain ⟨b1, b2⟩ := forms_hu sm g mg
      unfold meet at h
      split at h
      · cases h
      · rename_i h0
        split at h
        · rw [List.mem_singleton.mp h]
          have n1 := (b1.sub a1).num
          have n2 := (a2.sub b2).num
          exact ovr_sz h0 26 7 (by omega) (by omega) (by omega) (by omega)
        · cases h
def lawF (t : Tl) (i : Nat) : List Fo := t.fiveF (askM (third (t.corn.getD i 0) t.corn[i + 1]? 1))
def lawM (t : Tl) : Nat → List Pc
  | 0 => []
  | i + 1 => addP (lawM t i) (t.corn.getD i 0) (lawF t i)
theorem lawF_ok {t : Tl} {i : Nat} {lo : Rat} (h : t.corn[i]? = some lo) {r : Rat} (hr : lo ≤ r) (hr2 : ∀ x, t.corn[i + 1]? = some x → r ≤ x) : fv t r = evs (lawF t i) r := by
  have b := corn_btw t h
  obtain ⟨a1, a2, a3⟩ := third_ok b.lt
  have e : t.corn.getD i 0 = lo := by rw [List.getD_eq_getElem?_getD, h]; rfl
  unfold lawF
  rw [e]
  exact five_btw b a1 (fun x hx => by have := a3 x hx; grind) hr hr2
theorem corn_head (t : Tl) : t.corn[0]? = some 0 := by
  have h := (sortQ_ok (0 :: meets t.forms t.forms)).2 0 |>.mpr List.mem_cons_self
  cases e : t.corn[0]? with
  | none =>
    rw [List.getElem?_eq_none_iff] at e
    have : t.corn = [] := List.length_eq_zero_iff.mp (by omega)
    unfold Tl.corn at this
    rw [this] at h; cases h
  | some lo =>
    have b := corn_btw t e
    have hp := b.pos
    obtain ⟨j, hj⟩ := List.getElem?_of_mem h
    cases j with
    | zero =>
      have e2 : t.corn[0]? = some 0 := hj
      rw [e] at e2; exact e2
    | succ j =>
      exfalso
      obtain ⟨ia, ea⟩ := List.getElem?_eq_some_iff.mp e
      obtain ⟨ib, eb⟩ := List.getElem?_eq_some_iff.mp hj
      have := (List.pairwise_iff_getElem.mp (sortQ_ok (0 :: meets t.forms t.forms)).1) 0 (j + 1) ia ib (by omega)
      have ea : (sortQ (0 :: meets t.forms t.forms))[0] = lo := ea
      rw [ea, eb] at this
      grind
theorem lawM_ok {t : Tl} : ∀ i, i < t.corn.length → RepTo (fv t) t.corn[i + 1]? (lawM t (i + 1)) ∧ ∃ F P, lawM t (i + 1) = (0, F) :: P
  | 0, hi => by
    have h := corn_head t
    have e : t.corn.getD 0 0 = 0 := by rw [List.getD_eq_getElem?_getD, h]; rfl
    show RepTo (fv t) t.corn[1]? (addP [] (t.corn.getD 0 0) (lawF t 0)) ∧ _
    rw [e]
    refine ⟨RepTo.start (fun r h1 h2 => lawF_ok h h1 h2) (corn_btw t h).lt, lawF t 0, [], ?_⟩
    show addP [] (t.corn.getD 0 0) (lawF t 0) = _
    rw [e]; unfold addP; rw [if_neg (by simp)]; rfl
  | i + 1, hi => by
    obtain ⟨h1, F, P, h2⟩ := lawM_ok (t := t) i (Nat.lt_of_succ_lt hi)
    have h : t.corn[i + 1]? = some t.corn[i + 1] := List.getElem?_eq_getElem hi
    have e : t.corn.getD (i + 1) 0 = t.corn[i + 1] := by rw [List.getD_eq_getElem?_getD, h]; rfl
    rw [h] at h1
    refine ⟨?_, ?_⟩
    · show RepTo (fv t) t.corn[i + 2]? (addP (lawM t (i + 1)) (t.corn.getD (i + 1) 0) (lawF t (i + 1)))
      rw [e]
      exact RepTo.add (fun r h1 h2 => lawF_ok h h1 h2) (corn_btw t h).lt h1
    · show ∃ F P, addP (lawM t (i + 1)) (t.corn.getD (i + 1) 0) (lawF t (i + 1)) = _
      rw [h2]
      obtain ⟨P', e⟩ := addP_head (l := 0) (F0 := F) (P := P) (x := t.corn.getD (i + 1) 0) (F := lawF t (i + 1))
      exact ⟨F, P', e⟩
/-- the program's pieces are the law's -/
theorem pieces_same {t : Tl} (sm : t.Sm) : pcs t 6 (some 0) [] = lawM t t.corn.length ∧ (pcs t 6 (some 0) []).length ≤ 6 ∧ RepTo (fv t) none (pcs t 6 (some 0) []) := by
  have hp := pcs_ok sm 6 (some 0) [] (mu_0 t 0) (PI.start t)
  have hl : 0 < t.corn.length := (List.getElem?_eq_some_iff.mp (corn_head t)).1
  obtain ⟨h1, F, P, h2⟩ := lawM_ok (t := t) (t.corn.length - 1) (by omega)
  rw [show t.corn.length - 1 + 1 = t.corn.length by omega] at h1 h2
  rw [List.getElem?_eq_none (Nat.le_refl _)] at h1
  rcases hp.rep with ⟨_, e⟩ | ⟨hr, F', P', e⟩
  · cases e
  · refine ⟨?_, by have := hp.few; omega, hr⟩
    rw [e] at hr ⊢
    rw [h2] at h1 ⊢
    obtain ⟨e1, e2⟩ := hr.uniq h1
    rw [e1, e2]
end Law
set_option Elab.async false
set_option linter.all false
set_option maxRecDepth 100000
set_option maxHeartbeats 4000000
namespace Law
open PySem PySem.Spec PyProof.Rows L2 Gh
variable {E : En} {s : Sx}
theorem ixN_last (n : Nat) : ixN (n + 1) (-1) = some n := by
  unfold ixN
  rw [if_neg (by decide), if_pos (by omega)]
  congr 1
  omega
theorem set_last {α : Type} (A : List α) (d e : α) : (A ++ [d]).set A.length e = A ++ [e] := by
  rw [List.set_append_right _ _ (Nat.le_refl _)]; simp
abbrev N_lp : List Str := ["_law_told_here", "_law_corners_here", "_law_found", "_law_k", "_law_low", "_law_high", "_law_far", "_law_one", "_law_other", "_law_forms", "_law_place"]
def forB : Stmt → List Stmt
  | .For _ _ b _ _ => b
  | _ => []
abbrev lp_body : List Stmt := forB ((defBody t__law_pieces).getD 1 (.Pass ⟨0, 0, 0, 0⟩))
def nthF (F : List Fo) : D → D
  | .int k => fp (F.getD k.toNat (0, 0))
  | _ => .non
theorem nthF_five {F : List Fo} (h : F.length = 5) : (rangeD 0 5).map (nthF F) = F.map fp := by
  match F, h with
  | [a, b, c, d, e], _ => rfl
theorem rn_law_pieces (T : Tc E) {t : Tl} (sm : t.Sm) : Rn E 7 "_law_pieces" [.tup t.ds] s (.lst (outH none true (lawM t t.corn.length))) s := by
  have hcl := corn_len t
  have hln : ∀ {n : Nat}, n ≤ 100 → n ≤ sizeLine := fun h => Nat.le_trans h (by decide)
  have mlen : ∀ i, (lawM t i).length ≤ i := fun i => by
    induction i with
    | zero => exact Nat.le_refl _
    | succ i ih =>
      have := addP_len (lawM t i) (t.corn.getD i 0) (lawF t i)
      show (addP (lawM t i) (t.corn.getD i 0) (lawF t i)).length ≤ _
      omega
  have hnn : ∀ h : Option Rat, (!(hD h).isNon) = h.isSome := fun h => by cases h <;> rfl
  refine T.d__law_pieces.rn sc__law_pieces rfl rfl fun fa cdv A outer sh H0 EX S0 p hr => ?_
  conv => arg 2; whnf
  refine bk_cons (bs_parVO 1 2 rfl sc__law_pieces.nd rfl rfl (by decide) rfl rfl (ed_cl (ea_cons (ed_var 0 rfl (.inr (.inl rfl)) rfl) ea_nil) (hr.mono (by decide)) (rn_corners T sm)) (el_lst ea_nil) ?_)
  refine bk_cons (bs_for PassesOwn.never rfl (ei_enum T.bf (ed_var 1 rfl (.inl rfl) rfl)) (fun i ρ s' => s' = s ∧ ∃ g3 g4 g5 g6 g7 g8 g9 g10, ρ = [.val (.tup t.ds), .val (.lst (t.corn.map fr)), .own (outH t.corn[i]? true (lawM t i)), g3, g4, g5, g6, g7, g8, g9, g10]) ⟨rfl, _, _, _, _, _, _, _, _, rfl⟩ ?_ ?_)
  · rintro i d ρ' s' hi ⟨rfl, g3, g4, g5, g6, g7, g8, g9, g10, rfl⟩
    have hil : i < t.corn.length := by
      have := (List.getElem?_eq_some_iff.mp hi).1
      rw [enumD_length, List.length_map] at this
      exact this
    have hlo : t.corn[i]? = some t.corn[i] := List.getElem?_eq_getElem hil
    generalize t.corn[i] = lo at hlo
    have ed : d = .tup [.int i, fr lo] := by
      have := enumD_get (xs := t.corn.map fr) (i := i) (d := fr lo) (by rw [List.getElem?_map, hlo]; rfl)
      rw [this] at hi; exact (Option.some.inj hi).symm
    subst ed
    rw [hlo]
    have b := corn_btw t hlo
    have cz := corn_sz sm
    have zlo := cz lo (List.mem_of_getElem? hlo)
    have zhi : ∀ x, t.corn[i + 1]? = some x → Sz 33 x := fun x e => cz x (List.mem_of_getElem? e)
    obtain ⟨a1, a2, a3⟩ := third_ok b.lt
    have eF : lawF t i = t.fiveF (askM (third lo t.corn[i + 1]? 1)) := by
      unfold lawF
      rw [List.getD_eq_getElem?_getD, hlo]; rfl
    have eM : lawM t (i + 1) = addP (lawM t i) lo (lawF t i) := by
      show addP (lawM t i) (t.corn.getD i 0) (lawF t i) = _
      rw [List.getD_eq_getElem?_getD, hlo]; rfl
    have o1 : Okf t (lawF t i) (third lo t.corn[i + 1]? 1) := ⟨lawF_ok hlo (by grind) (fun x e => by have := a3 x e; grind), third_sz zlo zhi (by decide)⟩
    have o2 : Okf t (lawF t i) (third lo t.corn[i + 1]? 2) := ⟨lawF_ok hlo (by grind) (fun x e => by have := a3 x e; grind), third_sz zlo zhi (by decide)⟩
    have zF : ∀ f ∈ lawF t i, Zf 250 f := by rw [eF]; exact five_zf sm _
    have hF5 : (lawF t i).length = 5 := by rw [eF]; rfl
    have hMn : (lawM t i).isEmpty = decide ((i : Int) = 0) := by
      cases i with
      | zero => rfl
      | succ j =>
        obtain ⟨_, F, P, e⟩ := lawM_ok (t := t) j (by omega)
        rw [e, decide_eq_false (by omega)]; rfl
    have hml : (lawM t i).length ≤ 26 := Nat.le_trans (mlen i) (by omega)
    refine ⟨_, _, eg_tup rfl (egs_cons (eg_name 3 sc__law_pieces.nd rfl (.inl rfl)) (egs_cons (eg_name 4 sc__law_pieces.nd rfl (.inl rfl)) egs_nil)), ?_⟩
    refine bk_cons (bs_set 5 (d := hD t.corn[i + 1]?) (s1 := s') sc__law_pieces.nd rfl (.inl rfl) ?_ ?_)
    · rcases Nat.lt_or_ge (i + 1) t.corn.length with z | z
      · have e : t.corn[i + 1]? = some t.corn[i + 1] := List.getElem?_eq_getElem z
        rw [e]
        refine ed_ifT (Cp.et ((cp_lt (ed_bin (ed_var (d := .int (i : Int)) 3 rfl (.inl rfl) rfl) ed_int rfl (by exact trivial)) (ed_len T.bf (ed_var 1 rfl (.inl rfl) rfl) rfl)).is (decide_eq_true (by rw [List.length_map]; omega)))) (ed_ix (ed_var 1 rfl (.inl rfl) rfl) (ed_bin (ed_var (d := .int (i : Int)) 3 rfl (.inl rfl) rfl) ed_int rfl (by exact trivial)) ?_)
        show atI (t.corn.map fr) ((i : Int) + 1) = some (fr t.corn[i + 1])
        unfold atI
        rw [show ((i : Int) + 1) = ((i + 1 : Nat) : Int) by omega, ixN_nat (by rw [List.length_map]; exact z), Option.bind_some, List.getElem?_map, e]; rfl
      · rw [List.getElem?_eq_none z]
        exact ed_ifF (Cp.et ((cp_lt (ed_bin (ed_var (d := .int (i : Int)) 3 rfl (.inl rfl) rfl) ed_int rfl (by exact trivial)) (ed_len T.bf (ed_var 1 rfl (.inl rfl) rfl) rfl)).is (decide_eq_false (by rw [List.length_map]; omega)))) ed_non
    generalize hhi : t.corn[i + 1]? = hi at *
    refine bk_cons (bs_set 6 (d := fr (farQ lo hi)) (s1 := s') sc__law_pieces.nd rfl (.inl rfl) ?_ ?_)
    · cases hi with
      | none => exact ed_ifF (Cp.et ((cp_notN (ed_var 5 rfl (.inl rfl) rfl)).is rfl)) (ed_tup (ea_cons ed_int (ea_cons ed_int ea_nil)))
      | some h => exact ed_ifT (Cp.et ((cp_notN (ed_var 5 rfl (.inl rfl) rfl)).is rfl)) (ed_cl (ea_cons (ed_var 5 rfl (.inl rfl) rfl) (ea_cons (ed_var 4 rfl (.inl rfl) rfl) ea_nil)) (hr.mono (by decide)) (rn_law_minus T ((zhi h rfl).mono (by decide)) (zlo.mono (by decide))))
    have zfar : Sz 67 (farQ lo hi) := by
      cases hi with
      | none => exact ⟨(by decide +kernel : (3 : Rat).num.natAbs < 2 ^ 67), (by decide +kernel : (3 : Rat).den < 2 ^ 67)⟩
      | some h => exact (zhi h rfl).sub zlo
    have zt : ∀ n : Nat, n < 4 → Sz 70 (farQ lo hi * mkRat n 3) := fun n hn => Sz.mul zfar (Sz.mk (b := 3) (n := 3) (t := (n : Int)) (by omega) (by decide) (by decide))
    refine bk_cons (bs_asg (ed_tup (ea_cons (ed_cl (ea_cons (ed_var 4 rfl (.inl rfl) rfl) (ea_cons (ed_cl (ea_cons (ed_var 6 rfl (.inl rfl) rfl) (ea_cons (ed_tup (ea_cons ed_int (ea_cons ed_int ea_nil))) ea_nil)) (hr.mono (by decide)) (rn_law_timesP (n := 1) (m := 3) T (zfar.mono (by decide)) (Nat.one_lt_two_pow (by decide)) (Nat.lt_of_lt_of_le (by decide : 3 < 2 ^ 2) (Nat.pow_le_pow_right (by decide) (by decide))) (by decide))) ea_nil)) (hr.mono (by decide)) (rn_law_plus T (zlo.mono (by decide)) ((zt 1 (by decide)).mono (by decide)))) (ea_cons (ed_cl (ea_cons (ed_var 4 rfl (.inl rfl) rfl) (ea_cons (ed_cl (ea_cons (ed_var 6 rfl (.inl rfl) rfl) (ea_cons (ed_tup (ea_cons ed_int (ea_cons ed_int ea_nil))) ea_nil)) (hr.mono (by decide)) (rn_law_timesP (n := 2) (m := 3) T (zfar.mono (by decide)) (Nat.lt_of_lt_of_le (by decide : 2 < 2 ^ 2) (Nat.pow_le_pow_right (by decide) (by decide))) (Nat.lt_of_lt_of_le (by decide : 3 < 2 ^ 2) (Nat.pow_le_pow_right (by decide) (by decide))) (by decide))) ea_nil)) (hr.mono (by decide)) (rn_law_plus T (zlo.mono (by decide)) ((zt 2 (by decide)).mono (by decide)))) ea_nil))) (eg_tup rfl (egs_cons (eg_name 7 sc__law_pieces.nd rfl (.inr rfl)) (egs_cons (eg_name 8 sc__law_pieces.nd rfl (.inr rfl)) egs_nil))) ?_)
    refine bk_cons (bs_set 9 (d := fsD (lawF t i)) (s1 := s') sc__law_pieces.nd rfl (.inl rfl) (Ed.is (ed_tupleOf T.bf (El.ed (el_map [("_law_place", 10)] (nthF (lawF t i)) rfl sc__law_pieces.nd (ei_range1 (j := 5) T.bf ed_int (by decide) (by decide)) (blkOk_by rfl) (by decide) (fun k d hk => ?_))) (.inl rfl)) (by rw [show (5 : Int).toNat = 5 from rfl, nthF_five hF5]; rfl)) ?_)
    · have hk5 : k < 5 := by
        rcases Nat.lt_or_ge k 5 with z | z
        · exact z
        · rw [List.getElem?_eq_none (by rw [rangeD_length]; exact z)] at hk; cases hk
      rw [show (5 : Int).toNat = 5 from rfl, rangeD_get hk5] at hk
      cases hk
      have hfk : (lawF t i)[k]? = some (lawF t i)[k] := List.getElem?_eq_getElem (by omega)
      have en : nthF (lawF t i) (.int (0 + (k : Nat))) = fp (lawF t i)[k] := by
        show fp ((lawF t i).getD (0 + (k : Int)).toNat (0, 0)) = _
        rw [show (0 + (k : Int)).toNat = k by omega, List.getD_eq_getElem?_getD, hfk]; rfl
      rw [en]
      have hf := rn_law_form (s := s') T sm zF o1 o2 (by grind) hfk
      rw [show (k : Int) = 0 + (k : Int) by omega] at hf
      refine ⟨_, _, fun c => eg_name 10 sc__law_pieces.nd rfl (.inl rfl), by decide, fun c => ed_cl (ea_cons (ed_var 0 rfl (.inr (.inl rfl)) rfl) (ea_cons (ed_var 7 rfl (.inr (.inl rfl)) rfl) (ea_cons (ed_var 8 rfl (.inr (.inl rfl)) rfl) (ea_cons (ed_var 10 rfl (.inl rfl) rfl) ea_nil)))) (hr.mono (by decide)) hf⟩
    rcases List.eq_nil_or_concat (lawM t i) with e | ⟨M0, ⟨l, F0⟩, e⟩
    · have e0 : (decide ((i : Int) = 0)) = true := by rw [← hMn, e]; rfl
      have em : outH hi true (lawM t (i + 1)) = [D.tup [iv lo true hi, fsD (lawF t i)]] := by
        rw [eM, e]; unfold addP; rw [if_neg (by simp)]; rfl
      rw [e]
      refine bk_cons (bs_ifF (Ew.et (ew_andF (Cp.et ((cp_neV hr (ev_own 2 rfl (.inl rfl) rfl) (El.ev (el_lst ea_nil)) (out_eqC _ _ _) (eqDs.nil (n := 1)).lst.eqC).is (by rw [nil_eqb]; rfl))))) ?_)
      refine bk_cons (bs_append (d := .tup [iv lo true hi, fsD (lawF t i)]) 2 rfl (.inl rfl) rfl (ed_tup (ea_cons (ed_tup (ea_cons (ed_var 4 rfl (.inl rfl) rfl) (ea_cons (Cp.ed ((cp_eq hr (ed_var 3 rfl (.inl rfl) rfl) ed_int (eqC_int _) (eqC_int _)).is (by rw [eqb_int]; exact e0))) (ea_cons (ed_var 5 rfl (.inl rfl) rfl) (ea_cons (Cp.ed ((cp_notN (ed_var 5 rfl (.inl rfl) rfl)).is (hnn _))) ea_nil))))) (ea_cons (ed_var 9 rfl (.inl rfl) rfl) ea_nil))) (by show 0 < _; decide) (bk_nil (bk_nil ⟨rfl, _, _, _, _, _, _, _, _, by rw [em]; rfl⟩)))
    · rw [List.concat_eq_append] at e
      have eo : outH (some lo) true (lawM t i) = outH (some l) true M0 ++ [.tup [iv l (true && M0.isEmpty) (some lo), fsD F0]] := by rw [e]; exact outH_snoc _ _ _ _ _
      have e0 : (decide ((i : Int) = 0)) = false := by rw [← hMn, e]; simp
      rw [eo]
      have hne : (D.lst (outH (some l) true M0 ++ [.tup [iv l (true && M0.isEmpty) (some lo), fsD F0]])).eqC := by rw [← eo]; exact out_eqC _ _ _
      by_cases ef : F0 = lawF t i
      · refine bk_cons (bs_ifT (Ew.et (ew_andT (Cp.et ((cp_neV hr (ev_own 2 rfl (.inl rfl) rfl) (El.ev (el_lst ea_nil)) hne (eqDs.nil (n := 1)).lst.eqC).is (by rw [nil_eqb]; simp))) (ew_and1 (Cp.et ((cp_eq hr (ed_ix (ed_ixV (d := .tup [iv l (true && M0.isEmpty) (some lo), fsD F0]) (ev_own 2 rfl (.inl rfl) rfl) (ed_neg ed_int) (atI_last _ _)) ed_int rfl) (ed_var 9 rfl (.inl rfl) rfl) ((fsD_eqD _).eqC) ((fsD_eqD _).eqC)).is (by rw [fsD_eqb, decide_eq_true ef])))))) ?_)
        have em : outH hi true (lawM t (i + 1)) = (outH (some l) true M0 ++ [D.tup [iv l (true && M0.isEmpty) (some lo), fsD F0]]).set (outH (some l) true M0).length (D.tup [iv l (true && M0.isEmpty) hi, fsD (lawF t i)]) := by
          rw [set_last, eM, e]
          unfold addP
          rw [if_pos (by simp [ef]), outH_snoc, ef]
        refine bk_cons (bs_asgM (d := .tup [iv l (true && M0.isEmpty) hi, fsD (lawF t i)]) (ed_tup (ea_cons (ed_tup (ea_cons (ed_ix (ed_ix (ed_ixV (d := .tup [iv l (true && M0.isEmpty) (some lo), fsD F0]) (ev_own 2 rfl (.inl rfl) rfl) (ed_neg ed_int) (atI_last _ _)) ed_int rfl) ed_int rfl) (ea_cons (ed_ix (ed_ix (ed_ixV (d := .tup [iv l (true && M0.isEmpty) (some lo), fsD F0]) (ev_own 2 rfl (.inl rfl) rfl) (ed_neg ed_int) (atI_last _ _)) ed_int rfl) ed_int rfl) (ea_cons (ed_var 5 rfl (.inl rfl) rfl) (ea_cons (Cp.ed ((cp_notN (ed_var 5 rfl (.inl rfl) rfl)).is (hnn _))) ea_nil))))) (ea_cons (ed_var 9 rfl (.inl rfl) rfl) ea_nil))) (egm_sub 2 rfl (.inl rfl) rfl (ed_neg ed_int) (j := (outH (some l) true M0).length) (by rw [List.length_append, List.length_singleton]; exact ixN_last _)) (bk_nil (bk_nil ⟨rfl, _, _, _, _, _, _, _, _, by rw [em]; rfl⟩)))
      · refine bk_cons (bs_ifF (Ew.et (ew_andT (Cp.et ((cp_neV hr (ev_own 2 rfl (.inl rfl) rfl) (El.ev (el_lst ea_nil)) hne (eqDs.nil (n := 1)).lst.eqC).is (by rw [nil_eqb]; simp))) (ew_and1 (Cp.et ((cp_eq hr (ed_ix (ed_ixV (d := .tup [iv l (true && M0.isEmpty) (some lo), fsD F0]) (ev_own 2 rfl (.inl rfl) rfl) (ed_neg ed_int) (atI_last _ _)) ed_int rfl) (ed_var 9 rfl (.inl rfl) rfl) ((fsD_eqD _).eqC) ((fsD_eqD _).eqC)).is (by rw [fsD_eqb, decide_eq_false ef])))))) ?_)
        have hl2 : (outH (some l) true M0 ++ [D.tup [iv l (true && M0.isEmpty) (some lo), fsD F0]]).length ≤ 100 := by rw [← eo, outH_len]; omega
        have em : outH hi true (lawM t (i + 1)) = (outH (some l) true M0 ++ [D.tup [iv l (true && M0.isEmpty) (some lo), fsD F0]]) ++ [D.tup [iv lo false hi, fsD (lawF t i)]] := by
          rw [← eo, eM]
          unfold addP
          rw [if_neg (by rw [e]; simpa using ef), outH_snoc]
          rw [hMn, e0]; rfl
        refine bk_cons (bs_append (d := .tup [iv lo false hi, fsD (lawF t i)]) 2 rfl (.inl rfl) rfl (ed_tup (ea_cons (ed_tup (ea_cons (ed_var 4 rfl (.inl rfl) rfl) (ea_cons (Cp.ed ((cp_eq hr (ed_var 3 rfl (.inl rfl) rfl) ed_int (eqC_int _) (eqC_int _)).is (by rw [eqb_int]; exact e0))) (ea_cons (ed_var 5 rfl (.inl rfl) rfl) (ea_cons (Cp.ed ((cp_notN (ed_var 5 rfl (.inl rfl) rfl)).is (hnn _))) ea_nil))))) (ea_cons (ed_var 9 rfl (.inl rfl) rfl) ea_nil))) (by exact Nat.lt_of_le_of_lt hl2 (by decide : 100 < sizeLine)) (bk_nil (bk_nil ⟨rfl, _, _, _, _, _, _, _, _, by rw [em]; rfl⟩)))
  · rintro ρ' s' ⟨rfl, g3, g4, g5, g6, g7, g8, g9, g10, rfl⟩
    rw [enumD_length, List.length_map, List.getElem?_eq_none (Nat.le_refl _)]
    exact bk_freeze 2 rfl (bk_cons (bs_ret (ed_var 2 rfl (.inl rfl) rfl) ⟨rfl, rfl⟩))
end Law
set_option Elab.async false
set_option linter.all false
set_option maxRecDepth 100000
set_option maxHeartbeats 4000000
/-! an owned list lent for a test; a stream for one statement, owned again behind it; a loop over the stream -/
namespace Gh
open PySem PySem.Spec PyProof.Rows L2
section
variable {F : Fx} {ρ : List G} {s : Sx} {c : Expr} {b : Bool} {xs : List D} {k : GE} {st : Stmt}
/-- a test that reads an owned list as data -/
theorem et_lend (i : Nat) (hρ : ρ[i]? = some (.own xs)) (h : Et F (ρ.set i (.val (.lst xs))) none c b none) : Et F ρ none c b none :=
  ⟨rfl, fun O σ H f Q q => by
    obtain ⟨O', f', hs⟩ := f.freeze hρ
    refine h.2 O' σ H f' Q fun H1 f1 x1 => q H1 (f.grow ⟨fun a o e n nt => x1.1 a o (fun z => ?_) e nt, x1.2⟩ rfl f1.st.tab) x1
    have e := f.kd
    rw [← e] at z
    exact nomatch z.1⟩
/-- what is wished of a statement with the stream, that is owned again behind it -/
abbrev GE.in4 (k : GE) (i : Nat) (s : Sx) : GE := { nx := fun ρ2 s2 => ∃ xs, s2 = some xs ∧ D.lones xs = true ∧ ρ2[i]? = some (.val .mut) ∧ k.nx ((ρ2.map gK2).set i (.own xs)) s, rt := fun d _ => d.lone = true ∧ k.rt d s, xc := fun x ρ2 _ => x.d.lone = true ∧ k.xc x (ρ2.map gK2) s }
theorem Fm.enter4 {O : List Addr} {σ : L2.St} {H : Hp} {a : Addr} {vs : List V} {i0 : Nat} {E : Ends} (f : Fm F O σ H ρ s) (ma : a ∈ O) (h1 : H a = some (.lst vs)) (r : Rps F.X.K F.p (O ++ F.S0) H vs xs) (hl : D.lones xs = true) (hn : ∀ (i : Nat) (w : Ow) (ds : List D), ρ[i]? = some (.ow w ds) → σ[i]? ≠ some (some (.ref a))) (q : k.ok F O H E) :
    Fm (F.strm2 a O H) (O.filter (· ≠ a)) σ H (ρ.map gK2) (some xs) ∧ (k.in4 i0 s).ok (F.strm2 a O H) (O.filter (· ≠ a)) H E := by
  obtain ⟨g, ok⟩ := f.enter2 ma h1 r hl hn q
  refine ⟨g, ⟨fun O2 σ2 H2 ρ2 s2 f2 t2 n2 => ?_, ok.rt, fun O2 σ2 H2 ρ2 s2 f2 t2 n2 => n2.elim, fun O2 σ2 H2 ρ2 s2 f2 t2 n2 => n2.elim, ok.xc⟩⟩
  obtain ⟨ys, rfl, hy, hm, n2⟩ := n2
  have inO : ∀ b, b ∈ O.filter (· ≠ a) → b ∈ O ∧ b ≠ a := fun b m => by
    obtain ⟨m1, m2⟩ := List.mem_filter.mp m
    exact ⟨m1, by simpa using m2⟩
  have sub : ∀ b ∈ O.filter (· ≠ a) ++ a :: F.S0, b ∈ O ++ F.S0 := fun b m => by
    rcases List.mem_append.mp m with m | m
    · exact List.mem_append_left _ (inO b m).1
    · rcases List.mem_cons.mp m with rfl | m
      · exact List.mem_append_left _ ma
      · exact List.mem_append_right _ m
  have gr : ∀ b ∈ a :: O2, b ∈ O ∨ H b = none := fun b m => by
    rcases List.mem_cons.mp m with rfl | m
    · exact .inl ma
    · exact (t2.gr b m).imp (fun m => (inO b m).1) id
  obtain ⟨tb, _, us, ea, ra⟩ := f2.st
  have nO2 : a ∉ O2 := fun m => (f2.fre a m).2 List.mem_cons_self
  have w2 : ∀ b ∈ (a :: O2) ++ F.S0, b ∈ O2 ++ (a :: F.S0) := fun b m => by
    rcases List.mem_append.mp m with m | m
    · rcases List.mem_cons.mp m with rfl | m
      · exact List.mem_append_right _ List.mem_cons_self
      · exact List.mem_append_left _ m
    · exact List.mem_append_right _ (List.mem_cons_of_mem _ m)
  have hi2 : i0 < ρ2.length := (List.getElem?_eq_some_iff.mp hm).1
  have key : ∀ (j : Nat) (gg : G), ((ρ2.map gK2).set i0 (.own ys))[j]? = some gg → (j = i0 ∧ gg = .own ys) ∨ (j ≠ i0 ∧ (ρ2.map gK2)[j]? = some gg) := fun j gg h => by
    by_cases e : i0 = j
    · subst e
      rw [List.getElem?_set_self (by simpa using hi2)] at h
      exact .inl ⟨rfl, (Option.some.inj h).symm⟩
    · rw [List.getElem?_set_ne e] at h; exact .inr ⟨fun z => e z.symm, h⟩
  obtain ⟨o0, ho0, sl0⟩ := f2.slot i0 _ hm
  obtain ⟨v0, rfl, rv0⟩ := sl0
  have ev0 : v0 = .ref a := by
    generalize hd : D.mut = d0 at rv0
    cases rv0 <;> first | rfl | cases hd
  subst ev0
  refine q.nx (a :: O2) σ2 H2 _ s ⟨strm2_xp f ma f2.ext, fun i gg hg => ?_, fun i w ds b h1 h2 => ?_, fun i j w u ds es b hne h1 h2 h3 => ?_, fun b m => ?_, fun b m => f2.trk b (w2 b m), strm2_st f ma f2.ext tb gr, f.pm, f.kd⟩ ⟨⟨fun b o n e nt => t2.xt.1 b o (fun m => n (sub b m)) e nt, t2.xt.2⟩, gr⟩ n2
  · rcases key i gg hg with ⟨rfl, rfl⟩ | ⟨hne, hg⟩
    · exact ⟨_, ho0, a, us, rfl, List.mem_append_left _ List.mem_cons_self, ea, ra.swap hy w2, trivial⟩
    · rw [List.getElem?_map] at hg
      cases e : ρ2[i]? with
      | none => rw [e] at hg; cases hg
      | some g0 =>
        rw [e] at hg
        cases hg
        obtain ⟨o, ho, sl⟩ := f2.slot i g0 e
        refine ⟨o, ho, slot_k2 sl w2 fun u ds b eg eo => ?_⟩
        subst eg; subst eo
        exact List.mem_append_left _ (List.mem_cons_of_mem _ (f2.own i u ds b e ho))
  · rcases key i _ h1 with ⟨rfl, _⟩ | ⟨hne, h1⟩
    · rw [ho0] at h2; cases h2; exact List.mem_cons_self
    · exact List.mem_cons_of_mem _ (f2.own i w ds b (map_ow h1) h2)
  · rcases key i _ h1 with ⟨rfl, _⟩ | ⟨hn1, g1⟩
    · rcases key j _ h2 with ⟨rfl, _⟩ | ⟨hn2, g2⟩
      · exact absurd rfl hne
      · rw [ho0] at h3; cases h3
        exact fun z => nO2 (f2.own j u es a (map_ow g2) z)
    · rcases key j _ h2 with ⟨rfl, _⟩ | ⟨hn2, g2⟩
      · rw [ho0]
        intro z
        cases z
        exact nO2 (f2.own i w ds a (map_ow g1) h3)
      · exact f2.dis i j w u ds es b hne (map_ow g1) (map_ow g2) h3
  · rcases List.mem_cons.mp m with rfl | m
    · exact f.fre b ma
    · have e1 := (f2.fre b m).1
      refine ⟨?_, fun m2 => (f2.fre b m).2 (List.mem_cons_of_mem _ m2)⟩
      by_cases zz : b ∈ O ∧ b ≠ a
      · exact (f.fre b zz.1).1
      · have e2 : (if b ∈ O ∧ b ≠ a then none else H b) = none := e1
        rw [if_neg zz] at e2
        exact f.ext.2 b e2
/-- an owned list is the stream for one statement -/
theorem bs_loan (i : Nat) {xs : List D} (hρ : ρ[i]? = some (.own xs)) (hl0 : D.lones xs = true)
    (h : ∀ a O H, Bs (F.strm2 a O H) st (((ρ.set i .no).map gK2).set i (.val .mut)) (some xs) (k.in4 i s)) : Bs F st ρ s k := by
  intro O σ H f E q
  obtain ⟨o, ho, a, vs, eo, m, h1, r, _⟩ := f.slot i _ hρ
  subst eo
  have ma := f.own i _ _ a hρ ho
  obtain ⟨g1, g2⟩ := (f.forget i).enter4 (i0 := i) ma h1 r hl0 (fun j w ds hj hj2 => by
    by_cases e : i = j
    · subst e
      by_cases hl : i < ρ.length
      · rw [List.getElem?_set_self hl] at hj; cases hj
      · rw [List.getElem?_eq_none (by simpa using hl)] at hj; cases hj
    · rw [List.getElem?_set_ne e] at hj
      exact f.dis i j _ w _ ds a e hρ hj ho hj2) q
  have g3 := g1.set (i := i) (v := .ref a) .mut
  have e9 : σ.set i (some (.ref a)) = σ := by
    obtain ⟨hlt, hh⟩ := List.getElem?_eq_some_iff.mp ho
    rw [← hh]; exact List.set_getElem_self hlt
  rw [e9] at g3
  exact h a O H _ σ H g3 E g2
/-- a loop over the stream, that stands still in it -/
theorem bs_forS {tg e : Expr} {body : List Stmt} {pos : Pos} (hp : PassesOwn (model F.X.prog F.X.w) F.X.A F.X.env F.X.xe) (hc : F.X.calm = true) (hi : Ed F ρ s e .mut (some xs)) (I : Nat → List G → Prop) (h0 : I 0 ρ)
    (turn : ∀ i d ρ', xs[i]? = some d → I i ρ' → ∃ ρ2 js, Eg F tg d ρ' ρ2 js ∧ Bk F body ρ2 (some xs) { nx := fun ρ3 s3 => s3 = some xs ∧ I (i + 1) ρ3, ct := fun ρ3 s3 => s3 = some xs ∧ I (i + 1) ρ3, bk := k.nx, rt := k.rt, xc := k.xc })
    (hd : ∀ ρ', I xs.length ρ' → k.nx ρ' (some xs)) (hs : ∀ x, foldedSetIterable e F.X.env x = pure x := by intro _; rfl) : Bs F (.For tg e body [] pos) ρ s k :=
  fun O σ H f E q => ws (ps_for hp hc (pi_list pe_we) pg_wg pss_wb hs) (hi.2 O σ H f _ fun v H1 f1 x1 r1 => by
    have ev : v = .ref F.p := by
      generalize hd : D.mut = d0 at r1
      cases r1 <;> first | rfl | cases hd
    subst ev
    obtain ⟨tb1, _, us1, ea1, ra1⟩ := f1.st
    refine ⟨_, rfl, ⟨us1, .of ea1⟩, ?_⟩
    have w : Walk (Itl F.X.K F.p) xs.length (fun H2 => ∃ us, H2 F.p = some (.lst us) ∧ us.length = xs.length) (fun i H2 x H3 => H3 = H2 ∧ ∀ us, H2 F.p = some (.lst us) → us[i]? = some x) :=
      ⟨fun i H2 hi ⟨us, e, l⟩ => ⟨us, us[i], .of e, by simp [l, hi]⟩, fun H2 ⟨us, e, l⟩ => ⟨us, .of e, by omega⟩, fun i H2 x H3 hi g y => ⟨y.1, fun us e => y.2 us (.of e)⟩⟩
    refine for_it w (fun i σ' H' => ∃ O' ρ', Fm F O' σ' H' ρ' (some xs) ∧ Step F O H1 O' H' ∧ I i ρ') ⟨O, ρ, f1, .refl, h0⟩ (fun i σ' H' _ ⟨O', ρ', f', t, _⟩ => ?_) ?_ ?_
    · obtain ⟨_, _, us, ea, ra⟩ := f'.st
      exact ⟨us, ea, ra.length⟩
    · rintro i v σ' H' H2 hi ⟨O', ρ', f', t, iv⟩ ⟨rfl, hv⟩
      obtain ⟨_, _, us, ea, ra⟩ := f'.st
      obtain ⟨d, hd', hr⟩ := ra.getV (hv us ea)
      obtain ⟨ρ2, js, hg, hb⟩ := turn i d ρ' hd' iv
      refine hg O' σ' H2 v (some xs) f' hr _ fun σ3 f3 _ _ => hb O' σ3 H2 f3 _ ⟨fun O4 σ4 H4 ρ4 s4 f4 t4 h4 => ?_, q.rt, fun O4 σ4 H4 ρ4 s4 f4 t4 h4 => ?_, fun O4 σ4 H4 ρ4 s4 f4 t4 h4 => ?_, fun O4 σ4 H4 ρ4 s4 cls dd x f4 t4 a4 h4 => q.xc O4 σ4 H4 ρ4 s4 cls dd x f4 ((Step.of x1.xt).trans (t.trans t4)) a4 h4⟩
      · obtain ⟨rfl, h4⟩ := h4
        exact ⟨O4, ρ4, f4, t.trans t4, h4⟩
      · exact q.nx O4 σ4 H4 ρ4 s4 f4 ((Step.of x1.xt).trans (t.trans t4)) h4
      · obtain ⟨rfl, h4⟩ := h4
        exact ⟨O4, ρ4, f4, t.trans t4, h4⟩
    · rintro σ' H' ⟨O', ρ', f', t, iv⟩
      exact q.nx O' σ' H' ρ' _ f' ((Step.of x1.xt).trans t) (hd ρ' iv))
end
end Gh
set_option Elab.async false
set_option linter.all false
set_option maxRecDepth 100000
set_option maxHeartbeats 4000000
namespace Law
open PySem PySem.Spec PyProof.Rows L2 Gh
variable {E : En} {s : Sx}
theorem rn_same_lst (T : Tc E) {k : Nat} {xs : List D} (hl : xs.length ≤ 1000) (h : ∀ x ∈ xs, ∀ s, Rn E (k + 1) "_law_same" [x, x] s (.bl true) s) : Rn E (k + 2) "_law_same" [.lst xs, .lst xs] s (.bl true) s := by
  have hz : (zipD xs xs).length = xs.length := by simp [zipD]
  refine T.d__law_same.rn sc__law_same rfl rfl fun fa cdv A outer sh H0 EX S0 p hr => ?_
  conv => arg 2; whnf
  refine bk_cons (bs_ifT (et_val ((ed_isiT T.bf (ed_var 1 rfl (.inl rfl) rfl) rfl (cns_cons (cn_list T.bf) (cns_cons (cn_tuple T.bf) cns_nil))).is rfl)) (bk_cons ?_))
  refine bs_ifF (Ew.et (ew_orF (Cp.et ((cp_ne hr (ed_isi T.bf (ed_var 0 rfl (.inl rfl) rfl) rfl (cn_list T.bf)) (ed_isi T.bf (ed_var 1 rfl (.inl rfl) rfl) rfl (cn_list T.bf)) (eqC_bl _) (eqC_bl _)).is (by simp [D.eqb, D.py, PyData.eqv]))) (ew_or1 (Cp.et ((cp_ne hr (ed_isi T.bf (ed_var 0 rfl (.inl rfl) rfl) rfl (cn_tuple T.bf)) (ed_isi T.bf (ed_var 1 rfl (.inl rfl) rfl) rfl (cn_tuple T.bf)) (eqC_bl _) (eqC_bl _)).is (by simp [D.eqb, D.py, PyData.eqv])))))) (bk_nil (bk_cons ?_))
  refine bs_ret (ed_andT ((Cp.ed (cp_eq hr (ed_len T.bf (ed_var 0 rfl (.inl rfl) rfl) rfl) (ed_len T.bf (ed_var 1 rfl (.inl rfl) rfl) rfl) (eqC_int _) (eqC_int _))).is (by rw [eqb_int, decide_eq_true rfl])) (ed_one (Ed.is (ed_all T.bf rfl (bs := List.replicate xs.length true) (Ed.is (El.ed (el_map [("_law_x", 2), ("_law_y", 3)] (fun _ => .bl true) rfl sc__law_same.nd (ei_zipM T.bf (ed_var 0 rfl (.inl rfl) rfl) (.inl rfl) (ed_var 1 rfl (.inl rfl) rfl) (.inl rfl)) (blkOk_by rfl) (by rw [hz]; exact Nat.le_trans hl (by decide)) (fun i d hi => ?_))) ?_)) ?_))) ⟨rfl, rfl⟩
  · obtain ⟨y, m, rfl⟩ := zip_self hi
    exact ⟨_, _, fun c => eg_tup rfl (egs_cons (eg_name 2 sc__law_same.nd rfl (.inl rfl)) (egs_cons (eg_name 3 sc__law_same.nd rfl (.inl rfl)) egs_nil)), by decide, fun c => ed_cl (ea_cons (ed_var 2 rfl (.inl rfl) rfl) (ea_cons (ed_var 3 rfl (.inl rfl) rfl) ea_nil)) hr (h y m _)⟩
  · rw [List.map_replicate, List.map_const', hz]
  · rw [List.all_replicate]; simp
theorem rn_same_non (T : Tc E) : Rn E 1 "_law_same" [.non, .non] s (.bl true) s := by
  refine T.d__law_same.rn sc__law_same rfl rfl fun fa cdv A outer sh H0 EX S0 p hr => ?_
  conv => arg 2; whnf
  refine bk_cons (bs_ifF (et_val ((ed_isiT T.bf (ed_var 1 rfl (.inl rfl) rfl) rfl (cns_cons (cn_list T.bf) (cns_cons (cn_tuple T.bf) cns_nil))).is rfl)) (bk_nil ?_))
  refine bk_cons (bs_ifF (et_val ((ed_isi T.bf (ed_var 1 rfl (.inl rfl) rfl) rfl (cn_dict T.bf)).is rfl)) (bk_nil ?_))
  refine bk_cons (bs_ifF (et_val ((ed_isi T.bf (ed_var 1 rfl (.inl rfl) rfl) rfl (cn_int T.bf)).is rfl)) (bk_nil ?_))
  exact bk_cons (bs_ret (ed_andT (ed_not (k := false) ((ed_isiT T.bf (ed_var 0 rfl (.inl rfl) rfl) rfl (cns_cons (cn_int T.bf) (cns_cons (cn_list T.bf) (cns_cons (cn_tuple T.bf) (cns_cons (cn_dict T.bf) cns_nil))))).is rfl)) (ed_one ((Cp.ed (cp_eq hr (ed_var 0 rfl (.inl rfl) rfl) (ed_var 1 rfl (.inl rfl) rfl) eqC_non eqC_non)).is (by simp [D.eqb, D.py, PyData.eqv])))) ⟨rfl, rfl⟩)
theorem rn_same_hD (T : Tc E) (h : Option Rat) : Rn E 2 "_law_same" [hD h, hD h] s (.bl true) s := by
  cases h with
  | none => exact (rn_same_non T).mono (by decide)
  | some q => exact rn_same_fr T q
theorem rn_same_iv (T : Tc E) (l : Rat) (b : Bool) (h : Option Rat) : Rn E 3 "_law_same" [iv l b h, iv l b h] s (.bl true) s := rn_same_tup (k := 1) T (show 4 ≤ 1000 by decide) fun x m s => by
  simp only [List.mem_cons, List.not_mem_nil, or_false] at m
  rcases m with rfl | rfl | rfl | rfl
  · exact rn_same_fr T _
  · exact (rn_same_bl T _).mono (by decide)
  · exact rn_same_hD T _
  · exact (rn_same_bl T _).mono (by decide)
theorem rn_same_fs (T : Tc E) (F : List Fo) (hl : F.length ≤ 1000) : Rn E 4 "_law_same" [fsD F, fsD F] s (.bl true) s := rn_same_tup (k := 2) T (by simpa using hl) fun x m s => by
  obtain ⟨f, _, rfl⟩ := List.mem_map.mp m
  refine rn_same_tup (k := 1) T (show 2 ≤ 1000 by decide) fun x m s => ?_
  simp only [List.mem_cons, List.not_mem_nil, or_false] at m
  rcases m with rfl | rfl <;> exact rn_same_fr T _
theorem rn_same_out (T : Tc E) {P : List D} (hl : P.length ≤ 1000) (h : ∀ d ∈ P, ∃ l b hi F, d = .tup [iv l b hi, fsD F] ∧ F.length ≤ 1000) : Rn E 6 "_law_same" [.lst P, .lst P] s (.bl true) s := rn_same_lst (k := 4) T hl fun x m s => by
  obtain ⟨l, b, hi, F, rfl, hF⟩ := h x m
  refine rn_same_tup (k := 3) T (show 2 ≤ 1000 by decide) fun x m s => ?_
  simp only [List.mem_cons, List.not_mem_nil, or_false] at m
  rcases m with rfl | rfl
  · exact (rn_same_iv T l b hi).mono (by decide)
  · exact rn_same_fs T F hF
/-! the pieces told as a list, one by one -/
structure Pcw (t : Tl) (d : D) : Prop where
  out : ∃ l b hi F, d = .tup [iv l b hi, fsD F] ∧ F.length = 5 ∧ (∀ f ∈ F, Zf 250 f) ∧ 0 ≤ l ∧ Sz 33 l ∧ (∀ x, hi = some x → Sz 33 x ∧ l < x) ∧ ∀ r, l ≤ r → (∀ x, hi = some x → r ≤ x) → (t.five r).qs = evs F r
theorem pcw_all {t : Tl} : ∀ {M : List Pc} {b : Bool}, RepTo (fv t) none M → (∀ p ∈ M, 0 ≤ p.1 ∧ Sz 33 p.1 ∧ p.2.length = 5 ∧ ∀ f ∈ p.2, Zf 250 f) → ∀ d ∈ outH none b M, Pcw t d
  | [], _, h, _, _, _ => h.elim
  | [p], b, h, hp, d, m => by
    obtain ⟨p1, p2, p3, p4⟩ := hp p List.mem_cons_self
    have e : d = .tup [iv p.1 b none, fsD p.2] := by simpa [outH] using m
    exact ⟨p.1, b, none, p.2, e, p3, p4, p1, p2, fun x z => (by cases z), h.2⟩
  | p :: q :: rest, b, h, hp, d, m => by
    obtain ⟨p1, p2, p3, p4⟩ := hp p List.mem_cons_self
    obtain ⟨q1, q2, q3, q4⟩ := hp q (List.mem_cons_of_mem _ List.mem_cons_self)
    rw [outH] at m
    rcases List.mem_cons.mp m with rfl | m
    · exact ⟨p.1, b, some q.1, p.2, rfl, p3, p4, p1, p2, fun x z => by cases z; exact ⟨q2, h.1⟩, fun r h1 h2 => h.2.2.1 r h1 (h2 _ rfl)⟩
    · exact pcw_all h.2.2.2 (fun x m => hp x (List.mem_cons_of_mem _ m)) d m
theorem lawM_mem {t : Tl} (sm : t.Sm) : ∀ i, i ≤ t.corn.length → ∀ p ∈ lawM t i, 0 ≤ p.1 ∧ Sz 33 p.1 ∧ p.2.length = 5 ∧ ∀ f ∈ p.2, Zf 250 f
  | 0, _, p, m => by cases m
  | i + 1, hi, p, m => by
    have h : t.corn[i]? = some t.corn[i] := List.getElem?_eq_getElem hi
    have e : t.corn.getD i 0 = t.corn[i] := by rw [List.getD_eq_getElem?_getD, h]; rfl
    have m : p ∈ addP (lawM t i) (t.corn.getD i 0) (lawF t i) := m
    have m' : p ∈ lawM t i ∨ p = (t.corn.getD i 0, lawF t i) := by
      unfold addP at m
      split at m
      · exact .inl m
      · rcases List.mem_append.mp m with m | m
        · exact .inl m
        · exact .inr (List.mem_singleton.mp m)
    rcases m' with m' | rfl
    · exact lawM_mem sm i (by omega) p m'
    · rw [e]
      exact ⟨(corn_btw t h).pos, corn_sz sm _ (List.getElem_mem hi), rfl, five_zf sm _⟩
theorem rm_fr {r : Rat} (h : 0 ≤ r) (z : Sz 110 r) : Rm (fr r) r := by
  have h1 : (0 : Int) < (r.den : Int) := by have := r.den_pos; omega
  have h2 : (0 : Int) ≤ r.num := Rat.num_nonneg.mpr h
  refine ⟨rfl, ?_, fun t' b' e => ?_, ?_⟩
  · show (decide ((0 : Int) < (r.den : Int)) && decide ((0 : Int) ≤ r.num)) = true
    rw [decide_eq_true h1, decide_eq_true h2]; rfl
  · cases e
    exact Nat.lt_of_lt_of_le z.2 (Nat.pow_le_pow_right (by decide) (by decide))
  · show mkRat r.num (r.den : Int).toNat = r
    rw [Int.toNat_natCast]; exact Rat.mkRat_self r
end Law
set_option Elab.async false
set_option linter.all false
set_option maxRecDepth 100000
set_option maxHeartbeats 4000000
/-! a right margin that is 0 or more stays so in greater multiples of the room -/
namespace Law
open PySem PySem.Spec PyProof.Rows L2 Gh
theorem mk_nn (n : Nat) : (0 : Rat) ≤ mkRat (n : Int) 100 := by
  rw [← Rat.num_nonneg, mk_num (n : Int) 100 (by decide)]
  exact Int.ediv_nonneg (by omega) (by omega)
theorem wt_nn (l : Ln) {r : Rat} (h : 0 ≤ r) : 0 ≤ l.wt r := by
  cases l with
  | auto => exact Rat.le_refl
  | nat n => show (0 : Rat) ≤ (n : Rat); exact Rat.natCast_nonneg
  | part n => exact Rat.mul_nonneg h (mk_nn n)
theorem nat_up (n : Nat) {c : Rat} (hc : 1 ≤ c) : (n : Rat) ≤ c * (n : Rat) := by
  have h1 : (0 : Rat) ≤ (n : Rat) := Rat.natCast_nonneg
  have h2 : 0 ≤ (c - 1) * (n : Rat) := Rat.mul_nonneg (by grind) h1
  grind
theorem wt_up (l : Ln) {r c : Rat} (h : 0 ≤ r) (hc : 1 ≤ c) : l.wt (c * r) ≤ c * l.wt r := by
  cases l with
  | auto => show (0 : Rat) ≤ c * 0; grind
  | nat n => exact nat_up n hc
  | part n =>
    show c * r * mkRat n 100 ≤ c * (r * mkRat n 100)
    grind
theorem held_ge {x l : Rat} {m : Option Nat} : l ≤ heldR x l m := by
  unfold heldR
  simp only
  split <;> grind
theorem held_le {x l y : Rat} {m : Option Nat} (h1 : l ≤ y) (h2 : x ≤ y) : heldR x l m ≤ y := by
  unfold heldR
  cases m <;> simp only <;> (repeat' split) <;> grind
theorem held_up {x x' c : Rat} {l : Nat} {m : Option Nat} (hc : 1 ≤ c) (h : x' ≤ c * x) : heldR x' l m ≤ c * heldR x l m := by
  have hl := nat_up l hc
  have mo : ∀ a b : Rat, a ≤ b → c * a ≤ c * b := fun a b h => Rat.mul_le_mul_of_nonneg_left h (by grind)
  have g1 : (l : Rat) ≤ c * heldR x l m := by
    have := mo _ _ (held_ge (x := x) (l := l) (m := m))
    grind
  unfold heldR at g1 ⊢
  cases m with
  | none =>
    simp only at g1 ⊢
    have := mo x l
    (repeat' split) <;> grind
  | some k =>
    simp only at g1 ⊢
    have hk := nat_up k hc
    have h1 := mo x k
    have h2 := mo k x
    have h3 := mo l x
    have h4 := mo x l
    have h5 := mo l k
    have h6 := mo k l
    (repeat' split at g1) <;> (repeat' split) <;> grind
def Tl.u (t : Tl) (r : Rat) : Rat := t.spare r + t.mr.wt r
theorem right_u {t : Tl} {r : Rat} (h : 0 ≤ r) : 0 ≤ t.right r ↔ 0 ≤ t.u r := by
  have hm := wt_nn t.mr h
  unfold Tl.right Tl.u Tl.left
  split
  · rename_i hc
    obtain ⟨h1, h2⟩ := Bool.and_eq_true_iff.mp hc
    have h2 : ¬ t.spare r ≤ 0 := by simpa using h2
    have hl := isA_wt h1 r
    have e : t.spare r = t.free r - t.kept r := rfl
    have e2 : t.free r = r - t.ml.wt r - t.pl.wt r - t.pr.wt r - t.mr.wt r := rfl
    split
    · rename_i h3
      have := isA_wt h3 r
      constructor <;> intro z <;> grind
    · constructor <;> intro z <;> grind
  · have e : t.spare r = t.free r - t.kept r := rfl
    have e2 : t.free r = r - t.ml.wt r - t.pl.wt r - t.pr.wt r - t.mr.wt r := rfl
    constructor <;> intro z <;> grind
theorem right_up {t : Tl} {r c : Rat} (h : 0 ≤ r) (hc : 1 ≤ c) (h0 : 0 ≤ t.right r) : 0 ≤ t.right (c * r) := by
  have hcr : 0 ≤ c * r := Rat.mul_nonneg (by grind) h
  rw [right_u hcr]
  rw [right_u h] at h0
  have m1 := wt_up t.ml h hc
  have m2 := wt_up t.pl h hc
  have m3 := wt_up t.pr h hc
  have n1 := wt_nn t.mr hcr
  have n2 := wt_nn t.mr h
  have nl : (0 : Rat) ≤ (t.least : Rat) := Rat.natCast_nonneg
  have e : ∀ r, t.u r = (r - t.ml.wt r - t.pl.wt r - t.pr.wt r) - t.kept r := fun r => by
    unfold Tl.u Tl.spare Tl.free; grind
  rw [e] at h0 ⊢
  have mo : ∀ a b : Rat, a ≤ b → c * a ≤ c * b := fun a b h => Rat.mul_le_mul_of_nonneg_left h (by grind)
  have h2 := mo _ _ (show t.kept r ≤ r - t.ml.wt r - t.pl.wt r - t.pr.wt r by grind)
  have h3 : c * (r - t.ml.wt r - t.pl.wt r - t.pr.wt r) ≤ c * r - t.ml.wt (c * r) - t.pl.wt (c * r) - t.pr.wt (c * r) := by grind
  by_cases hw : t.w.isA = true
  · have k1 : (t.least : Rat) ≤ t.kept r := held_ge
    have k2 := mo _ _ k1
    have k3 := nat_up t.least hc
    have k4 : t.kept (c * r) ≤ c * r - t.ml.wt (c * r) - t.pl.wt (c * r) - t.pr.wt (c * r) := by
      unfold Tl.kept
      rw [if_pos hw]
      refine held_le (by grind) ?_
      unfold Tl.free; grind
    grind
  · have k1 : t.kept (c * r) ≤ c * t.kept r := by
      unfold Tl.kept
      rw [if_neg hw, if_neg hw]
      exact held_up hc (wt_up t.w h hc)
    grind
end Law
set_option Elab.async false
set_option linter.all false
set_option maxRecDepth 100000
set_option maxHeartbeats 4000000
/-! from which room on a broken line is 0 or more: from behind, from before -/
namespace Law
open PySem PySem.Spec PyProof.Rows L2 Gh
theorem ltge (a b : Rat) : a < b ∨ b ≤ a := by
  rcases Rat.le_total (a := b) (b := a) with h | h
  · exact .inr h
  · by_cases e : a = b
    · exact .inr (by grind)
    · exact .inl (by grind)
def root (f : Fo) : Rat := ovr (0 - f.1) f.2
theorem root_eq {f : Fo} (h : f.2 ≠ 0) : root f = (0 - f.1) / f.2 := ovr_eq (num_ne h)
theorem ev_root {f : Fo} (h : f.2 ≠ 0) (r : Rat) : ev f r = f.2 * (r - root f) := by
  rw [root_eq h]; unfold ev; grind
theorem slope_pos {f : Fo} {a b : Rat} (h1 : ev f a < 0) (h2 : 0 ≤ ev f b) (h : a < b) : 0 < f.2 := by
  rcases ltge 0 f.2 with z | z
  · exact z
  · have := Rat.mul_nonneg (show 0 ≤ 0 - f.2 by grind) (show 0 ≤ b - a by grind)
    unfold ev at h1 h2
    grind
theorem ev_pos {f : Fo} {r : Rat} (h : 0 < f.2) : root f ≤ r → 0 ≤ ev f r := fun z => by
  rw [ev_root (by grind)]
  exact Rat.mul_nonneg (by grind) (by grind)
theorem ev_neg {f : Fo} {r : Rat} (h : 0 < f.2) : r < root f → ev f r < 0 := fun z => by
  rw [ev_root (by grind)]
  have := Rat.mul_pos h (show 0 < root f - r by grind)
  grind
theorem ev_mid {f : Fo} {a b r : Rat} (h1 : 0 ≤ ev f a) (h2 : 0 ≤ ev f b) (ha : a ≤ r) (hb : r ≤ b) : 0 ≤ ev f r := by
  unfold ev at *
  rcases ltge f.2 0 with z | z
  · have := Rat.mul_nonneg (show 0 ≤ 0 - f.2 by grind) (show 0 ≤ b - r by grind)
    grind
  · have := Rat.mul_nonneg z (show 0 ≤ r - a by grind)
    grind
structure Pw (g : Rat → Rat) (n : Nat) (l : Nat → Rat) (f : Nat → Fo) : Prop where
  n0 : 0 < n
  l0 : l 0 = 0
  up : ∀ i, i + 1 < n → l i < l (i + 1)
  mid : ∀ i, i + 1 < n → ∀ r, l i ≤ r → r ≤ l (i + 1) → g r = ev (f i) r
  last : ∀ i, i + 1 = n → ∀ r, l i ≤ r → g r = ev (f i) r
section
variable {g : Rat → Rat} {n : Nat} {l : Nat → Rat} {f : Nat → Fo}
theorem Pw.at_low (P : Pw g n l f) {i : Nat} (h : i < n) : g (l i) = ev (f i) (l i) := by
  by_cases z : i + 1 < n
  · exact P.mid i z _ Rat.le_refl (by have := P.up i z; grind)
  · exact P.last i (by omega) _ Rat.le_refl
theorem Pw.nn (P : Pw g n l f) : ∀ i, i < n → 0 ≤ l i
  | 0, _ => by rw [P.l0]; exact Rat.le_refl
  | i + 1, h => by
    have h1 := P.nn i (by omega)
    have h2 := P.up i h
    grind
def bwd (l : Nat → Rat) (f : Nat → Fo) : Nat → Rat
  | 0 => 0
  | i + 1 => if ev (f i) (l i) < 0 then root (f i) else bwd l f i
def fwd (l : Nat → Rat) (f : Nat → Fo) : Nat → Rat
  | 0 => 0
  | i + 1 => if ev (f i) (l (i + 1)) < 0 then l (i + 1) else if ev (f i) (l i) < 0 then root (f i) else fwd l f i
theorem fwd_bwd (P : Pw g n l f) : ∀ i, i < n → ¬ ev (f i) (l i) < 0 → fwd l f i = bwd l f i
  | 0, _, _ => rfl
  | i + 1, hi, hv => by
    have h1 := P.mid i hi (l (i + 1)) (by have := P.up i hi; grind) Rat.le_refl
    have h2 := P.at_low hi
    show (if ev (f i) (l (i + 1)) < 0 then l (i + 1) else if ev (f i) (l i) < 0 then root (f i) else fwd l f i) = if ev (f i) (l i) < 0 then root (f i) else bwd l f i
    rw [if_neg (by rw [← h1, h2]; exact hv)]
    split
    · rfl
    · rename_i z
      exact fwd_bwd P i (by omega) z
structure FitS (g : Rat → Rat) (x : Rat) : Prop where
  nn : 0 ≤ x
  pos : ∀ r, x ≤ r → 0 ≤ g r
  neg : 0 < x → ∀ e, e < x → ∃ r, e ≤ r ∧ 0 ≤ r ∧ r < x ∧ g r < 0
theorem fit_root {a : Rat} {F : Fo} (h0 : 0 ≤ a) (ha : ev F a < 0) (hs : 0 < F.2) (hg : ∀ r, a ≤ r → r ≤ root F → g r = ev F r) (hp : ∀ r, root F ≤ r → 0 ≤ g r) : FitS g (root F) := by
  have hx : a < root F := by
    rcases ltge a (root F) with z | z
    · exact z
    · have := ev_pos hs z; grind
  refine ⟨by grind, hp, fun _ e he => ?_⟩
  rcases ltge e a with z | z
  · exact ⟨a, by grind, h0, hx, by rw [hg a Rat.le_refl (by grind)]; exact ha⟩
  · exact ⟨e, Rat.le_refl, by grind, he, by rw [hg e z (by grind)]; exact ev_neg hs he⟩
theorem bwd_fit (P : Pw g n l f) (hl : ∀ i, i + 1 = n → 0 ≤ (f i).2 ∧ ((f i).2 = 0 → 0 ≤ (f i).1)) : ∀ i, i ≤ n → (i < n → ∀ r, l i ≤ r → 0 ≤ g r) → FitS g (bwd l f i)
  | 0, _, h => ⟨Rat.le_refl, fun r hr => h P.n0 r (by rw [P.l0]; exact hr), fun z => absurd z (by show ¬ (0 : Rat) < 0; grind)⟩
  | i + 1, hi, h => by
    have h0 := P.nn i (by omega)
    show FitS g (if ev (f i) (l i) < 0 then root (f i) else bwd l f i)
    by_cases hlast : i + 1 = n
    · obtain ⟨s1, s2⟩ := hl i hlast
      have hg := P.last i hlast
      split
      · rename_i hv
        have hs : 0 < (f i).2 := by
          rcases ltge 0 (f i).2 with z | z
          · exact z
          · have e : (f i).2 = 0 := by grind
            have := s2 e
            unfold ev at hv
            rw [e] at hv
            grind
        refine fit_root h0 hv hs (fun r a _ => hg r a) fun r hr => ?_
        rw [hg r (by
          rcases ltge (l i) r with z | z
          · grind
          · have := ev_pos hs (r := l i) (by grind)
            grind)]
        exact ev_pos hs hr
      · rename_i hv
        refine bwd_fit P hl i (by omega) fun _ r hr => ?_
        rw [hg r hr]
        have := Rat.mul_nonneg s1 (show 0 ≤ r - l i by grind)
        unfold ev at hv ⊢
        grind
    · have hi' : i + 1 < n := by omega
      have hg := P.mid i hi'
      have hu := P.up i hi'
      have hb := h hi' (l (i + 1)) Rat.le_refl
      rw [hg _ (by grind) Rat.le_refl] at hb
      split
      · rename_i hv
        have hs := slope_pos hv hb hu
        have hx : root (f i) ≤ l (i + 1) := by
          rcases ltge (l (i + 1)) (root (f i)) with z | z
          · have := ev_neg hs z; grind
          · exact z
        refine fit_root h0 hv hs (fun r a b => hg r a (by grind)) fun r hr => ?_
        rcases ltge (l (i + 1)) r with z | z
        · exact h hi' r (by grind)
        · rw [hg r (by
            rcases ltge (l i) r with z | z
            · grind
            · have := ev_pos hs (r := l i) (by grind)
              grind) z]
          exact ev_pos hs hr
      · rename_i hv
        refine bwd_fit P hl i (by omega) fun _ r hr => ?_
        rcases ltge (l (i + 1)) r with z | z
        · exact h hi' r (by grind)
        · rw [hg r hr z]
          exact ev_mid (by grind) hb hr z
theorem fit_below {t : Tl} {x : Rat} (h : FitS t.right x) (hx : 0 < x) : t.right (x * (99 / 100)) < 0 := by
  rcases ltge (t.right (x * (99 / 100))) 0 with z | z
  · exact z
  · exfalso
    obtain ⟨r, h1, h2, h3, h4⟩ := h.neg hx (x * (99 / 100)) (by grind)
    have r0 : 0 < x * (99 / 100) := by grind
    have e : r / (x * (99 / 100)) * (x * (99 / 100)) = r := by grind
    have hc : 1 ≤ r / (x * (99 / 100)) := by
      rcases ltge (r / (x * (99 / 100))) 1 with y | y
      · have := Rat.mul_pos (show 0 < 1 - r / (x * (99 / 100)) by grind) r0
        generalize r / (x * (99 / 100)) = c at *
        grind
      · exact y
    have := right_up (t := t) (r := x * (99 / 100)) (by grind) hc z
    rw [e] at this
    grind
end
theorem right_hu {t : Tl} (sm : t.Sm) (ask : Fo → Fo → Bool) : Hu (2 ^ 27) (2 * (t.rightF ask).1) ∧ Hu (2 ^ 27) (2 * (t.rightF ask).2) := by
  have two : ∀ {B : Nat} {q : Rat}, Hu B q → Hu (B + B) (2 * q) := fun {B q} h => by
    have := h.add h
    rw [show 2 * q = q + q by grind]; exact this
  obtain ⟨k1, k2⟩ := forms_hu sm _ (keptF_forms t ask)
  obtain ⟨f1, f2⟩ := forms_hu sm _ (freeF_forms t)
  obtain ⟨p1, p2⟩ := Ln.fo_sz sm.pl
  obtain ⟨q1, q2⟩ := Ln.fo_sz sm.pr
  obtain ⟨m1, m2⟩ := Ln.fo_sz sm.ml
  have s1 : Hu (2 ^ 25) (t.spareF ask).1 := (f1.sub k1).mono (by decide)
  have s2 : Hu (2 ^ 25) (t.spareF ask).2 := (f2.sub k2).mono (by decide)
  have hl : Hu (2 ^ 26) (2 * (t.leftF ask).1) ∧ Hu (2 ^ 26) (2 * (t.leftF ask).2) := by
    unfold Tl.leftF
    split
    · split
      · refine ⟨?_, ?_⟩
        · show Hu _ (2 * ((t.spareF ask).1 * (1 / 2)))
          rw [show 2 * ((t.spareF ask).1 * (1 / 2)) = (t.spareF ask).1 by grind]; exact s1.mono (by decide)
        · show Hu _ (2 * ((t.spareF ask).2 * (1 / 2)))
          rw [show 2 * ((t.spareF ask).2 * (1 / 2)) = (t.spareF ask).2 by grind]; exact s2.mono (by decide)
      · exact ⟨two s1, two s2⟩
    · exact ⟨(two m1).mono (by decide), (two m2).mono (by decide)⟩
  obtain ⟨l1, l2⟩ := hl
  refine ⟨?_, ?_⟩
  · have e : 2 * (t.rightF ask).1 = 0 - ((2 * (t.leftF ask).1 + 2 * t.pl.fo.1) + (2 * (t.keptF ask).1 + 2 * t.pr.fo.1)) := by
      show 2 * (0 - (((t.leftF ask).1 + t.pl.fo.1) + ((t.keptF ask).1 + t.pr.fo.1))) = _
      grind
    rw [e]
    exact ((Hu.zero (B := 0)).sub ((l1.add (two p1)).add ((two k1).add (two q1)))).mono (by decide)
  · have e : 2 * (t.rightF ask).2 = (1 + 1) - ((2 * (t.leftF ask).2 + 2 * t.pl.fo.2) + (2 * (t.keptF ask).2 + 2 * t.pr.fo.2)) := by
      show 2 * (1 - (((t.leftF ask).2 + t.pl.fo.2) + ((t.keptF ask).2 + t.pr.fo.2))) = _
      grind
    rw [e]
    exact ((Hu.one.add Hu.one).sub ((l2.add (two p2)).add ((two k2).add (two q2)))).mono (by decide)
theorem root_sz {f : Fo} (h0 : f.2 ≠ 0) (h1 : Hu (2 ^ 27) (2 * f.1)) (h2 : Hu (2 ^ 27) (2 * f.2)) : Sz 36 (root f) := by
  have e : root f = ovr (0 - 2 * f.1) (2 * f.2) := by
    rw [root_eq h0, ovr_eq (num_ne (by grind))]
    grind
  rw [e]
  have n1 := ((Hu.zero (B := 0)).sub h1).num
  have n2 := h2.num
  exact (ovr_sz (num_ne (by grind)) 28 7 (by omega) (by omega) (by omega) (by omega)).mono (by decide)
end Law
set_option Elab.async false
set_option linter.all false
set_option maxRecDepth 100000
set_option maxHeartbeats 4000000
/-! up to which room two broken lines are one: piece by piece, corner by corner -/
namespace Law
open PySem PySem.Spec PyProof.Rows L2 Gh
section
variable {g1 g2 : Rat → List Rat}
def Part (g1 g2 : Rat → List Rat) : Option Rat → Prop
  | some x => 0 ≤ x ∧ (0 < x → ∀ r, 0 ≤ r → r ≤ x → g1 r = g2 r) ∧ ∀ m, x < m → ∃ r, x < r ∧ r ≤ m ∧ g1 r ≠ g2 r
  | none => ∀ r, 0 ≤ r → g1 r = g2 r
theorem Part.uniq : ∀ {x y : Option Rat}, Part g1 g2 x → Part g1 g2 y → x = y
  | none, none, _, _ => rfl
  | none, some y, h, ⟨h1, _, h3⟩ => by
    obtain ⟨r, r1, _, r3⟩ := h3 (y + 1) (by grind)
    exact absurd (h r (by grind)) r3
  | some x, none, ⟨h1, _, h3⟩, h => by
    obtain ⟨r, r1, _, r3⟩ := h3 (x + 1) (by grind)
    exact absurd (h r (by grind)) r3
  | some x, some y, ⟨a1, a2, a3⟩, ⟨b1, b2, b3⟩ => by
    rcases ltge x y with z | z
    · obtain ⟨r, r1, r2, r3⟩ := a3 y z
      exact absurd (b2 (by grind) r (by grind) r2) r3
    · rcases ltge y x with w | w
      · obtain ⟨r, r1, r2, r3⟩ := b3 x w
        exact absurd (a2 (by grind) r (by grind) r2) r3
      · rw [show x = y by grind]
theorem near_dif {F G : List Fo} {lo : Rat} {h1 h2 : Option Rat} (hne : F ≠ G) (l1 : ∀ h, h1 = some h → lo < h) (l2 : ∀ h, h2 = some h → lo < h) (e1 : ∀ r, lo ≤ r → (∀ h, h1 = some h → r ≤ h) → g1 r = evs F r) (e2 : ∀ r, lo ≤ r → (∀ h, h2 = some h → r ≤ h) → g2 r = evs G r) (m : Rat) (hm : lo < m) : ∃ r, lo < r ∧ r ≤ m ∧ g1 r ≠ g2 r := by
  obtain ⟨x, x1, x2, x3, x4⟩ : ∃ x, lo < x ∧ x ≤ m ∧ (∀ h, h1 = some h → x ≤ h) ∧ ∀ h, h2 = some h → x ≤ h := by
    have key : ∀ (o : Option Rat) (x : Rat), lo < x → (∀ h, o = some h → lo < h) → ∃ y, lo < y ∧ y ≤ x ∧ ∀ h, o = some h → y ≤ h := fun o x hx ho => by
      cases o with
      | none => exact ⟨x, hx, Rat.le_refl, fun h z => by cases z⟩
      | some k =>
        have := ho k rfl
        rcases ltge x k with z | z
        · exact ⟨x, hx, Rat.le_refl, fun h z => by cases z; grind⟩
        · exact ⟨k, this, z, fun h z => by cases z; exact Rat.le_refl⟩
    obtain ⟨y, y1, y2, y3⟩ := key h1 m hm l1
    obtain ⟨x, x1, x2, x3⟩ := key h2 y y1 l2
    exact ⟨x, x1, by grind, fun h e => by have := y3 h e; grind, x3⟩
  by_cases e : g1 x = g2 x
  · refine ⟨lo + (x - lo) / 2, by grind, by grind, fun z => hne ?_⟩
    refine evs_two (a := x) (b := lo + (x - lo) / 2) (by grind) ?_ ?_
    · rw [← e1 x (by grind) x3, ← e2 x (by grind) x4, e]
    · rw [← e1 _ (by grind) (fun h q => by have := x3 h q; grind), ← e2 _ (by grind) (fun h q => by have := x4 h q; grind), z]
  · exact ⟨x, x1, x2, e⟩
/-! piece by piece -/
def hiO (M : List Pc) : Option Rat := M.head?.map (·.1)
def endO : Option Rat → Option Rat → Option Rat
  | none, b => b
  | a, none => a
  | some a, some b => some (if b < a then b else a)
def par : Nat → List Pc → List Pc → Rat → Option Rat
  | n + 1, p :: M, q :: N, low => if p.2 ≠ q.2 then some low else match endO (hiO M) (hiO N) with
    | none => none
    | some e => par n (if hiO M = some e then M else p :: M) (if hiO N = some e then N else q :: N) e
  | _, _, _, _ => none
structure On (g : Rat → List Rat) (low : Rat) (p : Pc) (M : List Pc) : Prop where
  rep : RepTo g none (p :: M)
  lo : p.1 ≤ low
  hi : ∀ h, hiO M = some h → low < h
theorem On.at_ {g : Rat → List Rat} {low : Rat} {p : Pc} {M : List Pc} (o : On g low p M) : ∀ r, p.1 ≤ r → (∀ h, hiO M = some h → r ≤ h) → g r = evs p.2 r := by
  cases M with
  | nil => exact fun r h1 h2 => o.rep.2 r h1 fun x z => by cases z
  | cons q M => exact fun r h1 h2 => o.rep.2.2.1 r h1 (h2 q.1 rfl)
theorem On.next {g : Rat → List Rat} {low e : Rat} {p : Pc} {M : List Pc} (o : On g low p M) (he : low ≤ e) (hle : ∀ h, hiO M = some h → e ≤ h) : ∃ p' M', (if hiO M = some e then M else p :: M) = p' :: M' ∧ On g e p' M' ∧ M'.length ≤ M.length ∧ (hiO M = some e → M'.length < M.length) := by
  split
  · rename_i h
    cases M with
    | nil => cases h
    | cons q M =>
      have hq : q.1 = e := Option.some.inj h
      refine ⟨q, M, rfl, ⟨o.rep.2.2.2, by rw [hq]; exact Rat.le_refl, fun w z => ?_⟩, by simp, fun _ => by simp⟩
      have := o.rep.2.2.2
      cases M with
      | nil => cases z
      | cons q2 M =>
        have e2 : q2.1 = w := Option.some.inj z
        have := this.1
        grind
  · rename_i h
    refine ⟨p, M, rfl, ⟨o.rep, by have := o.lo; grind, fun h' z => ?_⟩, Nat.le_refl _, fun z => absurd z h⟩
    have h1 := hle h' z
    have h2 : h' ≠ e := fun w => h (w ▸ z)
    grind
theorem endO_none {a b : Option Rat} (h : endO a b = none) : a = none ∧ b = none := by
  cases a <;> cases b <;> first | exact ⟨rfl, rfl⟩ | cases h
theorem endO_some {a b : Option Rat} {e : Rat} (h : endO a b = some e) : (∀ x, a = some x → e ≤ x) ∧ (∀ x, b = some x → e ≤ x) ∧ (a = some e ∨ b = some e) := by
  cases a with
  | none =>
    cases b with
    | none => cases h
    | some b => cases h; exact ⟨fun x z => (by cases z), fun x z => (by cases z; exact Rat.le_refl), .inr rfl⟩
  | some a =>
    cases b with
    | none => cases h; exact ⟨fun x z => (by cases z; exact Rat.le_refl), fun x z => (by cases z), .inl rfl⟩
    | some b =>
      have h : (if b < a then b else a) = e := Option.some.inj h
      split at h
      · subst h; rename_i w; exact ⟨fun x z => (by cases z; grind), fun x z => (by cases z; exact Rat.le_refl), .inr rfl⟩
      · subst h; rename_i w; exact ⟨fun x z => (by cases z; exact Rat.le_refl), fun x z => (by cases z; grind), .inl rfl⟩
theorem par_ok : ∀ (n : Nat) (p q : Pc) (M N : List Pc) (low : Rat), M.length + N.length < n → 0 ≤ low → On g1 low p M → On g2 low q N → (0 < low → ∀ r, 0 ≤ r → r ≤ low → g1 r = g2 r) → Part g1 g2 (par n (p :: M) (q :: N) low)
  | 0, _, _, _, _, _, h, _, _, _, _ => absurd h (by omega)
  | n + 1, p, q, M, N, low, hn, h0, o1, o2, hb => by
    have a1 := o1.at_
    have a2 := o2.at_
    have l1 := o1.lo
    have l2 := o2.lo
    show Part g1 g2 (if p.2 ≠ q.2 then some low else match endO (hiO M) (hiO N) with
      | none => none
      | some e => par n (if hiO M = some e then M else p :: M) (if hiO N = some e then N else q :: N) e)
    split
    · rename_i hne
      exact ⟨h0, hb, near_dif hne o1.hi o2.hi (fun r x y => a1 r (by grind) y) (fun r x y => a2 r (by grind) y)⟩
    · rename_i he
      have he : p.2 = q.2 := Classical.not_not.mp he
      have hall : ∀ r, 0 ≤ r → (∀ h, hiO M = some h → r ≤ h) → (∀ h, hiO N = some h → r ≤ h) → g1 r = g2 r := fun r r0 r1 r2 => by
        rcases ltge r low with z | z
        · exact hb (by grind) r r0 (by grind)
        · rw [a1 r (by grind) r1, a2 r (by grind) r2, he]
      cases e : endO (hiO M) (hiO N) with
      | none =>
        obtain ⟨e1, e2⟩ := endO_none e
        exact fun r r0 => hall r r0 (fun h z => by rw [e1] at z; cases z) (fun h z => by rw [e2] at z; cases z)
      | some x =>
        obtain ⟨e1, e2, e3⟩ := endO_some e
        have hlx : low < x := by
          rcases e3 with z | z
          · exact o1.hi x z
          · exact o2.hi x z
        obtain ⟨p', M', i1, i2, i3, i4⟩ := o1.next (e := x) (by grind) e1
        obtain ⟨q', N', j1, j2, j3, j4⟩ := o2.next (e := x) (by grind) e2
        show Part g1 g2 (par n (if hiO M = some x then M else p :: M) (if hiO N = some x then N else q :: N) x)
        rw [i1, j1]
        refine par_ok n p' q' M' N' x ?_ (by grind) i2 j2 fun _ r r0 r1 => hall r r0 (fun h z => by have := e1 h z; grind) (fun h z => by have := e2 h z; grind)
        rcases e3 with z | z
        · have := i4 z; omega
        · have := j4 z; omega
/-! corner by corner -/
theorem rep_at {g : Rat → List Rat} {x : Rat} {y : Option Rat} : ∀ (M : List Pc) (p : Pc), RepTo g none (p :: M) → p.1 ≤ x → (∀ q ∈ M, q.1 ≤ x ∨ ∃ h, y = some h ∧ h ≤ q.1) → ∃ F, ∀ r, x ≤ r → (∀ h, y = some h → r ≤ h) → g r = evs F r
  | [], p, h, hx, _ => ⟨p.2, fun r h1 _ => h.2 r (by grind) fun x z => by cases z⟩
  | q :: M, p, h, hx, hq => by
    by_cases z : q.1 ≤ x
    · exact rep_at M q h.2.2.2 z fun w m => hq w (List.mem_cons_of_mem _ m)
    · rcases hq q List.mem_cons_self with w | ⟨k, e, w⟩
      · exact absurd w z
      · exact ⟨p.2, fun r h1 h2 => h.2.2.1 r (by grind) (by have := h2 k e; grind)⟩
theorem srt_btw {c : List Rat} (hp : c.Pairwise (· < ·)) {k : Nat} {lo : Rat} (h : c[k]? = some lo) : (∀ x, c[k + 1]? = some x → lo < x) ∧ ∀ q ∈ c, q ≤ lo ∨ ∃ x, c[k + 1]? = some x ∧ x ≤ q := by
  obtain ⟨hk, e⟩ := List.getElem?_eq_some_iff.mp h
  have pw := List.pairwise_iff_getElem.mp hp
  refine ⟨fun x hx => ?_, fun q m => ?_⟩
  · obtain ⟨hk1, e1⟩ := List.getElem?_eq_some_iff.mp hx
    rw [← e, ← e1]; exact pw k (k + 1) hk hk1 (by omega)
  · obtain ⟨j, hj⟩ := List.getElem?_of_mem m
    obtain ⟨hj1, ej⟩ := List.getElem?_eq_some_iff.mp hj
    rcases Nat.lt_trichotomy j k with z | z | z
    · left; have := pw j k hj1 hk z; rw [e, ej] at this; grind
    · left; subst z; rw [h] at hj; cases hj; exact Rat.le_refl
    · right
      have hk1 : k + 1 < c.length := by omega
      refine ⟨c[k + 1], List.getElem?_eq_getElem hk1, ?_⟩
      rcases Nat.lt_or_ge (k + 1) j with w | w
      · have := pw (k + 1) j hk1 hj1 w; rw [ej] at this; grind
      · have : j = k + 1 := by omega
        subst this; rw [ej]; exact Rat.le_refl
def dif (g1 g2 : Rat → List Rat) (lo : Rat) (hi : Option Rat) : Bool := decide (g1 lo ≠ g2 lo) || (decide (g1 (third lo hi 1) ≠ g2 (third lo hi 1)) || decide (g1 (third lo hi 2) ≠ g2 (third lo hi 2)))
structure Crn (g1 g2 : Rat → List Rat) (c : List Rat) : Prop where
  z : c[0]? = some 0
  up : ∀ k lo, c[k]? = some lo → ∀ x, c[k + 1]? = some x → lo < x
  at1 : ∀ k lo, c[k]? = some lo → ∃ F, ∀ r, lo ≤ r → (∀ h, c[k + 1]? = some h → r ≤ h) → g1 r = evs F r
  at2 : ∀ k lo, c[k]? = some lo → ∃ F, ∀ r, lo ≤ r → (∀ h, c[k + 1]? = some h → r ≤ h) → g2 r = evs F r
theorem dif_no (C : Crn g1 g2 c) {k : Nat} {lo : Rat} (h : c[k]? = some lo) (hd : dif g1 g2 lo c[k + 1]? = false) : ∀ r, lo ≤ r → (∀ h, c[k + 1]? = some h → r ≤ h) → g1 r = g2 r := by
  obtain ⟨F, hF⟩ := C.at1 k lo h
  obtain ⟨G, hG⟩ := C.at2 k lo h
  obtain ⟨a1, a2, a3⟩ := third_ok (C.up k lo h)
  unfold dif at hd
  simp only [Bool.or_eq_false_iff, decide_eq_false_iff_not, Classical.not_not] at hd
  obtain ⟨_, d1, d2⟩ := hd
  have hi1 : ∀ x, c[k + 1]? = some x → third lo c[k + 1]? 1 ≤ x := fun x e => by have := a3 x e; grind
  have hi2 : ∀ x, c[k + 1]? = some x → third lo c[k + 1]? 2 ≤ x := fun x e => by have := a3 x e; grind
  have e : F = G := by
    refine evs_two (a := third lo c[k + 1]? 1) (b := third lo c[k + 1]? 2) (by grind) ?_ ?_
    · rw [← hF _ (by grind) hi1, ← hG _ (by grind) hi1, d1]
    · rw [← hF _ (by grind) hi2, ← hG _ (by grind) hi2, d2]
  intro r r1 r2
  rw [hF r r1 r2, hG r r1 r2, e]
theorem upto (C : Crn g1 g2 c) : ∀ k, (∀ j lo, j < k → c[j]? = some lo → dif g1 g2 lo c[j + 1]? = false) → 0 < k → k ≤ c.length → ∀ r, 0 ≤ r → (∀ lo, c[k]? = some lo → r ≤ lo) → g1 r = g2 r
  | 0, _, h0, _, _, _, _ => absurd h0 (by omega)
  | k + 1, hd, _, hk, r, r0, r1 => by
    have h : c[k]? = some c[k] := List.getElem?_eq_getElem (by omega)
    rcases ltge r c[k] with z | z
    · cases k with
      | zero =>
        have e := C.z
        rw [h] at e
        have e := Option.some.inj e
        rw [e] at z; grind
      | succ k => exact upto C (k + 1) (fun j lo hj => hd j lo (by omega)) (by omega) (by omega) r r0 fun lo e => by rw [h] at e; cases e; grind
    · exact dif_no C h (hd k _ (by omega) h) r z r1
theorem part_some (C : Crn g1 g2 c) {k : Nat} {lo : Rat} (h : c[k]? = some lo) (hd : ∀ j lo, j < k → c[j]? = some lo → dif g1 g2 lo c[j + 1]? = false) (hk : dif g1 g2 lo c[k + 1]? = true) (h0 : 0 ≤ lo) : Part g1 g2 (some lo) := by
  obtain ⟨hlt, _⟩ := List.getElem?_eq_some_iff.mp h
  refine ⟨h0, fun hp r r0 r1 => ?_, ?_⟩
  · have k0 : 0 < k := by
      rcases Nat.eq_zero_or_pos k with z | z
      · subst z; rw [C.z] at h; cases h; grind
      · exact z
    exact upto C k hd k0 (by omega) r r0 fun x e => by rw [h] at e; cases e; exact r1
  · obtain ⟨F, hF⟩ := C.at1 k lo h
    obtain ⟨G, hG⟩ := C.at2 k lo h
    obtain ⟨a1, a2, a3⟩ := third_ok (C.up k lo h)
    refine near_dif (F := F) (G := G) (fun e => ?_) (C.up k lo h) (C.up k lo h) hF hG
    subst e
    have hi1 : ∀ x, c[k + 1]? = some x → third lo c[k + 1]? 1 ≤ x := fun x e => by have := a3 x e; grind
    have hi2 : ∀ x, c[k + 1]? = some x → third lo c[k + 1]? 2 ≤ x := fun x e => by have := a3 x e; grind
    have hi0 : ∀ x, c[k + 1]? = some x → lo ≤ x := fun x e => by have := C.up k lo h x e; grind
    unfold dif at hk
    rw [hF lo Rat.le_refl hi0, hG lo Rat.le_refl hi0, hF _ (by grind) hi1, hG _ (by grind) hi1, hF _ (by grind) hi2, hG _ (by grind) hi2] at hk
    simp at hk
theorem part_none (C : Crn g1 g2 c) (hd : ∀ j lo, c[j]? = some lo → dif g1 g2 lo c[j + 1]? = false) : Part g1 g2 none := fun r r0 => by
  obtain ⟨hlt, _⟩ := List.getElem?_eq_some_iff.mp C.z
  exact upto C c.length (fun j lo _ h => hd j lo h) hlt (Nat.le_refl _) r r0 fun lo e => by rw [List.getElem?_eq_none (Nat.le_refl _)] at e; cases e
end
end Law
set_option Elab.async false
set_option linter.all false
set_option maxRecDepth 100000
set_option maxHeartbeats 4000000
namespace Law
open PySem PySem.Spec PyProof.Rows L2 Gh
variable {E : En} {s : Sx} {C fI fA : Addr}
/-! the pieces, by places -/
def Tl.M (t : Tl) : List Pc := lawM t t.corn.length
structure Mok (t : Tl) : Prop where
  rep : RepTo (fv t) none t.M
  hd : ∃ F P, t.M = (0, F) :: P
  few : t.M.length ≤ 6
  mem : ∀ p ∈ t.M, 0 ≤ p.1 ∧ Sz 33 p.1 ∧ p.2.length = 5 ∧ ∀ f ∈ p.2, Zf 250 f
  hu : ∀ p ∈ t.M, Hu (2 ^ 27) (2 * (p.2.getD 4 (0, 0)).1) ∧ Hu (2 ^ 27) (2 * (p.2.getD 4 (0, 0)).2)
theorem lawM_hu {t : Tl} (sm : t.Sm) : ∀ i, ∀ p ∈ lawM t i, Hu (2 ^ 27) (2 * (p.2.getD 4 (0, 0)).1) ∧ Hu (2 ^ 27) (2 * (p.2.getD 4 (0, 0)).2)
  | 0, p, m => by cases m
  | i + 1, p, m => by
    have m : p ∈ addP (lawM t i) (t.corn.getD i 0) (lawF t i) := m
    have m' : p ∈ lawM t i ∨ p = (t.corn.getD i 0, lawF t i) := by
      unfold addP at m
      split at m
      · exact .inl m
      · rcases List.mem_append.mp m with m | m
        · exact .inl m
        · exact .inr (List.mem_singleton.mp m)
    rcases m' with m' | rfl
    · exact lawM_hu sm i p m'
    · exact right_hu sm _
theorem Tl.mok {t : Tl} (sm : t.Sm) : Mok t := by
  obtain ⟨P1, P2, P3⟩ := pieces_same sm
  have hl : 0 < t.corn.length := (List.getElem?_eq_some_iff.mp (corn_head t)).1
  obtain ⟨_, F, P, h2⟩ := lawM_ok (t := t) (t.corn.length - 1) (by omega)
  rw [show t.corn.length - 1 + 1 = t.corn.length by omega] at h2
  exact ⟨by show RepTo (fv t) none (lawM t t.corn.length); rw [← P1]; exact P3, ⟨F, P, h2⟩, by show (lawM t t.corn.length).length ≤ 6; rw [← P1]; exact P2, lawM_mem sm _ (Nat.le_refl _), lawM_hu sm _⟩
theorem out_at (h : Option Rat) : ∀ (M : List Pc) (b : Bool) (i : Nat) (p : Pc), M[i]? = some p → ∃ c, (outH h b M)[i]? = some (.tup [iv p.1 c (match M[i + 1]? with | some q => some q.1 | none => h), fsD p.2])
  | [], _, _, _, e => by simp at e
  | [p], b, 0, q, e => by cases e; exact ⟨b, rfl⟩
  | [p], b, i + 1, q, e => by simp at e
  | p :: q :: M, b, 0, x, e => by cases e; exact ⟨b, by rw [outH]; rfl⟩
  | p :: q :: M, b, i + 1, x, e => by
    obtain ⟨c, hc⟩ := out_at h (q :: M) false i x e
    exact ⟨c, by rw [outH]; exact hc⟩
theorem rep_mid {g : Rat → List Rat} : ∀ (M : List Pc) (i : Nat) (p q : Pc), RepTo g none M → M[i]? = some p → M[i + 1]? = some q → p.1 < q.1 ∧ ∀ r, p.1 ≤ r → r ≤ q.1 → g r = evs p.2 r
  | [], _, _, _, h, _, _ => h.elim
  | [a], 0, p, q, h, e1, e2 => by simp at e2
  | [a], i + 1, p, q, h, e1, e2 => by simp at e1
  | a :: b :: M, 0, p, q, h, e1, e2 => by cases e1; cases e2; exact ⟨h.1, h.2.2.1⟩
  | a :: b :: M, i + 1, p, q, h, e1, e2 => rep_mid (b :: M) i p q h.2.2.2 e1 e2
theorem rep_last {g : Rat → List Rat} : ∀ (M : List Pc) (i : Nat) (p : Pc), RepTo g none M → M[i]? = some p → M[i + 1]? = none → ∀ r, p.1 ≤ r → g r = evs p.2 r
  | [], _, _, h, _, _ => h.elim
  | [a], 0, p, h, e1, e2 => by cases e1; exact fun r h1 => h.2 r h1 fun x z => by cases z
  | [a], i + 1, p, h, e1, e2 => by simp at e1
  | a :: b :: M, 0, p, h, e1, e2 => by simp at e2
  | a :: b :: M, i + 1, p, h, e1, e2 => rep_last (b :: M) i p h.2.2.2 e1 e2
abbrev lowM (M : List Pc) (i : Nat) : Rat := (M.getD i (0, [])).1
abbrev frmM (M : List Pc) (i : Nat) : Fo := (M.getD i (0, [])).2.getD 4 (0, 0)
theorem right_of {t : Tl} {F : List Fo} {r : Rat} (h : fv t r = evs F r) : t.right r = ev (F.getD 4 (0, 0)) r := by
  have h2 : (fv t r).getD 4 0 = (evs F r).getD 4 0 := by rw [h]
  have e : (evs F r).getD 4 0 = ev (F.getD 4 (0, 0)) r := by
    unfold evs
    rw [List.getD_eq_getElem?_getD, List.getD_eq_getElem?_getD, List.getElem?_map]
    cases F[4]? with
    | none => show (0 : Rat) = ev (0, 0) r; rw [z_at]
    | some f => rfl
  exact h2.trans e
theorem Mok.pw {t : Tl} (K : Mok t) : Pw t.right t.M.length (lowM t.M) (frmM t.M) := by
  have gd : ∀ {i}, (h : i < t.M.length) → t.M[i]? = some (t.M.getD i (0, [])) := fun {i} h => by
    rw [List.getD_eq_getElem?_getD, List.getElem?_eq_getElem h]; rfl
  obtain ⟨F, P, e⟩ := K.hd
  refine ⟨by rw [e]; simp, by show (t.M.getD 0 (0, [])).1 = 0; rw [e]; rfl, fun i h => ?_, fun i h r h1 h2 => ?_, fun i h r h1 => ?_⟩
  · exact (rep_mid t.M i _ _ K.rep (gd (by omega)) (gd h)).1
  · exact right_of ((rep_mid t.M i _ _ K.rep (gd (by omega)) (gd h)).2 r h1 h2)
  · exact right_of (rep_last t.M i _ K.rep (gd (by omega)) (List.getElem?_eq_none (by omega)) r h1)
def negF (f : Fo) : Bool := decide (f.2 < 0) || (decide (f.2 = 0) && decide (f.1 < 0))
def Tl.fits (t : Tl) : Option Rat := if negF (frmM t.M (t.M.length - 1)) then none else some (bwd (lowM t.M) (frmM t.M) t.M.length)
theorem negF_no {f : Fo} (h : negF f = false) : 0 ≤ f.2 ∧ (f.2 = 0 → 0 ≤ f.1) := by
  unfold negF at h
  simp only [Bool.or_eq_false_iff, Bool.and_eq_false_iff, decide_eq_false_iff_not] at h
  obtain ⟨h1, h2⟩ := h
  refine ⟨by grind, fun e => ?_⟩
  rcases h2 with z | z
  · exact absurd e z
  · grind
theorem root_ne {f : Fo} {a : Rat} (h : negF f = false) (h0 : 0 ≤ a) (ha : ev f a < 0) : 0 < f.2 := by
  obtain ⟨h1, h2⟩ := negF_no h
  rcases ltge 0 f.2 with z | z
  · exact z
  · have e : f.2 = 0 := by grind
    have := h2 e
    unfold ev at ha
    rw [e] at ha
    grind
theorem Tl.fits_fit {t : Tl} (sm : t.Sm) {x : Rat} (h : t.fits = some x) : FitS t.right x := by
  have K := Tl.mok sm
  unfold Tl.fits at h
  split at h
  · cases h
  · rename_i hn
    cases h
    exact bwd_fit K.pw (fun i hi => negF_no (by rw [show i = t.M.length - 1 by omega]; simpa using hn)) _ (Nat.le_refl _) fun z => absurd z (Nat.lt_irrefl _)
theorem Mok.rsz {t : Tl} (K : Mok t) {i : Nat} (hi : i < t.M.length) (h0 : (frmM t.M i).2 ≠ 0) : Sz 36 (root (frmM t.M i)) := by
  have gd : t.M.getD i (0, []) ∈ t.M := by
    rw [List.getD_eq_getElem?_getD, List.getElem?_eq_getElem hi]; exact List.getElem_mem hi
  obtain ⟨h1, h2⟩ := K.hu _ gd
  exact root_sz h0 h1 h2
end Law
set_option Elab.async false
set_option linter.all false
set_option maxRecDepth 100000
set_option maxHeartbeats 4000000
namespace Law
open PySem PySem.Spec PyProof.Rows L2 Gh
variable {E : En} {s : Sx} {C fI fA : Addr}
theorem fsD_at4 {F : List Fo} (h : F.length = 5) : (fsD F).at 4 = some (fp (F.getD 4 (0, 0))) := by
  match F, h with
  | [a, b, c, d, e], _ => rfl
theorem at4_mem {F : List Fo} (h : F.length = 5) : F.getD 4 (0, 0) ∈ F := by
  match F, h with
  | [a, b, c, d, e], _ => simp
theorem Tl.at_ {t : Tl} (K : Mok t) {i : Nat} (hi : i < t.M.length) : ∃ c, (outH none true t.M)[i]? = some (.tup [iv (lowM t.M i) c (if i + 1 < t.M.length then some (lowM t.M (i + 1)) else none), fsD (t.M.getD i (0, [])).2]) := by
  have e : t.M[i]? = some (t.M.getD i (0, [])) := by rw [List.getD_eq_getElem?_getD, List.getElem?_eq_getElem hi]; rfl
  obtain ⟨c, h⟩ := out_at none t.M true i _ e
  refine ⟨c, ?_⟩
  rw [h]
  by_cases z : i + 1 < t.M.length
  · rw [if_pos z, List.getElem?_eq_getElem z]
    have e2 : (t.M.getD (i + 1) (0, [])) = t.M[i + 1] := by rw [List.getD_eq_getElem?_getD, List.getElem?_eq_getElem z]; rfl
    show _ = some (D.tup [iv (lowM t.M i) c (some (t.M.getD (i + 1) (0, [])).1), _])
    rw [e2]
  · rw [if_neg z, List.getElem?_eq_none (by omega)]
theorem zero_eqb (q : Rat) : (fr q).eqb (fr 0) = decide (q = 0) := fr_eqb q 0
theorem rn_fits_from (T : Tc E) (B : Bh E C fI fA) {t : Tl} (ok : t.Ok) (sm : t.Sm) {x : D} {hs : List D} (h : Th t hs) (hx : items x = some hs) : Rn E 10 "fits_from" [x] s (hD t.fits) s := by
  have K := Tl.mok sm
  have P := K.pw
  have R : RnL E 9 "in_rooms" [x] s (outH none true t.M) s := by
    have R := rn_in_rooms (s := s) T B ok sm h hx
    rw [(pieces_same sm).1] at R
    exact R
  have n0 := P.n0
  refine T.d_fits_from.rn sc_fits_from rfl rfl fun fa cdv A outer sh H0 EX S0 p hr => ?_
  conv => arg 2; whnf
  have hlen : (outH none true t.M).reverse.length = t.M.length := by rw [List.length_reverse, outH_len]
  refine bk_cons (bs_for PassesOwn.never rfl (ei_seq (El.ed (el_revL (ed_cl (ea_cons (ed_var 0 rfl (.inl rfl) rfl) ea_nil) (hr.mono (by decide)) R.rn))) (.inl rfl)) (fun i ρ s' => s' = s ∧ (0 < i → negF (frmM t.M (t.M.length - 1)) = false ∧ bwd (lowM t.M) (frmM t.M) t.M.length = bwd (lowM t.M) (frmM t.M) (t.M.length - i) ∧ (i < t.M.length → ¬ ev (frmM t.M (t.M.length - i)) (lowM t.M (t.M.length - i)) < 0)) ∧ ∃ g1 g2 g3 g4 g5 g6 g7, ρ = [.val x, g1, g2, g3, g4, g5, g6, g7]) ⟨rfl, fun z => absurd z (by omega), _, _, _, _, _, _, _, rfl⟩ ?_ ?_)
  · rintro i d ρ' s' hi ⟨rfl, inv, g1, g2, g3, g4, g5, g6, g7, rfl⟩
    have hin : i < t.M.length := by
      rw [← hlen]; exact (List.getElem?_eq_some_iff.mp hi).1
    obtain ⟨j, hj⟩ : ∃ j, t.M.length - i = j + 1 := ⟨t.M.length - i - 1, by omega⟩
    have hjn : j < t.M.length := by omega
    obtain ⟨c, hc⟩ := Tl.at_ K hjn
    have hd : d = .tup [iv (lowM t.M j) c (if j + 1 < t.M.length then some (lowM t.M (j + 1)) else none), fsD (t.M.getD j (0, [])).2] := by
      have hi2 : (outH none true t.M).reverse[i]? = (outH none true t.M)[j]? := by
        rw [List.getElem?_reverse (by rw [outH_len]; exact hin), outH_len]
        congr 1
        omega
      rw [hi2, hc] at hi
      exact (Option.some.inj hi).symm
    subst hd
    have gd : t.M.getD j (0, []) ∈ t.M := by rw [List.getD_eq_getElem?_getD, List.getElem?_eq_getElem hjn]; exact List.getElem_mem hjn
    obtain ⟨l0, zl, hF, zF⟩ := K.mem _ gd
    have at4 := fsD_at4 hF
    have zf : Zf 250 (frmM t.M j) := zF _ (at4_mem hF)
    have l0 : 0 ≤ lowM t.M j := l0
    have zl : Sz 33 (lowM t.M j) := zl
    have hz : Sz 1 (0 : Rat) := .zero
    generalize hf : frmM t.M j = f at *
    generalize hlo : lowM t.M j = lo at *
    have at4 : (fsD (t.M.getD j (0, [])).2).at 4 = some (fp f) := by rw [at4]; exact congrArg (fun z => some (fp z)) hf
    have zev : Sz 1000 (ev f lo) := (zf.a.add (zf.b.mul zl)).mono (by decide)
    refine ⟨_, _, eg_tup rfl (egs_cons (eg_tup rfl (egs_cons (eg_name 1 sc_fits_from.nd rfl (.inl rfl)) (egs_cons (eg_name 2 sc_fits_from.nd rfl (.inl rfl)) (egs_cons (eg_name 3 sc_fits_from.nd rfl (.inl rfl)) (egs_cons (eg_name 4 sc_fits_from.nd rfl (.inl rfl)) egs_nil))))) (egs_cons (eg_name 5 sc_fits_from.nd rfl (.inl rfl)) egs_nil)), ?_⟩
    refine bk_cons (bs_asg (d := .tup [fr f.1, fr f.2]) (ed_ix (ed_var 5 rfl (.inl rfl) rfl) ed_int at4) (eg_tup rfl (egs_cons (eg_name 6 sc_fits_from.nd rfl (.inl rfl)) (egs_cons (eg_name 7 sc_fits_from.nd rfl (.inl rfl)) egs_nil))) ?_)
    -- from here on: known that it is not negative in the end, and the slope if it begins below 0
    have tail : negF (frmM t.M (t.M.length - 1)) = false → (∀ k : GE, k.nx = (fun ρ s'_1 => s'_1 = s' ∧ (0 < i + 1 → negF (frmM t.M (t.M.length - 1)) = false ∧ bwd (lowM t.M) (frmM t.M) t.M.length = bwd (lowM t.M) (frmM t.M) (t.M.length - (i + 1)) ∧ (i + 1 < t.M.length → ¬ ev (frmM t.M (t.M.length - (i + 1))) (lowM t.M (t.M.length - (i + 1))) < 0)) ∧ ∃ g1 g2 g3 g4 g5 g6 g7, ρ = [.val x, g1, g2, g3, g4, g5, g6, g7]) → k.rt = (fun r t2 => r = hD t.fits ∧ t2 = s') → ∀ g2 g3 g4 : G, Bk (bodyF E ["told", "low", "is_in", "high", "is_last", "forms", "start", "slope"] "fits_from" t_fits_from s' fa cdv A outer sh H0 EX S0 p) ((forB ((defBody t_fits_from).getD 0 (.Pass ⟨0, 0, 0, 0⟩))).drop 2) [.val x, .val (fr lo), g2, g3, g4, .val (fsD (t.M.getD j (0, [])).2), .val (fr f.1), .val (fr f.2)] s' k) := fun hneg k hk hkr g2 g3 g4 => by
      have hb : bwd (lowM t.M) (frmM t.M) t.M.length = if ev f lo < 0 then root f else bwd (lowM t.M) (frmM t.M) j := by
        have e : bwd (lowM t.M) (frmM t.M) t.M.length = bwd (lowM t.M) (frmM t.M) (j + 1) := by
          rcases Nat.eq_zero_or_pos i with z | z
          · rw [show t.M.length = j + 1 by omega]
          · rw [(inv z).2.1, hj]
        rw [e]
        show (if ev (frmM t.M j) (lowM t.M j) < 0 then root (frmM t.M j) else bwd (lowM t.M) (frmM t.M) j) = _
        rw [hf, hlo]
      have hfit : t.fits = some (bwd (lowM t.M) (frmM t.M) t.M.length) := by unfold Tl.fits; rw [if_neg (by rw [hneg]; simp)]
      have t1 := (rn_is_less (s := s') T (a := ev f lo) (b := 0) (zev.mono (by decide)) .zero)
      by_cases hv : ev f lo < 0
      · have hs : 0 < f.2 := by
          rcases Nat.eq_zero_or_pos i with z | z
          · exact root_ne (by rw [← hf, show j = t.M.length - 1 by omega]; exact hneg) l0 hv
          · have h3 := (inv z).2.2 hin
            rw [hj] at h3
            have hu := P.up j (by omega)
            have a1 := P.mid j (by omega) _ (by grind) (Rat.le_refl (a := lowM t.M (j + 1)))
            have a2 := P.at_low (i := j + 1) (by omega)
            rw [hf] at a1
            rw [hlo] at hu
            exact slope_pos (b := lowM t.M (j + 1)) hv (by rw [← a1, a2]; grind) hu
        refine bk_cons (bs_ifT (et_val ((ed_cl (ea_cons (ed_cl (ea_cons (ed_ix (ed_var 5 rfl (.inl rfl) rfl) ed_int at4) (ea_cons (ed_var 1 rfl (.inl rfl) rfl) ea_nil)) (hr.mono (by decide)) (rn_worth_at T (zf.a.mono (by decide)) (zf.b.mono (by decide)) (zl.mono (by decide)))) (ea_cons (ed_cst T.c_ZERO) ea_nil)) (hr.mono (by decide)) t1).is (by rw [decide_eq_true hv]))) ?_)
        refine bk_cons (bs_ret (Ed.is (ed_cl (ea_cons (ed_cl (ea_cons (ed_cst T.c_ZERO) (ea_cons (ed_var 6 rfl (.inl rfl) rfl) ea_nil)) (hr.mono (by decide)) (rn_minus T.toTx .zero (zf.a.mono (by decide)))) (ea_cons (ed_var 7 rfl (.inl rfl) rfl) ea_nil)) (hr.mono (by decide)) (rn_over T ((hz.sub zf.a).mono (by decide)) (zf.b.mono (by decide)) (num_ne (by grind)))) (y := hD t.fits) ?_) ?_)
        · rw [hfit, hb, if_pos hv, hD_some, root_eq (by grind)]
        · rw [hkr]; exact ⟨rfl, rfl⟩
      · refine bk_cons (bs_ifF (et_val ((ed_cl (ea_cons (ed_cl (ea_cons (ed_ix (ed_var 5 rfl (.inl rfl) rfl) ed_int at4) (ea_cons (ed_var 1 rfl (.inl rfl) rfl) ea_nil)) (hr.mono (by decide)) (rn_worth_at T (zf.a.mono (by decide)) (zf.b.mono (by decide)) (zl.mono (by decide)))) (ea_cons (ed_cst T.c_ZERO) ea_nil)) (hr.mono (by decide)) t1).is (by rw [decide_eq_false hv]))) (bk_nil (bk_nil ?_)))
        rw [hk]
        refine ⟨rfl, fun _ => ⟨hneg, ?_, fun _ => ?_⟩, _, _, _, _, _, _, _, rfl⟩
        · rw [hb, if_neg hv, show t.M.length - (i + 1) = j by omega]
        · rw [show t.M.length - (i + 1) = j by omega, hf, hlo]; exact hv
    by_cases hlast : j + 1 < t.M.length
    · rw [if_pos hlast]
      refine bk_cons (bs_ifF (Ew.et (ew_andF (Cp.et ((cp_isN (ed_var 3 rfl (.inl rfl) rfl)).is rfl)))) (bk_nil ?_))
      exact tail (inv (by omega)).1 _ rfl rfl _ _ _
    · rw [if_neg hlast]
      have hj1 : j = t.M.length - 1 := by omega
      have hm : frmM t.M (t.M.length - 1) = f := by rw [← hj1, hf]
      refine bk_cons (bs_if (t := negF f) (Ew.et (ew_andT (Cp.et ((cp_isN (ed_var 3 rfl (.inl rfl) rfl)).is rfl)) (ew_and1 (Et.is (Ew.et (ew_or (et_val (ed_cl (ea_cons (ed_var 7 rfl (.inl rfl) rfl) (ea_cons (ed_cst T.c_ZERO) ea_nil)) (hr.mono (by decide)) (rn_is_less T (zf.b.mono (by decide)) .zero))) fun _ => (ew_or1 (Ew.et (ew_and (Cp.et (cp_eq hr (ed_var 7 rfl (.inl rfl) rfl) (ed_cst T.c_ZERO) (fr_eqC _) (fr_eqC _))) fun _ => (ew_and1 (et_val (ed_cl (ea_cons (ed_var 6 rfl (.inl rfl) rfl) (ea_cons (ed_cst T.c_ZERO) ea_nil)) (hr.mono (by decide)) (rn_is_less T (zf.a.mono (by decide)) .zero))))))))) (by rw [fr_eqb]; rfl))))) (fun hn => ?_) (fun hn => bk_nil ?_))
      · refine bk_cons (bs_ret ed_non ⟨?_, rfl⟩)
        unfold Tl.fits
        rw [hm, hn]; rfl
      · exact tail (by rw [hm]; exact hn) _ rfl rfl _ _ _
  · rintro ρ' s' ⟨rfl, inv, g1, g2, g3, g4, g5, g6, g7, rfl⟩
    obtain ⟨h1, h2, _⟩ := inv (by rw [hlen]; exact n0)
    rw [hlen, Nat.sub_self] at h2
    refine bk_cons (bs_ret ((ed_cst T.c_ZERO).is ?_) ⟨rfl, rfl⟩)
    unfold Tl.fits
    rw [if_neg (by rw [h1]; simp), h2]; rfl
end Law
set_option Elab.async false
set_option linter.all false
set_option maxRecDepth 100000
set_option maxHeartbeats 4000000
namespace Law
open PySem PySem.Spec PyProof.Rows L2 Gh
variable {E : En} {s : Sx} {C fI fA : Addr}
theorem num_lt (q : Rat) : decide (q.num < 0) = decide (q < 0) := by
  have h : (0 ≤ q.num) ↔ (0 ≤ q) := Rat.num_nonneg
  by_cases z : q < 0
  · rw [decide_eq_true z, decide_eq_true]
    have : ¬ 0 ≤ q := by grind
    have : ¬ 0 ≤ q.num := fun w => this (h.mp w)
    omega
  · rw [decide_eq_false z, decide_eq_false]
    have : 0 ≤ q.num := h.mpr (by grind)
    omega
theorem num_eq0 (q : Rat) : decide (q.num = 0) = decide (q = 0) := by
  have h := Rat.num_eq_zero (q := q)
  by_cases z : q = 0
  · rw [decide_eq_true z, decide_eq_true (h.mpr z)]
  · rw [decide_eq_false z, decide_eq_false (fun w => z (h.mp w))]
theorem Ew.is {F : Fx} {ρ : List G} {s s1 : Sx} {e : Expr} {x y : Bool} (h : Ew F ρ s e x s1) (z : x = y) : Ew F ρ s e y s1 := by rw [← z]; exact h
theorem fr0D : D.tup [.int 0, .int 1] = fr 0 := rfl
theorem rn_law_fits (T : Tc E) {t : Tl} (sm : t.Sm) : Rn E 8 "_law_fits" [.tup t.ds] s (hD t.fits) s := by
  have K := Tl.mok sm
  have P := K.pw
  have n0 := P.n0
  have R := rn_law_pieces (s := s) T sm
  have hlen : (outH none true t.M).length = t.M.length := by rw [outH_len]
  refine T.d__law_fits.rn sc__law_fits rfl rfl fun fa cdv A outer sh H0 EX S0 p hr => ?_
  conv => arg 2; whnf
  refine bk_cons (bs_par 1 2 (d1 := fr 0) (d2 := .lst (outH none true t.M)) rfl sc__law_fits.nd rfl rfl (by decide) rfl rfl (ea_cons (ed_tup (ea_cons ed_int (ea_cons ed_int ea_nil))) (ea_cons (ed_cl (ea_cons (ed_var 0 rfl (.inl rfl) rfl) ea_nil) (hr.mono (by decide)) R) ea_nil)) ?_)
  refine bk_cons (bs_for PassesOwn.never rfl (ei_seq (ed_var 2 rfl (.inl rfl) rfl) (.inl rfl)) (fun i ρ s' => s' = s ∧ i < t.M.length ∧ ∃ g3 g4 g5 g6 g7 g8 g9 g10 g11, ρ = [.val (.tup t.ds), .val (fr (fwd (lowM t.M) (frmM t.M) i)), .val (.lst (outH none true t.M)), g3, g4, g5, g6, g7, g8, g9, g10, g11]) ⟨rfl, n0, _, _, _, _, _, _, _, _, _, rfl⟩ ?_ ?_)
  · rintro i d ρ' s' hi ⟨rfl, hin, g3, g4, g5, g6, g7, g8, g9, g10, g11, rfl⟩
    obtain ⟨c, hc⟩ := Tl.at_ K hin
    rw [hc] at hi
    cases hi
    have gd : t.M.getD i (0, []) ∈ t.M := by rw [List.getD_eq_getElem?_getD, List.getElem?_eq_getElem hin]; exact List.getElem_mem hin
    obtain ⟨l0, zl, hF, zF⟩ := K.mem _ gd
    have at4 := fsD_at4 hF
    have zf : Zf 250 (frmM t.M i) := zF _ (at4_mem hF)
    have l0 : 0 ≤ lowM t.M i := l0
    have zl : Sz 33 (lowM t.M i) := zl
    have hz : Sz 1 (0 : Rat) := .zero
    have hfw : fwd (lowM t.M) (frmM t.M) (i + 1) = if ev (frmM t.M i) (lowM t.M (i + 1)) < 0 then lowM t.M (i + 1) else if ev (frmM t.M i) (lowM t.M i) < 0 then root (frmM t.M i) else fwd (lowM t.M) (frmM t.M) i := rfl
    have hbw : bwd (lowM t.M) (frmM t.M) (i + 1) = if ev (frmM t.M i) (lowM t.M i) < 0 then root (frmM t.M i) else bwd (lowM t.M) (frmM t.M) i := rfl
    have hfb := fwd_bwd P i hin
    have hup := P.up i
    have hli : ∀ z : i + 1 < t.M.length, Sz 33 (lowM t.M (i + 1)) := fun z => (K.mem (t.M.getD (i + 1) (0, [])) (by rw [List.getD_eq_getElem?_getD, List.getElem?_eq_getElem z]; exact List.getElem_mem z)).2.1
    have hfit : i + 1 = t.M.length → t.fits = if negF (frmM t.M i) then none else some (bwd (lowM t.M) (frmM t.M) (i + 1)) := fun z => by
      unfold Tl.fits
      rw [← z]; rfl
    have at4 : (fsD (t.M.getD i (0, [])).2).at 4 = some (fp (frmM t.M i)) := at4
    generalize frmM t.M i = f at *
    generalize lowM t.M i = lo at *
    generalize lowM t.M (i + 1) = hi at *
    refine ⟨_, _, eg_tup rfl (egs_cons (eg_tup rfl (egs_cons (eg_name 3 sc__law_fits.nd rfl (.inl rfl)) (egs_cons (eg_name 4 sc__law_fits.nd rfl (.inl rfl)) (egs_cons (eg_name 5 sc__law_fits.nd rfl (.inl rfl)) (egs_cons (eg_name 6 sc__law_fits.nd rfl (.inl rfl)) egs_nil))))) (egs_cons (eg_name 7 sc__law_fits.nd rfl (.inl rfl)) egs_nil)), ?_⟩
    refine bk_cons (bs_asg (d := .tup [fr f.1, fr f.2]) (ed_ix (ed_var 7 rfl (.inl rfl) rfl) ed_int at4) (eg_tup rfl (egs_cons (eg_name 8 sc__law_fits.nd rfl (.inl rfl)) (egs_cons (eg_name 9 sc__law_fits.nd rfl (.inl rfl)) egs_nil))) ?_)
    refine bk_cons (bs_set 10 (d := fr (ev f lo)) (s1 := s') sc__law_fits.nd rfl (.inl rfl) (ed_cl (ea_cons (ed_var 8 rfl (.inl rfl) rfl) (ea_cons (ed_cl (ea_cons (ed_var 9 rfl (.inl rfl) rfl) (ea_cons (ed_var 3 rfl (.inl rfl) rfl) ea_nil)) (hr.mono (by decide)) (rn_law_times T (zf.b.mono (by decide)) (zl.mono (by decide)))) ea_nil)) (hr.mono (by decide)) (rn_law_plus T (zf.a.mono (by decide)) ((zf.b.mul zl).mono (by decide)))) ?_)
    by_cases hlast : i + 1 < t.M.length
    · rw [if_pos hlast]
      have zh := hli hlast
      refine bk_cons (bs_ifF (Cp.et ((cp_isN (ed_var 5 rfl (.inl rfl) rfl)).is rfl)) (bk_nil ?_))
      refine bk_cons (bs_set 11 (d := fr (ev f hi)) (s1 := s') sc__law_fits.nd rfl (.inl rfl) (ed_cl (ea_cons (ed_var 8 rfl (.inl rfl) rfl) (ea_cons (ed_cl (ea_cons (ed_var 9 rfl (.inl rfl) rfl) (ea_cons (ed_var (d := fr hi) 5 rfl (.inl rfl) rfl) ea_nil)) (hr.mono (by decide)) (rn_law_times T (zf.b.mono (by decide)) (zh.mono (by decide)))) ea_nil)) (hr.mono (by decide)) (rn_law_plus T (zf.a.mono (by decide)) ((zf.b.mul zh).mono (by decide)))) ?_)
      by_cases h1 : ev f hi < 0
      · refine bk_cons (bs_ifT (Cp.et (Cp.is (cp_lt (ed_ix (ed_var (d := fr (ev f hi)) 11 rfl (.inl rfl) rfl) ed_int rfl) ed_int) ((num_lt _).trans (decide_eq_true h1)))) ?_)
        refine bk_cons (bs_set 1 (d := fr hi) (s1 := s') sc__law_fits.nd rfl (.inl rfl) (ed_var 5 rfl (.inl rfl) rfl) (bk_nil (bk_nil ⟨rfl, hlast, _, _, _, _, _, _, _, _, _, by rw [hfw, if_pos h1]; rfl⟩)))
      · refine bk_cons (bs_ifF (Cp.et (Cp.is (cp_lt (ed_ix (ed_var (d := fr (ev f hi)) 11 rfl (.inl rfl) rfl) ed_int rfl) ed_int) ((num_lt _).trans (decide_eq_false h1)))) ?_)
        by_cases h2 : ev f lo < 0
        · have hs : 0 < f.2 := slope_pos h2 (by grind) (hup hlast)
          refine bk_cons (bs_ifT (Cp.et (Cp.is (cp_lt (ed_ix (ed_var (d := fr (ev f lo)) 10 rfl (.inl rfl) rfl) ed_int rfl) ed_int) ((num_lt _).trans (decide_eq_true h2)))) ?_)
          refine bk_cons (bs_set 1 (d := fr (root f)) (s1 := s') sc__law_fits.nd rfl (.inl rfl) (ed_cl (ea_cons (ed_cl (ea_cons (ed_tup (ea_cons ed_int (ea_cons ed_int ea_nil))) (ea_cons (ed_var 8 rfl (.inl rfl) rfl) ea_nil)) (hr.mono (by decide)) (rn_law_minus (a := 0) T .zero (zf.a.mono (by decide)))) (ea_cons (ed_var 9 rfl (.inl rfl) rfl) ea_nil)) (hr.mono (by decide)) (rn_law_over T ((hz.sub zf.a).mono (by decide)) (zf.b.mono (by decide)) (num_ne (by grind)))) (bk_nil (bk_nil (bk_nil ⟨rfl, hlast, _, _, _, _, _, _, _, _, _, by rw [hfw, if_neg h1, if_pos h2]; rfl⟩))))
        · refine bk_cons (bs_ifF (Cp.et (Cp.is (cp_lt (ed_ix (ed_var (d := fr (ev f lo)) 10 rfl (.inl rfl) rfl) ed_int rfl) ed_int) ((num_lt _).trans (decide_eq_false h2)))) (bk_nil (bk_nil (bk_nil ⟨rfl, hlast, _, _, _, _, _, _, _, _, _, by rw [hfw, if_neg h1, if_neg h2]; rfl⟩))))
    · rw [if_neg hlast]
      have hfit := hfit (by omega)
      refine bk_cons (bs_ifT (Cp.et ((cp_isN (ed_var 5 rfl (.inl rfl) rfl)).is rfl)) ?_)
      refine bk_cons (bs_if (t := negF f) (Ew.et (Law.Ew.is (ew_or (Cp.et (cp_lt (ed_ix (ed_var (d := fr f.2) 9 rfl (.inl rfl) rfl) ed_int rfl) ed_int)) fun _ => (ew_or1 (Ew.et (ew_and (Cp.et (cp_eq hr (ed_ix (ed_var (d := fr f.2) 9 rfl (.inl rfl) rfl) ed_int rfl) ed_int (eqC_int _) (eqC_int _))) fun _ => (ew_and1 (Cp.et (cp_lt (ed_ix (ed_var (d := fr f.1) 8 rfl (.inl rfl) rfl) ed_int rfl) ed_int))))))) (by rw [num_lt, num_lt, eqb_int, num_eq0]; rfl))) (fun hn => ?_) (fun hn => bk_nil ?_))
      · refine bk_cons (bs_ret ed_non ⟨?_, rfl⟩)
        rw [hfit, hn]; rfl
      · rw [hn] at hfit
        by_cases h2 : ev f lo < 0
        · have hs := root_ne hn l0 h2
          refine bk_cons (bs_ret (Ed.is (ed_ifT (Cp.et (Cp.is (cp_lt (ed_ix (ed_var (d := fr (ev f lo)) 10 rfl (.inl rfl) rfl) ed_int rfl) ed_int) ((num_lt _).trans (decide_eq_true h2)))) (ed_cl (ea_cons (ed_cl (ea_cons (ed_tup (ea_cons ed_int (ea_cons ed_int ea_nil))) (ea_cons (ed_var 8 rfl (.inl rfl) rfl) ea_nil)) (hr.mono (by decide)) (rn_law_minus (a := 0) T .zero (zf.a.mono (by decide)))) (ea_cons (ed_var 9 rfl (.inl rfl) rfl) ea_nil)) (hr.mono (by decide)) (rn_law_over T ((hz.sub zf.a).mono (by decide)) (zf.b.mono (by decide)) (num_ne (by grind))))) (y := hD t.fits) ?_) ⟨rfl, rfl⟩)
          rw [hfit, hbw, if_pos h2]; rfl
        · refine bk_cons (bs_ret (Ed.is (ed_ifF (Cp.et (Cp.is (cp_lt (ed_ix (ed_var (d := fr (ev f lo)) 10 rfl (.inl rfl) rfl) ed_int rfl) ed_int) ((num_lt _).trans (decide_eq_false h2)))) (ed_var 1 rfl (.inl rfl) rfl)) (y := hD t.fits) ?_) ⟨rfl, rfl⟩)
          rw [hfit, hbw, if_neg h2, hfb h2]; rfl
  · rintro ρ' s' ⟨rfl, hin, _⟩
    rw [hlen] at hin
    exact absurd hin (by omega)
end Law
set_option Elab.async false
set_option linter.all false
set_option maxRecDepth 100000
set_option maxHeartbeats 4000000
namespace Law
open PySem PySem.Spec PyProof.Rows L2 Gh
variable {E : En} {s : Sx} {C fI fA : Addr}
theorem out_hd (b : Bool) (p : Pc) (M : List Pc) : outH none b (p :: M) = .tup [iv p.1 b (hiO M), fsD p.2] :: outH none false M := by
  cases M with
  | nil => rfl
  | cons q M => rw [outH]; rfl
theorem hD_eqb (h : Option Rat) (e : Rat) : (hD h).eqb (fr e) = decide (h = some e) := by
  cases h with
  | none => rfl
  | some a =>
    show (fr a).eqb (fr e) = _
    rw [fr_eqb]
    by_cases z : a = e
    · rw [decide_eq_true z, decide_eq_true (by rw [z])]
    · rw [decide_eq_false z, decide_eq_false (fun w => z (Option.some.inj w))]
theorem out_eqb_nil (b : Bool) (M : List Pc) : (D.lst (outH none b M)).eqb (.lst []) = decide (M = []) := by
  rw [nil_eqb]
  cases M with
  | nil => rfl
  | cons p M => rw [out_hd]; rfl
theorem at0_cons (x : D) (xs : List D) : (D.lst (x :: xs)).at 0 = some x := by
  show atI (x :: xs) ((0 : Nat) : Int) = _
  unfold atI
  rw [ixN_nat (by simp)]; rfl
def nxtD (b : Bool) (a : Pc) (M : List Pc) (e : Rat) : D := if hiO M = some e then .lst (outH none false M) else .lst (outH none b (a :: M))
theorem nxtD_of {b : Bool} {a : Pc} {M : List Pc} {e : Rat} {a' : Pc} {M' : List Pc} (h : (if hiO M = some e then M else a :: M) = a' :: M') : ∃ b', nxtD b a M e = .lst (outH none b' (a' :: M')) := by
  unfold nxtD
  split at h
  · rename_i z; rw [if_pos z, h]; exact ⟨false, rfl⟩
  · rename_i z; rw [if_neg z, h]; exact ⟨b, rfl⟩
theorem nxt_cut (b : Bool) (a : Pc) (M : List Pc) : cutD (outH none b (a :: M)) (some 1) none = outH none false M := by
  rw [out_hd]
  exact cut_from _ 1 (by simp)
def nnD (d : D) : D := (d.at 2).getD .non
theorem iv_at2 (l : Rat) (b : Bool) (h : Option Rat) : (iv l b h).at 2 = some (hD h) := rfl
theorem frs_eqb_nil (qs : List Rat) : (D.lst (qs.map fr)).eqb (.lst []) = decide (qs = []) := by
  rw [nil_eqb]
  cases qs <;> rfl
theorem frl_eqC (qs : List Rat) : (D.lst (qs.map fr)).eqC := ((eqDs.of (n := 1) fun x m => by
  obtain ⟨f, _, rfl⟩ := List.mem_map.mp m
  exact .fr _).lst).eqC
/-- the ends that are told -/
def endL (a b : Option Rat) : List Rat := a.toList ++ b.toList
theorem endL_ok (l m : Rat) (b c : Bool) (h k : Option Rat) : (([iv l b h, iv m c k].filter fun d => !(nnD d).isNon).map nnD) = (endL h k).map fr := by
  cases h <;> cases k <;> rfl
theorem endL_nil (a b : Option Rat) : decide (endL a b = []) = (endO a b).isNone := by
  cases a <;> cases b <;> rfl
theorem endL_least {a b : Option Rat} {e : Rat} (h : endO a b = some e) : ∃ q qs, endL a b = q :: qs ∧ leastQ q qs = e := by
  cases a with
  | none =>
    cases b with
    | none => cases h
    | some b => cases h; exact ⟨_, [], rfl, rfl⟩
  | some a =>
    cases b with
    | none => cases h; exact ⟨_, [], rfl, rfl⟩
    | some b => exact ⟨a, [b], rfl, Option.some.inj h⟩
theorem hiO_mem {M : List Pc} {h : Rat} (e : hiO M = some h) : ∃ p ∈ M, p.1 = h := by
  cases M with
  | nil => cases e
  | cons p M => exact ⟨p, List.mem_cons_self, Option.some.inj e⟩
def Tl.part (t u : Tl) : Option Rat := par (t.M.length + u.M.length) t.M u.M 0
theorem rn_parted_from (T : Tc E) (B : Bh E C fI fA) {t u : Tl} (okt : t.Ok) (smt : t.Sm) (oku : u.Ok) (smu : u.Sm) {x y : D} {hs ks : List D} (hx : Th t hs) (ix : items x = some hs) (hy : Th u ks) (iy : items y = some ks) : Rn E 10 "parted_from" [x, y] s (hD (t.part u)) s := by
  have K := Tl.mok smt
  have L := Tl.mok smu
  have R1 : RnL E 9 "in_rooms" [x] s (outH none true t.M) s := by
    have R := rn_in_rooms (s := s) T B okt smt hx ix
    rw [(pieces_same smt).1] at R
    exact R
  have R2 : RnL E 9 "in_rooms" [y] s (outH none true u.M) s := by
    have R := rn_in_rooms (s := s) T B oku smu hy iy
    rw [(pieces_same smu).1] at R
    exact R
  refine T.d_parted_from.rn sc_parted_from rfl rfl fun fa cdv A outer sh H0 EX S0 p hr => ?_
  conv => arg 2; whnf
  refine bk_cons (bs_par3 2 3 4 rfl sc_parted_from.nd rfl rfl rfl (by decide) (by decide) (by decide) rfl rfl rfl (ea_cons (ed_cl (ea_cons (ed_var 0 rfl (.inl rfl) rfl) ea_nil) (hr.mono (by decide)) R1.rn) (ea_cons (ed_cl (ea_cons (ed_var 1 rfl (.inl rfl) rfl) ea_nil) (hr.mono (by decide)) R2.rn) (ea_cons (ed_cst T.c_ZERO) ea_nil))) ?_)
  obtain ⟨F1, P1, e1⟩ := K.hd
  obtain ⟨F2, P2, e2⟩ := L.hd
  have on1 : ∀ {t : Tl} {F : List Fo} {P : List Pc}, Mok t → t.M = (0, F) :: P → On (fv t) 0 (0, F) P := fun {t F P} K e => by
    have hr := K.rep
    rw [e] at hr
    refine ⟨hr, Rat.le_refl, fun h z => ?_⟩
    cases P with
    | nil => cases z
    | cons q P => cases z; exact hr.1
  have fewK := K.few
  have fewL := L.few
  refine bk_cons (bs_while PassesOwn.never (fun ρ s' => s' = s ∧ ∃ (a : Pc) (M : List Pc) (b : Pc) (N : List Pc) (low : Rat) (b1 b2 : Bool) (n : Nat) (g5 g6 g7 g8 g9 g10 : G), ρ = [.val x, .val y, .val (.lst (outH none b1 (a :: M))), .val (.lst (outH none b2 (b :: N))), .val (fr low), g5, g6, g7, g8, g9, g10] ∧ M.length + N.length < n ∧ n ≤ 100 ∧ M.length ≤ 50 ∧ N.length ≤ 50 ∧ 0 ≤ low ∧ On (fv t) low a M ∧ On (fv u) low b N ∧ (∀ q ∈ M, Sz 33 q.1) ∧ (∀ q ∈ N, Sz 33 q.1) ∧ par n (a :: M) (b :: N) low = t.part u)
    (fun ρ _ => match ρ with | [_, _, .val (.lst a), .val (.lst b), _, _, _, _, _, _, _] => a.length + b.length | _ => 0) ⟨rfl, (0, F1), P1, (0, F2), P2, 0, true, true, t.M.length + u.M.length, _, _, _, _, _, _, by rw [e1, e2]; rfl, by rw [e1, e2]; simp; omega, by omega, by rw [e1] at fewK; simp at fewK; omega, by rw [e2] at fewL; simp at fewL; omega, Rat.le_refl, on1 K e1, on1 L e2, fun q m => (K.mem q (by rw [e1]; exact List.mem_cons_of_mem _ m)).2.1, fun q m => (L.mem q (by rw [e2]; exact List.mem_cons_of_mem _ m)).2.1, by unfold Tl.part; rw [← e1, ← e2]⟩ ?_)
  rintro ρ s' ⟨rfl, a, M, b, N, low, b1, b2, n, g5, g6, g7, g8, g9, g10, rfl, hn, hn1, hM, hN, h0, o1, o2, z1, z2, hX⟩
  obtain ⟨n, rfl⟩ : ∃ m, n = m + 1 := ⟨n - 1, by omega⟩
  refine ⟨true, _, Ew.et (ew_andT (Cp.et (Cp.is (cp_ne hr (ed_var 2 rfl (.inl rfl) rfl) (El.ed (el_lst ea_nil)) (out_eqC _ _ _) (eqDs.nil (n := 1)).lst.eqC) (by rw [out_eqb_nil]; rfl))) (ew_and1 (Cp.et (Cp.is (cp_ne hr (ed_var 3 rfl (.inl rfl) rfl) (El.ed (el_lst ea_nil)) (out_eqC _ _ _) (eqDs.nil (n := 1)).lst.eqC) (by rw [out_eqb_nil]; rfl))))), fun _ => ?_, fun h => nomatch h⟩
  have hX : (if a.2 ≠ b.2 then some low else match endO (hiO M) (hiO N) with
    | none => none
    | some e => par n (if hiO M = some e then M else a :: M) (if hiO N = some e then N else b :: N) e) = t.part u := hX
  have a1 : (D.lst (outH none b1 (a :: M))).at 0 = some (.tup [iv a.1 b1 (hiO M), fsD a.2]) := by rw [out_hd]; exact at0_cons _ _
  have a2 : (D.lst (outH none b2 (b :: N))).at 0 = some (.tup [iv b.1 b2 (hiO N), fsD b.2]) := by rw [out_hd]; exact at0_cons _ _
  refine bk_cons (bs_asg (d := .tup [.tup [iv a.1 b1 (hiO M), fsD a.2], .tup [iv b.1 b2 (hiO N), fsD b.2]]) (ed_tup (ea_cons (ed_ix (ed_var 2 rfl (.inl rfl) rfl) ed_int a1) (ea_cons (ed_ix (ed_var 3 rfl (.inl rfl) rfl) ed_int a2) ea_nil))) (eg_tup rfl (egs_cons (eg_tup rfl (egs_cons (eg_name 5 sc_parted_from.nd rfl (.inl rfl)) (egs_cons (eg_name 6 sc_parted_from.nd rfl (.inl rfl)) egs_nil))) (egs_cons (eg_tup rfl (egs_cons (eg_name 7 sc_parted_from.nd rfl (.inl rfl)) (egs_cons (eg_name 8 sc_parted_from.nd rfl (.inl rfl)) egs_nil))) egs_nil))) ?_)
  by_cases hne : a.2 = b.2
  · rw [if_neg (by simpa using hne)] at hX
    refine bk_cons (bs_ifF (Cp.et (Cp.is (cp_ne hr (ed_var 6 rfl (.inl rfl) rfl) (ed_var 8 rfl (.inl rfl) rfl) (fsD_eqD _).eqC (fsD_eqD _).eqC) (by rw [fsD_eqb, decide_eq_true hne]; rfl))) (bk_nil ?_))
    refine bk_cons (bs_setLc 9 [("stretch", 10)] rfl sc_parted_from.nd rfl rfl rfl (items := [iv a.1 b1 (hiO M), iv b.1 b2 (hiO N)]) (st := fun _ => s') (ei_seq (ed_tup (ea_cons (ed_var 5 rfl (.inl rfl) rfl) (ea_cons (ed_var 7 rfl (.inl rfl) rfl) ea_nil))) (.inr rfl)) (blkOk_by rfl) (Comp.filter nnD (fun d => !(nnD d).isNon) (by show 2 ≤ sizeLine; decide) (fun i d hi => ?_)) ?_)
    · obtain ⟨l, c, h, rfl⟩ : ∃ l c h, d = iv l c h := by
        match i, hi with
        | 0, hi => cases hi; exact ⟨_, _, _, rfl⟩
        | 1, hi => cases hi; exact ⟨_, _, _, rfl⟩
      exact ⟨_, _, fun c => eg_name 10 sc_parted_from.nd rfl (.inl rfl), by decide, fun c => Cp.et (cp_notN (ed_ix (ed_var 10 rfl (.inl rfl) rfl) ed_int (iv_at2 _ _ _))), fun _ c => ed_ix (ed_var 10 rfl (.inl rfl) rfl) ed_int (iv_at2 _ _ _)⟩
    refine bk_freeze 9 (xs := (endL (hiO M) (hiO N)).map fr) (congrArg (fun z => some (G.own z)) (endL_ok _ _ _ _ _ _)) ?_
    cases he : endO (hiO M) (hiO N) with
    | none =>
      rw [he] at hX
      have en : endL (hiO M) (hiO N) = [] := of_decide_eq_true (by rw [endL_nil, he]; rfl)
      rw [en]
      refine bk_cons (bs_set 4 (d := fr low) (s1 := s') sc_parted_from.nd rfl (.inl rfl) (ed_ifF (Cp.et (Cp.is (cp_ne hr (ed_var (d := .lst (([] : List Rat).map fr)) 9 rfl (.inl rfl) rfl) (El.ed (el_lst ea_nil)) ((eqDs.nil (n := 1)).lst.eqC) ((eqDs.nil (n := 1)).lst.eqC)) (by rw [frs_eqb_nil]; rfl))) (ed_var 4 rfl (.inl rfl) rfl)) ?_)
      obtain ⟨n1, n2⟩ := endO_none he
      refine bk_cons (bs_set 2 (d := .lst (outH none b1 (a :: M))) (s1 := s') sc_parted_from.nd rfl (.inl rfl) (ed_ifF (Cp.et (Cp.is (cp_eq hr (ed_ix (ed_var 5 rfl (.inl rfl) rfl) ed_int (iv_at2 _ _ _)) (ed_var (d := fr low) 4 rfl (.inl rfl) rfl) (hD_eqD _).eqC (fr_eqC _)) (by rw [hD_eqb, n1]; rfl))) (ed_var 2 rfl (.inl rfl) rfl)) ?_)
      refine bk_cons (bs_set 3 (d := .lst (outH none b2 (b :: N))) (s1 := s') sc_parted_from.nd rfl (.inl rfl) (ed_ifF (Cp.et (Cp.is (cp_eq hr (ed_ix (ed_var 7 rfl (.inl rfl) rfl) ed_int (iv_at2 _ _ _)) (ed_var (d := fr low) 4 rfl (.inl rfl) rfl) (hD_eqD _).eqC (fr_eqC _)) (by rw [hD_eqb, n2]; rfl))) (ed_var 3 rfl (.inl rfl) rfl)) ?_)
      refine bk_cons (bs_ifT (Cp.et (Cp.is (cp_eq hr (ed_var (d := .lst (([] : List Rat).map fr)) 9 rfl (.inl rfl) rfl) (El.ed (el_lst ea_nil)) ((eqDs.nil (n := 1)).lst.eqC) ((eqDs.nil (n := 1)).lst.eqC)) (by rw [frs_eqb_nil]; rfl))) ?_)
      refine bk_cons (bs_ret (Ed.is ed_non (y := hD (t.part u)) ?_) ⟨rfl, rfl⟩)
      rw [← hX]; rfl
    | some e =>
      rw [he] at hX
      obtain ⟨w1, w2, w3⟩ := endO_some he
      obtain ⟨q, qs, eq1, eq2⟩ := endL_least he
      have hle : low ≤ e := by
        rcases w3 with z | z
        · have := o1.hi e z; grind
        · have := o2.hi e z; grind
      obtain ⟨a', M', i1, i2, i3, i4⟩ := o1.next (e := e) hle w1
      obtain ⟨b', N', j1, j2, j3, j4⟩ := o2.next (e := e) hle w2
      obtain ⟨c1, hc1⟩ := nxtD_of (b := b1) i1
      obtain ⟨c2, hc2⟩ := nxtD_of (b := b2) j1
      have hX : par n (if hiO M = some e then M else a :: M) (if hiO N = some e then N else b :: N) e = t.part u := hX
      rw [i1, j1] at hX
      have zs : ∀ c ∈ q :: qs, Sz 3000 c := fun c m => by
        rw [← eq1] at m
        have key : ∀ {L : List Pc}, (∀ q ∈ L, Sz 33 q.1) → c ∈ (hiO L).toList → Sz 3000 c := fun {L} hL m => by
          cases e : hiO L with
          | none => rw [e] at m; cases m
          | some k =>
            rw [e] at m
            rw [List.mem_singleton.mp m]
            obtain ⟨p, pm, rfl⟩ := hiO_mem e
            exact (hL p pm).mono (by decide)
        rcases List.mem_append.mp m with m | m
        · exact key z1 m
        · exact key z2 m
      have RL : Rn E 2 "least_of" [.lst ((q :: qs).map fr)] s' (fr e) s' := by rw [← eq2]; exact rn_least_of T zs
      have sub1 : ∀ q ∈ M', Sz 33 q.1 := fun q m => by
        split at i1
        · exact z1 q (by rw [i1]; exact List.mem_cons_of_mem _ m)
        · cases i1; exact z1 q m
      have sub2 : ∀ q ∈ N', Sz 33 q.1 := fun q m => by
        split at j1
        · exact z2 q (by rw [j1]; exact List.mem_cons_of_mem _ m)
        · cases j1; exact z2 q m
      have en : endL (hiO M) (hiO N) ≠ [] := by rw [eq1]; simp
      have hne1 : decide (endL (hiO M) (hiO N) = []) = false := decide_eq_false en
      refine bk_cons (bs_set 4 (d := fr e) (s1 := s') sc_parted_from.nd rfl (.inl rfl) (ed_ifT (Cp.et (Cp.is (cp_ne hr (ed_var (d := .lst ((endL (hiO M) (hiO N)).map fr)) 9 rfl (.inl rfl) rfl) (El.ed (el_lst ea_nil)) (frl_eqC _) ((eqDs.nil (n := 1)).lst.eqC)) (by rw [frs_eqb_nil, hne1]; rfl))) (ed_cl (ea_cons (ed_var (d := .lst ((q :: qs).map fr)) 9 rfl (.inl rfl) (by rw [← eq1]; rfl)) ea_nil) (hr.mono (by decide)) RL)) ?_)
      refine bk_cons (bs_set 2 (d := .lst (outH none c1 (a' :: M'))) (s1 := s') sc_parted_from.nd rfl (.inl rfl) (Ed.is (ed_if (Cp.et (Cp.is (cp_eq hr (ed_ix (ed_var 5 rfl (.inl rfl) rfl) ed_int (iv_at2 _ _ _)) (ed_var (d := fr e) 4 rfl (.inl rfl) rfl) (hD_eqD _).eqC (fr_eqC _)) (hD_eqb _ _))) (fun z => Ed.is (El.ed (el_slice (ed_var 2 rfl (.inl rfl) rfl) (.some ed_int) .none)) (y := nxtD b1 a M e) (by unfold nxtD; rw [if_pos (of_decide_eq_true z), nxt_cut])) (fun z => Ed.is (ed_var 2 rfl (.inl rfl) rfl) (y := nxtD b1 a M e) (by unfold nxtD; rw [if_neg (of_decide_eq_false z)]))) ((ite_self _).trans hc1)) ?_)
      refine bk_cons (bs_set 3 (d := .lst (outH none c2 (b' :: N'))) (s1 := s') sc_parted_from.nd rfl (.inl rfl) (Ed.is (ed_if (Cp.et (Cp.is (cp_eq hr (ed_ix (ed_var 7 rfl (.inl rfl) rfl) ed_int (iv_at2 _ _ _)) (ed_var (d := fr e) 4 rfl (.inl rfl) rfl) (hD_eqD _).eqC (fr_eqC _)) (hD_eqb _ _))) (fun z => Ed.is (El.ed (el_slice (ed_var 3 rfl (.inl rfl) rfl) (.some ed_int) .none)) (y := nxtD b2 b N e) (by unfold nxtD; rw [if_pos (of_decide_eq_true z), nxt_cut])) (fun z => Ed.is (ed_var 3 rfl (.inl rfl) rfl) (y := nxtD b2 b N e) (by unfold nxtD; rw [if_neg (of_decide_eq_false z)]))) ((ite_self _).trans hc2)) ?_)
      refine bk_cons (bs_ifF (Cp.et (Cp.is (cp_eq hr (ed_var (d := .lst ((endL (hiO M) (hiO N)).map fr)) 9 rfl (.inl rfl) rfl) (El.ed (el_lst ea_nil)) (frl_eqC _) ((eqDs.nil (n := 1)).lst.eqC)) (by rw [frs_eqb_nil, hne1]))) (bk_nil (bk_nil ⟨⟨rfl, a', M', b', N', e, c1, c2, n, _, _, _, _, _, _, rfl, ?_, by omega, by omega, by omega, by grind, i2, j2, sub1, sub2, hX⟩, ?_⟩)))
      · rcases w3 with z | z
        · have := i4 z; omega
        · have := j4 z; omega
      · show (outH none c1 (a' :: M')).length + (outH none c2 (b' :: N')).length < (outH none b1 (a :: M)).length + (outH none b2 (b :: N)).length
        rw [outH_len, outH_len, outH_len, outH_len]
        simp only [List.length_cons]
        rcases w3 with z | z
        · have := i4 z; omega
        · have := j4 z; omega
  · rw [if_pos hne] at hX
    refine bk_cons (bs_ifT (Cp.et (Cp.is (cp_ne hr (ed_var 6 rfl (.inl rfl) rfl) (ed_var 8 rfl (.inl rfl) rfl) (fsD_eqD _).eqC (fsD_eqD _).eqC) (by rw [fsD_eqb, decide_eq_false hne]; rfl))) ?_)
    refine bk_cons (bs_ret (Ed.is (ed_var 4 rfl (.inl rfl) rfl) (y := hD (t.part u)) ?_) ⟨rfl, rfl⟩)
    rw [← hX]; rfl
end Law
set_option Elab.async false
set_option linter.all false
set_option maxRecDepth 100000
set_option maxHeartbeats 4000000
namespace Law
open PySem PySem.Spec PyProof.Rows L2 Gh
variable {E : En} {s : Sx} {C fI fA : Addr}
theorem on_start {t : Tl} (K : Mok t) : ∃ F P, t.M = (0, F) :: P ∧ On (fv t) 0 (0, F) P := by
  obtain ⟨F, P, e⟩ := K.hd
  have hr := K.rep
  rw [e] at hr
  refine ⟨F, P, e, hr, Rat.le_refl, fun h z => ?_⟩
  cases P with
  | nil => cases z
  | cons q P => cases z; exact hr.1
theorem part_spec {t u : Tl} (K : Mok t) (L : Mok u) : Part (fv t) (fv u) (t.part u) := by
  obtain ⟨F, P, e, o⟩ := on_start K
  obtain ⟨G, Q, d, w⟩ := on_start L
  have h := par_ok (g1 := fv t) (g2 := fv u) (t.M.length + u.M.length) (0, F) (0, G) P Q 0 (by rw [e, d]; simp; omega) Rat.le_refl o w fun z => absurd z (by grind)
  unfold Tl.part
  rw [e, d] at h ⊢
  exact h
theorem frs_eqD (qs : List Rat) : eqD 2 (.tup (qs.map fr)) := (eqDs.of (n := 1) fun x m => by
  obtain ⟨f, _, rfl⟩ := List.mem_map.mp m
  exact .fr _).tup
def lowsM (t u : Tl) : List Rat := t.M.map (·.1) ++ u.M.map (·.1)
def crnM (t u : Tl) : List Rat := sortQ (lowsM t u)
theorem head0 {c : List Rat} (hp : c.Pairwise (· < ·)) (h0 : (0 : Rat) ∈ c) (hn : ∀ q ∈ c, 0 ≤ q) : c[0]? = some 0 := by
  cases e : c[0]? with
  | none =>
    rw [List.getElem?_eq_none_iff] at e
    have : c = [] := List.length_eq_zero_iff.mp (by omega)
    rw [this] at h0; cases h0
  | some lo =>
    obtain ⟨j, hj⟩ := List.getElem?_of_mem h0
    cases j with
    | zero => rw [e] at hj; exact hj
    | succ j =>
      exfalso
      obtain ⟨ia, ea⟩ := List.getElem?_eq_some_iff.mp e
      obtain ⟨ib, eb⟩ := List.getElem?_eq_some_iff.mp hj
      have := (List.pairwise_iff_getElem.mp hp) 0 (j + 1) ia ib (by omega)
      rw [ea, eb] at this
      have := hn lo (List.mem_of_getElem? e)
      grind
theorem lows_ok {t u : Tl} (K : Mok t) (L : Mok u) : ∀ q ∈ lowsM t u, 0 ≤ q ∧ Sz 33 q := fun q m => by
  unfold lowsM at m
  rcases List.mem_append.mp m with m | m
  · obtain ⟨p, pm, rfl⟩ := List.mem_map.mp m
    exact ⟨(K.mem p pm).1, (K.mem p pm).2.1⟩
  · obtain ⟨p, pm, rfl⟩ := List.mem_map.mp m
    exact ⟨(L.mem p pm).1, (L.mem p pm).2.1⟩
theorem crn_ok {t u : Tl} (K : Mok t) (L : Mok u) : Crn (fv t) (fv u) (crnM t u) := by
  obtain ⟨hp, hm⟩ := sortQ_ok (lowsM t u)
  have hn : ∀ q ∈ crnM t u, 0 ≤ q := fun q m => (lows_ok K L q ((hm q).mp m)).1
  obtain ⟨F, P, e⟩ := K.hd
  obtain ⟨G, Q, d⟩ := L.hd
  have at_ : ∀ {t' : Tl} {F : List Fo} {P : List Pc}, Mok t' → t'.M = (0, F) :: P → (∀ p ∈ t'.M, p.1 ∈ lowsM t u) → ∀ k lo, (crnM t u)[k]? = some lo → ∃ F, ∀ r, lo ≤ r → (∀ h, (crnM t u)[k + 1]? = some h → r ≤ h) → fv t' r = evs F r := fun {t' F P} K e hin k lo h => by
    have hr := K.rep
    rw [e] at hr
    refine rep_at P (0, F) hr (hn lo (List.mem_of_getElem? h)) fun q m => ?_
    exact (srt_btw hp h).2 q.1 ((hm q.1).mpr (hin q (by rw [e]; exact List.mem_cons_of_mem _ m)))
  refine ⟨head0 hp ((hm 0).mpr ?_) hn, fun k lo h => (srt_btw hp h).1, at_ K e fun p m => List.mem_append_left _ (List.mem_map.mpr ⟨p, m, rfl⟩), at_ L d fun p m => List.mem_append_right _ (List.mem_map.mpr ⟨p, m, rfl⟩)⟩
  unfold lowsM
  rw [e]; simp
def lowD (d : D) : D := ((d.at 0).bind (·.at 0)).getD .non
theorem lowD_out : ∀ (M : List Pc) (b : Bool), (outH none b M).map lowD = (M.map (·.1)).map fr
  | [], _ => rfl
  | p :: M, b => by
    rw [out_hd, List.map_cons, lowD_out M false]
    rfl
def difD (t u : Tl) (d : D) : D := .bl (decide (fv t (unfr d) ≠ fv u (unfr d)))
def shD (lo far : Rat) : D → D
  | .tup [.int a, .int b] => fr (lo + far * mkRat a b.toNat)
  | _ => .non
theorem rn_law_parted (T : Tc E) {t u : Tl} (smt : t.Sm) (smu : u.Sm) : Rn E 8 "_law_parted" [.tup t.ds, .tup u.ds] s (hD (t.part u)) s := by
  have K := Tl.mok smt
  have L := Tl.mok smu
  have R1 : Rn E 7 "_law_pieces" [.tup t.ds] s (.lst (outH none true t.M)) s := rn_law_pieces (s := s) T smt
  have R2 : Rn E 7 "_law_pieces" [.tup u.ds] s (.lst (outH none true u.M)) s := rn_law_pieces (s := s) T smu
  have CC := crn_ok K L
  have PS := part_spec K L
  have fK := K.few
  have fL := L.few
  have zl := lows_ok K L
  obtain ⟨hp, hm⟩ := sortQ_ok (lowsM t u)
  have hln : (lowsM t u).length ≤ 12 := by unfold lowsM; simp; omega
  refine T.d__law_parted.rn sc__law_parted rfl rfl fun fa cdv A outer sh H0 EX S0 p hr => ?_
  conv => arg 2; whnf
  have e1 : (outH none true t.M ++ outH none true u.M).map lowD = (lowsM t u).map fr := by
    rw [List.map_append, lowD_out, lowD_out, ← List.map_append]; rfl
  refine bk_cons (bs_set 2 (d := .lst ((crnM t u).map fr)) sc__law_parted.nd rfl (.inl rfl) (ed_cl (ea_cons (Ed.is (El.ed (el_map [("_law_piece", 3)] lowD rfl sc__law_parted.nd (ei_seq (El.ed (el_cat (by rw [outH_len, outH_len]; exact Nat.le_trans (by omega : _ ≤ 12) (by decide)) (ed_cl (ea_cons (ed_var 0 rfl (.inr (.inl rfl)) rfl) ea_nil) (hr.mono (by decide)) R1) (ed_cl (ea_cons (ed_var 1 rfl (.inr (.inl rfl)) rfl) ea_nil) (hr.mono (by decide)) R2))) (.inl rfl)) (blkOk_by rfl) (by rw [List.length_append, outH_len, outH_len]; exact Nat.le_trans (by omega : _ ≤ 12) (by decide)) (fun i d hi => ?_))) (congrArg D.lst e1)) ea_nil) (hr.mono (by decide)) (rn_sorted T (by omega) fun q m => (zl q m).2.mono (by decide))) ?_)
  · obtain ⟨l, c, h, F, rfl⟩ : ∃ l c h F, d = .tup [iv l c h, fsD F] := by
      rcases List.mem_append.mp (List.mem_of_getElem? hi) with m | m
      · exact out_all (P := fun d => ∃ l c h F, d = .tup [iv l c h, fsD F]) (fun l c h F => ⟨l, c, h, F, rfl⟩) _ _ _ d m
      · exact out_all (P := fun d => ∃ l c h F, d = .tup [iv l c h, fsD F]) (fun l c h F => ⟨l, c, h, F, rfl⟩) _ _ _ d m
    exact ⟨_, _, fun c => eg_name 3 sc__law_parted.nd rfl (.inl rfl), by decide, fun c => ed_ix (ed_ix (ed_var 3 rfl (.inl rfl) rfl) ed_int rfl) ed_int rfl⟩
  refine bk_cons (bs_for PassesOwn.never rfl (ei_enum T.bf (ed_var 2 rfl (.inl rfl) rfl)) (fun i ρ s' => s' = s ∧ (∀ j lo, j < i → (crnM t u)[j]? = some lo → dif (fv t) (fv u) lo (crnM t u)[j + 1]? = false) ∧ ∃ g3 g4 g5 g6 g7 g8 g9, ρ = [.val (.tup t.ds), .val (.tup u.ds), .val (.lst ((crnM t u).map fr)), g3, g4, g5, g6, g7, g8, g9]) ⟨rfl, fun j lo h => absurd h (by omega), _, _, _, _, _, _, _, rfl⟩ ?_ ?_)
  · rintro i d ρ' s' hi ⟨rfl, hno, g3, g4, g5, g6, g7, g8, g9, rfl⟩
    have hil : i < (crnM t u).length := by
      have := (List.getElem?_eq_some_iff.mp hi).1
      rw [enumD_length, List.length_map] at this
      exact this
    have hlo : (crnM t u)[i]? = some (crnM t u)[i] := List.getElem?_eq_getElem hil
    generalize (crnM t u)[i] = lo at hlo
    have ed : d = .tup [.int i, fr lo] := by
      have := enumD_get (xs := (crnM t u).map fr) (i := i) (d := fr lo) (by rw [List.getElem?_map, hlo]; rfl)
      rw [this] at hi; exact (Option.some.inj hi).symm
    subst ed
    obtain ⟨l0, zlo⟩ := zl lo ((hm lo).mp (List.mem_of_getElem? hlo))
    have zhi : ∀ x, (crnM t u)[i + 1]? = some x → Sz 33 x := fun x e => (zl x ((hm x).mp (List.mem_of_getElem? e))).2
    have tz1 := third_sz zlo zhi (n := 1) (by decide)
    have tz2 := third_sz zlo zhi (n := 2) (by decide)
    have ps := fun h => PS.uniq (part_some CC hlo hno h l0)
    refine ⟨_, _, eg_tup rfl (egs_cons (eg_name 4 sc__law_parted.nd rfl (.inl rfl)) (egs_cons (eg_name 5 sc__law_parted.nd rfl (.inr rfl)) egs_nil)), ?_⟩
    refine bk_cons (bs_set 6 (d := fr (farQ lo (crnM t u)[i + 1]?)) (s1 := s') sc__law_parted.nd rfl (.inr rfl) ?_ ?_)
    · rcases Nat.lt_or_ge (i + 1) (crnM t u).length with z | z
      · have e : (crnM t u)[i + 1]? = some (crnM t u)[i + 1] := List.getElem?_eq_getElem z
        rw [e]
        refine ed_ifT (Cp.et ((cp_lt (ed_bin (ed_var (d := .int (i : Int)) 4 rfl (.inl rfl) rfl) ed_int rfl (by exact trivial)) (ed_len T.bf (ed_var 2 rfl (.inl rfl) rfl) rfl)).is (decide_eq_true (by rw [List.length_map]; omega)))) (ed_cl (ea_cons (ed_ix (d := fr (crnM t u)[i + 1]) (ed_var 2 rfl (.inl rfl) rfl) (ed_bin (ed_var (d := .int (i : Int)) 4 rfl (.inl rfl) rfl) ed_int rfl (by exact trivial)) ?_) (ea_cons (ed_var 5 rfl (.inr (.inl rfl)) rfl) ea_nil)) (hr.mono (by decide)) (rn_law_minus T ((zhi _ e).mono (by decide)) (zlo.mono (by decide))))
        show atI ((crnM t u).map fr) ((i : Int) + 1) = some (fr (crnM t u)[i + 1])
        unfold atI
        rw [show ((i : Int) + 1) = ((i + 1 : Nat) : Int) by omega, ixN_nat (by rw [List.length_map]; exact z), Option.bind_some, List.getElem?_map, e]; rfl
      · rw [List.getElem?_eq_none z]
        exact ed_ifF (Cp.et ((cp_lt (ed_bin (ed_var (d := .int (i : Int)) 4 rfl (.inl rfl) rfl) ed_int rfl (by exact trivial)) (ed_len T.bf (ed_var 2 rfl (.inl rfl) rfl) rfl)).is (decide_eq_false (by rw [List.length_map]; omega)))) (ed_tup (ea_cons ed_int (ea_cons ed_int ea_nil)))
    have hdif : dif (fv t) (fv u) lo (crnM t u)[i + 1]? = (decide (fv t lo ≠ fv u lo) || (decide (fv t (third lo (crnM t u)[i + 1]? 1) ≠ fv u (third lo (crnM t u)[i + 1]? 1)) || decide (fv t (third lo (crnM t u)[i + 1]? 2) ≠ fv u (third lo (crnM t u)[i + 1]? 2)))) := rfl
    have hi1 : i + 1 = (crnM t u).length ∨ i + 1 < (crnM t u).length := by omega
    have zfar : Sz 67 (farQ lo (crnM t u)[i + 1]?) := by
      cases e : (crnM t u)[i + 1]? with
      | none => exact ⟨(by decide +kernel : (3 : Rat).num.natAbs < 2 ^ 67), (by decide +kernel : (3 : Rat).den < 2 ^ 67)⟩
      | some h => exact (zhi h e).sub zlo
    generalize hh : (crnM t u)[i + 1]? = hi at *
    have p2 : ∀ {n k : Nat}, n < 2 ^ k → k ≤ 3000 → n < 2 ^ 3000 := fun a b => Nat.lt_of_lt_of_le a (Nat.pow_le_pow_right (by decide) b)
    refine bk_cons (bs_setLc 7 [("_law_share", 8)] rfl sc__law_parted.nd rfl rfl rfl (items := [.tup [.int 1, .int 3], .tup [.int 2, .int 3]]) (st := fun _ => s') (ei_seq (ed_tup (ea_cons (ed_tup (ea_cons ed_int (ea_cons ed_int ea_nil))) (ea_cons (ed_tup (ea_cons ed_int (ea_cons ed_int ea_nil))) ea_nil))) (.inr rfl)) (blkOk_by rfl) (Comp.map (shD lo (farQ lo hi)) (by show 2 ≤ sizeLine; decide) (fun i d hi => ?_)) ?_)
    · match i, hi with
      | 0, hi => cases hi; exact ⟨_, _, fun c => eg_name 8 sc__law_parted.nd rfl (.inl rfl), by decide, fun c => ed_cl (ea_cons (ed_var 5 rfl (.inr (.inl rfl)) rfl) (ea_cons (ed_cl (ea_cons (ed_var 6 rfl (.inr (.inl rfl)) rfl) (ea_cons (ed_var 8 rfl (.inl rfl) rfl) ea_nil)) (hr.mono (by decide)) (rn_law_timesP (n := 1) (m := 3) T (zfar.mono (by decide)) (p2 (k := 2) (by decide) (by decide)) (p2 (k := 2) (by decide) (by decide)) (by decide))) ea_nil)) (hr.mono (by decide)) (rn_law_plus T (zlo.mono (by decide)) ((zfar.mul (Sz.mk (b := 3) (n := 3) (t := ((1 : Nat) : Int)) (by decide) (by decide) (by decide))).mono (by decide)))⟩
      | 1, hi => cases hi; exact ⟨_, _, fun c => eg_name 8 sc__law_parted.nd rfl (.inl rfl), by decide, fun c => ed_cl (ea_cons (ed_var 5 rfl (.inr (.inl rfl)) rfl) (ea_cons (ed_cl (ea_cons (ed_var 6 rfl (.inr (.inl rfl)) rfl) (ea_cons (ed_var 8 rfl (.inl rfl) rfl) ea_nil)) (hr.mono (by decide)) (rn_law_timesP (n := 2) (m := 3) T (zfar.mono (by decide)) (p2 (k := 2) (by decide) (by decide)) (p2 (k := 2) (by decide) (by decide)) (by decide))) ea_nil)) (hr.mono (by decide)) (rn_law_plus T (zlo.mono (by decide)) ((zfar.mul (Sz.mk (b := 3) (n := 3) (t := ((2 : Nat) : Int)) (by decide) (by decide) (by decide))).mono (by decide)))⟩
    refine bk_freeze 7 (xs := [fr (third lo hi 1), fr (third lo hi 2)]) rfl ?_
    have zr : ∀ q ∈ [lo, third lo hi 1, third lo hi 2], Sz 110 q := fun q m => by
      simp only [List.mem_cons, List.not_mem_nil, or_false] at m
      rcases m with rfl | rfl | rfl
      · exact zlo.mono (by decide)
      · exact tz1.mono (by decide)
      · exact tz2.mono (by decide)
    have eb : (([lo, third lo hi 1, third lo hi 2].map fr).map (difD t u)) = ([decide (fv t lo ≠ fv u lo), decide (fv t (third lo hi 1) ≠ fv u (third lo hi 1)), decide (fv t (third lo hi 2) ≠ fv u (third lo hi 2))].map D.bl) := by
      simp only [List.map_cons, List.map_nil, difD, unfr_fr]
    refine bk_cons (bs_if (t := dif (fv t) (fv u) lo hi) (et_val (Ed.is (ed_any T.bf rfl (bs := [decide (fv t lo ≠ fv u lo), decide (fv t (third lo hi 1) ≠ fv u (third lo hi 1)), decide (fv t (third lo hi 2) ≠ fv u (third lo hi 2))]) (Ed.is (El.ed (el_map [("_law_room", 9)] (difD t u) rfl sc__law_parted.nd (ei_seq (x := .lst ([lo, third lo hi 1, third lo hi 2].map fr)) (El.ed (el_cat (by show 1 + 2 ≤ sizeLine; decide) (El.ed (el_lst (ea_cons (ed_var 5 rfl (.inr (.inl rfl)) rfl) ea_nil))) (ed_var 7 rfl (.inl rfl) rfl))) (.inl rfl)) (blkOk_by rfl) (by show 3 ≤ sizeLine; decide) (fun i d hi => ?_))) (congrArg D.lst eb))) (by rw [hdif]; simp))) (fun hd => ?_) (fun hd => bk_nil ?_))
    · obtain ⟨q, qm, rfl⟩ := List.mem_map.mp (List.mem_of_getElem? hi)
      have zq := zr q qm
      refine ⟨_, _, fun c => eg_name 9 sc__law_parted.nd rfl (.inl rfl), by decide, fun c => Ed.is (Cp.ed (cp_ne hr (ed_cl (ea_cons (ed_var 0 rfl (.inr (.inl rfl)) rfl) (ea_cons (ed_var 9 rfl (.inl rfl) rfl) ea_nil)) (hr.mono (by decide)) (rn_law_across T smt zq)) (ed_cl (ea_cons (ed_var 1 rfl (.inr (.inl rfl)) rfl) (ea_cons (ed_var 9 rfl (.inl rfl) rfl) ea_nil)) (hr.mono (by decide)) (rn_law_across T smu zq)) (frs_eqD _).eqC (frs_eqD _).eqC)) ?_⟩
      rw [tup_eqb, frs_eqbs]
      show D.bl _ = D.bl (decide (fv t (unfr (fr q)) ≠ fv u (unfr (fr q))))
      rw [unfr_fr]
      simp
    · refine bk_cons (bs_ret (Ed.is (ed_var 5 rfl (.inr (.inl rfl)) rfl) (y := hD (t.part u)) ?_) ⟨rfl, rfl⟩)
      rw [ps hd]; rfl
    · refine bk_nil ⟨rfl, fun j l hj e => ?_, _, _, _, _, _, _, _, rfl⟩
      rcases Nat.lt_succ_iff_lt_or_eq.mp hj with z | z
      · exact hno j l z e
      · subst z; rw [hlo] at e; cases e; rw [hh]; exact hd
  · rintro ρ' s' ⟨rfl, hno, g3, g4, g5, g6, g7, g8, g9, rfl⟩
    rw [enumD_length, List.length_map] at hno
    have e : t.part u = none := PS.uniq (part_none CC fun j lo h => hno j lo (List.getElem?_eq_some_iff.mp h).1 h)
    exact bk_cons (bs_ret (Ed.is ed_non (by rw [e]; rfl)) ⟨rfl, rfl⟩)
end Law
set_option Elab.async false
set_option linter.all false
set_option maxRecDepth 100000
set_option maxHeartbeats 4000000
namespace Law
open PySem PySem.Spec PyProof.Rows L2 Gh
variable {E : En} {s : Sx} {C fI fA : Addr}
theorem rn_near (T : Tc E) {n : Nat} {t : Tl} (ok : t.Ok) (sm : t.Sm) (h : St n s) (hn : n + 100 < 2 ^ 40) : ∃ (u : Tl) (s' : Sx), u.Ok ∧ u.Sm ∧ St (n + 6) s' ∧ Rn E 4 "_law_near" [.mut, .tup t.ds] s (.tup u.ds) s' := by
  obtain ⟨w, s1, hw, h1, R1⟩ := rn_draw T h (by omega) (many := 5) (by decide) (by decide)
  have cw : w = 0 ∨ w = 1 ∨ w = 2 ∨ w = 3 ∨ w = 4 := by omega
  rcases cw with rfl | rfl | rfl | rfl | rfl
  · obtain ⟨m, s2, mm, h2, P2⟩ := rn_pickM T moD [none, some 60, some 30, some 9999] h1 (by omega) (by simp) (by decide)
    simp only [List.mem_cons, List.not_mem_nil, or_false] at mm
    refine ⟨{ t with most := m }, s2, ⟨ok.pl, ok.pr⟩, ⟨sm.w, sm.least, fun k e => by have e : m = some k := e; subst e; simp at mm; omega, sm.ml, sm.mr, sm.pl, sm.pr⟩, h2.mono (by omega), ?_⟩
    refine T.d__law_near.rn sc__law_near (by rw [h.some, h2.some]) rfl fun fa cdv A outer sh H0 EX S0 p hr => ?_
    conv => arg 2; whnf
    refine bk_cons (bs_setOwn 2 (ds := t.ds) sc__law_near.nd rfl (.inl rfl) (el_listOf T.bf (ed_var 1 rfl (.inl rfl) rfl) (.inr rfl)) ?_)
    refine bk_cons (bs_set 3 sc__law_near.nd rfl (.inl rfl) (ed_cl (ea_cons (ed_var 0 rfl (.inl rfl) rfl) (ea_cons ed_int ea_nil)) (hr.mono (by decide)) R1) ?_)
    refine bk_cons (bs_ifT (Cp.et (Cp.is (cp_eq hr (ed_var 3 rfl (.inl rfl) rfl) ed_int (eqC_int _) (eqC_int _)) (by rw [eqb_int]; rfl))) ?_)
    refine bk_cons (bs_asgM (ed_cl (ea_cons (ed_var 0 rfl (.inl rfl) rfl) (ea_cons (El.ed (el_lst (ea_cons ed_str (ea_cons ed_int (ea_cons ed_int (ea_cons ed_int ea_nil)))))) ea_nil)) (hr.mono (by decide)) P2) (egm_sub 2 rfl (.inl rfl) rfl ed_int (j := 2) rfl) ?_)
    refine bk_nil (?_)
    exact bk_freeze 2 rfl (bk_cons (bs_ret (ed_tupleOf T.bf (ed_var 2 rfl (.inl rfl) rfl) (.inl rfl)) ⟨rfl, rfl⟩))
  · obtain ⟨m, s2, mm, h2, P2⟩ := rn_pickM T nD [0, 1, 5, 13] h1 (by omega) (by simp) (by decide)
    simp only [List.mem_cons, List.not_mem_nil, or_false] at mm
    refine ⟨{ t with least := m }, s2, ⟨ok.pl, ok.pr⟩, ⟨sm.w, by show m < _; omega, sm.most, sm.ml, sm.mr, sm.pl, sm.pr⟩, h2.mono (by omega), ?_⟩
    refine T.d__law_near.rn sc__law_near (by rw [h.some, h2.some]) rfl fun fa cdv A outer sh H0 EX S0 p hr => ?_
    conv => arg 2; whnf
    refine bk_cons (bs_setOwn 2 (ds := t.ds) sc__law_near.nd rfl (.inl rfl) (el_listOf T.bf (ed_var 1 rfl (.inl rfl) rfl) (.inr rfl)) ?_)
    refine bk_cons (bs_set 3 sc__law_near.nd rfl (.inl rfl) (ed_cl (ea_cons (ed_var 0 rfl (.inl rfl) rfl) (ea_cons ed_int ea_nil)) (hr.mono (by decide)) R1) ?_)
    refine bk_cons (bs_ifF (Cp.et (Cp.is (cp_eq hr (ed_var 3 rfl (.inl rfl) rfl) ed_int (eqC_int _) (eqC_int _)) (by rw [eqb_int]; rfl))) ?_)
    refine bk_cons (bs_ifT (Cp.et (Cp.is (cp_eq hr (ed_var 3 rfl (.inl rfl) rfl) ed_int (eqC_int _) (eqC_int _)) (by rw [eqb_int]; rfl))) ?_)
    refine bk_cons (bs_asgM (ed_cl (ea_cons (ed_var 0 rfl (.inl rfl) rfl) (ea_cons (El.ed (el_lst (ea_cons ed_int (ea_cons ed_int (ea_cons ed_int (ea_cons ed_int ea_nil)))))) ea_nil)) (hr.mono (by decide)) P2) (egm_sub 2 rfl (.inl rfl) rfl ed_int (j := 1) rfl) ?_)
    refine bk_nil (bk_nil (?_))
    exact bk_freeze 2 rfl (bk_cons (bs_ret (ed_tupleOf T.bf (ed_var 2 rfl (.inl rfl) rfl) (.inl rfl)) ⟨rfl, rfl⟩))
  · obtain ⟨k, s2, hk, h2, R2⟩ := rn_draw T h1 (by omega) (many := 4) (by decide) (by decide)
    obtain ⟨l, s3, la, ln, h3, R3⟩ := rn_length T h2 (by omega) (m := 15) (by decide)
    have ck : k = 0 ∨ k = 1 ∨ k = 2 ∨ k = 3 := by omega
    rcases ck with rfl | rfl | rfl | rfl
    · refine ⟨{ t with ml := l }, s3, ⟨ok.pl, ok.pr⟩, ⟨sm.w, sm.least, sm.most, ln, sm.mr, sm.pl, sm.pr⟩, h3.mono (by omega), ?_⟩
      refine T.d__law_near.rn sc__law_near (by rw [h.some, h3.some]) rfl fun fa cdv A outer sh H0 EX S0 p hr => ?_
      conv => arg 2; whnf
      refine bk_cons (bs_setOwn 2 (ds := t.ds) sc__law_near.nd rfl (.inl rfl) (el_listOf T.bf (ed_var 1 rfl (.inl rfl) rfl) (.inr rfl)) ?_)
      refine bk_cons (bs_set 3 sc__law_near.nd rfl (.inl rfl) (ed_cl (ea_cons (ed_var 0 rfl (.inl rfl) rfl) (ea_cons ed_int ea_nil)) (hr.mono (by decide)) R1) ?_)
      refine bk_cons (bs_ifF (Cp.et (Cp.is (cp_eq hr (ed_var 3 rfl (.inl rfl) rfl) ed_int (eqC_int _) (eqC_int _)) (by rw [eqb_int]; rfl))) ?_)
      refine bk_cons (bs_ifF (Cp.et (Cp.is (cp_eq hr (ed_var 3 rfl (.inl rfl) rfl) ed_int (eqC_int _) (eqC_int _)) (by rw [eqb_int]; rfl))) ?_)
      refine bk_cons (bs_ifT (Cp.et (Cp.is (cp_eq hr (ed_var 3 rfl (.inl rfl) rfl) ed_int (eqC_int _) (eqC_int _)) (by rw [eqb_int]; rfl))) ?_)
      refine bk_cons (bs_set 4 (d := .int (3 + ((0 : Nat) : Int))) sc__law_near.nd rfl (.inl rfl) (ed_bin ed_int (ed_cl (ea_cons (ed_var 0 rfl (.inl rfl) rfl) (ea_cons ed_int ea_nil)) (hr.mono (by decide)) R2) rfl trivial) ?_)
      refine bk_cons (bs_asgM (ed_cl (ea_cons (ed_var 0 rfl (.inl rfl) rfl) (ea_cons ed_int ea_nil)) (hr.mono (by decide)) R3) (egm_sub 2 rfl (.inl rfl) rfl (ed_var (d := .int (3 + ((0 : Nat) : Int))) 4 rfl (.inl rfl) rfl) (j := 3) rfl) ?_)
      refine bk_nil (bk_nil (bk_nil (?_)))
      exact bk_freeze 2 rfl (bk_cons (bs_ret (ed_tupleOf T.bf (ed_var 2 rfl (.inl rfl) rfl) (.inl rfl)) ⟨rfl, rfl⟩))
    · refine ⟨{ t with mr := l }, s3, ⟨ok.pl, ok.pr⟩, ⟨sm.w, sm.least, sm.most, sm.ml, ln, sm.pl, sm.pr⟩, h3.mono (by omega), ?_⟩
      refine T.d__law_near.rn sc__law_near (by rw [h.some, h3.some]) rfl fun fa cdv A outer sh H0 EX S0 p hr => ?_
      conv => arg 2; whnf
      refine bk_cons (bs_setOwn 2 (ds := t.ds) sc__law_near.nd rfl (.inl rfl) (el_listOf T.bf (ed_var 1 rfl (.inl rfl) rfl) (.inr rfl)) ?_)
      refine bk_cons (bs_set 3 sc__law_near.nd rfl (.inl rfl) (ed_cl (ea_cons (ed_var 0 rfl (.inl rfl) rfl) (ea_cons ed_int ea_nil)) (hr.mono (by decide)) R1) ?_)
      refine bk_cons (bs_ifF (Cp.et (Cp.is (cp_eq hr (ed_var 3 rfl (.inl rfl) rfl) ed_int (eqC_int _) (eqC_int _)) (by rw [eqb_int]; rfl))) ?_)
      refine bk_cons (bs_ifF (Cp.et (Cp.is (cp_eq hr (ed_var 3 rfl (.inl rfl) rfl) ed_int (eqC_int _) (eqC_int _)) (by rw [eqb_int]; rfl))) ?_)
      refine bk_cons (bs_ifT (Cp.et (Cp.is (cp_eq hr (ed_var 3 rfl (.inl rfl) rfl) ed_int (eqC_int _) (eqC_int _)) (by rw [eqb_int]; rfl))) ?_)
      refine bk_cons (bs_set 4 (d := .int (3 + ((1 : Nat) : Int))) sc__law_near.nd rfl (.inl rfl) (ed_bin ed_int (ed_cl (ea_cons (ed_var 0 rfl (.inl rfl) rfl) (ea_cons ed_int ea_nil)) (hr.mono (by decide)) R2) rfl trivial) ?_)
      refine bk_cons (bs_asgM (ed_cl (ea_cons (ed_var 0 rfl (.inl rfl) rfl) (ea_cons ed_int ea_nil)) (hr.mono (by decide)) R3) (egm_sub 2 rfl (.inl rfl) rfl (ed_var (d := .int (3 + ((1 : Nat) : Int))) 4 rfl (.inl rfl) rfl) (j := 4) rfl) ?_)
      refine bk_nil (bk_nil (bk_nil (?_)))
      exact bk_freeze 2 rfl (bk_cons (bs_ret (ed_tupleOf T.bf (ed_var 2 rfl (.inl rfl) rfl) (.inl rfl)) ⟨rfl, rfl⟩))
    · refine ⟨{ t with pl := l }, s3, ⟨la, ok.pr⟩, ⟨sm.w, sm.least, sm.most, sm.ml, sm.mr, ln, sm.pr⟩, h3.mono (by omega), ?_⟩
      refine T.d__law_near.rn sc__law_near (by rw [h.some, h3.some]) rfl fun fa cdv A outer sh H0 EX S0 p hr => ?_
      conv => arg 2; whnf
      refine bk_cons (bs_setOwn 2 (ds := t.ds) sc__law_near.nd rfl (.inl rfl) (el_listOf T.bf (ed_var 1 rfl (.inl rfl) rfl) (.inr rfl)) ?_)
      refine bk_cons (bs_set 3 sc__law_near.nd rfl (.inl rfl) (ed_cl (ea_cons (ed_var 0 rfl (.inl rfl) rfl) (ea_cons ed_int ea_nil)) (hr.mono (by decide)) R1) ?_)
      refine bk_cons (bs_ifF (Cp.et (Cp.is (cp_eq hr (ed_var 3 rfl (.inl rfl) rfl) ed_int (eqC_int _) (eqC_int _)) (by rw [eqb_int]; rfl))) ?_)
      refine bk_cons (bs_ifF (Cp.et (Cp.is (cp_eq hr (ed_var 3 rfl (.inl rfl) rfl) ed_int (eqC_int _) (eqC_int _)) (by rw [eqb_int]; rfl))) ?_)
      refine bk_cons (bs_ifT (Cp.et (Cp.is (cp_eq hr (ed_var 3 rfl (.inl rfl) rfl) ed_int (eqC_int _) (eqC_int _)) (by rw [eqb_int]; rfl))) ?_)
      refine bk_cons (bs_set 4 (d := .int (3 + ((2 : Nat) : Int))) sc__law_near.nd rfl (.inl rfl) (ed_bin ed_int (ed_cl (ea_cons (ed_var 0 rfl (.inl rfl) rfl) (ea_cons ed_int ea_nil)) (hr.mono (by decide)) R2) rfl trivial) ?_)
      refine bk_cons (bs_asgM (ed_cl (ea_cons (ed_var 0 rfl (.inl rfl) rfl) (ea_cons ed_int ea_nil)) (hr.mono (by decide)) R3) (egm_sub 2 rfl (.inl rfl) rfl (ed_var (d := .int (3 + ((2 : Nat) : Int))) 4 rfl (.inl rfl) rfl) (j := 5) rfl) ?_)
      refine bk_nil (bk_nil (bk_nil (?_)))
      exact bk_freeze 2 rfl (bk_cons (bs_ret (ed_tupleOf T.bf (ed_var 2 rfl (.inl rfl) rfl) (.inl rfl)) ⟨rfl, rfl⟩))
    · refine ⟨{ t with pr := l }, s3, ⟨ok.pl, la⟩, ⟨sm.w, sm.least, sm.most, sm.ml, sm.mr, sm.pl, ln⟩, h3.mono (by omega), ?_⟩
      refine T.d__law_near.rn sc__law_near (by rw [h.some, h3.some]) rfl fun fa cdv A outer sh H0 EX S0 p hr => ?_
      conv => arg 2; whnf
      refine bk_cons (bs_setOwn 2 (ds := t.ds) sc__law_near.nd rfl (.inl rfl) (el_listOf T.bf (ed_var 1 rfl (.inl rfl) rfl) (.inr rfl)) ?_)
      refine bk_cons (bs_set 3 sc__law_near.nd rfl (.inl rfl) (ed_cl (ea_cons (ed_var 0 rfl (.inl rfl) rfl) (ea_cons ed_int ea_nil)) (hr.mono (by decide)) R1) ?_)
      refine bk_cons (bs_ifF (Cp.et (Cp.is (cp_eq hr (ed_var 3 rfl (.inl rfl) rfl) ed_int (eqC_int _) (eqC_int _)) (by rw [eqb_int]; rfl))) ?_)
      refine bk_cons (bs_ifF (Cp.et (Cp.is (cp_eq hr (ed_var 3 rfl (.inl rfl) rfl) ed_int (eqC_int _) (eqC_int _)) (by rw [eqb_int]; rfl))) ?_)
      refine bk_cons (bs_ifT (Cp.et (Cp.is (cp_eq hr (ed_var 3 rfl (.inl rfl) rfl) ed_int (eqC_int _) (eqC_int _)) (by rw [eqb_int]; rfl))) ?_)
      refine bk_cons (bs_set 4 (d := .int (3 + ((3 : Nat) : Int))) sc__law_near.nd rfl (.inl rfl) (ed_bin ed_int (ed_cl (ea_cons (ed_var 0 rfl (.inl rfl) rfl) (ea_cons ed_int ea_nil)) (hr.mono (by decide)) R2) rfl trivial) ?_)
      refine bk_cons (bs_asgM (ed_cl (ea_cons (ed_var 0 rfl (.inl rfl) rfl) (ea_cons ed_int ea_nil)) (hr.mono (by decide)) R3) (egm_sub 2 rfl (.inl rfl) rfl (ed_var (d := .int (3 + ((3 : Nat) : Int))) 4 rfl (.inl rfl) rfl) (j := 6) rfl) ?_)
      refine bk_nil (bk_nil (bk_nil (?_)))
      exact bk_freeze 2 rfl (bk_cons (bs_ret (ed_tupleOf T.bf (ed_var 2 rfl (.inl rfl) rfl) (.inl rfl)) ⟨rfl, rfl⟩))
  · obtain ⟨m, s2, mm, h2, P2⟩ := rn_pickM T Ln.D [.auto, .part 50, .part 100, .nat 20] h1 (by omega) (by simp) (by show 4 < _; decide)
    simp only [List.mem_cons, List.not_mem_nil, or_false] at mm
    refine ⟨{ t with w := m }, s2, ⟨ok.pl, ok.pr⟩, ⟨by rcases mm with rfl | rfl | rfl | rfl <;> simp [Ln.n], sm.least, sm.most, sm.ml, sm.mr, sm.pl, sm.pr⟩, h2.mono (by omega), ?_⟩
    refine T.d__law_near.rn sc__law_near (by rw [h.some, h2.some]) rfl fun fa cdv A outer sh H0 EX S0 p hr => ?_
    conv => arg 2; whnf
    refine bk_cons (bs_setOwn 2 (ds := t.ds) sc__law_near.nd rfl (.inl rfl) (el_listOf T.bf (ed_var 1 rfl (.inl rfl) rfl) (.inr rfl)) ?_)
    refine bk_cons (bs_set 3 sc__law_near.nd rfl (.inl rfl) (ed_cl (ea_cons (ed_var 0 rfl (.inl rfl) rfl) (ea_cons ed_int ea_nil)) (hr.mono (by decide)) R1) ?_)
    refine bk_cons (bs_ifF (Cp.et (Cp.is (cp_eq hr (ed_var 3 rfl (.inl rfl) rfl) ed_int (eqC_int _) (eqC_int _)) (by rw [eqb_int]; rfl))) ?_)
    refine bk_cons (bs_ifF (Cp.et (Cp.is (cp_eq hr (ed_var 3 rfl (.inl rfl) rfl) ed_int (eqC_int _) (eqC_int _)) (by rw [eqb_int]; rfl))) ?_)
    refine bk_cons (bs_ifF (Cp.et (Cp.is (cp_eq hr (ed_var 3 rfl (.inl rfl) rfl) ed_int (eqC_int _) (eqC_int _)) (by rw [eqb_int]; rfl))) ?_)
    refine bk_cons (bs_ifT (Cp.et (Cp.is (cp_eq hr (ed_var 3 rfl (.inl rfl) rfl) ed_int (eqC_int _) (eqC_int _)) (by rw [eqb_int]; rfl))) ?_)
    refine bk_cons (bs_asgM (ed_cl (ea_cons (ed_var 0 rfl (.inl rfl) rfl) (ea_cons (El.ed (el_lst (ea_cons ed_str (ea_cons (ed_tup (ea_cons ed_str (ea_cons ed_int ea_nil))) (ea_cons (ed_tup (ea_cons ed_str (ea_cons ed_int ea_nil))) (ea_cons ed_int ea_nil)))))) ea_nil)) (hr.mono (by decide)) P2) (egm_sub 2 rfl (.inl rfl) rfl ed_int (j := 0) rfl) ?_)
    refine bk_nil (bk_nil (bk_nil (bk_nil (?_))))
    exact bk_freeze 2 rfl (bk_cons (bs_ret (ed_tupleOf T.bf (ed_var 2 rfl (.inl rfl) rfl) (.inl rfl)) ⟨rfl, rfl⟩))
  · refine ⟨t, s1, ok, sm, h1.mono (by omega), ?_⟩
    refine T.d__law_near.rn sc__law_near (by rw [h.some, h1.some]) rfl fun fa cdv A outer sh H0 EX S0 p hr => ?_
    conv => arg 2; whnf
    refine bk_cons (bs_setOwn 2 (ds := t.ds) sc__law_near.nd rfl (.inl rfl) (el_listOf T.bf (ed_var 1 rfl (.inl rfl) rfl) (.inr rfl)) ?_)
    refine bk_cons (bs_set 3 sc__law_near.nd rfl (.inl rfl) (ed_cl (ea_cons (ed_var 0 rfl (.inl rfl) rfl) (ea_cons ed_int ea_nil)) (hr.mono (by decide)) R1) ?_)
    refine bk_cons (bs_ifF (Cp.et (Cp.is (cp_eq hr (ed_var 3 rfl (.inl rfl) rfl) ed_int (eqC_int _) (eqC_int _)) (by rw [eqb_int]; rfl))) ?_)
    refine bk_cons (bs_ifF (Cp.et (Cp.is (cp_eq hr (ed_var 3 rfl (.inl rfl) rfl) ed_int (eqC_int _) (eqC_int _)) (by rw [eqb_int]; rfl))) ?_)
    refine bk_cons (bs_ifF (Cp.et (Cp.is (cp_eq hr (ed_var 3 rfl (.inl rfl) rfl) ed_int (eqC_int _) (eqC_int _)) (by rw [eqb_int]; rfl))) ?_)
    refine bk_cons (bs_ifF (Cp.et (Cp.is (cp_eq hr (ed_var 3 rfl (.inl rfl) rfl) ed_int (eqC_int _) (eqC_int _)) (by rw [eqb_int]; rfl))) ?_)
    refine bk_nil (bk_nil (bk_nil (bk_nil (?_))))
    exact bk_freeze 2 rfl (bk_cons (bs_ret (ed_tupleOf T.bf (ed_var 2 rfl (.inl rfl) rfl) (.inl rfl)) ⟨rfl, rfl⟩))
end Law
set_option Elab.async false
set_option linter.all false
set_option maxRecDepth 100000
set_option maxHeartbeats 4000000
namespace Law
open PySem PySem.Spec PyProof.Rows L2 Gh
variable {E : En} {s : Sx} {C fI fA : Addr}
theorem root_szA {f : Fo} (h1 : Hu (2 ^ 27) (2 * f.1)) (h2 : Hu (2 ^ 27) (2 * f.2)) : Sz 36 (root f) := by
  by_cases h : f.2 = 0
  · have e : root f = 0 := by
      unfold root ovr
      rw [h]
      simp
    rw [e]; exact .zero
  · exact root_sz h h1 h2
theorem bwd_sz {t : Tl} (K : Mok t) : ∀ i, i ≤ t.M.length → Sz 36 (bwd (lowM t.M) (frmM t.M) i)
  | 0, _ => .zero
  | i + 1, h => by
    show Sz 36 (if ev (frmM t.M i) (lowM t.M i) < 0 then root (frmM t.M i) else bwd (lowM t.M) (frmM t.M) i)
    split
    · have gd : t.M.getD i (0, []) ∈ t.M := by
        rw [List.getD_eq_getElem?_getD, List.getElem?_eq_getElem (by omega)]; exact List.getElem_mem (by omega)
      obtain ⟨h1, h2⟩ := K.hu _ gd
      exact root_szA h1 h2
    · exact bwd_sz K i (by omega)
theorem fits_sz {t : Tl} (sm : t.Sm) {x : Rat} (h : t.fits = some x) : Sz 36 x := by
  unfold Tl.fits at h
  split at h
  · cases h
  · cases h; exact bwd_sz (Tl.mok sm) _ (Nat.le_refl _)
theorem par_mem : ∀ (n : Nat) (M N : List Pc) (low y : Rat), par n M N low = some y → y = low ∨ (∃ p ∈ M, p.1 = y) ∨ ∃ p ∈ N, p.1 = y
  | 0, _, _, _, _, h => by simp [par] at h
  | n + 1, [], _, _, _, h => by simp [par] at h
  | n + 1, p :: M, [], _, _, h => by simp [par] at h
  | n + 1, p :: M, q :: N, low, y, h => by
    have h : (if p.2 ≠ q.2 then some low else match endO (hiO M) (hiO N) with
      | none => none
      | some e => par n (if hiO M = some e then M else p :: M) (if hiO N = some e then N else q :: N) e) = some y := h
    split at h
    · exact .inl (Option.some.inj h).symm
    · cases e : endO (hiO M) (hiO N) with
      | none => rw [e] at h; cases h
      | some x =>
        rw [e] at h
        obtain ⟨_, _, w⟩ := endO_some e
        have sub : ∀ {L : List Pc} {a : Pc} {z : Pc}, z ∈ (if hiO L = some x then L else a :: L) → z ∈ a :: L := fun {L a z} m => by
          split at m
          · exact List.mem_cons_of_mem _ m
          · exact m
        rcases par_mem n _ _ x y h with rfl | ⟨z, m, ez⟩ | ⟨z, m, ez⟩
        · rcases w with w | w
          · obtain ⟨z, m, ez⟩ := hiO_mem w
            exact .inr (.inl ⟨z, List.mem_cons_of_mem _ m, ez⟩)
          · obtain ⟨z, m, ez⟩ := hiO_mem w
            exact .inr (.inr ⟨z, List.mem_cons_of_mem _ m, ez⟩)
        · exact .inr (.inl ⟨z, sub m, ez⟩)
        · exact .inr (.inr ⟨z, sub m, ez⟩)
theorem part_sz {t u : Tl} (K : Mok t) (L : Mok u) {y : Rat} (h : t.part u = some y) : Sz 33 y := by
  rcases par_mem _ _ _ _ _ h with rfl | ⟨p, m, rfl⟩ | ⟨p, m, rfl⟩
  · exact .zero
  · exact (K.mem p m).2.1
  · exact (L.mem p m).2.1
theorem Part.sym {g1 g2 : Rat → List Rat} : ∀ {x : Option Rat}, Part g1 g2 x → Part g2 g1 x
  | none, h => fun r r0 => (h r r0).symm
  | some x, ⟨h1, h2, h3⟩ => ⟨h1, fun z r r0 r1 => (h2 z r r0 r1).symm, fun m hm => by
    obtain ⟨r, a, b, c⟩ := h3 m hm
    exact ⟨r, a, b, fun z => c z.symm⟩⟩
theorem part_sym {t u : Tl} (K : Mok t) (L : Mok u) : u.part t = t.part u := (part_spec L K).uniq (part_spec K L).sym
theorem num_gt (q : Rat) (h : 0 ≤ q) : decide (0 < q.num) = decide (0 < q) := by
  have h1 : (0 ≤ q.num) := Rat.num_nonneg.mpr h
  have h2 := Rat.num_eq_zero (q := q)
  by_cases z : 0 < q
  · rw [decide_eq_true z, decide_eq_true]
    have : q.num ≠ 0 := fun w => by have := h2.mp w; grind
    omega
  · rw [decide_eq_false z, decide_eq_false]
    have : q = 0 := by grind
    rw [this]; decide
theorem fr17 : D.tup [.int 1, .int 7] = fr (mkRat (1 : Nat) 7) := by
  show _ = D.tup [.int (mkRat (1 : Nat) 7).num, .int (mkRat (1 : Nat) 7).den]
  rw [(by decide +kernel : (mkRat ((1 : Nat) : Int) 7).num = 1), (by decide +kernel : (mkRat ((1 : Nat) : Int) 7).den = 7)]; rfl
theorem fr5003 : D.tup [.int 500, .int 3] = fr (mkRat (500 : Nat) 3) := by
  show _ = D.tup [.int (mkRat (500 : Nat) 3).num, .int (mkRat (500 : Nat) 3).den]
  rw [(by decide +kernel : (mkRat ((500 : Nat) : Int) 3).num = 500), (by decide +kernel : (mkRat ((500 : Nat) : Int) 3).den = 3)]; rfl
theorem fr99 : (mkRat ((99 : Nat) : Int) 100 : Rat) = 99 / 100 := by decide +kernel
theorem law_body (T : Tc E) (B : Bh E C fI fA) {ns : List Int} (hns : ns.length ≤ 63) : LawBody E ["_law_script", "_law_turn", "_law_draws", "_law_told_here", "_law_due", "_law_rooms", "_law_room", "_law_below", "_law_other", "_law_found"] t_law 11 ns := by
  have hl : ns.length < 2 ^ 40 := by omega
  intro fa cdv A outer sh H0 EX S0 p hr
  conv => arg 2; whnf
  refine bk_cons (bs_for PassesOwn.never rfl (ei_range1 (j := 4 + min (ns.length : Int) 3) T.bf (ed_bin ed_int (ed_min2 T.bf rfl (ed_len T.bf (ed_var 0 rfl (.inl rfl) rfl) rfl) ed_int) rfl trivial) (by omega) (by omega)) (fun i ρ s' => s' = none ∧ ∃ gs, gs.length = 9 ∧ ρ = .val (.scr ns) :: gs) ⟨rfl, _, rfl, rfl⟩ ?_ ?_)
  · rintro i d ρ' s' hi ⟨rfl, gs, hgs, rfl⟩
    match gs, hgs with
    | [g1, g2, g3, g4, g5, g6, g7, g8, g9], _ =>
    have hd : d = .int i ∧ i < 100 := by
      unfold rangeD at hi
      rw [List.getElem?_map] at hi
      cases e : (List.range (4 + min (ns.length : Int) 3).toNat)[i]? with
      | none => rw [e] at hi; cases hi
      | some j =>
        rw [e] at hi; cases hi
        obtain ⟨h1, h2⟩ := List.getElem?_eq_some_iff.mp e
        rw [List.getElem_range] at h2
        rw [List.length_range] at h1
        subst h2
        exact ⟨congrArg D.int (by omega), by omega⟩
    obtain ⟨rfl, hi100⟩ := hd
    obtain ⟨c, z, hz, R0⟩ := rn_source T (ns := ns) (k := i) (by omega) hl
    refine ⟨_, _, eg_name 1 sc_law.nd rfl (.inl rfl), ?_⟩
    refine bk_cons (bs_setOwn 2 sc_law.nd rfl (.inl rfl) (el_cl (ea_cons (ed_var 0 rfl (.inl rfl) rfl) (ea_cons (ed_var 1 rfl (.inl rfl) rfl) ea_nil)) (hr.mono (by decide)) R0) ?_)
    have h0 : St 0 (some [.int (c : Int), .int (z : Int), .int ((0 : Nat) : Int)]) := ⟨c, z, 0, rfl, hz, by omega⟩
    obtain ⟨t, s1, ok, sm, h1, R1⟩ := rn_told T h0 (by decide)
    obtain ⟨x, hs, s2, hx, hth, h2, R2⟩ := rn_handed T (t := t) h1 (by decide)
    obtain ⟨dr, s3, hdr, h3, R3⟩ := rn_draw T h2 (by decide) (many := 4) (by decide) (by decide)
    obtain ⟨u, s4, oku, smu, h4, R4⟩ : ∃ (u : Tl) (s4 : Sx), u.Ok ∧ u.Sm ∧ St 49 s4 ∧ ((0 < dr ∧ Rn E 4 "_law_near" [.mut, .tup t.ds] s3 (.tup u.ds) s4) ∨ (dr = 0 ∧ Rn E 4 "_law_told" [.mut] s3 (.tup u.ds) s4)) := by
      rcases Nat.eq_zero_or_pos dr with z | z
      · obtain ⟨u, s4, a, b, h4, R⟩ := rn_told T h3 (by decide)
        exact ⟨u, s4, a, b, h4.mono (by decide), .inr ⟨z, R⟩⟩
      · obtain ⟨u, s4, a, b, h4, R⟩ := rn_near T ok sm h3 (by decide)
        exact ⟨u, s4, a, b, h4.mono (by decide), .inl ⟨z, R⟩⟩
    obtain ⟨x1, hs1, s5, hx1, hth1, h5, R5⟩ := rn_handed T (t := t) h4 (by decide)
    obtain ⟨y1, ks1, s6, hy1, htk1, h6, R6⟩ := rn_handed T (t := u) h5 (by decide)
    have K := Tl.mok sm
    have L := Tl.mok smu
    have PS := part_spec K L
    refine bk_stream 2 rfl rfl fun a O H => ?_
    refine bk_cons (bs_set 3 (d := .tup t.ds) sc_law.nd rfl (.inr rfl) (ed_cl (ea_cons (ed_var 2 rfl (.inl rfl) rfl) ea_nil) (hr.mono (by decide)) R1) ?_)
    refine bk_cons (bs_set 4 (d := hD t.fits) sc_law.nd rfl (.inl rfl) (ed_cl (ea_cons (ed_var 3 rfl (.inr (.inl rfl)) rfl) ea_nil) (hr.mono (by decide)) (rn_law_fits T sm)) ?_)
    refine bk_cons (bs_ifF (et_not (k := true) (et_val (ed_cl (ea_cons (ed_cl (ea_cons (ed_cl (ea_cons (ed_var 2 rfl (.inl rfl) rfl) (ea_cons (ed_var 3 rfl (.inr (.inl rfl)) rfl) ea_nil)) (hr.mono (by decide)) R2) ea_nil) (hr.mono (by decide)) (rn_fits_from T B ok sm hth hx)) (ea_cons (ed_var 4 rfl (.inl rfl) rfl) ea_nil)) (hr.mono (by decide)) (rn_same_hD T _)))) (bk_nil ?_))
    -- behind the rooms that fit
    have rest : ∀ (g5 g6 g7 g8 g9 : G) (k : GE), k.nx = (fun ρ2 (_ : Sx) => (fun ρ (s' : Sx) => s' = none ∧ ∃ gs : List G, gs.length = 9 ∧ ρ = .val (.scr ns) :: gs) (ρ2.map gKeep) none) → Bk ((bodyF E ["_law_script", "_law_turn", "_law_draws", "_law_told_here", "_law_due", "_law_rooms", "_law_room", "_law_below", "_law_other", "_law_found"] "law" t_law none fa cdv A outer sh H0 EX S0 p).strm a O H) ((forB ((defBody t_law).getD 0 (.Pass ⟨0, 0, 0, 0⟩))).drop 5) [.val (.scr ns), .val (.int i), .val .mut, .val (.tup t.ds), .val (hD t.fits), g5, g6, g7, g8, g9] s2 k := fun g5 g6 g7 g8 g9 k hk => by
      refine bk_cons (bs_set 8 (d := .tup u.ds) (s1 := s4) sc_law.nd rfl (.inl rfl) ?_ ?_)
      · rcases R4 with ⟨z, R4⟩ | ⟨z, R4⟩
        · exact ed_ifT (Cp.et (Cp.is (cp_gt (ed_cl (ea_cons (ed_var 2 rfl (.inl rfl) rfl) (ea_cons ed_int ea_nil)) (hr.mono (by decide)) R3) ed_int) (decide_eq_true (by omega)))) (ed_cl (ea_cons (ed_var 2 rfl (.inl rfl) rfl) (ea_cons (ed_var 3 rfl (.inr (.inl rfl)) rfl) ea_nil)) (hr.mono (by decide)) R4)
        · exact ed_ifF (Cp.et (Cp.is (cp_gt (ed_cl (ea_cons (ed_var 2 rfl (.inl rfl) rfl) (ea_cons ed_int ea_nil)) (hr.mono (by decide)) R3) ed_int) (decide_eq_false (by omega)))) (ed_cl (ea_cons (ed_var 2 rfl (.inl rfl) rfl) ea_nil) (hr.mono (by decide)) R4)
      refine bk_cons (bs_set 4 (d := hD (t.part u)) sc_law.nd rfl (.inl rfl) (ed_cl (ea_cons (ed_var 3 rfl (.inr (.inl rfl)) rfl) (ea_cons (ed_var 8 rfl (.inl rfl) rfl) ea_nil)) (hr.mono (by decide)) (rn_law_parted T sm smu)) ?_)
      refine bk_cons (bs_set 9 (d := hD (t.part u)) sc_law.nd rfl (.inl rfl) (ed_cl (ea_cons (ed_cl (ea_cons (ed_var 2 rfl (.inl rfl) rfl) (ea_cons (ed_var 3 rfl (.inr (.inl rfl)) rfl) ea_nil)) (hr.mono (by decide)) R5) (ea_cons (ed_cl (ea_cons (ed_var 2 rfl (.inl rfl) rfl) (ea_cons (ed_var 8 rfl (.inl rfl) rfl) ea_nil)) (hr.mono (by decide)) R6) ea_nil)) (hr.mono (by decide)) (rn_parted_from T B ok sm oku smu hth1 hx1 htk1 hy1)) ?_)
      have RB : Rn E 10 "parted_from" [.tup u.ds, .tup t.ds] s6 (hD (t.part u)) s6 := by
        rw [← part_sym K L]
        exact rn_parted_from T B oku smu ok sm (Th.same u) rfl (Th.same t) rfl
      refine bk_cons (bs_ifF (Ew.et (ew_orF (et_not (k := true) (et_val (ed_cl (ea_cons (ed_var 9 rfl (.inl rfl) rfl) (ea_cons (ed_var 4 rfl (.inl rfl) rfl) ea_nil)) (hr.mono (by decide)) (rn_same_hD T _)))) (ew_or1 (et_not (k := true) (et_val (ed_cl (ea_cons (ed_cl (ea_cons (ed_var 8 rfl (.inl rfl) rfl) (ea_cons (ed_var 3 rfl (.inr (.inl rfl)) rfl) ea_nil)) (hr.mono (by decide)) RB) (ea_cons (ed_var 4 rfl (.inl rfl) rfl) ea_nil)) (hr.mono (by decide)) (rn_same_hD T _))))))) (bk_nil ?_))
      have fin : ∀ (g4 : G) (s' : Sx), k.nx [.val (.scr ns), .val (.int i), .val .mut, .val (.tup t.ds), g4, g5, g6, g7, .val (.tup u.ds), .val (hD (t.part u))] s' := fun g4 s' => by
        rw [hk]
        exact ⟨rfl, ([.val (.int i), .val .mut, .val (.tup t.ds), g4, g5, g6, g7, .val (.tup u.ds), .val (hD (t.part u))] : List G).map gKeep, rfl, rfl⟩
      cases ep : t.part u with
      | none =>
        rw [ep] at fin
        exact bk_cons (bs_ifF (Ew.et (ew_andF (Cp.et (Cp.is (cp_notN (ed_var (d := .non) 4 rfl (.inl rfl) rfl)) rfl)))) (bk_nil (bk_nil (fin _ _))))
      | some y =>
        rw [ep] at PS fin
        obtain ⟨y0, yq, _⟩ := PS
        have zy : Sz 110 y := (part_sz K L ep).mono (by decide)
        by_cases yp : 0 < y
        · have hy := yq yp y y0 Rat.le_refl
          refine bk_cons (bs_ifF (Ew.et (ew_andT (Cp.et (Cp.is (cp_notN (ed_var (d := fr y) 4 rfl (.inl rfl) rfl)) rfl)) (ew_andT (Cp.et (Cp.is (cp_gt (ed_ix (ed_var (d := fr y) 4 rfl (.inl rfl) rfl) ed_int rfl) ed_int) ((num_gt y y0).trans (decide_eq_true yp)))) (ew_and1 (Cp.et (Cp.is (cp_ne hr (ed_cl (ea_cons (ed_var 3 rfl (.inr (.inl rfl)) rfl) (ea_cons (ed_var (d := fr y) 4 rfl (.inl rfl) rfl) ea_nil)) (hr.mono (by decide)) (rn_across_of T ok sm (Th.same t) rfl (rm_fr y0 zy) zy)) (ed_cl (ea_cons (ed_var 8 rfl (.inl rfl) rfl) (ea_cons (ed_var (d := fr y) 4 rfl (.inl rfl) rfl) ea_nil)) (hr.mono (by decide)) (rn_across_of T oku smu (Th.same u) rfl (rm_fr y0 zy) zy)) (frs_eqD _).eqC (frs_eqD _).eqC) ?_)))))) (bk_nil (bk_nil (fin _ _))))
          rw [tup_eqb, frs_eqbs, decide_eq_true hy]; rfl
        · exact bk_cons (bs_ifF (Ew.et (ew_andT (Cp.et (Cp.is (cp_notN (ed_var (d := fr y) 4 rfl (.inl rfl) rfl)) rfl)) (ew_andF (Cp.et (Cp.is (cp_gt (ed_ix (ed_var (d := fr y) 4 rfl (.inl rfl) rfl) ed_int rfl) ed_int) ((num_gt y y0).trans (decide_eq_false yp))))))) (bk_nil (bk_nil (fin _ _))))
    cases ef : t.fits with
    | none =>
      rw [ef] at rest
      exact bk_cons (bs_ifF (Cp.et (Cp.is (cp_notN (ed_var (d := .non) 4 rfl (.inl rfl) rfl)) rfl)) (bk_nil (rest _ _ _ _ _ _ rfl)))
    | some q =>
      rw [ef] at rest
      have FT := t.fits_fit sm ef
      have q0 := FT.nn
      have zq := fits_sz sm ef
      have z17 : Sz 10 (mkRat (1 : Nat) 7) := ⟨(by decide +kernel : (mkRat ((1 : Nat) : Int) 7).num.natAbs < 2 ^ 10), (by decide +kernel : (mkRat ((1 : Nat) : Int) 7).den < 2 ^ 10)⟩
      have z5 : Sz 10 (mkRat (500 : Nat) 3) := ⟨(by decide +kernel : (mkRat ((500 : Nat) : Int) 3).num.natAbs < 2 ^ 10), (by decide +kernel : (mkRat ((500 : Nat) : Int) 3).den < 2 ^ 10)⟩
      have v17 : (mkRat ((1 : Nat) : Int) 7 : Rat) = 1 / 7 := by decide +kernel
      have v5 : (mkRat ((500 : Nat) : Int) 3 : Rat) = 500 / 3 := by decide +kernel
      have p2 : ∀ {n k : Nat}, n < 2 ^ k → k ≤ 3000 → n < 2 ^ 3000 := fun a b => Nat.lt_of_lt_of_le a (Nat.pow_le_pow_right (by decide) b)
      refine bk_cons (bs_ifT (Cp.et (Cp.is (cp_notN (ed_var (d := fr q) 4 rfl (.inl rfl) rfl)) rfl)) ?_)
      have rs : ∀ r ∈ [q, q + mkRat (1 : Nat) 7, q + mkRat (500 : Nat) 3], q ≤ r ∧ Sz 110 r := fun r m => by
        simp only [List.mem_cons, List.not_mem_nil, or_false] at m
        rcases m with rfl | rfl | rfl
        · exact ⟨Rat.le_refl, zq.mono (by decide)⟩
        · exact ⟨by rw [v17]; grind, (zq.add z17).mono (by decide)⟩
        · exact ⟨by rw [v5]; grind, (zq.add z5).mono (by decide)⟩
      refine bk_cons (bs_set 5 (d := .lst ([q, q + mkRat (1 : Nat) 7, q + mkRat (500 : Nat) 3].map fr)) sc_law.nd rfl (.inl rfl) (El.ed (el_lst (ea_cons (ed_var (d := fr q) 4 rfl (.inl rfl) rfl) (ea_cons (ed_cl (ea_cons (ed_var (d := fr q) 4 rfl (.inl rfl) rfl) (ea_cons (Ed.is (ed_tup (ea_cons ed_int (ea_cons ed_int ea_nil))) fr17) ea_nil)) (hr.mono (by decide)) (rn_law_plus T (zq.mono (by decide)) (z17.mono (by decide)))) (ea_cons (ed_cl (ea_cons (ed_var (d := fr q) 4 rfl (.inl rfl) rfl) (ea_cons (Ed.is (ed_tup (ea_cons ed_int (ea_cons ed_int ea_nil))) fr5003) ea_nil)) (hr.mono (by decide)) (rn_law_plus T (zq.mono (by decide)) (z5.mono (by decide)))) ea_nil))))) ?_)
      refine bk_cons (bs_ifF (et_val (Ed.is (ed_any T.bf rfl (bs := [false, false, false]) (Ed.is (El.ed (el_map [("_law_room", 6)] (fun _ => .bl false) rfl sc_law.nd (ei_seq (ed_var (d := .lst ([q, q + mkRat (1 : Nat) 7, q + mkRat (500 : Nat) 3].map fr)) 5 rfl (.inl rfl) rfl) (.inl rfl)) (blkOk_by rfl) (by show 3 ≤ sizeLine; decide) (fun j d hj => ?_))) rfl)) rfl)) (bk_nil ?_))
      · obtain ⟨r, rm, rfl⟩ := List.mem_map.mp (List.mem_of_getElem? hj)
        obtain ⟨r1, zr⟩ := rs r rm
        have hp : ¬ t.right r < 0 := by have := FT.pos r r1; grind
        refine ⟨_, _, fun c => eg_name 6 sc_law.nd rfl (.inl rfl), by decide, fun c => Ed.is (ed_cl (ea_cons (ed_ix (d := fr (t.right r)) (ed_cl (ea_cons (ed_var 3 rfl (.inr (.inl rfl)) rfl) (ea_cons (ed_var 6 rfl (.inl rfl) rfl) ea_nil)) (hr.mono (by decide)) (rn_across_of T ok sm (Th.same t) rfl (rm_fr (by grind) zr) zr)) ed_int rfl) (ea_cons (Ed.is (ed_tup (ea_cons ed_int (ea_cons ed_int ea_nil))) fr0D) ea_nil)) (hr.mono (by decide)) (rn_law_less T ((sm.zright zr).mono (by decide)) .zero)) ?_⟩
        rw [decide_eq_false hp]
      have zb : Sz 50 (q * mkRat (99 : Nat) 100) := (zq.mul (Sz.mk (b := 100) (n := 7) (t := ((99 : Nat) : Int)) (by decide) (by decide) (by decide))).mono (by decide)
      have b0 : 0 ≤ q * mkRat (99 : Nat) 100 := by rw [fr99]; grind
      refine bk_cons (bs_set 7 (d := fr (q * mkRat (99 : Nat) 100)) sc_law.nd rfl (.inl rfl) (ed_cl (ea_cons (ed_var (d := fr q) 4 rfl (.inl rfl) rfl) (ea_cons (ed_tup (ea_cons ed_int (ea_cons ed_int ea_nil))) ea_nil)) (hr.mono (by decide)) (rn_law_timesP (n := 99) (m := 100) T (zq.mono (by decide)) (p2 (k := 7) (by decide) (by decide)) (p2 (k := 7) (by decide) (by decide)) (by decide))) ?_)
      by_cases qp : 0 < q
      · have hb : t.right (q * mkRat (99 : Nat) 100) < 0 := by rw [fr99]; exact fit_below FT qp
        refine bk_cons (bs_ifF (Ew.et (ew_andT (Cp.et (Cp.is (cp_gt (ed_ix (ed_var (d := fr q) 4 rfl (.inl rfl) rfl) ed_int rfl) ed_int) ((num_gt q q0).trans (decide_eq_true qp)))) (ew_and1 (et_not (k := true) (et_val (Ed.is (ed_cl (ea_cons (ed_ix (d := fr (t.right (q * mkRat (99 : Nat) 100))) (ed_cl (ea_cons (ed_var 3 rfl (.inr (.inl rfl)) rfl) (ea_cons (ed_var 7 rfl (.inl rfl) rfl) ea_nil)) (hr.mono (by decide)) (rn_across_of T ok sm (Th.same t) rfl (rm_fr b0 (zb.mono (by decide))) (zb.mono (by decide)))) ed_int rfl) (ea_cons (Ed.is (ed_tup (ea_cons ed_int (ea_cons ed_int ea_nil))) fr0D) ea_nil)) (hr.mono (by decide)) (rn_law_less T ((sm.zright (zb.mono (by decide))).mono (by decide)) .zero)) ?_)))))) (bk_nil (bk_nil (rest _ _ _ _ _ _ rfl))))
        rw [decide_eq_true hb]
      · exact bk_cons (bs_ifF (Ew.et (ew_andF (Cp.et (Cp.is (cp_gt (ed_ix (ed_var (d := fr q) 4 rfl (.inl rfl) rfl) ed_int rfl) ed_int) ((num_gt q q0).trans (decide_eq_false qp)))))) (bk_nil (bk_nil (rest _ _ _ _ _ _ rfl))))
  · rintro ρ' s' ⟨rfl, gs, hgs, rfl⟩
    exact bk_cons (bs_ret ed_bl ⟨rfl, rfl⟩)
end Law
set_option Elab.async false
set_option linter.all false
set_option maxRecDepth 100000
set_option maxHeartbeats 0
namespace Law
open PySem PySem.Spec PyProof.Rows L2 Gh LawH
theorem bf_of {K : PySem.W.Frag} {h : Heap} {mg : Str → Option Value} {w : World} (X : K.In h) (G : h.Ns mainGlobals mg) (c : He.SaysX fa fn ts [] ex w h K) : Bf mg :=
  ⟨He.free_ok X G (c.t.d.fact 64 (f := .free "len") rfl), He.free_ok X G (c.t.d.fact 65 (f := .free "isinstance") rfl), He.free_ok X G (c.t.d.fact 66 (f := .free "abs") rfl), He.free_ok X G (c.t.d.fact 67 (f := .free "min") rfl), He.free_ok X G (c.t.d.fact 68 (f := .free "max") rfl), He.free_ok X G (c.t.d.fact 69 (f := .free "sum") rfl), He.free_ok X G (c.t.d.fact 70 (f := .free "all") rfl), He.free_ok X G (c.t.d.fact 71 (f := .free "any") rfl), He.free_ok X G (c.t.d.fact 72 (f := .free "range") rfl), He.free_ok X G (c.t.d.fact 73 (f := .free "zip") rfl), He.free_ok X G (c.t.d.fact 74 (f := .free "enumerate") rfl), He.free_ok X G (c.t.d.fact 75 (f := .free "sorted") rfl), He.free_ok X G (c.t.d.fact 76 (f := .free "int") rfl), He.free_ok X G (c.t.d.fact 77 (f := .free "bool") rfl), He.free_ok X G (c.t.d.fact 78 (f := .free "str") rfl), He.free_ok X G (c.t.d.fact 79 (f := .free "list") rfl), He.free_ok X G (c.t.d.fact 80 (f := .free "tuple") rfl), He.free_ok X G (c.t.d.fact 81 (f := .free "dict") rfl), He.free_ok X G (c.t.d.fact 82 (f := .free "set") rfl)⟩
theorem tx_of {E : En} {h : Heap} (X : E.K.In h) (G : h.Ns mainGlobals E.mg) (c : He.SaysX fa fn ts [] ex E.w h E.K) : Tx E where
  bf := bf_of X G c
  d_is_list := df_of X G (c.t.d.def_ 0 (d := d4) rfl) (c.t.d.fact 0 (f := .glo "is_list") rfl) fun _ _ _ _ _ _ us hl => match us, hl with | [_], _ => rfl
  d_is_whole := df_of X G (c.t.d.def_ 1 (d := d5) rfl) (c.t.d.fact 1 (f := .glo "is_whole") rfl) fun _ _ _ _ _ _ us hl => match us, hl with | [_], _ => rfl
  d_is_natural := df_of X G (c.t.d.def_ 2 (d := d6) rfl) (c.t.d.fact 2 (f := .glo "is_natural") rfl) fun _ _ _ _ _ _ us hl => match us, hl with | [_], _ => rfl
  d_is_word := df_of X G (c.t.d.def_ 3 (d := d7) rfl) (c.t.d.fact 3 (f := .glo "is_word") rfl) fun _ _ _ _ _ _ us hl => match us, hl with | [_], _ => rfl
  d_lowest := df_of X G (c.t.d.def_ 4 (d := d8) rfl) (c.t.d.fact 4 (f := .glo "lowest") rfl) fun _ _ _ _ _ _ us hl => match us, hl with | [_, _], _ => rfl
  d_is_frac := df_of X G (c.t.d.def_ 5 (d := d9) rfl) (c.t.d.fact 5 (f := .glo "is_frac") rfl) fun _ _ _ _ _ _ us hl => match us, hl with | [_], _ => rfl
  d_frac_of := df_of X G (c.t.d.def_ 6 (d := d10) rfl) (c.t.d.fact 6 (f := .glo "frac_of") rfl) fun _ _ _ _ _ _ us hl => match us, hl with | [_], _ => rfl
  d_is_width := df_of X G (c.t.d.def_ 7 (d := d11) rfl) (c.t.d.fact 7 (f := .glo "is_width") rfl) fun _ _ _ _ _ _ us hl => match us, hl with | [_], _ => rfl
  d_plus := df_of X G (c.t.d.def_ 8 (d := d12) rfl) (c.t.d.fact 8 (f := .glo "plus") rfl) fun _ _ _ _ _ _ us hl => match us, hl with | [_, _], _ => rfl
  d_minus := df_of X G (c.t.d.def_ 9 (d := d13) rfl) (c.t.d.fact 9 (f := .glo "minus") rfl) fun _ _ _ _ _ _ us hl => match us, hl with | [_, _], _ => rfl
  d_times := df_of X G (c.t.d.def_ 10 (d := d14) rfl) (c.t.d.fact 10 (f := .glo "times") rfl) fun _ _ _ _ _ _ us hl => match us, hl with | [_, _], _ => rfl
  d_over := df_of X G (c.t.d.def_ 11 (d := d15) rfl) (c.t.d.fact 11 (f := .glo "over") rfl) fun _ _ _ _ _ _ us hl => match us, hl with | [_, _], _ => rfl
  d_is_less := df_of X G (c.t.d.def_ 12 (d := d16) rfl) (c.t.d.fact 12 (f := .glo "is_less") rfl) fun _ _ _ _ _ _ us hl => match us, hl with | [_, _], _ => rfl
  d_is_upto := df_of X G (c.t.d.def_ 13 (d := d17) rfl) (c.t.d.fact 13 (f := .glo "is_upto") rfl) fun _ _ _ _ _ _ us hl => match us, hl with | [_, _], _ => rfl
  d_least_of := df_of X G (c.t.d.def_ 14 (d := d18) rfl) (c.t.d.fact 14 (f := .glo "least_of") rfl) fun _ _ _ _ _ _ us hl => match us, hl with | [_], _ => rfl
  d_flat_form := df_of X G (c.t.d.def_ 15 (d := d25) rfl) (c.t.d.fact 15 (f := .glo "flat_form") rfl) fun _ _ _ _ _ _ us hl => match us, hl with | [_], _ => rfl
  d_plus_form := df_of X G (c.t.d.def_ 16 (d := d26) rfl) (c.t.d.fact 16 (f := .glo "plus_form") rfl) fun _ _ _ _ _ _ us hl => match us, hl with | [_, _], _ => rfl
  d_minus_form := df_of X G (c.t.d.def_ 17 (d := d27) rfl) (c.t.d.fact 17 (f := .glo "minus_form") rfl) fun _ _ _ _ _ _ us hl => match us, hl with | [_, _], _ => rfl
  d_scaled_form := df_of X G (c.t.d.def_ 18 (d := d28) rfl) (c.t.d.fact 18 (f := .glo "scaled_form") rfl) fun _ _ _ _ _ _ us hl => match us, hl with | [_, _], _ => rfl
  d_plain_ask := df_of X G (c.t.d.def_ 19 (d := d29) rfl) (c.t.d.fact 19 (f := .glo "plain_ask") rfl) fun _ _ _ _ _ _ us hl => match us, hl with | [_, _], _ => rfl
  d_worth_at := df_of X G (c.t.d.def_ 20 (d := d30) rfl) (c.t.d.fact 20 (f := .glo "worth_at") rfl) fun _ _ _ _ _ _ us hl => match us, hl with | [_, _], _ => rfl
  d_is_tagged := df_of X G (c.t.d.def_ 21 (d := d34) rfl) (c.t.d.fact 21 (f := .glo "is_tagged") rfl) fun _ _ _ _ _ _ us hl => match us, hl with | [_, _], _ => rfl
  d_is_length := df_of X G (c.t.d.def_ 22 (d := d35) rfl) (c.t.d.fact 22 (f := .glo "is_length") rfl) fun _ _ _ _ _ _ us hl => match us, hl with | [_], _ => rfl
  d_is_letter_sign := df_of X G (c.t.d.def_ 23 (d := d36) rfl) (c.t.d.fact 23 (f := .glo "is_letter_sign") rfl) fun _ _ _ _ _ _ us hl => match us, hl with | [_], _ => rfl
  d_is_spot := df_of X G (c.t.d.def_ 24 (d := d37) rfl) (c.t.d.fact 24 (f := .glo "is_spot") rfl) fun _ _ _ _ _ _ us hl => match us, hl with | [_], _ => rfl
  d_is_told_word := df_of X G (c.t.d.def_ 25 (d := d38) rfl) (c.t.d.fact 25 (f := .glo "is_told_word") rfl) fun _ _ _ _ _ _ us hl => match us, hl with | [_, _], _ => rfl
  d_is_size := df_of X G (c.t.d.def_ 26 (d := d39) rfl) (c.t.d.fact 26 (f := .glo "is_size") rfl) fun _ _ _ _ _ _ us hl => match us, hl with | [_], _ => rfl
  d_is_plain_value := df_of X G (c.t.d.def_ 27 (d := d40) rfl) (c.t.d.fact 27 (f := .glo "is_plain_value") rfl) fun _ _ _ _ _ _ us hl => match us, hl with | [_, _], _ => rfl
  d_checked_told := df_of X G (c.t.d.def_ 28 (d := d46) rfl) (c.t.d.fact 28 (f := .glo "checked_told") rfl) fun _ _ _ _ _ _ us hl => match us, hl with | [_], _ => rfl
  d_length_form := df_of X G (c.t.d.def_ 29 (d := d47) rfl) (c.t.d.fact 29 (f := .glo "length_form") rfl) fun _ _ _ _ _ _ us hl => match us, hl with | [_, _], _ => rfl
  d_told_forms := df_of X G (c.t.d.def_ 30 (d := d48) rfl) (c.t.d.fact 30 (f := .glo "told_forms") rfl) fun _ _ _ _ _ _ us hl => match us, hl with | [_, _], _ => rfl
  d_held_form := df_of X G (c.t.d.def_ 31 (d := d49) rfl) (c.t.d.fact 31 (f := .glo "held_form") rfl) fun _ _ _ _ _ _ us hl => match us, hl with | [_, _, _, _], _ => rfl
  d_margin_form := df_of X G (c.t.d.def_ 32 (d := d50) rfl) (c.t.d.fact 32 (f := .glo "margin_form") rfl) fun _ _ _ _ _ _ us hl => match us, hl with | [_], _ => rfl
  d_across_forms := df_of X G (c.t.d.def_ 33 (d := d51) rfl) (c.t.d.fact 33 (f := .glo "across_forms") rfl) fun _ _ _ _ _ _ us hl => match us, hl with | [_, _, _], _ => rfl
  d_forms_in := df_of X G (c.t.d.def_ 34 (d := d52) rfl) (c.t.d.fact 34 (f := .glo "forms_in") rfl) fun _ _ _ _ _ _ us hl => match us, hl with | [_, _, _], _ => rfl
  d_across_of := df_of X G (c.t.d.def_ 35 (d := d53) rfl) (c.t.d.fact 35 (f := .glo "across_of") rfl) fun _ _ _ _ _ _ us hl => match us, hl with | [_, _], _ => rfl
  d_pieces_of := df_of X G (c.t.d.def_ 36 (d := d55) rfl) (c.t.d.fact 36 (f := .glo "pieces_of") rfl) fun _ _ _ _ _ _ us hl => match us, hl with | [_], _ => rfl
  d_in_rooms := df_of X G (c.t.d.def_ 37 (d := d56) rfl) (c.t.d.fact 37 (f := .glo "in_rooms") rfl) fun _ _ _ _ _ _ us hl => match us, hl with | [_], _ => rfl
  d_fits_from := df_of X G (c.t.d.def_ 38 (d := d57) rfl) (c.t.d.fact 38 (f := .glo "fits_from") rfl) fun _ _ _ _ _ _ us hl => match us, hl with | [_], _ => rfl
  d_parted_from := df_of X G (c.t.d.def_ 39 (d := d58) rfl) (c.t.d.fact 39 (f := .glo "parted_from") rfl) fun _ _ _ _ _ _ us hl => match us, hl with | [_, _], _ => rfl
  d__law_source := df_of X G (c.t.d.def_ 40 (d := d60) rfl) (c.t.d.fact 40 (f := .glo "_law_source") rfl) fun _ _ _ _ _ _ us hl => match us, hl with | [_, _], _ => rfl
  d__law_draw := df_of X G (c.t.d.def_ 41 (d := d61) rfl) (c.t.d.fact 41 (f := .glo "_law_draw") rfl) fun _ _ _ _ _ _ us hl => match us, hl with | [_, _], _ => rfl
  d__law_pick := df_of X G (c.t.d.def_ 42 (d := d62) rfl) (c.t.d.fact 42 (f := .glo "_law_pick") rfl) fun _ _ _ _ _ _ us hl => match us, hl with | [_, _], _ => rfl
  d__law_same := df_of X G (c.t.d.def_ 43 (d := d63) rfl) (c.t.d.fact 43 (f := .glo "_law_same") rfl) fun _ _ _ _ _ _ us hl => match us, hl with | [_, _], _ => rfl
  d__law_lowest := df_of X G (c.t.d.def_ 44 (d := d64) rfl) (c.t.d.fact 44 (f := .glo "_law_lowest") rfl) fun _ _ _ _ _ _ us hl => match us, hl with | [_, _], _ => rfl
  d__law_plus := df_of X G (c.t.d.def_ 45 (d := d65) rfl) (c.t.d.fact 45 (f := .glo "_law_plus") rfl) fun _ _ _ _ _ _ us hl => match us, hl with | [_, _], _ => rfl
  d__law_minus := df_of X G (c.t.d.def_ 46 (d := d66) rfl) (c.t.d.fact 46 (f := .glo "_law_minus") rfl) fun _ _ _ _ _ _ us hl => match us, hl with | [_, _], _ => rfl
  d__law_times := df_of X G (c.t.d.def_ 47 (d := d67) rfl) (c.t.d.fact 47 (f := .glo "_law_times") rfl) fun _ _ _ _ _ _ us hl => match us, hl with | [_, _], _ => rfl
  d__law_over := df_of X G (c.t.d.def_ 48 (d := d68) rfl) (c.t.d.fact 48 (f := .glo "_law_over") rfl) fun _ _ _ _ _ _ us hl => match us, hl with | [_, _], _ => rfl
  d__law_less := df_of X G (c.t.d.def_ 49 (d := d69) rfl) (c.t.d.fact 49 (f := .glo "_law_less") rfl) fun _ _ _ _ _ _ us hl => match us, hl with | [_, _], _ => rfl
  d__law_sorted := df_of X G (c.t.d.def_ 50 (d := d70) rfl) (c.t.d.fact 50 (f := .glo "_law_sorted") rfl) fun _ _ _ _ _ _ us hl => match us, hl with | [_], _ => rfl
  d__law_length := df_of X G (c.t.d.def_ 51 (d := d71) rfl) (c.t.d.fact 51 (f := .glo "_law_length") rfl) fun _ _ _ _ _ _ us hl => match us, hl with | [_, _], _ => rfl
  d__law_told := df_of X G (c.t.d.def_ 52 (d := d72) rfl) (c.t.d.fact 52 (f := .glo "_law_told") rfl) fun _ _ _ _ _ _ us hl => match us, hl with | [_], _ => rfl
  d__law_handed_told := df_of X G (c.t.d.def_ 53 (d := d73) rfl) (c.t.d.fact 53 (f := .glo "_law_handed_told") rfl) fun _ _ _ _ _ _ us hl => match us, hl with | [_, _], _ => rfl
  d__law_worth := df_of X G (c.t.d.def_ 54 (d := d74) rfl) (c.t.d.fact 54 (f := .glo "_law_worth") rfl) fun _ _ _ _ _ _ us hl => match us, hl with | [_, _], _ => rfl
  d__law_held := df_of X G (c.t.d.def_ 55 (d := d75) rfl) (c.t.d.fact 55 (f := .glo "_law_held") rfl) fun _ _ _ _ _ _ us hl => match us, hl with | [_, _, _], _ => rfl
  d__law_across := df_of X G (c.t.d.def_ 56 (d := d76) rfl) (c.t.d.fact 56 (f := .glo "_law_across") rfl) fun _ _ _ _ _ _ us hl => match us, hl with | [_, _], _ => rfl
  d__law_form := df_of X G (c.t.d.def_ 57 (d := d77) rfl) (c.t.d.fact 57 (f := .glo "_law_form") rfl) fun _ _ _ _ _ _ us hl => match us, hl with | [_, _, _, _], _ => rfl
  d__law_corners := df_of X G (c.t.d.def_ 58 (d := d78) rfl) (c.t.d.fact 58 (f := .glo "_law_corners") rfl) fun _ _ _ _ _ _ us hl => match us, hl with | [_], _ => rfl
  d__law_pieces := df_of X G (c.t.d.def_ 59 (d := d79) rfl) (c.t.d.fact 59 (f := .glo "_law_pieces") rfl) fun _ _ _ _ _ _ us hl => match us, hl with | [_], _ => rfl
  d__law_fits := df_of X G (c.t.d.def_ 60 (d := d80) rfl) (c.t.d.fact 60 (f := .glo "_law_fits") rfl) fun _ _ _ _ _ _ us hl => match us, hl with | [_], _ => rfl
  d__law_near := df_of X G (c.t.d.def_ 61 (d := d81) rfl) (c.t.d.fact 61 (f := .glo "_law_near") rfl) fun _ _ _ _ _ _ us hl => match us, hl with | [_, _], _ => rfl
  d__law_parted := df_of X G (c.t.d.def_ 62 (d := d82) rfl) (c.t.d.fact 62 (f := .glo "_law_parted") rfl) fun _ _ _ _ _ _ us hl => match us, hl with | [_, _], _ => rfl
  d_law := df_of X G (c.t.d.def_ 63 (d := d83) rfl) (c.t.d.fact 63 (f := .glo "law") rfl) fun _ _ _ _ _ _ us hl => match us, hl with | [_], _ => rfl
theorem half_num : ((1 / 2 : Rat)).num = 1 := by decide +kernel
theorem half_den : ((1 / 2 : Rat)).den = 2 := by decide +kernel
theorem one_num : (1 : Rat).num = 1 := by decide +kernel
theorem one_den : (1 : Rat).den = 1 := by decide +kernel
theorem tc_of {E : En} {h : Heap} (X : E.K.In h) (G : h.Ns mainGlobals E.mg) (c : He.SaysX fa fn ts [] ex E.w h E.K) : Tc E := by
  obtain ⟨z1, m1⟩ := He.ba c.more
  obtain ⟨zo, m1⟩ := He.ba m1
  obtain ⟨z2, m2⟩ := He.ba m1
  obtain ⟨z3, m3⟩ := He.ba m2
  obtain ⟨za, m3⟩ := He.ba m3
  obtain ⟨z4, m4⟩ := He.ba m3
  obtain ⟨z5, m5⟩ := He.ba m4
  obtain ⟨z6, _⟩ := He.ba m5
  have zero : ∀ p S H, Rp E.K p S H (.ref (He.ga E.K "ZERO")) (fr 0) := fun p S H => .tup (.inr (He.tupB_ok z1 _)) (.cons (.int 0) (.cons (.int 1) .nil))
  have one : ∀ p S H, Rp E.K p S H (.ref (He.ga E.K "ONE")) (fr 1) := fun p S H => by
    unfold fr; rw [one_num, one_den]
    exact .tup (.inr (He.tupB_ok zo _)) (.cons (.int 1) (.cons (.int 1) .nil))
  refine { tx_of X G c with c_ZERO := ?_, c_ONE := ?_, c_ALL := ?_, c_HALF := ?_, c_FLAT := ?_, c_ACROSS := ?_, k_MENUS := ?_, k_FIRSTS := ?_ }
  · exact cst_tup X G (c.t.d.facts (f := .glo "ZERO") (by simp [fa, fa0, fa1, fa2])) z1 fun p S H => .cons (.int 0) (.cons (.int 1) .nil)
  · unfold fr
    rw [one_num, one_den]
    exact cst_tup X G (c.t.d.facts (f := .glo "ONE") (by simp [fa, fa0, fa1, fa2])) zo fun p S H => .cons (.int 1) (.cons (.int 1) .nil)
  · exact cst_tup X G (c.t.d.facts (f := .glo "ALL_ROOMS") (by simp [fa, fa0, fa1, fa2])) za fun p S H => .cons (zero p S H) (.cons (one p S H) .nil)
  · unfold fr
    rw [half_num, half_den]
    exact cst_tup X G (c.t.d.facts (f := .glo "HALF") (by simp [fa, fa0, fa1, fa2])) z2 fun p S H => .cons (.int 1) (.cons (.int 2) .nil)
  · exact cst_tup X G (c.t.d.facts (f := .glo "FLAT_ZERO") (by simp [fa, fa0, fa1, fa2])) z3 fun p S H => .cons (zero p S H) (.cons (zero p S H) .nil)
  · exact cst_tup X G (c.t.d.facts (f := .glo "ACROSS") (by simp [fa, fa0, fa1, fa2])) z4 fun p S H => .cons (.str _) (.cons (.str _) (.cons (.str _) (.cons (.str _) (.cons (.str _) (.cons (.str _) (.cons (.str _) .nil))))))
  · obtain ⟨es, n, kd⟩ := c.t.tab 0 rfl
    refine ⟨_, es, n, He.glo_ok X G (c.t.d.facts (f := .glo "MENUS") (by simp [fa, fa0, fa1, fa2])), kd, fun z o ho => ?_⟩
    unfold menusAt at ho
    split at ho
    · rename_i m
      cases ho
      exact ⟨none, absB_ok z6 m, rfl⟩
    · cases ho
  · obtain ⟨es, n, kd⟩ := c.t.tab 1 rfl
    refine ⟨_, es, n, He.glo_ok X G (c.t.d.facts (f := .glo "FIRSTS") (by simp [fa, fa0, fa1, fa2])), kd, fun z o ho => ?_⟩
    unfold firstsAt at ho
    split at ho
    · rename_i m
      subst m
      cases ho
      obtain ⟨u, h1, h2⟩ := He.valsB_ok z5 (q := ("most", .str "none")) (by simp)
      exact ⟨some u, h1, u, .str "none", rfl, h2, fun _ _ _ => .str _⟩
    · cases ho
theorem bh_of {E : En} {h : Heap} (X : E.K.In h) (G : h.Ns mainGlobals E.mg) (c : He.SaysX fa fn ts [] ex E.w h E.K) : Bh E (He.ga E.K "Behind") (He.ma E.K (He.ga E.K "Behind") "__init__") (He.ma E.K (He.ga E.K "Behind") "asked") := by
  obtain ⟨_, m1⟩ := He.ba c.more
  obtain ⟨_, m1⟩ := He.ba m1
  obtain ⟨_, m1⟩ := He.ba m1
  obtain ⟨_, m1⟩ := He.ba m1
  obtain ⟨_, m1⟩ := He.ba m1
  obtain ⟨_, m1⟩ := He.ba m1
  obtain ⟨_, m1⟩ := He.ba m1
  obtain ⟨_, m1⟩ := He.ba m1
  obtain ⟨g1, m1⟩ := He.ba m1
  obtain ⟨g2, g3⟩ := He.ba m1
  refine ⟨He.glo_ok X G (c.t.d.facts (f := .glo "Behind") (by simp [fa, fa0, fa1, fa2])), He.cls_ok (c.t.d.facts (f := .cls "Behind") (by simp [fa, fa0, fa1, fa2])), He.noat_ok (c.t.d.facts (f := .noat "Behind" "room") (by simp [fa, fa0, fa1, fa2])), He.noat_ok (c.t.d.facts (f := .noat "Behind" "corners") (by simp [fa, fa0, fa1, fa2])), He.mkr_ok (c.t.d.facts (f := .mkr "Behind") (by simp [fa, fa0, fa1, fa2])),
    ⟨He.meth_ok (c.t.d.facts (f := .meth "Behind" "asked") (by simp [fa, fa0, fa1, fa2])), He.eqO_ok g1, of_decide_eq_true g2, rfl, g3⟩, ⟨?_⟩, ⟨?_⟩⟩
  · obtain ⟨fd, F⟩ := c.t.d.def_ 64 (d := d54_0) rfl
    exact ⟨fd, fun_of F, F.bindsN fun _ _ _ _ _ _ us hl => match us, hl with | [_, _], _ => rfl⟩
  · obtain ⟨fd, F⟩ := c.t.d.def_ 65 (d := d54_1) rfl
    exact ⟨fd, fun_of F, F.bindsN fun _ _ _ _ _ _ us hl => match us, hl with | [_, _, _], _ => rfl⟩
end Law
open PySem PySem.W PySem.Calls PyProof.Rows
theorem PySem.Challenge.cw_pagefall_k40_whole_fitting_and_parting_holds : PySem.Challenge.rw_pagefall_k40_whole_fitting_and_parting.Holds := by
  w_on; o_law
  refine HandSHeadRun.head_any (r := OpenLaw.row PySem.Challenge.rw_pagefall_k40_whole_fitting_and_parting) (q := LawH.qv) (H := LawH.hk) (ob := LawH.ob) (M := 6000) (loose := LawH.loose) (d := HandSHeadRun.topDef (OpenLaw.row PySem.Challenge.rw_pagefall_k40_whole_fitting_and_parting).prog 83) (kwd := []) LawH.ob_eq
    (by kernel_rfl) (fun s => by kernel_rfl) LawH.run (by kernel_rfl) (by kernel_rfl) (by kernel_rfl) (by rfl) (by first | assumption | decide +kernel) (by decide +kernel) ⟨rfl, rfl, rfl, rfl, rfl, by decide +kernel⟩ ?hw ?hc
  case hw => w_witness2
  case hc =>
    refine L2.walk_ofE (l := PySem.Challenge.rw_pagefall_k40_whole_fitting_and_parting) (n := 63) (k := 12) (x := "_law_script") (CX := L2.CX0) rfl (by decide) (by kernel_rfl) ⟨rfl, by decide, by decide⟩ ?F (fun _ _ _ _ z => z)
    intro w mg fa h Y G hmg0
    obtain ⟨K, KX, c⟩ := Y
    have hmg : mg ("law" : PySem.Str) = some (.ref fa) := by
      have e : (HandSHeadRun.topDef (OpenLaw.row PySem.Challenge.rw_pagefall_k40_whole_fitting_and_parting).prog 83).name = ("law" : PySem.Str) := by kernel_rfl
      rw [← e]
      exact hmg0
    obtain ⟨fd, F⟩ := c.t.d.def_ 63 (d := LawH.d83) rfl
    have e := hmg.symm.trans (He.glo_ok KX G (c.t.d.fact 63 (f := .glo "law") rfl))
    cases e
    have b := L2.FunD.bindsA (ps := ["_law_script"]) F fun _ _ _ _ _ _ us hl => match us, hl with | [_], _ => rfl
    refine ⟨K, fd, Gh.spLaw K, KX, fun s v => b s [v] rfl, fun H a ns hl _ hS => Gh.law_in hl hS, fun base KB GB => ?_⟩
    exact Gh.law_ok (E := ⟨(PySem.Challenge.rw_pagefall_k40_whole_fitting_and_parting).prog, w, K, mg, base, []⟩) (st := Law.t_law) (Gh.fun_of F) Law.sc_law fun ns hl => Law.law_body (Law.tc_of (E := ⟨(PySem.Challenge.rw_pagefall_k40_whole_fitting_and_parting).prog, w, K, mg, base, []⟩) KX G c) (Law.bh_of (E := ⟨(PySem.Challenge.rw_pagefall_k40_whole_fitting_and_parting).prog, w, K, mg, base, []⟩) KX G c) hl
