import PyProof.Rows.All
import Wide.All
import OpenK.AllK
import Wide.FinOn
import KE.KStateDown
import Lean
import HandS.ForMost
import HandS.Defaults
import HandS.TupAny
import HandS.TupMul
import HandS.Zip
import HandS.IsInst
import HandS.Wide
import HandS.Flt
import HandS.Exc
import HandS.ExcInit
import HandS.TryOnly
import HandS.WordsExc
import HandS.Head0
import HandS.Head1
import HandS.Head2
import HandS.HeadEnd
import HandS.HeadHook1
import HandS.HeadHook2
import PySem.Challenge.RW_halftruths_k14_whole_least_denominators
import KE.GoesMore
import KE.KDictZip
import KE.GoesEnum
import PyProof.ListNew
import HandS.ExcField
import HandS.ExcOwn
set_option Elab.async false
set_option linter.all false
set_option maxRecDepth 100000
set_option maxHeartbeats 4000000
namespace Hf
open PySem PySem.Spec PyProof.Rows L2
def top (i : Nat) : Stmt := PySem.Challenge.pw_halftruths_k14_whole_least_denominators.main.body.getD i (.Pass ⟨0, 0, 0, 0⟩)
def pairsL : List Str := ["plus", "times", "leads", "and", "or", "same"]
def stCell : Stmt := inClass (top 32) 0
def stTm : Stmt := inClass (top 3) 0
end Hf
/-! ## HdA -/
set_option Elab.async false
set_option linter.all false
set_option maxRecDepth 100000
set_option maxHeartbeats 400000
namespace Hf
open PySem PySem.Spec PyProof.Rows L2 RZ
/-- the head's hook with one more Bool -/
def hookE (n : Nat) (fa : List He.Fa) (fn : List He.DefD) (ex : PySem.W.Frag → Bool) : PySem.W.Hook where
  α := He.AlD × Bool
  obs := fun s => (He.obsD fa fn (He.frG s.heap.get? (He.asD s.heap.get? n)), ex (He.frG s.heap.get? (He.asD s.heap.get? n)))
  val := fun _ => (He.valD fn, true)
  says := fun _ h => ∃ K : PySem.W.Frag, K.In h ∧ He.SaysD fa fn K ∧ ex K = true
  of := fun _ _ e => ⟨_, He.frG_in, congrArg (fun z : He.AlD × Bool => z.1) e, congrArg (fun z : He.AlD × Bool => z.2) e⟩
  keeps := fun _ _ _ ⟨K, hK, c⟩ k => ⟨K, PySem.W.Frag.In.keeps hK k, c⟩
def obsE (n : Nat) (fa : List He.Fa) (fn : List He.DefD) (ex : PySem.W.Frag → Bool) (g : Addr → Option Obj) : He.AlD × Bool := (He.obsD fa fn (He.frG g (He.asD g n)), ex (He.frG g (He.asD g n)))
theorem obsE_eq {n : Nat} {fa : List He.Fa} {fn : List He.DefD} {ex : PySem.W.Frag → Bool} {g : Addr → Option Obj} {s : Shared} (h : ∀ a, g a = s.heap.get? a) : obsE n fa fn ex g = (hookE n fa fn ex).obs s := by
  have e : g = s.heap.get? := funext h
  rw [e] <;> rfl
end Hf


/-! ## HdB -/
set_option Elab.async false
set_option linter.all false
set_option maxRecDepth 100000
set_option maxHeartbeats 0
namespace Hf
open PySem PySem.Spec PyProof.Rows L2
namespace HTop

def d7 : He.DefD := ⟨("parts_of", none), "parts_of", "parts_of", defArgs (top 7), defBody (top 7), defScope (top 7), [], []⟩
def d8 : He.DefD := ⟨("marks_in", none), "marks_in", "marks_in", defArgs (top 8), defBody (top 8), defScope (top 8), [], []⟩
def d9 : He.DefD := ⟨("_note_unknowns", none), "_note_unknowns", "_note_unknowns", defArgs (top 9), defBody (top 9), defScope (top 9), [], []⟩
def d10 : He.DefD := ⟨("unknowns_of", none), "unknowns_of", "unknowns_of", defArgs (top 10), defBody (top 10), defScope (top 10), [], []⟩
def d11 : He.DefD := ⟨("occurrences", none), "occurrences", "occurrences", defArgs (top 11), defBody (top 11), defScope (top 11), [], []⟩
def d14 : He.DefD := ⟨("check_counts", none), "check_counts", "check_counts", defArgs (top 14), defBody (top 14), defScope (top 14), [], []⟩
def d15 : He.DefD := ⟨("check_bounds", none), "check_bounds", "check_bounds", defArgs (top 15), defBody (top 15), defScope (top 15), [], []⟩
def d17 : He.DefD := ⟨("common", none), "common", "common", defArgs (top 17), defBody (top 17), defScope (top 17), [], []⟩
def d18 : He.DefD := ⟨("lowest", none), "lowest", "lowest", defArgs (top 18), defBody (top 18), defScope (top 18), [], []⟩
def d20 : He.DefD := ⟨("faces", none), "faces", "faces", defArgs (top 20), defBody (top 20), defScope (top 20), [], []⟩
def d23 : He.DefD := ⟨("name_form", none), "name_form", "name_form", defArgs (top 23), defBody (top 23), defScope (top 23), [], []⟩
def d24 : He.DefD := ⟨("constant_form", none), "constant_form", "constant_form", defArgs (top 24), defBody (top 24), defScope (top 24), [], []⟩
def d25 : He.DefD := ⟨("opposite_form", none), "opposite_form", "opposite_form", defArgs (top 25), defBody (top 25), defScope (top 25), [], []⟩
def d26 : He.DefD := ⟨("sum_form", none), "sum_form", "sum_form", defArgs (top 26), defBody (top 26), defScope (top 26), [], []⟩
def d27 : He.DefD := ⟨("raised_form", none), "raised_form", "raised_form", defArgs (top 27), defBody (top 27), defScope (top 27), [], []⟩
def d28 : He.DefD := ⟨("not_form", none), "not_form", "not_form", defArgs (top 28), defBody (top 28), defScope (top 28), [], []⟩
def d29 : He.DefD := ⟨("question_of", none), "question_of", "question_of", defArgs (top 29), defBody (top 29), defScope (top 29), [], []⟩
def d30 : He.DefD := ⟨("form_by_side", none), "form_by_side", "form_by_side", defArgs (top 30), defBody (top 30), defScope (top 30), [], []⟩
def d33 : He.DefD := ⟨("number_at", none), "number_at", "number_at", defArgs (top 33), defBody (top 33), defScope (top 33), [], []⟩
def d34 : He.DefD := ⟨("bounding_forms", none), "bounding_forms", "bounding_forms", defArgs (top 34), defBody (top 34), defScope (top 34), [], []⟩
def d35 : He.DefD := ⟨("whole_cube", none), "whole_cube", "whole_cube", defArgs (top 35), defBody (top 35), defScope (top 35), [], []⟩
def d36 : He.DefD := ⟨("_rank", none), "_rank", "_rank", defArgs (top 36), defBody (top 36), defScope (top 36), [], []⟩
def d37 : He.DefD := ⟨("_are_neighbours", none), "_are_neighbours", "_are_neighbours", defArgs (top 37), defBody (top 37), defScope (top 37), [], []⟩
def d38 : He.DefD := ⟨("_between", none), "_between", "_between", defArgs (top 38), defBody (top 38), defScope (top 38), [], []⟩
def d39 : He.DefD := ⟨("cut_cell", none), "cut_cell", "cut_cell", defArgs (top 39), defBody (top 39), defScope (top 39), [], []⟩
def d40 : He.DefD := ⟨("point_of", none), "point_of", "point_of", defArgs (top 40), defBody (top 40), defScope (top 40), [], []⟩
def d41 : He.DefD := ⟨("least_corner", none), "least_corner", "least_corner", defArgs (top 41), defBody (top 41), defScope (top 41), [], []⟩
def d42 : He.DefD := ⟨("side_in", none), "side_in", "side_in", defArgs (top 42), defBody (top 42), defScope (top 42), [], []⟩
def d44 : He.DefD := ⟨("steps_of", none), "steps_of", "steps_of", defArgs (top 44), defBody (top 44), defScope (top 44), [], []⟩
def d45 : He.DefD := ⟨("steps_along", none), "steps_along", "steps_along", defArgs (top 45), defBody (top 45), defScope (top 45), [], []⟩
def d46 : He.DefD := ⟨("_stacked", none), "_stacked", "_stacked", defArgs (top 46), defBody (top 46), defScope (top 46), [], []⟩
def d47 : He.DefD := ⟨("next_question", none), "next_question", "next_question", defArgs (top 47), defBody (top 47), defScope (top 47), [], []⟩
def d48 : He.DefD := ⟨("asked_there", none), "asked_there", "asked_there", defArgs (top 48), defBody (top 48), defScope (top 48), [], []⟩
def d49 : He.DefD := ⟨("taken_there", none), "taken_there", "taken_there", defArgs (top 49), defBody (top 49), defScope (top 49), [], []⟩
def d50 : He.DefD := ⟨("events", none), "events", "events", defArgs (top 50), defBody (top 50), defScope (top 50), [], []⟩
def d51 : He.DefD := ⟨("ends", none), "ends", "ends", defArgs (top 51), defBody (top 51), defScope (top 51), [], []⟩
def d53 : He.DefD := ⟨("less_one", none), "less_one", "less_one", defArgs (top 53), defBody (top 53), defScope (top 53), [], []⟩
def d54 : He.DefD := ⟨("point_below", none), "point_below", "point_below", defArgs (top 54), defBody (top 54), defScope (top 54), [], []⟩
def d56 : He.DefD := ⟨("parting", none), "parting", "parting", defArgs (top 56), defBody (top 56), defScope (top 56), [], []⟩
def d57 : He.DefD := ⟨("are_alike", none), "are_alike", "are_alike", defArgs (top 57), defBody (top 57), defScope (top 57), [], []⟩
def d61 : He.DefD := ⟨("denominator_bound", none), "denominator_bound", "denominator_bound", defArgs (top 61), defBody (top 61), defScope (top 61), [], []⟩
def d62 : He.DefD := ⟨("_marked", none), "_marked", "_marked", defArgs (top 62), defBody (top 62), defScope (top 62), [], []⟩
def d63 : He.DefD := ⟨("_number_of", none), "_number_of", "_number_of", defArgs (top 63), defBody (top 63), defScope (top 63), [], []⟩
def d64 : He.DefD := ⟨("_grid", none), "_grid", "_grid", defArgs (top 64), defBody (top 64), defScope (top 64), [], []⟩
def d65 : He.DefD := ⟨("_first_on_grid", none), "_first_on_grid", "_first_on_grid", defArgs (top 65), defBody (top 65), defScope (top 65), [], []⟩
def d66 : He.DefD := ⟨("least_parting", none), "least_parting", "least_parting", defArgs (top 66), defBody (top 66), defScope (top 66), [], []⟩
def d68 : He.DefD := ⟨("_law_begun", none), "_law_begun", "_law_begun", defArgs (top 68), defBody (top 68), defScope (top 68), [], []⟩
def d69 : He.DefD := ⟨("_law_draw", none), "_law_draw", "_law_draw", defArgs (top 69), defBody (top 69), defScope (top 69), [], []⟩
def d70 : He.DefD := ⟨("_law_of", none), "_law_of", "_law_of", defArgs (top 70), defBody (top 70), defScope (top 70), [], []⟩
def d71 : He.DefD := ⟨("_law_saying", none), "_law_saying", "_law_saying", defArgs (top 71), defBody (top 71), defScope (top 71), [], []⟩
def d72 : He.DefD := ⟨("_law_names_in", none), "_law_names_in", "_law_names_in", defArgs (top 72), defBody (top 72), defScope (top 72), [], []⟩
def d73 : He.DefD := ⟨("_law_graded", none), "_law_graded", "_law_graded", defArgs (top 73), defBody (top 73), defScope (top 73), [], []⟩
def d74 : He.DefD := ⟨("_law_lowest", none), "_law_lowest", "_law_lowest", defArgs (top 74), defBody (top 74), defScope (top 74), [], []⟩
def d75 : He.DefD := ⟨("_law_rows", none), "_law_rows", "_law_rows", defArgs (top 75), defBody (top 75), defScope (top 75), [], []⟩
def d76 : He.DefD := ⟨("_law_whole", none), "_law_whole", "_law_whole", defArgs (top 76), defBody (top 76), defScope (top 76), [], []⟩
def d77 : He.DefD := ⟨("_law_marks", none), "_law_marks", "_law_marks", defArgs (top 77), defBody (top 77), defScope (top 77), [], []⟩
def d78 : He.DefD := ⟨("_law_drawn_names", none), "_law_drawn_names", "_law_drawn_names", defArgs (top 78), defBody (top 78), defScope (top 78), [], []⟩
def d79 : He.DefD := ⟨("_law_point_right", none), "_law_point_right", "_law_point_right", defArgs (top 79), defBody (top 79), defScope (top 79), [], []⟩
def d80 : He.DefD := ⟨("_law_chain", none), "_law_chain", "_law_chain", defArgs (top 80), defBody (top 80), defScope (top 80), [], []⟩
def d81 : He.DefD := ⟨("_law_alike", none), "_law_alike", "_law_alike", defArgs (top 81), defBody (top 81), defScope (top 81), [], []⟩
def d82 : He.DefD := ⟨("_law_pair", none), "_law_pair", "_law_pair", defArgs (top 82), defBody (top 82), defScope (top 82), [], []⟩
def d83 : He.DefD := ⟨("_law_often", none), "_law_often", "_law_often", defArgs (top 83), defBody (top 83), defScope (top 83), [], []⟩
def d84 : He.DefD := ⟨("_law_bound", none), "_law_bound", "_law_bound", defArgs (top 84), defBody (top 84), defScope (top 84), [], []⟩
def d85 : He.DefD := ⟨("_law_parts", none), "_law_parts", "_law_parts", defArgs (top 85), defBody (top 85), defScope (top 85), [], []⟩
def d86 : He.DefD := ⟨("_law_found", none), "_law_found", "_law_found", defArgs (top 86), defBody (top 86), defScope (top 86), [], []⟩
def d87 : He.DefD := ⟨("_law_late", none), "_law_late", "_law_late", defArgs (top 87), defBody (top 87), defScope (top 87), [], []⟩
def d88 : He.DefD := ⟨("_law_word", none), "_law_word", "_law_word", defArgs (top 88), defBody (top 88), defScope (top 88), [], []⟩
def d89 : He.DefD := ⟨("_law_bounds_right", none), "_law_bounds_right", "_law_bounds_right", defArgs (top 89), defBody (top 89), defScope (top 89), [], []⟩
def d90 : He.DefD := ⟨("law", none), "law", "law", defArgs (top 90), defBody (top 90), defScope (top 90), [], []⟩
def dC : He.DefD := ⟨("Cell", some "__init__"), "__init__", "Cell.__init__", defArgs stCell, defBody stCell, defScope stCell, [], []⟩
def dM : He.DefD := ⟨("TooMany", some "__init__"), "__init__", "TooMany.__init__", defArgs stTm, defBody stTm, defScope stTm, [], []⟩
def fn0 : List He.DefD := [d7, d8, d9, d10, d11, d14, d15, d17, d18, d20, d23, d24, d25, d26, d27, d28, d29, d30, d33, d34, d35, d36, d37, d38, d39, d40, d41, d42, d44, d45]
def fn1 : List He.DefD := [d46, d47, d48, d49, d50, d51, d53, d54, d56, d57, d61, d62, d63, d64, d65, d66, d68, d69, d70, d71, d72, d73, d74, d75, d76, d77, d78, d79, d80, d81]
def fn2 : List He.DefD := [d82, d83, d84, d85, d86, d87, d88, d89, d90, dC, dM]
def fn : List He.DefD := fn0 ++ fn1 ++ fn2
def fa0 : List He.Fa := [.glo "parts_of", .glo "marks_in", .glo "_note_unknowns", .glo "unknowns_of", .glo "occurrences", .glo "check_counts", .glo "check_bounds", .glo "common", .glo "lowest", .glo "faces", .glo "name_form", .glo "constant_form", .glo "opposite_form", .glo "sum_form", .glo "raised_form", .glo "not_form", .glo "question_of", .glo "form_by_side", .glo "number_at", .glo "bounding_forms", .glo "whole_cube", .glo "_rank", .glo "_are_neighbours", .glo "_between", .glo "cut_cell", .glo "point_of", .glo "least_corner", .glo "side_in", .glo "steps_of", .glo "steps_along"]
def fa1 : List He.Fa := [.glo "_stacked", .glo "next_question", .glo "asked_there", .glo "taken_there", .glo "events", .glo "ends", .glo "less_one", .glo "point_below", .glo "parting", .glo "are_alike", .glo "denominator_bound", .glo "_marked", .glo "_number_of", .glo "_grid", .glo "_first_on_grid", .glo "least_parting", .glo "_law_begun", .glo "_law_draw", .glo "_law_of", .glo "_law_saying", .glo "_law_names_in", .glo "_law_graded", .glo "_law_lowest", .glo "_law_rows", .glo "_law_whole", .glo "_law_marks", .glo "_law_drawn_names", .glo "_law_point_right", .glo "_law_chain", .glo "_law_alike"]
def fa2 : List He.Fa := [.glo "_law_pair", .glo "_law_often", .glo "_law_bound", .glo "_law_parts", .glo "_law_found", .glo "_law_late", .glo "_law_word", .glo "_law_bounds_right", .glo "law", .free "len", .free "sum", .free "tuple", .free "max", .free "min", .free "abs", .free "range", .free "zip", .free "dict", .free "list", .free "all", .free "isinstance", .free "int", .free "bool", .glo "Cell", .glo "TooMany", .glo "PAIRS", .glo "SIDES", .glo "MOST_MARKS_bounds", .glo "FACTORS", .int "MOST_MARKS_partings" 5]
def fa3 : List He.Fa := [.cls "Cell", .noat "Cell" "size", .noat "Cell" "path", .noat "Cell" "corners", .mkr "Cell", .noat "TooMany" "what", .exm "TooMany" "TooMany" true]
def fa : List He.Fa := fa0 ++ fa1 ++ fa2 ++ fa3
def names0 : List PySem.Str := ["HalfError", "UnknownName", "TooMany", "WrongMark", "PAIRS", "parts_of", "marks_in", "_note_unknowns", "unknowns_of", "occurrences", "MOST_MARKS_bounds", "check_counts", "check_bounds", "common", "lowest", "faces", "SIDES", "name_form", "constant_form", "opposite_form", "sum_form", "raised_form", "not_form", "question_of", "form_by_side", "Cell", "number_at", "bounding_forms", "whole_cube", "_rank"]
def names1 : List PySem.Str := ["_are_neighbours", "_between", "cut_cell", "point_of", "least_corner", "side_in", "steps_of", "steps_along", "_stacked", "next_question", "asked_there", "taken_there", "events", "ends", "less_one", "point_below", "parting", "are_alike", "FACTORS", "MOST_MARKS_partings", "denominator_bound", "_marked", "_number_of", "_grid", "_first_on_grid", "least_parting", "_law_begun", "_law_draw", "_law_of", "_law_saying"]
def names2 : List PySem.Str := ["_law_names_in", "_law_graded", "_law_lowest", "_law_rows", "_law_whole", "_law_marks", "_law_drawn_names", "_law_point_right", "_law_chain", "_law_alike", "_law_pair", "_law_often", "_law_bound", "_law_parts", "_law_found", "_law_late", "_law_word", "_law_bounds_right"]
def names : List PySem.Str := names0 ++ names1 ++ names2
def excB (K : PySem.W.Frag) (C : Addr) : Bool := match K.lookup C with
  | some ⟨.type "type", _, .cls cd, sl⟩ => (match cd.mro, sl.toList with
    | .ref C' :: bm, [_, _, _, _, some (.builtin n), _] => C' == C && n == "ValueError.__new__" && !cd.hasDel && cd.hasDict && PySem.HandSPX.refsVE bm
    | _, _ => false)
  | _ => false
theorem excB_ok {K : PySem.W.Frag} {C : Addr} (q : excB K C = true) : ∃ nm q N bs bm sn sub ab col dd k0 k1 k2 k3 k5, K.lookup C = some (excClassObj nm q C N bs bm true sn sub ab col dd k0 k1 k2 k3 k5 "ValueError.__new__") ∧ PySem.HandSPX.refsVE bm = true := by
  unfold excB at q
  split at q
  · rename_i dd cd sl ho
    split at q
    · rename_i C' bm k0 k1 k2 k3 n k5 hm hs
      simp only [Bool.and_eq_true, beq_iff_eq, Bool.not_eq_true'] at q
      obtain ⟨⟨⟨⟨rfl, rfl⟩, hdel⟩, hdi⟩, ht⟩ := q
      obtain ⟨nm, bs, mro, ns, qn, hd, sn, sub, ab, col, del⟩ := cd
      dsimp only at hm hdel hdi
      subst hm hdel hdi
      have hsl : sl = #[k0, k1, k2, k3, some (.builtin "ValueError.__new__"), k5] := by
        obtain ⟨l⟩ := sl
        simp only at hs
        rw [hs]
      subst hsl
      exact ⟨nm, qn, ns, bs, bm, sn, sub, ab, col, dd, k0, k1, k2, k3, k5, ho, ht⟩
    · cases q
  · cases q
abbrev tmK (K : PySem.W.Frag) : Addr := He.ga K "TooMany"
abbrev tmI (K : PySem.W.Frag) : Addr := He.ma K (tmK K) "__init__"
def ex (K : PySem.W.Frag) : Bool := He.tupB K "PAIRS" (pairsL.map He.Dv.str) && (He.tupB K "SIDES" [.str "least", .str "most"] && (He.tupB K "MOST_MARKS_bounds" [.int 12, .int 12, .int 9, .int 7] && (He.tupB K "FACTORS" [.int 1, .int 1, .int 2, .int 4] && (xfB K (tmK K) && (excB K (tmK K) && (He.eqO (PySem.W.findIn K (.ref (tmK K)) "__setattr__") (some (some (.builtin "object.__setattr__"))) && (decide (PySem.W.subIn K (.ref (tmK K)) (.type "BaseException") = some true) && (decide (PySem.W.typeIn K (.ref (tmK K)) = some (.type "type")) && (PySem.W.keepIn K (.ref (tmK K)) && (He.eqO (PySem.W.findIn K (.ref (tmK K)) "__init__") (some (some (.ref (tmI K)))) && decide (PySem.W.typeIn K (.ref (tmI K)) = some (.type "function"))))))))))))
abbrev R : PySem.W.OpenRow := PySem.W.OpenLaw.row PySem.Challenge.rw_halftruths_k14_whole_least_denominators
abbrev hk : PySem.W.Hook := hookE 5 fa fn ex
def ob (s : PySem.W.SharedT) : He.AlD × Bool := obsE 5 fa fn ex (HandSHeadRun.getT s)
theorem ob_eq (s : PySem.W.SharedT) : ob s = hk.obs s.abs := obsE_eq (HandSHeadRun.getT_eq s)
theorem run (w : World) : HandSHeadRun.RunEq R (PySem.W.view R.prog [90]) hk ob 20000 names w := by
  intro os
  kernel_rfl
end HTop
end Hf


/-! ## Geo1 -/
set_option linter.all false
namespace Hf
abbrev Vec := List Int
def dot : Vec → Vec → Int
  | a :: as, b :: bs => a * b + dot as bs
  | _, _ => 0
def sc (k : Int) (v : Vec) : Vec := v.map (fun x => k * x)
def ad (u v : Vec) : Vec := List.zipWith (fun x y => x + y) u v
@[simp] theorem dot_nil_left (v : Vec) : dot [] v = 0 := by cases v <;> rfl
@[simp] theorem dot_nil_right (v : Vec) : dot v [] = 0 := by cases v <;> rfl
@[simp] theorem dot_cons (a b : Int) (u v : Vec) : dot (a :: u) (b :: v) = a * b + dot u v := rfl
@[simp] theorem sc_nil (k : Int) : sc k [] = [] := rfl
@[simp] theorem sc_cons (k a : Int) (v : Vec) : sc k (a :: v) = k * a :: sc k v := rfl
@[simp] theorem sc_length (k : Int) (v : Vec) : (sc k v).length = v.length := List.length_map ..
@[simp] theorem ad_cons (a b : Int) (u v : Vec) : ad (a :: u) (b :: v) = (a + b) :: ad u v := rfl
@[simp] theorem ad_nil (v : Vec) : ad [] v = [] := rfl
theorem ad_length {u v : Vec} (h : u.length = v.length) : (ad u v).length = u.length := by
  simp [ad, h]
theorem dot_sc : ∀ (f v : Vec) (k : Int), dot f (sc k v) = k * dot f v
  | [], v, k => by simp
  | a :: f, [], k => by simp
  | a :: f, b :: v, k => by
    simp only [sc_cons, dot_cons, dot_sc f v k]
    grind
theorem dot_sc_left : ∀ (f v : Vec) (k : Int), dot (sc k f) v = k * dot f v
  | [], v, k => by simp
  | a :: f, [], k => by simp
  | a :: f, b :: v, k => by
    simp only [sc_cons, dot_cons, dot_sc_left f v k]
    grind
theorem dot_ad : ∀ (f u v : Vec), u.length = v.length → dot f (ad u v) = dot f u + dot f v
  | [], u, v, _ => by simp
  | a :: f, [], [], _ => by simp
  | a :: f, [], b :: v, h => by simp at h
  | a :: f, b :: u, [], h => by simp at h
  | a :: f, b :: u, c :: v, h => by
    simp only [ad_cons, dot_cons, dot_ad f u v (by simpa using h)]
    grind
theorem dot_ad_left : ∀ (f g v : Vec), f.length = g.length → dot (ad f g) v = dot f v + dot g v
  | [], [], v, _ => by simp
  | [], b :: g, v, h => by simp at h
  | a :: f, [], v, h => by simp at h
  | a :: f, b :: g, [], h => by simp
  | a :: f, b :: g, c :: v, h => by
    simp only [ad_cons, dot_cons, dot_ad_left f g v (by simpa using h)]
    grind
/-- the faces of the cube -/
def unit (n k : Nat) (e : Int) : Vec := List.replicate k 0 ++ e :: List.replicate (n - k - 1) 0
def faceLo (n k : Nat) : Vec := 0 :: unit n k 1
def faceHi (n k : Nat) : Vec := 1 :: unit n k (-1)
def faces (n : Nat) : List Vec := (List.range n).flatMap fun k => [faceLo n k, faceHi n k]
theorem dot_zeros : ∀ (m : Nat) (v : Vec), dot (List.replicate m 0) v = 0
  | 0, v => by simp
  | m + 1, [] => by simp
  | m + 1, b :: v => by simp [List.replicate_succ, dot_zeros m v]
theorem dot_unit' (m : Nat) (e : Int) : ∀ (k : Nat) (v : Vec), dot (List.replicate k 0 ++ e :: List.replicate m 0) v = e * v.getD k 0
  | 0, [] => by simp
  | 0, b :: v => by simp [dot_zeros]
  | k + 1, [] => by simp [List.replicate_succ]
  | k + 1, b :: v => by simp [List.replicate_succ, dot_unit' m e k v]
theorem dot_unit (n k : Nat) (e : Int) (v : Vec) : dot (unit n k e) v = e * v.getD k 0 := dot_unit' _ e k v
theorem unit_length {n k : Nat} {e : Int} (h : k < n) : (unit n k e).length = n := by
  simp [unit]; omega
theorem dot_faceLo (n k : Nat) (d : Int) (v : Vec) : dot (faceLo n k) (d :: v) = v.getD k 0 := by simp [faceLo, dot_unit]
theorem dot_faceHi (n k : Nat) (d : Int) (v : Vec) : dot (faceHi n k) (d :: v) = d - v.getD k 0 := by simp [faceHi, dot_unit]; omega
theorem mem_faces {n : Nat} {f : Vec} : f ∈ faces n ↔ ∃ k, k < n ∧ (f = faceLo n k ∨ f = faceHi n k) := by
  simp [faces, List.mem_flatMap]
theorem face_length {n : Nat} {f : Vec} (h : f ∈ faces n) : f.length = n + 1 := by
  obtain ⟨k, hk, e | e⟩ := mem_faces.mp h <;> subst e <;> simp [faceLo, faceHi, unit_length hk]
/-- a nonzero entry -/
theorem ne_zero_entry : ∀ (v : Vec), (∃ y ∈ v, y ≠ 0) → ∃ k, k < v.length ∧ v.getD k 0 ≠ 0
  | [], h => by simp at h
  | b :: v, h => by
    by_cases hb : b = 0
    · obtain ⟨y, hy, hn⟩ := h
      rcases List.mem_cons.mp hy with e | hy
      · subst e; exact absurd hb hn
      · obtain ⟨k, h1, h2⟩ := ne_zero_entry v ⟨y, hy, hn⟩
        exact ⟨k + 1, by simpa using h1, by simpa using h2⟩
    · exact ⟨0, by simp, by simpa using hb⟩
def Zero (v : Vec) : Prop := ∀ y ∈ v, y = 0
theorem not_zero {v : Vec} (h : ¬ Zero v) : ∃ k, k < v.length ∧ v.getD k 0 ≠ 0 := by
  apply ne_zero_entry
  unfold Zero at h
  simp only [Classical.not_forall] at h
  obtain ⟨y, hy, hn⟩ := h
  exact ⟨y, hy, hn⟩
/-- the cube's faces bound every direction -/
theorem falls {n : Nat} {v : Vec} (hv : v.length = n) (h : ¬ Zero v) : ∃ f ∈ faces n, dot f (0 :: v) < 0 := by
  obtain ⟨k, hk, hn⟩ := not_zero h
  by_cases hs : v.getD k 0 < 0
  · exact ⟨faceLo n k, mem_faces.mpr ⟨k, by omega, .inl rfl⟩, by rw [dot_faceLo]; exact hs⟩
  · exact ⟨faceHi n k, mem_faces.mpr ⟨k, by omega, .inr rfl⟩, by rw [dot_faceHi]; omega⟩
/-- a point: a denominator above 0, then the numbers; all forms are at least 0 there -/
structure Pt (n : Nat) (Cs : List Vec) (d : Int) (p : Vec) : Prop where
  pos : 0 < d
  len : p.length = n
  all : ∀ c ∈ Cs, 0 ≤ dot c (d :: p)
/-- the directions in which all tight forms stay 0 -/
def Ker (Cs : List Vec) (d : Int) (p v : Vec) : Prop := ∀ c ∈ Cs, dot c (d :: p) = 0 → dot c (0 :: v) = 0
def Basic (n : Nat) (Cs : List Vec) (d : Int) (p : Vec) : Prop := ∀ v : Vec, v.length = n → Ker Cs d p v → Zero v
/-- how many forms are not tight -/
def loose (Cs : List Vec) (d : Int) (p : Vec) : Nat := (Cs.filter fun c => decide (dot c (d :: p) ≠ 0)).length
theorem filter_length_lt {α : Type} {p q : α → Bool} : ∀ {l : List α}, (∀ a ∈ l, p a = true → q a = true) → (∃ a ∈ l, q a = true ∧ p a = false) → (l.filter p).length < (l.filter q).length
  | [], _, h => by obtain ⟨a, ha, _⟩ := h; simp at ha
  | b :: l, h, hx => by
    have h' : ∀ a ∈ l, p a = true → q a = true := fun a ha => h a (List.mem_cons_of_mem _ ha)
    have le : (l.filter p).length ≤ (l.filter q).length := by
      clear hx h
      induction l with
      | nil => simp
      | cons c l ih =>
        have ih' := ih (fun a ha => h' a (List.mem_cons_of_mem _ ha))
        have hc := h' c List.mem_cons_self
        simp only [List.filter_cons]
        cases hp : p c <;> cases hq : q c <;> simp_all <;> omega
    obtain ⟨a, ha, h1, h2⟩ := hx
    have hb := h b List.mem_cons_self
    simp only [List.filter_cons]
    rcases List.mem_cons.mp ha with e | ha
    · subst e
      simp [h1, h2]; omega
    · have lt := filter_length_lt h' ⟨a, ha, h1, h2⟩
      cases hp : p b <;> cases hq : q b <;> simp_all <;> omega
/-- of the forms that fall in the direction, the one that is first met -/
theorem first_met (d : Int) (p v : Vec) : ∀ (Cs : List Vec), (∀ c ∈ Cs, 0 ≤ dot c (d :: p)) → (∃ c ∈ Cs, dot c (0 :: v) < 0) →
    ∃ c ∈ Cs, dot c (0 :: v) < 0 ∧ ∀ c' ∈ Cs, dot c' (0 :: v) < 0 → dot c (d :: p) * (- dot c' (0 :: v)) ≤ dot c' (d :: p) * (- dot c (0 :: v))
  | [], _, h => by obtain ⟨c, hc, _⟩ := h; simp at hc
  | b :: Cs, h0, hx => by
    by_cases hb : dot b (0 :: v) < 0
    · by_cases hr : ∃ c ∈ Cs, dot c (0 :: v) < 0
      · obtain ⟨c, hc, hn, hm⟩ := first_met d p v Cs (fun c hc => h0 c (List.mem_cons_of_mem _ hc)) hr
        by_cases hle : dot b (d :: p) * (- dot c (0 :: v)) ≤ dot c (d :: p) * (- dot b (0 :: v))
        · refine ⟨b, List.mem_cons_self, hb, fun c' hc' hn' => ?_⟩
          rcases List.mem_cons.mp hc' with e | hc'
          · subst e; exact Int.le_refl _
          · have q := hm c' hc' hn'
            have a1 : 0 < - dot c (0 :: v) := by omega
            have a2 : 0 ≤ - dot c' (0 :: v) := by omega
            have a3 : 0 ≤ - dot b (0 :: v) := by omega
            have e1 := Int.mul_le_mul_of_nonneg_right hle a2
            have e2 := Int.mul_le_mul_of_nonneg_right q a3
            refine Int.le_of_mul_le_mul_right ?_ a1
            generalize dot b (d :: p) = B at *
            generalize dot c (d :: p) = C at *
            generalize dot c' (d :: p) = C' at *
            generalize - dot b (0 :: v) = b' at *
            generalize - dot c (0 :: v) = cc at *
            generalize - dot c' (0 :: v) = c'' at *
            grind
        · refine ⟨c, List.mem_cons_of_mem _ hc, hn, fun c' hc' hn' => ?_⟩
          rcases List.mem_cons.mp hc' with e | hc'
          · subst e; omega
          · exact hm c' hc' hn'
      · refine ⟨b, List.mem_cons_self, hb, fun c' hc' hn' => ?_⟩
        rcases List.mem_cons.mp hc' with e | hc'
        · subst e; exact Int.le_refl _
        · exact absurd ⟨c', hc', hn'⟩ hr
    · obtain ⟨c, hc, hn, hm⟩ := first_met d p v Cs (fun c hc => h0 c (List.mem_cons_of_mem _ hc)) (by
        obtain ⟨c, hc, hn⟩ := hx
        rcases List.mem_cons.mp hc with e | hc
        · subst e; exact absurd hn hb
        · exact ⟨c, hc, hn⟩)
      refine ⟨c, List.mem_cons_of_mem _ hc, hn, fun c' hc' hn' => ?_⟩
      rcases List.mem_cons.mp hc' with e | hc'
      · subst e; exact absurd hn' hb
      · exact hm c' hc' hn'
theorem neg_dir (c v : Vec) : dot c (0 :: sc (-1) v) = - dot c (0 :: v) := by
  have h := dot_sc c (0 :: v) (-1)
  simp only [sc_cons, Int.mul_zero] at h
  rw [h]; omega
/-- LP: from every point one comes to a basic point at which the goal is not greater -/
theorem lp {n : Nat} {Cs : List Vec} (hf : ∀ c ∈ faces n, c ∈ Cs) (g : Vec) : ∀ (k : Nat) (d : Int) (p : Vec), Pt n Cs d p → loose Cs d p ≤ k →
    ∃ e q, Pt n Cs e q ∧ Basic n Cs e q ∧ dot g (e :: q) * d ≤ dot g (d :: p) * e := by
  intro k
  induction k with
  | zero =>
    intro d p hp hk
    refine ⟨d, p, hp, fun v hv hker => Classical.byContradiction fun hz => ?_, Int.le_refl _⟩
    obtain ⟨f, hfm, hlt⟩ := falls hv hz
    have hC := hf f hfm
    have : dot f (d :: p) = 0 := by
      have h0 : loose Cs d p = 0 := by omega
      unfold loose at h0
      rw [List.length_eq_zero_iff, List.filter_eq_nil_iff] at h0
      have := h0 f hC
      simpa using this
    have := hker f hC this
    omega
  | succ k ih =>
    intro d p hp hk
    by_cases hb : Basic n Cs d p
    · exact ⟨d, p, hp, hb, Int.le_refl _⟩
    · unfold Basic at hb
      simp only [Classical.not_forall] at hb
      obtain ⟨v0, hv0, hk0, hz0⟩ := hb
      -- choose the direction in which the goal doesn't grow
      have : ∃ v : Vec, v.length = n ∧ Ker Cs d p v ∧ ¬ Zero v ∧ dot g (0 :: v) ≤ 0 := by
        by_cases hs : dot g (0 :: v0) ≤ 0
        · exact ⟨v0, hv0, hk0, hz0, hs⟩
        · refine ⟨sc (-1) v0, by simp [hv0], fun c hc ht => by rw [neg_dir, hk0 c hc ht]; rfl, fun hz => hz0 fun y hy => ?_, by rw [neg_dir]; omega⟩
          have := hz (-1 * y) (List.mem_map_of_mem hy)
          omega
      obtain ⟨v, hv, hker, hz, hg⟩ := this
      obtain ⟨f, hfm, hlt⟩ := falls hv hz
      obtain ⟨c, hc, hcn, hmin⟩ := first_met d p v Cs hp.all ⟨f, hf f hfm, hlt⟩
      have hcx : 0 < dot c (d :: p) := by
        have h1 := hp.all c hc
        have h2 : dot c (d :: p) ≠ 0 := fun e => by have := hker c hc e; omega
        omega
      -- the new point: den (d::p) + num (0::v)
      let den := - dot c (0 :: v)
      let num := dot c (d :: p)
      have hden : 0 < den := by show 0 < - dot c (0 :: v); omega
      have len : (sc den p).length = (sc num v).length := by simp [hp.len, hv]
      have form : ∀ f, dot f (den * d :: ad (sc den p) (sc num v)) = den * dot f (d :: p) + num * dot f (0 :: v) := fun f => by
        have e1 := dot_ad f (sc den (d :: p)) (sc num (0 :: v)) (by simp [hp.len, hv])
        rw [dot_sc, dot_sc] at e1
        simp only [sc_cons, ad_cons, Int.mul_zero, Int.add_zero] at e1
        exact e1
      have hp' : Pt n Cs (den * d) (ad (sc den p) (sc num v)) := by
        refine ⟨Int.mul_pos hden hp.pos, by rw [ad_length len]; simp [hp.len], fun c' hc' => ?_⟩
        rw [form]
        by_cases hn' : dot c' (0 :: v) < 0
        · have := hmin c' hc' hn'
          show 0 ≤ (- dot c (0 :: v)) * dot c' (d :: p) + dot c (d :: p) * dot c' (0 :: v)
          rw [Int.mul_neg, Int.mul_comm (dot c' (d :: p))] at this
          omega
        · have h1 := Int.mul_nonneg (Int.le_of_lt hden) (hp.all c' hc')
          have h2 := Int.mul_nonneg (Int.le_of_lt hcx) (show 0 ≤ dot c' (0 :: v) by omega)
          show 0 ≤ den * dot c' (d :: p) + dot c (d :: p) * dot c' (0 :: v)
          omega
      have less : loose Cs (den * d) (ad (sc den p) (sc num v)) < loose Cs d p := by
        refine filter_length_lt (fun a ha h => ?_) ⟨c, hc, ?_, ?_⟩
        · simp only [ne_eq, decide_eq_true_eq] at h ⊢
          intro e
          apply h
          rw [form, e, hker a ha e]
          simp
        · simp only [ne_eq, decide_eq_true_eq]; omega
        · simp only [ne_eq, decide_eq_false_iff_not, Classical.not_not]
          rw [form]
          show (- dot c (0 :: v)) * dot c (d :: p) + dot c (d :: p) * dot c (0 :: v) = 0
          rw [Int.neg_mul, Int.mul_comm]; omega
      obtain ⟨e, q, h1, h2, h3⟩ := ih _ _ hp' (by omega)
      refine ⟨e, q, h1, h2, ?_⟩
      rw [form] at h3
      -- g(w) * (den d) ≤ (den g(x) + num g(v)) * e ≤ den g(x) e
      have h4 : num * dot g (0 :: v) ≤ 0 := by
        have := Int.mul_nonneg (Int.le_of_lt hcx) (show 0 ≤ - dot g (0 :: v) by omega)
        rw [Int.mul_neg] at this
        show dot c (d :: p) * dot g (0 :: v) ≤ 0
        omega
      have h5 := Int.mul_nonneg (show 0 ≤ - (num * dot g (0 :: v)) by omega) (Int.le_of_lt h1.pos)
      refine Int.le_of_mul_le_mul_left ?_ hden
      generalize dot g (e :: q) = G at *
      generalize dot g (d :: p) = G0 at *
      generalize num * dot g (0 :: v) = N at *
      grind
end Hf


/-! ## Geo2 -/
set_option linter.all false
namespace Hf
/-! ### rank -/
def elimT (f0 : Int) (ft : Vec) (row : Vec) : Vec := match row with
  | [] => []
  | r0 :: rt => List.zipWith (fun part other => part * f0 - other * r0) rt ft
def hd0 (row : Vec) : Int := row.headD 0
def rankR : Nat → List Vec → Nat
  | 0, _ => 0
  | n + 1, rows => match rows.filter (fun r => decide (hd0 r ≠ 0)) with
    | [] => rankR n (rows.map List.tail)
    | first :: _ => 1 + rankR n (rows.map (elimT (hd0 first) first.tail))
theorem rankR_le : ∀ (n : Nat) (rows : List Vec), rankR n rows ≤ n
  | 0, _ => Nat.le_refl _
  | n + 1, rows => by
    unfold rankR
    split
    · exact Nat.le_succ_of_le (rankR_le n _)
    · have := rankR_le n (rows.map (elimT (hd0 ‹Vec›) (‹Vec›).tail))
      rename_i first _ _
      have := rankR_le n (rows.map (elimT (hd0 first) first.tail))
      omega
def Kr (rows : List Vec) (v : Vec) : Prop := ∀ r ∈ rows, dot r v = 0
def Par (v w : Vec) : Prop := ∀ i j, v.getD i 0 * w.getD j 0 = v.getD j 0 * w.getD i 0
def Dim0 (n : Nat) (rows : List Vec) : Prop := ∀ v : Vec, v.length = n → Kr rows v → Zero v
def Dim1 (n : Nat) (rows : List Vec) : Prop := ∀ v w : Vec, v.length = n → w.length = n → Kr rows v → Kr rows w → Par v w
theorem zero_getD {v : Vec} (h : Zero v) (i : Nat) : v.getD i 0 = 0 := by
  rw [List.getD_eq_getElem?_getD]
  cases e : v[i]? with
  | none => rfl
  | some y => exact h y (List.mem_of_getElem? e)
theorem zero_of_getD {v : Vec} (h : ∀ i, v.getD i 0 = 0) : Zero v := fun y hy => by
  obtain ⟨i, hi⟩ := List.getElem?_of_mem hy
  have := h i
  rw [List.getD_eq_getElem?_getD, hi] at this
  exact this
theorem vec_ext {v w : Vec} (hl : v.length = w.length) (h : ∀ i, v.getD i 0 = w.getD i 0) : v = w := by
  apply List.ext_getElem? 
  intro i
  have := h i
  rw [List.getD_eq_getElem?_getD, List.getD_eq_getElem?_getD] at this
  by_cases hi : i < v.length
  · rw [List.getElem?_eq_getElem hi, List.getElem?_eq_getElem (by omega)] at this ⊢
    simpa using this
  · rw [List.getElem?_eq_none (by omega), List.getElem?_eq_none (by omega)]
theorem getD_sc (k : Int) (v : Vec) (i : Nat) : (sc k v).getD i 0 = k * v.getD i 0 := by
  simp only [List.getD_eq_getElem?_getD, sc, List.getElem?_map]
  cases v[i]? <;> simp
/-- parallel vectors, as vectors -/
theorem par_sc {v w : Vec} (hl : v.length = w.length) (h : Par v w) (j : Nat) : sc (w.getD j 0) v = sc (v.getD j 0) w := by
  apply vec_ext (by simp [hl])
  intro i
  rw [getD_sc, getD_sc]
  have := h i j
  rw [Int.mul_comm] at this
  omega
/-- what a form says of parallel vectors -/
theorem par_dot {v w : Vec} (hl : v.length = w.length) (h : Par v w) (f : Vec) (j : Nat) : w.getD j 0 * dot f v = v.getD j 0 * dot f w := by
  rw [← dot_sc, ← dot_sc, par_sc hl h j]
theorem zero_dot : ∀ (f v : Vec), Zero v → dot f v = 0
  | [], v, _ => by simp
  | a :: f, [], _ => by simp
  | a :: f, b :: v, h => by
    rw [dot_cons, h b List.mem_cons_self, zero_dot f v (fun y hy => h y (List.mem_cons_of_mem _ hy))]
    simp
theorem elim_dot : ∀ (rt ft v : Vec) (f0 r0 : Int), rt.length = v.length → ft.length = v.length → dot (List.zipWith (fun part other => part * f0 - other * r0) rt ft) v = f0 * dot rt v - r0 * dot ft v
  | [], [], v, f0, r0, _, _ => by simp
  | [], b :: ft, [], f0, r0, _, h => by simp at h
  | a :: rt, ft, [], f0, r0, h, _ => by simp at h
  | [], b :: ft, c :: v, f0, r0, h, _ => by simp at h
  | a :: rt, [], c :: v, f0, r0, _, h => by simp at h
  | a :: rt, b :: ft, c :: v, f0, r0, h1, h2 => by
    simp only [List.zipWith_cons_cons, dot_cons, elim_dot rt ft v f0 r0 (by simpa using h1) (by simpa using h2)]
    grind
theorem row_split {n : Nat} {row : Vec} (h : row.length = n + 1) : row = hd0 row :: row.tail ∧ row.tail.length = n := by
  cases row with
  | nil => simp at h
  | cons a t => exact ⟨rfl, by simpa using h⟩
theorem elimT_len {n : Nat} {first row : Vec} (h1 : first.length = n + 1) (h2 : row.length = n + 1) : (elimT (hd0 first) first.tail row).length = n := by
  obtain ⟨e, l⟩ := row_split h2
  obtain ⟨_, l'⟩ := row_split h1
  rw [e]
  simp [elimT, l, l']
theorem elimT_dot {n : Nat} {first row v : Vec} (h1 : first.length = n + 1) (h2 : row.length = n + 1) (hv : v.length = n) : dot (elimT (hd0 first) first.tail row) v = hd0 first * dot row.tail v - hd0 row * dot first.tail v := by
  obtain ⟨e, l⟩ := row_split h2
  obtain ⟨_, l'⟩ := row_split h1
  rw [e]
  exact elim_dot _ _ _ _ _ (by omega) (by omega)
section
variable {n : Nat} {rows : List Vec} (hr : ∀ r ∈ rows, r.length = n + 1)
/-- no row has a number at the front -/
theorem kr_nopiv (hr : ∀ r ∈ rows, r.length = n + 1) (h : rows.filter (fun r => decide (hd0 r ≠ 0)) = []) (x : Int) (v : Vec) : Kr rows (x :: v) ↔ Kr (rows.map List.tail) v := by
  rw [List.filter_eq_nil_iff] at h
  have hz : ∀ r ∈ rows, hd0 r = 0 := fun r hr => by have := h r hr; simpa using this
  constructor
  · intro k r hm
    obtain ⟨r', hr', rfl⟩ := List.mem_map.mp hm
    have := k r' hr'
    rw [(row_split (hr r' hr')).1, dot_cons, hz r' hr'] at this
    simpa using this
  · intro k r hm
    rw [(row_split (hr r hm)).1, dot_cons, hz r hm, k r.tail (List.mem_map_of_mem hm)]
    simp
theorem kr_piv (hr : ∀ r ∈ rows, r.length = n + 1) {first : Vec} (hf : first ∈ rows) (h0 : hd0 first ≠ 0) (x : Int) (v : Vec) (hv : v.length = n) : Kr rows (x :: v) ↔ (hd0 first * x + dot first.tail v = 0 ∧ Kr (rows.map (elimT (hd0 first) first.tail)) v) := by
  constructor
  · intro k
    have k0 := k first hf
    rw [(row_split (hr first hf)).1, dot_cons] at k0
    refine ⟨k0, fun r hm => ?_⟩
    obtain ⟨r', hr', rfl⟩ := List.mem_map.mp hm
    rw [elimT_dot (hr first hf) (hr r' hr') hv]
    have k1 := k r' hr'
    rw [(row_split (hr r' hr')).1, dot_cons] at k1
    simp only [hd0, List.headD_cons, List.tail_cons] at *
    grind
  · rintro ⟨k0, k⟩ r hm
    have k1 := k _ (List.mem_map_of_mem hm)
    rw [elimT_dot (hr first hf) (hr r hm) hv] at k1
    rw [(row_split (hr r hm)).1, dot_cons]
    have : hd0 first * (hd0 r * x + dot r.tail v) = 0 := by grind
    rcases Int.mul_eq_zero.mp this with z | z
    · exact absurd z h0
    · exact z
end
theorem piv_mem {rows : List Vec} {first : Vec} {l : List Vec} (h : rows.filter (fun r => decide (hd0 r ≠ 0)) = first :: l) : first ∈ rows ∧ hd0 first ≠ 0 := by
  have hm : first ∈ rows.filter (fun r => decide (hd0 r ≠ 0)) := by rw [h]; exact List.mem_cons_self
  obtain ⟨h1, h2⟩ := List.mem_filter.mp hm
  exact ⟨h1, by simpa using h2⟩
theorem tail_lens {n : Nat} {rows : List Vec} (hr : ∀ r ∈ rows, r.length = n + 1) : ∀ r ∈ rows.map List.tail, r.length = n := fun r hm => by
  obtain ⟨r', hr', rfl⟩ := List.mem_map.mp hm
  exact (row_split (hr r' hr')).2
theorem elim_lens {n : Nat} {rows : List Vec} (hr : ∀ r ∈ rows, r.length = n + 1) {first : Vec} (hf : first ∈ rows) : ∀ r ∈ rows.map (elimT (hd0 first) first.tail), r.length = n := fun r hm => by
  obtain ⟨r', hr', rfl⟩ := List.mem_map.mp hm
  exact elimT_len (hr first hf) (hr r' hr')
theorem vcons {n : Nat} {v : Vec} (h : v.length = n + 1) : ∃ x t, v = x :: t ∧ t.length = n := by
  cases v with
  | nil => simp at h
  | cons a t => exact ⟨a, t, rfl, by simpa using h⟩
theorem zero_cons {x : Int} {v : Vec} : Zero (x :: v) ↔ x = 0 ∧ Zero v := by simp [Zero]
theorem rank_dim0 : ∀ (n : Nat) (rows : List Vec), (∀ r ∈ rows, r.length = n) → rankR n rows = n → Dim0 n rows
  | 0, rows, _, _ => fun v hv _ => by
    have : v = [] := List.eq_nil_of_length_eq_zero hv
    subst this
    exact fun y hy => by simp at hy
  | n + 1, rows, hr, h => fun v hv k => by
    obtain ⟨x, t, rfl, ht⟩ := vcons hv
    unfold rankR at h
    split at h
    · have := rankR_le n (rows.map List.tail)
      omega
    · rename_i first l e
      obtain ⟨hm, h0⟩ := piv_mem e
      obtain ⟨k0, k1⟩ := (kr_piv hr hm h0 x t ht).mp k
      have z := rank_dim0 n _ (elim_lens hr hm) (by omega) t ht k1
      rw [zero_dot _ _ z] at k0
      refine zero_cons.mpr ⟨?_, z⟩
      rcases Int.mul_eq_zero.mp (show hd0 first * x = 0 by omega) with q | q
      · exact absurd q h0
      · exact q
theorem dim0_par {v w : Vec} (hv : Zero v) : Par v w := fun i j => by rw [zero_getD hv, zero_getD hv]; simp
theorem par_symm {v w : Vec} (h : Par v w) : Par w v := fun i j => by
  have := h j i
  rw [Int.mul_comm, Int.mul_comm (w.getD j 0)]
  exact this
theorem rank_dim1 : ∀ (n : Nat) (rows : List Vec), (∀ r ∈ rows, r.length = n) → n ≤ rankR n rows + 1 → Dim1 n rows
  | 0, rows, _, _ => fun v w hv hw _ _ => by
    have : v = [] := List.eq_nil_of_length_eq_zero hv
    subst this
    exact dim0_par (fun y hy => by simp at hy)
  | n + 1, rows, hr, h => fun v w hv hw kv kw => by
    obtain ⟨x, t, rfl, ht⟩ := vcons hv
    obtain ⟨y, u, rfl, hu⟩ := vcons hw
    unfold rankR at h
    split at h
    · rename_i e
      have a := rankR_le n (rows.map List.tail)
      have d := rank_dim0 n _ (tail_lens hr) (by omega)
      have zt := d t ht ((kr_nopiv hr e x t).mp kv)
      have zu := d u hu ((kr_nopiv hr e y u).mp kw)
      intro i j
      cases i with
      | zero => cases j with
        | zero => rfl
        | succ j => simp only [List.getD_cons_zero, List.getD_cons_succ, zero_getD zt, zero_getD zu, Int.mul_zero, Int.zero_mul]
      | succ i => cases j with
        | zero => simp only [List.getD_cons_zero, List.getD_cons_succ, zero_getD zt, zero_getD zu, Int.mul_zero, Int.zero_mul]
        | succ j => simp only [List.getD_cons_zero, List.getD_cons_succ, zero_getD zt, zero_getD zu, Int.mul_zero, Int.zero_mul]
    · rename_i first l e
      obtain ⟨hm, h0⟩ := piv_mem e
      obtain ⟨k0, k1⟩ := (kr_piv hr hm h0 x t ht).mp kv
      obtain ⟨k2, k3⟩ := (kr_piv hr hm h0 y u hu).mp kw
      have p := rank_dim1 n _ (elim_lens hr hm) (by omega) t u ht hu k1 k3
      have q : ∀ j, x * u.getD j 0 = t.getD j 0 * y := fun j => by
        have a := par_dot (by omega) p first.tail j
        have : hd0 first * (x * u.getD j 0 - t.getD j 0 * y) = 0 := by grind
        rcases Int.mul_eq_zero.mp this with z | z
        · exact absurd z h0
        · omega
      intro i j
      cases i with
      | zero => cases j with
        | zero => rfl
        | succ j => simpa using q j
      | succ i => cases j with
        | zero => simpa using (q i).symm
        | succ j => simpa using p i j
theorem zero_rep (n : Nat) : Zero (List.replicate n (0 : Int)) := fun y hy => (List.mem_replicate.mp hy).2
theorem not_dim0 : ∀ (n : Nat) (rows : List Vec), (∀ r ∈ rows, r.length = n) → rankR n rows < n → ∃ v : Vec, v.length = n ∧ Kr rows v ∧ ¬ Zero v
  | 0, rows, _, h => by omega
  | n + 1, rows, hr, h => by
    unfold rankR at h
    split at h
    · rename_i e
      refine ⟨1 :: List.replicate n 0, by simp, (kr_nopiv hr e _ _).mpr (fun r _ => zero_dot _ _ (zero_rep n)), fun z => ?_⟩
      have := z 1 List.mem_cons_self
      omega
    · rename_i first l e
      obtain ⟨hm, h0⟩ := piv_mem e
      obtain ⟨v, hv, kv, nz⟩ := not_dim0 n _ (elim_lens hr hm) (by omega)
      refine ⟨- dot first.tail v :: sc (hd0 first) v, by simp [hv], (kr_piv hr hm h0 _ _ (by simp [hv])).mpr ⟨by rw [dot_sc]; grind, fun r hm' => by rw [dot_sc, kv r hm']; simp⟩, fun z => nz fun y hy => ?_⟩
      have := z (hd0 first * y) (List.mem_cons_of_mem _ (List.mem_map_of_mem hy))
      rcases Int.mul_eq_zero.mp this with q | q
      · exact absurd q h0
      · exact q
theorem not_dim1 : ∀ (n : Nat) (rows : List Vec), (∀ r ∈ rows, r.length = n) → rankR n rows + 1 < n → ∃ v w : Vec, v.length = n ∧ w.length = n ∧ Kr rows v ∧ Kr rows w ∧ ¬ Par v w
  | 0, rows, _, h => by omega
  | n + 1, rows, hr, h => by
    unfold rankR at h
    split at h
    · rename_i e
      obtain ⟨w, hw, kw, nz⟩ := not_dim0 n _ (tail_lens hr) (by omega)
      refine ⟨1 :: List.replicate n 0, 0 :: w, by simp, by simp [hw], (kr_nopiv hr e _ _).mpr (fun r _ => zero_dot _ _ (zero_rep n)), (kr_nopiv hr e _ _).mpr kw, fun p => ?_⟩
      obtain ⟨j, hj, hn⟩ := not_zero nz
      have := p 0 (j + 1)
      simp only [List.getD_cons_zero, List.getD_cons_succ] at this
      omega
    · rename_i first l e
      obtain ⟨hm, h0⟩ := piv_mem e
      obtain ⟨v, w, hv, hw, kv, kw, np⟩ := not_dim1 n _ (elim_lens hr hm) (by omega)
      have lift : ∀ u : Vec, u.length = n → Kr (rows.map (elimT (hd0 first) first.tail)) u → Kr rows (- dot first.tail u :: sc (hd0 first) u) := fun u hu ku =>
        (kr_piv hr hm h0 _ _ (by simp [hu])).mpr ⟨by rw [dot_sc]; grind, fun r hm' => by rw [dot_sc, ku r hm']; simp⟩
      refine ⟨_, _, by simp [hv], by simp [hw], lift v hv kv, lift w hw kw, fun p => np fun i j => ?_⟩
      have q := p (i + 1) (j + 1)
      simp only [List.getD_cons_succ, getD_sc] at q
      have : hd0 first * hd0 first * (v.getD i 0 * w.getD j 0 - v.getD j 0 * w.getD i 0) = 0 := by grind
      rcases Int.mul_eq_zero.mp this with z | z
      · rcases Int.mul_eq_zero.mp z with z | z <;> exact absurd z h0
      · omega
theorem dim1_rank {n : Nat} {rows : List Vec} (hr : ∀ r ∈ rows, r.length = n) (h : Dim1 n rows) : n ≤ rankR n rows + 1 := by
  refine Classical.byContradiction fun c => ?_
  obtain ⟨v, w, hv, hw, kv, kw, np⟩ := not_dim1 n rows hr (by omega)
  exact np (h v w hv hw kv kw)
end Hf


/-! ## Geo3 -/
set_option linter.all false
namespace Hf
/-! ### divisors -/
def gds (c : Vec) : Int := c.foldl (fun g y => ((Int.gcd g y : Nat) : Int)) 0
theorem gfold_dvd : ∀ (c : Vec) (a : Int), (c.foldl (fun g y => ((Int.gcd g y : Nat) : Int)) a ∣ a) ∧ ∀ y ∈ c, c.foldl (fun g y => ((Int.gcd g y : Nat) : Int)) a ∣ y
  | [], a => ⟨Int.dvd_refl a, fun y hy => by simp at hy⟩
  | b :: c, a => by
    obtain ⟨h1, h2⟩ := gfold_dvd c ((Int.gcd a b : Nat) : Int)
    simp only [List.foldl_cons]
    refine ⟨Int.dvd_trans h1 (Int.gcd_dvd_left ..), fun y hy => ?_⟩
    rcases List.mem_cons.mp hy with e | hy
    · subst e; exact Int.dvd_trans h1 (Int.gcd_dvd_right ..)
    · exact h2 y hy
theorem gds_dvd {c : Vec} {y : Int} (h : y ∈ c) : gds c ∣ y := (gfold_dvd c 0).2 y h
theorem gfold_mul (g D : Int) : ∀ (c : Vec) (a : Int), g ∣ D * a → (∀ y ∈ c, g ∣ D * y) → g ∣ D * c.foldl (fun g y => ((Int.gcd g y : Nat) : Int)) a
  | [], a, h, _ => h
  | b :: c, a, h, hc => by
    simp only [List.foldl_cons]
    refine gfold_mul g D c _ ?_ (fun y hy => hc y (List.mem_cons_of_mem _ hy))
    have h2 := hc b List.mem_cons_self
    have h3 : g ∣ ((Int.gcd (D * a) (D * b) : Nat) : Int) := Int.dvd_coe_gcd h h2
    rw [Int.gcd_mul_left] at h3
    have h4 : (((D.natAbs * Int.gcd a b : Nat)) : Int) = (D.natAbs : Int) * ((Int.gcd a b : Nat) : Int) := by simp
    rw [h4] at h3
    rcases Int.natAbs_eq D with e | e
    · rw [e]; exact h3
    · rw [e, Int.neg_mul]; exact Int.dvd_neg.mpr h3
theorem gds_mul {c : Vec} {g D : Int} (h : ∀ y ∈ c, g ∣ D * y) : g ∣ D * gds c := gfold_mul g D c 0 (by simp) h
theorem gfold_nonneg : ∀ (c : Vec) (a : Int), 0 ≤ a → 0 ≤ c.foldl (fun g y => ((Int.gcd g y : Nat) : Int)) a
  | [], a, h => h
  | b :: c, a, h => gfold_nonneg c _ (Int.natCast_nonneg _)
theorem gds_nonneg (c : Vec) : 0 ≤ gds c := gfold_nonneg c 0 (Int.le_refl 0)
theorem gds_pos {c : Vec} {y : Int} (h : y ∈ c) (hy : y ≠ 0) : 0 < gds c := by
  have h1 := gds_nonneg c
  have h2 : gds c ≠ 0 := fun e => by
    have := gds_dvd h
    rw [e] at this
    exact hy (Int.zero_dvd.mp this)
  omega
def Prim (c : Vec) : Prop := gds c = 1
theorem prim_dvd {c : Vec} (hp : Prim c) {g D : Int} (h : ∀ y ∈ c, g ∣ D * y) : g ∣ D := by
  have := gds_mul h
  rw [hp, Int.mul_one] at this
  exact this
/-- proportional points without divisors are one -/
theorem eq_of_prop {d e : Int} {p q : Vec} (hd : 0 < d) (he : 0 < e) (h1 : Prim (d :: p)) (h2 : Prim (e :: q)) (h : sc e p = sc d q) : d :: p = e :: q := by
  have hl : p.length = q.length := by
    have := congrArg List.length h
    simpa using this
  have ent : ∀ i, e * p.getD i 0 = d * q.getD i 0 := fun i => by rw [← getD_sc, ← getD_sc, h]
  have a : d ∣ e := prim_dvd h1 (fun y hy => by
    rcases List.mem_cons.mp hy with z | hy
    · subst z; exact Int.dvd_mul_left ..
    · obtain ⟨i, hi⟩ := List.getElem?_of_mem hy
      have := ent i
      rw [List.getD_eq_getElem?_getD, hi, Option.getD_some] at this
      rw [this]
      exact Int.dvd_mul_right ..)
  have b : e ∣ d := prim_dvd h2 (fun y hy => by
    rcases List.mem_cons.mp hy with z | hy
    · subst z; exact Int.dvd_mul_left ..
    · obtain ⟨i, hi⟩ := List.getElem?_of_mem hy
      have := ent i
      rw [List.getD_eq_getElem?_getD (l := q), hi, Option.getD_some] at this
      rw [← this]
      exact Int.dvd_mul_right ..)
  have hde : d = e := by
    have l1 := Int.le_of_dvd he a
    have l2 := Int.le_of_dvd hd b
    omega
  subst hde
  congr 1
  apply vec_ext hl
  intro i
  exact Int.eq_of_mul_eq_mul_left (by omega) (ent i)
/-! ### directions -/
def dir (d : Int) (p : Vec) (e : Int) (q : Vec) : Vec := ad (sc d q) (sc (-e) p)
theorem dir_len {d e : Int} {p q : Vec} (h : p.length = q.length) : (dir d p e q).length = p.length := by
  unfold dir
  rw [ad_length (by simp [h])]
  simp [h]
theorem dot_dir {d e : Int} {p q : Vec} (h : p.length = q.length) (c : Vec) : dot c (0 :: dir d p e q) = d * dot c (e :: q) - e * dot c (d :: p) := by
  have e1 := dot_ad c (sc d (e :: q)) (sc (-e) (d :: p)) (by simp [h])
  rw [dot_sc, dot_sc] at e1
  simp only [sc_cons, ad_cons] at e1
  have e2 : d * e + -e * d = 0 := by grind
  rw [e2] at e1
  show dot c (0 :: ad (sc d q) (sc (-e) p)) = _
  rw [e1]
  grind
theorem getD_ad : ∀ (u v : Vec) (i : Nat), u.length = v.length → (ad u v).getD i 0 = u.getD i 0 + v.getD i 0
  | [], [], i, _ => by simp [ad]
  | [], b :: v, i, h => by simp at h
  | a :: u, [], i, h => by simp at h
  | a :: u, b :: v, 0, _ => by simp [ad]
  | a :: u, b :: v, i + 1, h => by
    have := getD_ad u v i (by simpa using h)
    simp only [ad_cons, List.getD_cons_succ]
    exact this
theorem dir_zero {d e : Int} {p q : Vec} (h : p.length = q.length) : Zero (dir d p e q) ↔ sc e p = sc d q := by
  have ent : ∀ i, (dir d p e q).getD i 0 = d * q.getD i 0 - e * p.getD i 0 := fun i => by
    unfold dir
    rw [getD_ad _ _ _ (by simp [h]), getD_sc, getD_sc]
    grind
  constructor
  · intro z
    apply vec_ext (by simp [h])
    intro i
    have := zero_getD z i
    rw [ent] at this
    rw [getD_sc, getD_sc]
    omega
  · intro z
    refine zero_of_getD fun i => ?_
    rw [ent, ← getD_sc, ← getD_sc, z]
    omega
/-- a form at proportional points -/
theorem prop_dot {d e : Int} {p q : Vec} (h : sc e p = sc d q) (c : Vec) : e * dot c (d :: p) = d * dot c (e :: q) := by
  rw [← dot_sc, ← dot_sc]
  simp only [sc_cons, h, Int.mul_comm e d]
theorem prop_tight {d e : Int} {p q : Vec} (hd : 0 < d) (he : 0 < e) (h : sc e p = sc d q) (c : Vec) : dot c (d :: p) = 0 ↔ dot c (e :: q) = 0 := by
  have := prop_dot h c
  constructor
  · intro z
    rw [z, Int.mul_zero] at this
    rcases Int.mul_eq_zero.mp this.symm with q | q
    · omega
    · exact q
  · intro z
    rw [z, Int.mul_zero] at this
    rcases Int.mul_eq_zero.mp this with q | q
    · omega
    · exact q
theorem prop_basic {n : Nat} {L : List Vec} {d e : Int} {p q : Vec} (hd : 0 < d) (he : 0 < e) (h : sc e p = sc d q) (b : Basic n L d p) : Basic n L e q := fun v hv k =>
  b v hv fun c hc t => k c hc ((prop_tight hd he h c).mp t)
/-! ### a cell: its corners are the basic points -/
structure CellOk (n : Nat) (L : List Vec) (cs : List Vec) : Prop where
  fl : ∀ c ∈ L, c.length = n + 1
  fc : ∀ c ∈ faces n, c ∈ L
  pt : ∀ x ∈ cs, ∃ d p, x = d :: p ∧ Pt n L d p ∧ Basic n L d p
  pr : ∀ x ∈ cs, Prim x
  nd : cs.Nodup
  cov : ∀ d p, Pt n L d p → Basic n L d p → ∃ e q, e :: q ∈ cs ∧ sc e p = sc d q
/-- a basic point on the face of a point, the goal not greater -/
theorem face_lp {n : Nat} {L : List Vec} (fc : ∀ c ∈ faces n, c ∈ L) {d : Int} {p : Vec} (hp : Pt n L d p) (g : Vec) :
    ∃ e q, Pt n L e q ∧ Basic n L e q ∧ (∀ c ∈ L, dot c (d :: p) = 0 → dot c (e :: q) = 0) ∧ dot g (e :: q) * d ≤ dot g (d :: p) * e := by
  let M : List Vec := (L.filter fun c => decide (dot c (d :: p) = 0)).map (sc (-1))
  have mem : ∀ c, c ∈ M ↔ ∃ c' ∈ L, dot c' (d :: p) = 0 ∧ c = sc (-1) c' := fun c => by
    constructor
    · intro h
      obtain ⟨c', h', rfl⟩ := List.mem_map.mp h
      obtain ⟨h1, h2⟩ := List.mem_filter.mp h'
      exact ⟨c', h1, by simpa using h2, rfl⟩
    · rintro ⟨c', h1, h2, rfl⟩
      exact List.mem_map_of_mem (List.mem_filter.mpr ⟨h1, by simpa using h2⟩)
  have hp' : Pt n (L ++ M) d p := ⟨hp.pos, hp.len, fun c hc => by
    rcases List.mem_append.mp hc with hc | hc
    · exact hp.all c hc
    · obtain ⟨c', h1, h2, rfl⟩ := (mem c).mp hc
      rw [dot_sc_left, h2]; simp⟩
  obtain ⟨e, q, h1, h2, h3⟩ := lp (Cs := L ++ M) (fun c hc => List.mem_append_left _ (fc c hc)) g _ d p hp' (Nat.le_refl _)
  have tight : ∀ c ∈ L, dot c (d :: p) = 0 → dot c (e :: q) = 0 := fun c hc t => by
    have a := h1.all c (List.mem_append_left _ hc)
    have b := h1.all (sc (-1) c) (List.mem_append_right _ ((mem _).mpr ⟨c, hc, t, rfl⟩))
    rw [dot_sc_left] at b
    omega
  refine ⟨e, q, ⟨h1.pos, h1.len, fun c hc => h1.all c (List.mem_append_left _ hc)⟩, fun v hv k => h2 v hv fun c hc t => ?_, tight, h3⟩
  rcases List.mem_append.mp hc with hc | hc
  · exact k c hc t
  · obtain ⟨c', i1, i2, rfl⟩ := (mem c).mp hc
    rw [dot_sc_left, k c' i1 (tight c' i1 i2)]
    simp
/-! ### the cut -/
def btwRow (u : Vec) (fu : Int) (v : Vec) (fv : Int) : Vec := List.zipWith (fun first second => fu * second - fv * first) u v
def between (u : Vec) (fu : Int) (v : Vec) (fv : Int) : Vec := (btwRow u fu v fv).map fun y => y.fdiv (gds (btwRow u fu v fv))
def bothRows (L : List Vec) (u v : Vec) : List Vec := (L.filter fun c => decide (dot c u = 0) && decide (dot c v = 0)).map List.tail
def nb (n : Nat) (L : List Vec) (u v : Vec) : Bool := decide (n ≤ rankR n (bothRows L u v) + 1)
def keptOf (cs : List Vec) (f : Vec) : List Vec := cs.filter fun c => decide (0 ≤ dot f c)
def lostOf (cs : List Vec) (f : Vec) : List Vec := cs.filter fun c => decide (dot f c < 0)
def madeOf (n : Nat) (L cs : List Vec) (f : Vec) : List Vec := (keptOf cs f).flatMap fun one => ((lostOf cs f).filter fun two => decide (0 < dot f one) && nb n L one two).map fun two => between one (dot f one) two (dot f two)
theorem btw_dot : ∀ (c u v : Vec) (fu fv : Int), u.length = v.length → dot c (btwRow u fu v fv) = fu * dot c v - fv * dot c u
  | [], u, v, fu, fv, _ => by simp
  | a :: c, [], [], fu, fv, _ => by simp [btwRow]
  | a :: c, [], b :: v, fu, fv, h => by simp at h
  | a :: c, b :: u, [], fu, fv, h => by simp at h
  | a :: c, b :: u, b' :: v, fu, fv, h => by
    have := btw_dot c u v fu fv (by simpa using h)
    unfold btwRow at this ⊢
    simp only [List.zipWith_cons_cons, dot_cons, this]
    grind
/-- what is known of a point between two corners -/
structure Btw (n : Nat) (L : List Vec) (f : Vec) (u v b : Vec) (g e : Int) (q : Vec) : Prop where
  eq : b = e :: q
  gp : 0 < g
  ep : 0 < e
  ql : q.length = n
  dt : ∀ c : Vec, g * dot c (e :: q) = dot f u * dot c v - dot f v * dot c u
  pm : Prim b
theorem map_fdiv {g : Int} (hg : 0 < g) : ∀ (r : Vec), (∀ y ∈ r, g ∣ y) → sc g (r.map fun y => y.fdiv g) = r
  | [], _ => rfl
  | y :: r, h => by
    have ih := map_fdiv hg r (fun z hz => h z (List.mem_cons_of_mem _ hz))
    simp only [List.map_cons, sc_cons, ih]
    congr 1
    rw [Int.fdiv_eq_ediv_of_nonneg _ (by omega)]
    exact Int.mul_ediv_cancel' (h y List.mem_cons_self)
theorem btw_mk {n : Nat} {L : List Vec} {f : Vec} {d e : Int} {p q : Vec} (hp : Pt n L d p) (hq : Pt n L e q) (hu : 0 < dot f (d :: p)) (hv : dot f (e :: q) < 0) :
    ∃ g w t, Btw n L f (d :: p) (e :: q) (between (d :: p) (dot f (d :: p)) (e :: q) (dot f (e :: q))) g w t := by
  generalize hr : btwRow (d :: p) (dot f (d :: p)) (e :: q) (dot f (e :: q)) = r
  have hl : (d :: p).length = (e :: q).length := by simp [hp.len, hq.len]
  have h0 : 0 < dot f (d :: p) * e - dot f (e :: q) * d := by
    have a := Int.mul_pos hu hq.pos
    have b := Int.mul_pos (show 0 < - dot f (e :: q) by omega) hp.pos
    rw [Int.neg_mul] at b
    omega
  have er : r = (dot f (d :: p) * e - dot f (e :: q) * d) :: btwRow p (dot f (d :: p)) q (dot f (e :: q)) := by
    rw [← hr]; rfl
  have gp : 0 < gds r := gds_pos (y := dot f (d :: p) * e - dot f (e :: q) * d) (by rw [er]; exact List.mem_cons_self) (by omega)
  have hs : sc (gds r) (r.map fun y => y.fdiv (gds r)) = r := map_fdiv gp r (fun y hy => gds_dvd hy)
  have eb : between (d :: p) (dot f (d :: p)) (e :: q) (dot f (e :: q)) = r.map fun y => y.fdiv (gds r) := by
    unfold between; rw [hr]
  have el : (r.map fun y => y.fdiv (gds r)) = ((dot f (d :: p) * e - dot f (e :: q) * d).fdiv (gds r)) :: (btwRow p (dot f (d :: p)) q (dot f (e :: q))).map fun y => y.fdiv (gds r) := by
    conv => lhs; rw [er]
    rw [List.map_cons, ← er]
  have hf : gds r * ((dot f (d :: p) * e - dot f (e :: q) * d).fdiv (gds r)) = dot f (d :: p) * e - dot f (e :: q) * d := by
    rw [Int.fdiv_eq_ediv_of_nonneg _ (by omega)]
    exact Int.mul_ediv_cancel' (gds_dvd (by rw [er]; exact List.mem_cons_self))
  refine ⟨gds r, _, _, eb.trans el, gp, ?_, ?_, fun c => ?_, ?_⟩
  · have : 0 < gds r * ((dot f (d :: p) * e - dot f (e :: q) * d).fdiv (gds r)) := by omega
    by_cases hc : 0 < (dot f (d :: p) * e - dot f (e :: q) * d).fdiv (gds r)
    · exact hc
    · have := Int.mul_nonneg (Int.le_of_lt gp) (show 0 ≤ -((dot f (d :: p) * e - dot f (e :: q) * d).fdiv (gds r)) by omega)
      rw [Int.mul_neg] at this
      omega
  · simp [btwRow, hp.len, hq.len]
  · rw [← el, ← dot_sc, hs, ← hr, btw_dot _ _ _ _ _ hl]
  · rw [eb]
    -- no divisor is left
    have hd : gds r * gds (r.map fun y => y.fdiv (gds r)) ∣ gds r * 1 := by
      have : gds r * gds (r.map fun y => y.fdiv (gds r)) ∣ 1 * gds r := gds_mul (fun y hy => by
        rw [Int.one_mul]
        have hy' : y ∈ sc (gds r) (r.map fun y => y.fdiv (gds r)) := by rw [hs]; exact hy
        obtain ⟨z, hz, rfl⟩ := List.mem_map.mp hy'
        exact Int.mul_dvd_mul_left _ (gds_dvd hz))
      rw [Int.mul_one, ← Int.one_mul (gds r)]
      rw [Int.one_mul] at this ⊢
      exact this
    have h1 : gds (r.map fun y => y.fdiv (gds r)) ∣ 1 := Int.dvd_of_mul_dvd_mul_left (by omega) hd
    have h2 := gds_nonneg (r.map fun y => y.fdiv (gds r))
    have h3 := Int.le_of_dvd (by omega) h1
    have h4 : gds (r.map fun y => y.fdiv (gds r)) ≠ 0 := fun z => by rw [z] at h1; exact absurd (Int.zero_dvd.mp h1) (by omega)
    show gds _ = 1
    omega
end Hf


/-! ## Geo4 -/
set_option linter.all false
namespace Hf
theorem par_cons0 {v w : Vec} (h : Par v w) : Par (0 :: v) (0 :: w) := fun i j => by
  cases i with
  | zero => cases j <;> simp
  | succ i => cases j with
    | zero => simp
    | succ j => simpa using h i j
/-- forms at parallel vectors -/
theorem par_dot2 {v w : Vec} (hl : v.length = w.length) (h : Par v w) (f c : Vec) : dot f w * dot c v = dot f v * dot c w := by
  have e : sc (dot c v) w = sc (dot c w) v := by
    apply vec_ext (by simp [hl])
    intro j
    rw [getD_sc, getD_sc, Int.mul_comm, Int.mul_comm (dot c w)]
    exact par_dot hl h c j
  have := congrArg (dot f) e
  rw [dot_sc, dot_sc] at this
  rw [Int.mul_comm, this, Int.mul_comm]
/-- the forms that are tight at both -/
def KB (L : List Vec) (u v w : Vec) : Prop := ∀ c ∈ L, dot c u = 0 → dot c v = 0 → dot c (0 :: w) = 0
theorem tail_dot {n : Nat} {c w : Vec} (h : c.length = n + 1) : dot c (0 :: w) = dot c.tail w := by
  rw [(row_split h).1, dot_cons]
  simp
theorem kr_both {n : Nat} {L : List Vec} (fl : ∀ c ∈ L, c.length = n + 1) {u v w : Vec} : Kr (bothRows L u v) w ↔ KB L u v w := by
  constructor
  · intro k c hc h1 h2
    rw [tail_dot (fl c hc)]
    exact k _ (List.mem_map_of_mem (List.mem_filter.mpr ⟨hc, by simp [h1, h2]⟩))
  · intro k r hr
    obtain ⟨c, hc, rfl⟩ := List.mem_map.mp hr
    obtain ⟨h1, h2⟩ := List.mem_filter.mp hc
    simp only [Bool.and_eq_true, decide_eq_true_eq] at h2
    rw [← tail_dot (fl c h1)]
    exact k c h1 h2.1 h2.2
theorem both_len {n : Nat} {L : List Vec} (fl : ∀ c ∈ L, c.length = n + 1) {u v : Vec} : ∀ r ∈ bothRows L u v, r.length = n := fun r hr => by
  obtain ⟨c, hc, rfl⟩ := List.mem_map.mp hr
  exact (row_split (fl c (List.mem_filter.mp hc).1)).2
def D1 (n : Nat) (L : List Vec) (u v : Vec) : Prop := ∀ w1 w2 : Vec, w1.length = n → w2.length = n → KB L u v w1 → KB L u v w2 → Par w1 w2
theorem nb_iff {n : Nat} {L : List Vec} (fl : ∀ c ∈ L, c.length = n + 1) {u v : Vec} : nb n L u v = true ↔ D1 n L u v := by
  unfold nb
  rw [decide_eq_true_eq]
  constructor
  · intro h w1 w2 l1 l2 k1 k2
    exact rank_dim1 n _ (both_len fl) h w1 w2 l1 l2 ((kr_both fl).mpr k1) ((kr_both fl).mpr k2)
  · intro h
    exact dim1_rank (both_len fl) fun w1 w2 l1 l2 k1 k2 => h w1 w2 l1 l2 ((kr_both fl).mp k1) ((kr_both fl).mp k2)
theorem par_zero {w D : Vec} (hl : w.length = D.length) (p : Par w D) {f : Vec} (hD : dot f (0 :: D) ≠ 0) (hw : dot f (0 :: w) = 0) : Zero w := by
  refine zero_of_getD fun j => ?_
  have a := par_dot (v := 0 :: w) (w := 0 :: D) (by simp [hl]) (par_cons0 p) f (j + 1)
  simp only [List.getD_cons_succ] at a
  rw [hw, Int.mul_zero] at a
  rcases Int.mul_eq_zero.mp a.symm with z | z
  · exact z
  · exact absurd z hD
section
variable {n : Nat} {L : List Vec} {f : Vec} {d e d' e' : Int} {p q p' q' : Vec}
/-- from u to v the form falls -/
theorem dir_fall (hp : Pt n L d p) (hq : Pt n L e q) (fu : 0 < dot f (d :: p)) (fv : dot f (e :: q) < 0) : dot f (0 :: dir d p e q) < 0 := by
  rw [dot_dir (by rw [hp.len, hq.len])]
  have a := Int.mul_pos hp.pos (show 0 < - dot f (e :: q) by omega)
  have b := Int.mul_pos hq.pos fu
  rw [Int.mul_neg] at a
  omega
theorem dir_kb (hp : Pt n L d p) (hq : Pt n L e q) : KB L (d :: p) (e :: q) (dir d p e q) := fun c _ h1 h2 => by
  rw [dot_dir (by rw [hp.len, hq.len]), h1, h2]
  simp
/-- a basic point stands not strictly between -/
theorem no_btw (hu : Pt n L d p) (bu : Basic n L d p) (hu' : Pt n L d' p') (hv : Pt n L e q) (hD : D1 n L (d :: p) (e :: q))
    (ht : ∀ c ∈ L, dot c (d :: p) = 0 → dot c (e :: q) = 0 → dot c (d' :: p') = 0) (fu : 0 < dot f (d :: p)) (fv : dot f (e :: q) < 0) (lt : d' * dot f (d :: p) < d * dot f (d' :: p')) : False := by
  have l1 : p.length = p'.length := by rw [hu.len, hu'.len]
  have l2 : p.length = q.length := by rw [hu.len, hv.len]
  have fa : 0 < dot f (0 :: dir d p d' p') := by rw [dot_dir l1]; omega
  have fD := dir_fall hu hv fu fv
  have ka : KB L (d :: p) (e :: q) (dir d p d' p') := fun c hc h1 h2 => by rw [dot_dir l1, h1, ht c hc h1 h2]; simp
  have par := hD _ _ (by rw [dir_len l1, hu.len]) (by rw [dir_len l2, hu.len]) ka (dir_kb hu hv)
  have hl : (0 :: dir d p d' p').length = (0 :: dir d p e q).length := by simp [dir_len l1, dir_len l2]
  have z := bu (dir d p d' p') (by rw [dir_len l1, hu.len]) fun c hc t => by
    have a := par_dot2 hl (par_cons0 par) f c
    have c1 : 0 ≤ dot c (0 :: dir d p d' p') := by
      rw [dot_dir l1, t]
      have := Int.mul_nonneg (Int.le_of_lt hu.pos) (hu'.all c hc)
      omega
    have c2 : 0 ≤ dot c (0 :: dir d p e q) := by
      rw [dot_dir l2, t]
      have := Int.mul_nonneg (Int.le_of_lt hu.pos) (hv.all c hc)
      omega
    have b1 := Int.mul_nonneg (Int.le_of_lt fa) c2
    have b2 := Int.mul_nonneg (show 0 ≤ - dot f (0 :: dir d p e q) by omega) c1
    rw [Int.neg_mul] at b2
    rcases Int.mul_eq_zero.mp (show dot f (0 :: dir d p e q) * dot c (0 :: dir d p d' p') = 0 by omega) with y | y
    · omega
    · exact y
  have : dot f (0 :: dir d p d' p') = 0 := zero_dot _ _ (zero_cons.mpr ⟨rfl, z⟩)
  omega
/-- .. so such points at which the same forms are tight are one -/
theorem same_side (hu : Pt n L d p) (bu : Basic n L d p) (hu' : Pt n L d' p') (bu' : Basic n L d' p') (hv : Pt n L e q) (hv' : Pt n L e' q') (hD : D1 n L (d :: p) (e :: q)) (hD' : D1 n L (d' :: p') (e' :: q'))
    (ht : ∀ c ∈ L, (dot c (d :: p) = 0 ∧ dot c (e :: q) = 0) ↔ (dot c (d' :: p') = 0 ∧ dot c (e' :: q') = 0)) (fu : 0 < dot f (d :: p)) (fu' : 0 < dot f (d' :: p')) (fv : dot f (e :: q) < 0) (fv' : dot f (e' :: q') < 0)
    (pu : Prim (d :: p)) (pu' : Prim (d' :: p')) : d :: p = d' :: p' := by
  have l1 : p.length = p'.length := by rw [hu.len, hu'.len]
  have l2 : p.length = q.length := by rw [hu.len, hv.len]
  by_cases c1 : d' * dot f (d :: p) < d * dot f (d' :: p')
  · exact (no_btw hu bu hu' hv hD (fun c hc h1 h2 => ((ht c hc).mp ⟨h1, h2⟩).1) fu fv c1).elim
  by_cases c2 : d * dot f (d' :: p') < d' * dot f (d :: p)
  · exact (no_btw hu' bu' hu hv' hD' (fun c hc h1 h2 => ((ht c hc).mpr ⟨h1, h2⟩).1) fu' fv' c2).elim
  have fa : dot f (0 :: dir d p d' p') = 0 := by rw [dot_dir l1]; omega
  have ka : KB L (d :: p) (e :: q) (dir d p d' p') := fun c hc h1 h2 => by rw [dot_dir l1, h1, ((ht c hc).mp ⟨h1, h2⟩).1]; simp
  have par := hD _ _ (by rw [dir_len l1, hu.len]) (by rw [dir_len l2, hu.len]) ka (dir_kb hu hv)
  have fD := dir_fall hu hv fu fv
  have z := par_zero (by rw [dir_len l1, dir_len l2]) par (by omega) fa
  exact eq_of_prop hu.pos hu'.pos pu pu' ((dir_zero l1).mp z)
end
section
variable {n : Nat} {L : List Vec} {f u v b : Vec} {g e : Int} {q : Vec}
theorem Btw.tight (B : Btw n L f u v b g e q) (fu : 0 < dot f u) (fv : dot f v < 0) {c : Vec} (h1 : 0 ≤ dot c u) (h2 : 0 ≤ dot c v) : dot c (e :: q) = 0 ↔ dot c u = 0 ∧ dot c v = 0 := by
  have a := B.dt c
  have b1 := Int.mul_nonneg (Int.le_of_lt fu) h2
  have b2 := Int.mul_nonneg (show 0 ≤ - dot f v by omega) h1
  rw [Int.neg_mul] at b2
  constructor
  · intro z
    rw [z, Int.mul_zero] at a
    constructor
    · rcases Int.mul_eq_zero.mp (show dot f v * dot c u = 0 by omega) with y | y
      · omega
      · exact y
    · rcases Int.mul_eq_zero.mp (show dot f u * dot c v = 0 by omega) with y | y
      · omega
      · exact y
  · rintro ⟨z1, z2⟩
    rw [z1, z2] at a
    simp only [Int.mul_zero, Int.sub_self] at a
    rcases Int.mul_eq_zero.mp a with y | y
    · have := B.gp; omega
    · exact y
theorem Btw.nonneg (B : Btw n L f u v b g e q) (fu : 0 < dot f u) (fv : dot f v < 0) {c : Vec} (h1 : 0 ≤ dot c u) (h2 : 0 ≤ dot c v) : 0 ≤ dot c (e :: q) := by
  have a := B.dt c
  have b1 := Int.mul_nonneg (Int.le_of_lt fu) h2
  have b2 := Int.mul_nonneg (show 0 ≤ - dot f v by omega) h1
  rw [Int.neg_mul] at b2
  refine Classical.byContradiction fun z => ?_
  have := Int.mul_pos B.gp (show 0 < - dot c (e :: q) by omega)
  rw [Int.mul_neg] at this
  omega
theorem Btw.f0 (B : Btw n L f u v b g e q) : dot f (e :: q) = 0 := by
  have a := B.dt f
  rw [Int.mul_comm (dot f v), Int.sub_self] at a
  rcases Int.mul_eq_zero.mp a with y | y
  · have := B.gp; omega
  · exact y
end
theorem nodup_flat {α β γ : Type} (g : α → List β) (h : α → β → γ) : ∀ (l : List α), l.Nodup → (∀ a ∈ l, (g a).Nodup) → (∀ a ∈ l, ∀ b ∈ g a, ∀ a' ∈ l, ∀ b' ∈ g a', h a b = h a' b' → a = a' ∧ b = b') → (l.flatMap fun a => (g a).map (h a)).Nodup
  | [], _, _, _ => by simp
  | a :: l, nl, ng, inj => by
    rw [List.flatMap_cons]
    obtain ⟨na, nl'⟩ := List.nodup_cons.mp nl
    refine List.nodup_append.mpr ⟨?_, nodup_flat g h l nl' (fun a ha => ng a (List.mem_cons_of_mem _ ha)) (fun a ha b hb a' ha' b' hb' => inj a (List.mem_cons_of_mem _ ha) b hb a' (List.mem_cons_of_mem _ ha') b' hb'), ?_⟩
    · refine List.pairwise_map.mpr ((ng a List.mem_cons_self).imp_of_mem fun {b b'} hb hb' hne he => hne ?_)
      exact (inj a List.mem_cons_self b hb a List.mem_cons_self b' hb' he).2
    · intro x hx y hy e
      obtain ⟨b, hb, rfl⟩ := List.mem_map.mp hx
      obtain ⟨a', ha', hy⟩ := List.mem_flatMap.mp hy
      obtain ⟨b', hb', rfl⟩ := List.mem_map.mp hy
      have := (inj a List.mem_cons_self b hb a' (List.mem_cons_of_mem _ ha') b' hb' e).1
      subst this
      exact na ha'
theorem mem_made {n : Nat} {L cs : List Vec} {f x : Vec} : x ∈ madeOf n L cs f ↔ ∃ u ∈ cs, ∃ v ∈ cs, 0 < dot f u ∧ dot f v < 0 ∧ nb n L u v = true ∧ x = between u (dot f u) v (dot f v) := by
  unfold madeOf keptOf lostOf
  simp only [List.mem_flatMap, List.mem_map, List.mem_filter, decide_eq_true_eq, Bool.and_eq_true]
  constructor
  · rintro ⟨u, ⟨h1, h2⟩, v, ⟨⟨h3, h4⟩, h5, h6⟩, rfl⟩
    exact ⟨u, h1, v, h3, h5, h4, h6, rfl⟩
  · rintro ⟨u, h1, v, h3, h5, h4, h6, rfl⟩
    exact ⟨u, ⟨h1, by omega⟩, v, ⟨⟨h3, h4⟩, h5, h6⟩, rfl⟩
/-- THE CUT: the part of a cell where a form is at least 0 -/
theorem cut_ok {n : Nat} {L L' cs : List Vec} (h : CellOk n L cs) {f : Vec} (hf : f.length = n + 1) (hL : ∀ c, c ∈ L' ↔ c ∈ L ∨ c = f) : CellOk n L' (keptOf cs f ++ madeOf n L cs f) := by
  have fl' : ∀ c ∈ L', c.length = n + 1 := fun c hc => by
    rcases (hL c).mp hc with z | z
    · exact h.fl c z
    · rw [z]; exact hf
  have sub : ∀ c ∈ L, c ∈ L' := fun c hc => (hL c).mpr (.inl hc)
  -- made points
  have made : ∀ x ∈ madeOf n L cs f, ∃ d p e q g w t, d :: p ∈ cs ∧ e :: q ∈ cs ∧ Pt n L d p ∧ Basic n L d p ∧ Pt n L e q ∧ Basic n L e q ∧ 0 < dot f (d :: p) ∧ dot f (e :: q) < 0 ∧ D1 n L (d :: p) (e :: q) ∧ Btw n L f (d :: p) (e :: q) x g w t := fun x hx => by
    obtain ⟨u, hu, v, hv, fu, fv, hn, rfl⟩ := mem_made.mp hx
    obtain ⟨d, p, rfl, pu, bu⟩ := h.pt u hu
    obtain ⟨e, q, rfl, pv, bv⟩ := h.pt v hv
    obtain ⟨g, w, t, B⟩ := btw_mk (L := L) pu pv fu fv
    exact ⟨d, p, e, q, g, w, t, hu, hv, pu, bu, pv, bv, fu, fv, (nb_iff h.fl).mp hn, B⟩
  refine ⟨fl', fun c hc => sub c (h.fc c hc), fun x hx => ?_, fun x hx => ?_, ?_, fun d p hp hb => ?_⟩
  · rcases List.mem_append.mp hx with hx | hx
    · obtain ⟨h1, h2⟩ := List.mem_filter.mp hx
      obtain ⟨d, p, rfl, pp, bb⟩ := h.pt x h1
      refine ⟨d, p, rfl, ⟨pp.pos, pp.len, fun c hc => ?_⟩, fun v hv k => bb v hv fun c hc t => k c (sub c hc) t⟩
      rcases (hL c).mp hc with z | z
      · exact pp.all c z
      · rw [z]; simpa using h2
    · obtain ⟨d, p, e, q, g, w, t, _, _, pu, bu, pv, bv, fu, fv, hD, B⟩ := made x hx
      refine ⟨w, t, B.eq, ⟨B.ep, B.ql, fun c hc => ?_⟩, fun v hv k => ?_⟩
      · rcases (hL c).mp hc with z | z
        · exact B.nonneg fu fv (pu.all c z) (pv.all c z)
        · rw [z, B.f0]; exact Int.le_refl 0
      · have l2 : p.length = q.length := by rw [pu.len, pv.len]
        have kv : KB L (d :: p) (e :: q) v := fun c hc h1 h2 => k c (sub c hc) ((B.tight fu fv (pu.all c hc) (pv.all c hc)).mpr ⟨h1, h2⟩)
        have par := hD v _ hv (by rw [dir_len l2, pu.len]) kv (dir_kb pu pv)
        have fD := dir_fall pu pv fu fv
        exact par_zero (by rw [hv, dir_len l2, pu.len]) par (by omega) (k f ((hL f).mpr (.inr rfl)) B.f0)
  · rcases List.mem_append.mp hx with hx | hx
    · exact h.pr x (List.mem_filter.mp hx).1
    · obtain ⟨d, p, e, q, g, w, t, _, _, pu, bu, pv, bv, fu, fv, hD, B⟩ := made x hx
      exact B.pm
  · refine List.nodup_append.mpr ⟨h.nd.filter _, ?_, fun x hx y hy e => ?_⟩
    · unfold madeOf
      refine nodup_flat (fun one => (lostOf cs f).filter fun two => decide (0 < dot f one) && nb n L one two) (fun one two => between one (dot f one) two (dot f two)) _ (h.nd.filter _) (fun a _ => (h.nd.filter _).filter _) ?_
      intro u hu v hv u' hu' v' hv' he
      simp only [keptOf, lostOf, List.mem_filter, decide_eq_true_eq, Bool.and_eq_true] at hu hv hu' hv'
      obtain ⟨d, p, rfl, pu, bu⟩ := h.pt u hu.1
      obtain ⟨e, q, rfl, pv, bv⟩ := h.pt v hv.1.1
      obtain ⟨d', p', rfl, pu', bu'⟩ := h.pt u' hu'.1
      obtain ⟨e', q', rfl, pv', bv'⟩ := h.pt v' hv'.1.1
      have fu := hv.2.1
      have fv := hv.1.2
      have fu' := hv'.2.1
      have fv' := hv'.1.2
      have hD := (nb_iff h.fl).mp hv.2.2
      have hD' := (nb_iff h.fl).mp hv'.2.2
      obtain ⟨g, w, t, B⟩ := btw_mk (L := L) pu pv fu fv
      obtain ⟨g', w', t', B'⟩ := btw_mk (L := L) pu' pv' fu' fv'
      have eb : w :: t = w' :: t' := by rw [← B.eq, ← B'.eq]; exact he
      have ht : ∀ c ∈ L, (dot c (d :: p) = 0 ∧ dot c (e :: q) = 0) ↔ (dot c (d' :: p') = 0 ∧ dot c (e' :: q') = 0) := fun c hc => by
        rw [← B.tight fu fv (pu.all c hc) (pv.all c hc), ← B'.tight fu' fv' (pu'.all c hc) (pv'.all c hc), eb]
      refine ⟨same_side pu bu pu' bu' pv pv' hD hD' ht fu fu' fv fv' (h.pr _ hu.1) (h.pr _ hu'.1), ?_⟩
      have neg : ∀ x, dot (sc (-1) f) x = - dot f x := fun x => by rw [dot_sc_left]; omega
      have flip : ∀ {u v : Vec}, D1 n L u v → D1 n L v u := fun hD w1 w2 l1 l2 k1 k2 => hD w1 w2 l1 l2 (fun c hc h1 h2 => k1 c hc h2 h1) (fun c hc h1 h2 => k2 c hc h2 h1)
      exact same_side (f := sc (-1) f) pv bv pv' bv' pu pu' (flip hD) (flip hD') (fun c hc => by
        have := ht c hc
        constructor
        · intro z; exact ⟨(this.mp ⟨z.2, z.1⟩).2, (this.mp ⟨z.2, z.1⟩).1⟩
        · intro z; exact ⟨(this.mpr ⟨z.2, z.1⟩).2, (this.mpr ⟨z.2, z.1⟩).1⟩)
        (by rw [neg]; omega) (by rw [neg]; omega) (by rw [neg]; omega) (by rw [neg]; omega) (h.pr _ hv.1.1) (h.pr _ hv'.1.1)
    · -- a corner that is kept is not strictly between
      obtain ⟨h1, h2⟩ := List.mem_filter.mp hx
      obtain ⟨d, p, e', q, g, w, t, _, _, pu, bu, pv, bv, fu, fv, hD, B⟩ := made y hy
      obtain ⟨d0, p0, ex, px, bx⟩ := h.pt x h1
      have eb : d0 :: p0 = w :: t := by rw [← ex, e, B.eq]
      have l2 : p.length = q.length := by rw [pu.len, pv.len]
      have z := bx (dir d p e' q) (by rw [dir_len l2, pu.len]) fun c hc tg => by
        rw [eb] at tg
        obtain ⟨t1, t2⟩ := (B.tight fu fv (pu.all c hc) (pv.all c hc)).mp tg
        exact dir_kb pu pv c hc t1 t2
      have fD := dir_fall pu pv fu fv
      have : dot f (0 :: dir d p e' q) = 0 := zero_dot _ _ (zero_cons.mpr ⟨rfl, z⟩)
      omega
  · -- every basic point of the part is there
    have hpL : Pt n L d p := ⟨hp.pos, hp.len, fun c hc => hp.all c (sub c hc)⟩
    have ff : 0 ≤ dot f (d :: p) := hp.all f ((hL f).mpr (.inr rfl))
    by_cases bL : Basic n L d p
    · obtain ⟨e, q, hm, hs⟩ := h.cov d p hpL bL
      refine ⟨e, q, List.mem_append_left _ (List.mem_filter.mpr ⟨hm, ?_⟩), hs⟩
      obtain ⟨e', q', ee, pq, _⟩ := h.pt _ hm
      cases ee
      have := prop_dot hs f
      rw [decide_eq_true_eq]
      refine Classical.byContradiction fun z => ?_
      have a := Int.mul_pos hp.pos (show 0 < - dot f (e :: q) by omega)
      rw [Int.mul_neg] at a
      have b := Int.mul_nonneg (Int.le_of_lt pq.pos) ff
      omega
    · -- f is tight there, and only f keeps it basic
      have kf : ∀ v : Vec, v.length = n → Ker L d p v → dot f (0 :: v) = 0 → Zero v := fun v hv k z => hb v hv fun c hc t => by
        rcases (hL c).mp hc with y | y
        · exact k c y t
        · rw [y]; exact z
      have f0 : dot f (d :: p) = 0 := by
        refine Classical.byContradiction fun z => bL fun v hv k => hb v hv fun c hc t => ?_
        rcases (hL c).mp hc with y | y
        · exact k c y t
        · subst y; exact absurd t z
      have side : ∀ s : Vec, (∀ x, dot s x = dot f x) ∨ (∀ x, dot s x = - dot f x) → ∃ e q, e :: q ∈ cs ∧ Pt n L e q ∧ (∀ c ∈ L, dot c (d :: p) = 0 → dot c (e :: q) = 0) ∧ 0 < dot s (e :: q) := fun s hs => by
        obtain ⟨e, q, h1, h2, h3, h4⟩ := face_lp h.fc hpL (sc (-1) s)
        rw [dot_sc_left, dot_sc_left] at h4
        have s0 : dot s (d :: p) = 0 := by rcases hs with z | z <;> rw [z, f0] <;> rfl
        rw [s0] at h4
        have l1 : p.length = q.length := by rw [hpL.len, h1.len]
        have s1 : 0 ≤ dot s (e :: q) := by
          refine Classical.byContradiction fun z => ?_
          have := Int.mul_pos (show 0 < -1 * dot s (e :: q) by omega) hp.pos
          simp only [Int.mul_zero, Int.zero_mul] at h4
          omega
        have s2 : dot s (e :: q) ≠ 0 := fun z => by
          have fz : dot f (e :: q) = 0 := by rcases hs with y | y <;> (have := y (e :: q); omega)
          have k : Ker L d p (dir d p e q) := fun c hc t => by rw [dot_dir l1, t, h3 c hc t]; simp
          have zz := kf _ (by rw [dir_len l1, hpL.len]) k (by rw [dot_dir l1, f0, fz]; simp)
          have pr : sc e p = sc d q := (dir_zero l1).mp zz
          exact bL (prop_basic h1.pos hp.pos pr.symm h2)
        obtain ⟨e', q', hm, hs'⟩ := h.cov e q h1 h2
        obtain ⟨e2, q2, ee, pq, _⟩ := h.pt _ hm
        cases ee
        refine ⟨e', q', hm, pq, fun c hc t => (prop_tight h1.pos pq.pos hs' c).mp (h3 c hc t), ?_⟩
        have a := prop_dot hs' s
        refine Classical.byContradiction fun z => ?_
        have b := Int.mul_pos pq.pos (show 0 < dot s (e :: q) by omega)
        have c := Int.mul_nonneg (Int.le_of_lt h1.pos) (show 0 ≤ - dot s (e' :: q') by omega)
        rw [Int.mul_neg] at c
        omega
      obtain ⟨du, pu, hu, Pu, tu, fu⟩ := side f (.inl fun _ => rfl)
      obtain ⟨dv, pv, hv, Pv, tv, fv'⟩ := side (sc (-1) f) (.inr fun x => by rw [dot_sc_left]; omega)
      have fv : dot f (dv :: pv) < 0 := by rw [dot_sc_left] at fv'; omega
      have hD : D1 n L (du :: pu) (dv :: pv) := fun w1 w2 l1 l2 k1 k2 => by
        have j1 : Ker L d p w1 := fun c hc t => k1 c hc (tu c hc t) (tv c hc t)
        have j2 : Ker L d p w2 := fun c hc t => k2 c hc (tu c hc t) (tv c hc t)
        -- (f.w2) w1 - (f.w1) w2 is nowhere seen
        have ll : (sc (dot f (0 :: w2)) w1).length = (sc (- dot f (0 :: w1)) w2).length := by simp [l1, l2]
        have comb : ∀ c : Vec, dot c (0 :: ad (sc (dot f (0 :: w2)) w1) (sc (- dot f (0 :: w1)) w2)) = dot f (0 :: w2) * dot c (0 :: w1) - dot f (0 :: w1) * dot c (0 :: w2) := fun c => by
          have e1 := dot_ad c (sc (dot f (0 :: w2)) (0 :: w1)) (sc (- dot f (0 :: w1)) (0 :: w2)) (by simp [l1, l2])
          rw [dot_sc, dot_sc] at e1
          simp only [sc_cons, ad_cons, Int.mul_zero, Int.add_zero] at e1
          rw [e1]
          grind
        have zz := kf (ad (sc (dot f (0 :: w2)) w1) (sc (- dot f (0 :: w1)) w2)) (by rw [ad_length ll]; simp [l1]) (fun c hc t => by rw [comb, j1 c hc t, j2 c hc t]; simp) (by rw [comb]; grind)
        have ent : ∀ i, dot f (0 :: w2) * w1.getD i 0 = dot f (0 :: w1) * w2.getD i 0 := fun i => by
          have := zero_getD zz i
          rw [getD_ad _ _ _ ll, getD_sc, getD_sc] at this
          grind
        by_cases z2 : dot f (0 :: w2) = 0
        · exact par_symm (dim0_par (kf w2 l2 j2 z2))
        · intro i j
          have a := ent i
          have b := ent j
          refine Int.eq_of_mul_eq_mul_left z2 ?_
          rw [← Int.mul_assoc, a, ← Int.mul_assoc, b]
          grind
      obtain ⟨g, w, t, B⟩ := btw_mk (L := L) Pu Pv fu fv
      refine ⟨w, t, List.mem_append_right _ (mem_made.mpr ⟨_, hu, _, hv, fu, fv, (nb_iff h.fl).mpr hD, B.eq.symm⟩), ?_⟩
      have l1 : p.length = t.length := by rw [hpL.len, B.ql]
      refine (dir_zero l1).mp (kf _ (by rw [dir_len l1, hpL.len]) (fun c hc tg => ?_) ?_)
      · rw [dot_dir l1, tg, (B.tight fu fv (Pu.all c hc) (Pv.all c hc)).mpr ⟨tu c hc tg, tv c hc tg⟩]
        simp
      · rw [dot_dir l1, f0, B.f0]; simp
end Hf


/-! ## Geo5 -/
set_option linter.all false
namespace Hf
/-! ### the cube -/
def cube : Nat → List Vec
  | 0 => [[1]]
  | n + 1 => (cube n).flatMap fun c => [c ++ [0], c ++ [1]]
theorem mem_cube : ∀ {n : Nat} {x : Vec}, x ∈ cube n ↔ ∃ p : Vec, x = 1 :: p ∧ p.length = n ∧ ∀ y ∈ p, y = 0 ∨ y = 1
  | 0, x => by
    simp only [cube, List.mem_singleton]
    constructor
    · rintro rfl; exact ⟨[], rfl, rfl, fun y hy => by simp at hy⟩
    · rintro ⟨p, rfl, hl, _⟩
      rw [List.eq_nil_of_length_eq_zero hl]
  | n + 1, x => by
    simp only [cube, List.mem_flatMap, mem_cube (n := n)]
    constructor
    · rintro ⟨c, ⟨p, rfl, hl, hp⟩, hx⟩
      simp only [List.mem_cons, List.not_mem_nil, or_false] at hx
      rcases hx with rfl | rfl
      · refine ⟨p ++ [0], rfl, by simp [hl], fun y hy => ?_⟩
        rcases List.mem_append.mp hy with h | h
        · exact hp y h
        · simp at h; omega
      · refine ⟨p ++ [1], rfl, by simp [hl], fun y hy => ?_⟩
        rcases List.mem_append.mp hy with h | h
        · exact hp y h
        · simp at h; omega
    · rintro ⟨p, rfl, hl, hp⟩
      rcases List.eq_nil_or_concat p with rfl | ⟨p', z, rfl⟩
      · simp at hl
      · refine ⟨1 :: p', ⟨p', rfl, by simp at hl; exact hl, fun y hy => hp y (by simp [hy])⟩, ?_⟩
        rcases hp z (by simp) with rfl | rfl <;> simp
theorem cube_nodup : ∀ n : Nat, (cube n).Nodup
  | 0 => by simp [cube]
  | n + 1 => by
    have := nodup_flat (fun _ : Vec => [(0 : Int), 1]) (fun (c : Vec) (b : Int) => c ++ [b]) (cube n) (cube_nodup n) (fun _ _ => by decide) (fun a ha b hb a' ha' b' hb' e => by
      have := List.append_inj' e rfl
      exact ⟨this.1, by simpa using this.2⟩)
    exact this
theorem unit_getD (n k i : Nat) (h : k < n) : (unit n k 1).getD i 0 = if i = k then 1 else 0 := by
  unfold unit
  rw [List.getD_eq_getElem?_getD]
  by_cases h1 : i < k
  · rw [List.getElem?_append_left (by simpa using h1), List.getElem?_replicate, if_pos h1, if_neg (by omega)]; rfl
  · rw [List.getElem?_append_right (by simpa using h1)]
    simp only [List.length_replicate]
    by_cases h2 : i = k
    · subst h2; simp
    · rw [if_neg h2]
      obtain ⟨j, hj⟩ : ∃ j, i - k = j + 1 := ⟨i - k - 1, by omega⟩
      rw [hj, List.getElem?_cons_succ, List.getElem?_replicate]
      split <;> rfl
theorem cube_ok (n : Nat) : CellOk n (faces n) (cube n) := by
  refine ⟨fun c hc => face_length hc, fun _ h => h, fun x hx => ?_, fun x hx => ?_, cube_nodup n, fun d p hp hb => ?_⟩
  · obtain ⟨p, rfl, hl, hp⟩ := mem_cube.mp hx
    have ent : ∀ k, p.getD k 0 = 0 ∨ p.getD k 0 = 1 := fun k => by
      rw [List.getD_eq_getElem?_getD]
      cases e : p[k]? with
      | none => exact .inl rfl
      | some y => exact hp y (List.mem_of_getElem? e)
    refine ⟨1, p, rfl, ⟨by decide, hl, fun c hc => ?_⟩, fun v hv k => ?_⟩
    · obtain ⟨k, _, e | e⟩ := mem_faces.mp hc
      · subst e; rw [dot_faceLo]; rcases ent k with z | z <;> omega
      · subst e; rw [dot_faceHi]; rcases ent k with z | z <;> omega
    · refine zero_of_getD fun i => ?_
      by_cases hi : i < n
      · rcases ent i with z | z
        · have := k (faceLo n i) (mem_faces.mpr ⟨i, hi, .inl rfl⟩) (by rw [dot_faceLo]; exact z)
          rw [dot_faceLo] at this
          exact this
        · have := k (faceHi n i) (mem_faces.mpr ⟨i, hi, .inr rfl⟩) (by rw [dot_faceHi]; omega)
          rw [dot_faceHi] at this
          omega
      · rw [List.getD_eq_getElem?_getD, List.getElem?_eq_none (by omega)]; rfl
  · obtain ⟨p, rfl, hl, hp⟩ := mem_cube.mp hx
    have h1 : gds (1 :: p) ∣ 1 := gds_dvd List.mem_cons_self
    have h2 := Int.le_of_dvd (by decide) h1
    have h3 : 0 < gds (1 :: p) := gds_pos (y := 1) List.mem_cons_self (by decide)
    show gds _ = 1
    omega
  · have ent : ∀ k, k < n → p.getD k 0 = 0 ∨ p.getD k 0 = d := fun k hk => by
      refine Classical.byContradiction fun z => ?_
      have z := not_or.mp z
      have := hb (unit n k 1) (unit_length hk) fun c hc t => by
        obtain ⟨j, hj, e | e⟩ := mem_faces.mp hc
        · subst e
          rw [dot_faceLo] at t ⊢
          rw [unit_getD n k j hk]
          by_cases e : j = k
          · subst e; exact absurd t z.1
          · rw [if_neg e]
        · subst e
          rw [dot_faceHi] at t ⊢
          rw [unit_getD n k j hk]
          by_cases e : j = k
          · subst e; exact absurd (by omega) z.2
          · rw [if_neg e]; rfl
      have z2 := zero_getD this k
      rw [unit_getD n k k hk, if_pos rfl] at z2
      omega
    refine ⟨1, p.map fun y => if y = 0 then 0 else 1, mem_cube.mpr ⟨_, rfl, by simp [hp.len], fun y hy => ?_⟩, ?_⟩
    · obtain ⟨z, _, rfl⟩ := List.mem_map.mp hy
      split
      · exact .inl rfl
      · exact .inr rfl
    · have : ∀ y ∈ p, y = 0 ∨ y = d := fun y hy => by
        obtain ⟨i, hi⟩ := List.getElem?_of_mem hy
        have hi' := (List.getElem?_eq_some_iff.mp hi).1
        have := ent i (by rw [← hp.len]; exact hi')
        rw [List.getD_eq_getElem?_getD, hi] at this
        exact this
      have dp := hp.pos
      clear hb ent hp
      induction p with
      | nil => rfl
      | cons y p ih =>
        simp only [List.map_cons, sc_cons]
        rw [ih (fun z hz => this z (List.mem_cons_of_mem _ hz))]
        congr 1
        rcases this y List.mem_cons_self with rfl | e
        · simp
        · rw [if_neg (by omega)]; omega
/-! ### determinants -/
def Kf : Nat → Int
  | 0 => 1
  | 1 => 1
  | 2 => 2
  | _ => 4
def prod (m : Vec) : Int := m.foldl (fun a b => a * b) 1
theorem mul_le2 {t m y : Int} (h1 : -m ≤ t) (h2 : t ≤ m) : t * y ≤ m * y ∨ t * y ≤ -(m * y) := by
  by_cases hy : 0 ≤ y
  · exact .inl (Int.mul_le_mul_of_nonneg_right h2 hy)
  · refine .inr ?_
    have := Int.mul_le_mul_of_nonneg_right (show -t ≤ m by omega) (show 0 ≤ -y by omega)
    rw [Int.neg_mul_neg, Int.mul_neg] at this
    exact this
theorem det2_bd {a1 a2 b1 b2 m1 m2 : Int} (ha1 : -m1 ≤ a1 ∧ a1 ≤ m1) (ha2 : -m2 ≤ a2 ∧ a2 ≤ m2) (hb1 : -m1 ≤ b1 ∧ b1 ≤ m1) (hb2 : -m2 ≤ b2 ∧ b2 ≤ m2) : a1 * b2 - a2 * b1 ≤ 2 * (m1 * m2) := by
  have p1 : a1 * b2 ≤ m1 * m2 := by
    have x1 := mul_le2 (y := b2) ha1.1 ha1.2
    have x2 := mul_le2 (y := m1) hb2.1 hb2.2
    have x3 := mul_le2 (t := -b2) (m := m2) (y := m1) (by omega) (by omega)
    rw [Int.neg_mul] at x3
    have e : m1 * b2 = b2 * m1 := Int.mul_comm ..
    have e2 : m2 * m1 = m1 * m2 := Int.mul_comm ..
    have e3 : 0 ≤ m1 * m2 := Int.mul_nonneg (by omega) (by omega)
    omega
  have p2 : -(a2 * b1) ≤ m1 * m2 := by
    have x1 := mul_le2 (t := -a2) (m := m2) (y := b1) (by omega) (by omega)
    have x2 := mul_le2 (y := m2) hb1.1 hb1.2
    have x3 := mul_le2 (t := -b1) (m := m1) (y := m2) (by omega) (by omega)
    rw [Int.neg_mul] at x1 x3
    have e : m2 * b1 = b1 * m2 := Int.mul_comm ..
    have e3 : 0 ≤ m1 * m2 := Int.mul_nonneg (by omega) (by omega)
    omega
  omega
theorem det3_s {b1 b2 b3 c1 c2 c3 m1 m2 m3 s1 s2 s3 : Int} (hs1 : s1 = 1 ∨ s1 = -1) (hs2 : s2 = 1 ∨ s2 = -1) (hs3 : s3 = 1 ∨ s3 = -1)
    (hb1 : -m1 ≤ b1 ∧ b1 ≤ m1) (hb2 : -m2 ≤ b2 ∧ b2 ≤ m2) (hb3 : -m3 ≤ b3 ∧ b3 ≤ m3) (hc1 : -m1 ≤ c1 ∧ c1 ≤ m1) (hc2 : -m2 ≤ c2 ∧ c2 ≤ m2) (hc3 : -m3 ≤ c3 ∧ c3 ≤ m3) :
    s1 * (m1 * (b2 * c3 - b3 * c2)) + s2 * (m2 * (b1 * c3 - b3 * c1)) + s3 * (m3 * (b1 * c2 - b2 * c1)) ≤ 4 * (m1 * m2 * m3) := by
  have x1 := mul_le2 (y := s2 * (m2 * c3) + s3 * (m3 * c2)) hb1.1 hb1.2
  have x2 := mul_le2 (y := s1 * (m1 * c3) - s3 * (m3 * c1)) hb2.1 hb2.2
  have x3 := mul_le2 (y := -(s1 * (m1 * c2)) - s2 * (m2 * c1)) hb3.1 hb3.2
  have n12 : 0 ≤ m1 * m2 := Int.mul_nonneg (by omega) (by omega)
  have n13 : 0 ≤ m1 * m3 := Int.mul_nonneg (by omega) (by omega)
  have n23 : 0 ≤ m2 * m3 := Int.mul_nonneg (by omega) (by omega)
  have P1a := Int.mul_le_mul_of_nonneg_right hc1.2 n23
  have P1b := Int.mul_le_mul_of_nonneg_right (show -c1 ≤ m1 by omega) n23
  have P2a := Int.mul_le_mul_of_nonneg_right hc2.2 n13
  have P2b := Int.mul_le_mul_of_nonneg_right (show -c2 ≤ m2 by omega) n13
  have P3a := Int.mul_le_mul_of_nonneg_right hc3.2 n12
  have P3b := Int.mul_le_mul_of_nonneg_right (show -c3 ≤ m3 by omega) n12
  have e1 : m1 * (m2 * m3) = m1 * m2 * m3 := by grind
  have e2 : m2 * (m1 * m3) = m1 * m2 * m3 := by grind
  have e3 : m3 * (m1 * m2) = m1 * m2 * m3 := by grind
  have f1 : b1 * (s2 * (m2 * c3) + s3 * (m3 * c2)) + b2 * (s1 * (m1 * c3) - s3 * (m3 * c1)) + b3 * (-(s1 * (m1 * c2)) - s2 * (m2 * c1)) = s1 * (m1 * (b2 * c3 - b3 * c2)) + s2 * (m2 * (b1 * c3 - b3 * c1)) + s3 * (m3 * (b1 * c2 - b2 * c1)) := by grind
  have g1 : m1 * (s2 * (m2 * c3) + s3 * (m3 * c2)) = s2 * (c3 * (m1 * m2)) + s3 * (c2 * (m1 * m3)) := by grind
  have g2 : m2 * (s1 * (m1 * c3) - s3 * (m3 * c1)) = s1 * (c3 * (m1 * m2)) - s3 * (c1 * (m2 * m3)) := by grind
  have g3 : m3 * (-(s1 * (m1 * c2)) - s2 * (m2 * c1)) = -(s1 * (c2 * (m1 * m3))) - s2 * (c1 * (m2 * m3)) := by grind
  rw [← f1]
  rw [g1] at x1
  rw [g2] at x2
  rw [g3] at x3
  rw [Int.neg_mul] at P1b P2b P3b
  generalize c1 * (m2 * m3) = P1 at *
  generalize c2 * (m1 * m3) = P2 at *
  generalize c3 * (m1 * m2) = P3 at *
  generalize b1 * (s2 * (m2 * c3) + s3 * (m3 * c2)) = B1 at *
  generalize b2 * (s1 * (m1 * c3) - s3 * (m3 * c1)) = B2 at *
  generalize b3 * (-(s1 * (m1 * c2)) - s2 * (m2 * c1)) = B3 at *
  rcases hs1 with rfl | rfl <;> rcases hs2 with rfl | rfl <;> rcases hs3 with rfl | rfl <;> omega
theorem det3_bd {a1 a2 a3 b1 b2 b3 c1 c2 c3 m1 m2 m3 : Int} (ha1 : -m1 ≤ a1 ∧ a1 ≤ m1) (ha2 : -m2 ≤ a2 ∧ a2 ≤ m2) (ha3 : -m3 ≤ a3 ∧ a3 ≤ m3)
    (hb1 : -m1 ≤ b1 ∧ b1 ≤ m1) (hb2 : -m2 ≤ b2 ∧ b2 ≤ m2) (hb3 : -m3 ≤ b3 ∧ b3 ≤ m3) (hc1 : -m1 ≤ c1 ∧ c1 ≤ m1) (hc2 : -m2 ≤ c2 ∧ c2 ≤ m2) (hc3 : -m3 ≤ c3 ∧ c3 ≤ m3) :
    a1 * (b2 * c3 - b3 * c2) - a2 * (b1 * c3 - b3 * c1) + a3 * (b1 * c2 - b2 * c1) ≤ 4 * (m1 * m2 * m3) := by
  have x1 := mul_le2 (y := b2 * c3 - b3 * c2) ha1.1 ha1.2
  have x2 := mul_le2 (t := -a2) (m := m2) (y := b1 * c3 - b3 * c1) (by omega) (by omega)
  have x3 := mul_le2 (y := b1 * c2 - b2 * c1) ha3.1 ha3.2
  rw [Int.neg_mul] at x2
  have key : ∀ s1 s2 s3 : Int, (s1 = 1 ∨ s1 = -1) → (s2 = 1 ∨ s2 = -1) → (s3 = 1 ∨ s3 = -1) → s1 * (m1 * (b2 * c3 - b3 * c2)) + s2 * (m2 * (b1 * c3 - b3 * c1)) + s3 * (m3 * (b1 * c2 - b2 * c1)) ≤ 4 * (m1 * m2 * m3) :=
    fun s1 s2 s3 h1 h2 h3 => det3_s h1 h2 h3 hb1 hb2 hb3 hc1 hc2 hc3
  have k1 := key 1 1 1 (.inl rfl) (.inl rfl) (.inl rfl)
  have k2 := key 1 1 (-1) (.inl rfl) (.inl rfl) (.inr rfl)
  have k3 := key 1 (-1) 1 (.inl rfl) (.inr rfl) (.inl rfl)
  have k4 := key 1 (-1) (-1) (.inl rfl) (.inr rfl) (.inr rfl)
  have k5 := key (-1) 1 1 (.inr rfl) (.inl rfl) (.inl rfl)
  have k6 := key (-1) 1 (-1) (.inr rfl) (.inl rfl) (.inr rfl)
  have k7 := key (-1) (-1) 1 (.inr rfl) (.inr rfl) (.inl rfl)
  have k8 := key (-1) (-1) (-1) (.inr rfl) (.inr rfl) (.inr rfl)
  clear key
  generalize m1 * (b2 * c3 - b3 * c2) = Y1 at *
  generalize m2 * (b1 * c3 - b3 * c1) = Y2 at *
  generalize m3 * (b1 * c2 - b2 * c1) = Y3 at *
  generalize a1 * (b2 * c3 - b3 * c2) = A1 at *
  generalize a2 * (b1 * c3 - b3 * c1) = A2 at *
  generalize a3 * (b1 * c2 - b2 * c1) = A3 at *
  omega
end Hf


/-! ## Geo6 -/
set_option linter.all false
namespace Hf
/-- |c_i| is at most m_i for the numbers behind the first one -/
def Bd (n : Nat) (m c : Vec) : Prop := ∀ i, i < n → -(m.getD i 0) ≤ c.getD (i + 1) 0 ∧ c.getD (i + 1) 0 ≤ m.getD i 0
structure Cram (n : Nat) (t : List Vec) (D : Int) (q : Vec) (B : Int) : Prop where
  nz : D ≠ 0
  lo : -B ≤ D
  hi : D ≤ B
  ql : q.length = n
  eq : ∀ (w0 : Int) (w : Vec), w.length = n → (∀ a ∈ t, dot a (w0 :: w) = 0) → sc D w = sc w0 q
theorem len1 {c : Vec} (h : c.length = 2) : ∃ a b, c = [a, b] := by
  match c, h with
  | [a, b], _ => exact ⟨a, b, rfl⟩
theorem len2 {c : Vec} (h : c.length = 3) : ∃ a b d, c = [a, b, d] := by
  match c, h with
  | [a, b, d], _ => exact ⟨a, b, d, rfl⟩
theorem len3 {c : Vec} (h : c.length = 4) : ∃ a b d e, c = [a, b, d, e] := by
  match c, h with
  | [a, b, d, e], _ => exact ⟨a, b, d, e, rfl⟩
theorem cram1 (T : List Vec) (fl : ∀ c ∈ T, c.length = 2) (hk : ∀ v : Vec, v.length = 1 → (∀ c ∈ T, dot c (0 :: v) = 0) → Zero v) (m1 : Int) (bd : ∀ c ∈ T, Bd 1 [m1] c) :
    ∃ t : List Vec, t.length = 1 ∧ (∀ a ∈ t, a ∈ T) ∧ ∃ D q, Cram 1 t D q m1 := by
  have : ∃ c ∈ T, ∃ a b, c = [a, b] ∧ b ≠ 0 := by
    refine Classical.byContradiction fun h => ?_
    have z := hk [1] rfl fun c hc => by
      obtain ⟨a, b, rfl⟩ := len1 (fl c hc)
      have : b = 0 := Classical.byContradiction fun hb => h ⟨_, hc, a, b, rfl, hb⟩
      subst this
      simp
    have := z 1 (by simp)
    omega
  obtain ⟨c, hc, a, b, rfl, hb⟩ := this
  have B := bd _ hc 0 (by decide)
  simp only [List.getD_cons_zero, List.getD_cons_succ, Nat.zero_add] at B
  refine ⟨[[a, b]], rfl, by simpa using hc, b, [-a], hb, B.1, B.2, rfl, fun w0 w hw ht => ?_⟩
  match w, hw with
  | [x], _ =>
    have := ht _ List.mem_cons_self
    simp only [dot_cons, dot_nil_left, Int.add_zero] at this
    simp only [sc_cons, sc_nil]
    congr 1
    grind
theorem cram2 (T : List Vec) (fl : ∀ c ∈ T, c.length = 3) (hk : ∀ v : Vec, v.length = 2 → (∀ c ∈ T, dot c (0 :: v) = 0) → Zero v) (m1 m2 : Int) (bd : ∀ c ∈ T, Bd 2 [m1, m2] c) :
    ∃ t : List Vec, t.length = 2 ∧ (∀ a ∈ t, a ∈ T) ∧ ∃ D q, Cram 2 t D q (2 * (m1 * m2)) := by
  have h1 : ∃ c ∈ T, ∃ a b d, c = [a, b, d] ∧ (b ≠ 0 ∨ d ≠ 0) := by
    refine Classical.byContradiction fun h => ?_
    have z := hk [1, 0] rfl fun c hc => by
      obtain ⟨a, b, d, rfl⟩ := len2 (fl c hc)
      have : b = 0 := Classical.byContradiction fun hb => h ⟨_, hc, a, b, d, rfl, .inl hb⟩
      subst this
      simp
    have := z 1 (by simp)
    omega
  obtain ⟨c1, hc1, a0, a1, a2, rfl, ha⟩ := h1
  have h2 : ∃ c ∈ T, ∃ b0 b1 b2, c = [b0, b1, b2] ∧ a1 * b2 - a2 * b1 ≠ 0 := by
    refine Classical.byContradiction fun h => ?_
    have z := hk [a2, -a1] rfl fun c hc => by
      obtain ⟨b0, b1, b2, rfl⟩ := len2 (fl c hc)
      have : a1 * b2 - a2 * b1 = 0 := Classical.byContradiction fun hb => h ⟨_, hc, b0, b1, b2, rfl, hb⟩
      simp only [dot_cons, dot_nil_left]
      grind
    have z1 := z a2 (by simp)
    have z2 := z (-a1) (by simp)
    omega
  obtain ⟨c2, hc2, b0, b1, b2, rfl, hb⟩ := h2
  have A1 := bd _ hc1 0 (by decide)
  have A2 := bd _ hc1 1 (by decide)
  have B1 := bd _ hc2 0 (by decide)
  have B2 := bd _ hc2 1 (by decide)
  simp only [List.getD_cons_zero, List.getD_cons_succ, Nat.zero_add] at A1 A2 B1 B2
  have u1 := det2_bd A1 A2 B1 B2
  have u2 := det2_bd B1 B2 A1 A2
  refine ⟨[[a0, a1, a2], [b0, b1, b2]], rfl, by simp [hc1, hc2], a1 * b2 - a2 * b1, [a2 * b0 - a0 * b2, a0 * b1 - a1 * b0], hb, ?_, u1, rfl, fun w0 w hw ht => ?_⟩
  · have : b1 * a2 - b2 * a1 = -(a1 * b2 - a2 * b1) := by grind
    omega
  · match w, hw with
    | [x, y], _ =>
      have t1 := ht [a0, a1, a2] (by simp)
      have t2 := ht [b0, b1, b2] (by simp)
      simp only [dot_cons, dot_nil_left, Int.add_zero] at t1 t2
      simp only [sc_cons, sc_nil]
      congr 1
      · grind
      · congr 1
        grind
theorem cram3 (T : List Vec) (fl : ∀ c ∈ T, c.length = 4) (hk : ∀ v : Vec, v.length = 3 → (∀ c ∈ T, dot c (0 :: v) = 0) → Zero v) (m1 m2 m3 : Int) (bd : ∀ c ∈ T, Bd 3 [m1, m2, m3] c) :
    ∃ t : List Vec, t.length = 3 ∧ (∀ a ∈ t, a ∈ T) ∧ ∃ D q, Cram 3 t D q (4 * (m1 * m2 * m3)) := by
  have h1 : ∃ c ∈ T, ∃ a0 a1 a2 a3, c = [a0, a1, a2, a3] ∧ (a1 ≠ 0 ∨ a2 ≠ 0 ∨ a3 ≠ 0) := by
    refine Classical.byContradiction fun h => ?_
    have z := hk [1, 0, 0] rfl fun c hc => by
      obtain ⟨a, b, d, e, rfl⟩ := len3 (fl c hc)
      have : b = 0 := Classical.byContradiction fun hb => h ⟨_, hc, a, b, d, e, rfl, .inl hb⟩
      subst this
      simp
    have := z 1 (by simp)
    omega
  obtain ⟨c1, hc1, a0, a1, a2, a3, rfl, ha⟩ := h1
  have h2 : ∃ c ∈ T, ∃ b0 b1 b2 b3, c = [b0, b1, b2, b3] ∧ (a2 * b3 - a3 * b2 ≠ 0 ∨ a1 * b3 - a3 * b1 ≠ 0 ∨ a1 * b2 - a2 * b1 ≠ 0) := by
    refine Classical.byContradiction fun h => ?_
    have cr : ∀ c ∈ T, ∀ b0 b1 b2 b3, c = [b0, b1, b2, b3] → a2 * b3 - a3 * b2 = 0 ∧ a1 * b3 - a3 * b1 = 0 ∧ a1 * b2 - a2 * b1 = 0 := fun c hc b0 b1 b2 b3 e => by
      refine ⟨?_, ?_, ?_⟩
      · exact Classical.byContradiction fun hb => h ⟨_, hc, b0, b1, b2, b3, e, .inl hb⟩
      · exact Classical.byContradiction fun hb => h ⟨_, hc, b0, b1, b2, b3, e, .inr (.inl hb)⟩
      · exact Classical.byContradiction fun hb => h ⟨_, hc, b0, b1, b2, b3, e, .inr (.inr hb)⟩
    have z1 := hk [a2, -a1, 0] rfl fun c hc => by
      obtain ⟨b0, b1, b2, b3, rfl⟩ := len3 (fl c hc)
      have := cr _ hc b0 b1 b2 b3 rfl
      simp only [dot_cons, dot_nil_left]
      grind
    have z2 := hk [a3, 0, -a1] rfl fun c hc => by
      obtain ⟨b0, b1, b2, b3, rfl⟩ := len3 (fl c hc)
      have := cr _ hc b0 b1 b2 b3 rfl
      simp only [dot_cons, dot_nil_left]
      grind
    have y1 := z1 a2 (by simp)
    have y2 := z1 (-a1) (by simp)
    have y3 := z2 a3 (by simp)
    omega
  obtain ⟨c2, hc2, b0, b1, b2, b3, rfl, hb⟩ := h2
  have h3 : ∃ c ∈ T, ∃ d0 d1 d2 d3, c = [d0, d1, d2, d3] ∧ a1 * (b2 * d3 - b3 * d2) - a2 * (b1 * d3 - b3 * d1) + a3 * (b1 * d2 - b2 * d1) ≠ 0 := by
    refine Classical.byContradiction fun h => ?_
    have z := hk [a2 * b3 - a3 * b2, -(a1 * b3 - a3 * b1), a1 * b2 - a2 * b1] rfl fun c hc => by
      obtain ⟨d0, d1, d2, d3, rfl⟩ := len3 (fl c hc)
      have : a1 * (b2 * d3 - b3 * d2) - a2 * (b1 * d3 - b3 * d1) + a3 * (b1 * d2 - b2 * d1) = 0 := Classical.byContradiction fun hb => h ⟨_, hc, d0, d1, d2, d3, rfl, hb⟩
      simp only [dot_cons, dot_nil_left]
      grind
    have y1 := z (a2 * b3 - a3 * b2) (by simp)
    have y2 := z (-(a1 * b3 - a3 * b1)) (by simp)
    have y3 := z (a1 * b2 - a2 * b1) (by simp)
    omega
  obtain ⟨c3, hc3, d0, d1, d2, d3, rfl, hd⟩ := h3
  have A1 := bd _ hc1 0 (by decide)
  have A2 := bd _ hc1 1 (by decide)
  have A3 := bd _ hc1 2 (by decide)
  have B1 := bd _ hc2 0 (by decide)
  have B2 := bd _ hc2 1 (by decide)
  have B3 := bd _ hc2 2 (by decide)
  have D1 := bd _ hc3 0 (by decide)
  have D2 := bd _ hc3 1 (by decide)
  have D3 := bd _ hc3 2 (by decide)
  simp only [List.getD_cons_zero, List.getD_cons_succ, Nat.zero_add] at A1 A2 A3 B1 B2 B3 D1 D2 D3
  have u1 := det3_bd A1 A2 A3 B1 B2 B3 D1 D2 D3
  have u2 := det3_bd A1 A2 A3 D1 D2 D3 B1 B2 B3
  refine ⟨[[a0, a1, a2, a3], [b0, b1, b2, b3], [d0, d1, d2, d3]], rfl, by simp [hc1, hc2, hc3], a1 * (b2 * d3 - b3 * d2) - a2 * (b1 * d3 - b3 * d1) + a3 * (b1 * d2 - b2 * d1),
    [-(a0 * (b2 * d3 - b3 * d2) - a2 * (b0 * d3 - b3 * d0) + a3 * (b0 * d2 - b2 * d0)), -(a1 * (b0 * d3 - b3 * d0) - a0 * (b1 * d3 - b3 * d1) + a3 * (b1 * d0 - b0 * d1)), -(a1 * (b2 * d0 - b0 * d2) - a2 * (b1 * d0 - b0 * d1) + a0 * (b1 * d2 - b2 * d1))], hd, ?_, u1, rfl, fun w0 w hw ht => ?_⟩
  · have : a1 * (d2 * b3 - d3 * b2) - a2 * (d1 * b3 - d3 * b1) + a3 * (d1 * b2 - d2 * b1) = -(a1 * (b2 * d3 - b3 * d2) - a2 * (b1 * d3 - b3 * d1) + a3 * (b1 * d2 - b2 * d1)) := by grind
    omega
  · match w, hw with
    | [x, y, z], _ =>
      have t1 := ht [a0, a1, a2, a3] (by simp)
      have t2 := ht [b0, b1, b2, b3] (by simp)
      have t3 := ht [d0, d1, d2, d3] (by simp)
      simp only [dot_cons, dot_nil_left, Int.add_zero] at t1 t2 t3
      simp only [sc_cons, sc_nil]
      congr 1
      · grind
      · congr 1
        · grind
        · congr 1
          grind
theorem cram0 (T : List Vec) : ∃ t : List Vec, t.length = 0 ∧ (∀ a ∈ t, a ∈ T) ∧ ∃ D q, Cram 0 t D q 1 :=
  ⟨[], rfl, by simp, 1, [], by decide, by decide, by decide, rfl, fun w0 w hw _ => by rw [List.eq_nil_of_length_eq_zero hw]; rfl⟩
/-- the product of the bounds, with the factor of so many unknowns -/
def detB (m : Vec) : Int := Kf m.length * prod m
theorem cram {n : Nat} (hn : n ≤ 3) (T : List Vec) (fl : ∀ c ∈ T, c.length = n + 1) (hk : ∀ v : Vec, v.length = n → (∀ c ∈ T, dot c (0 :: v) = 0) → Zero v) (m : Vec) (hm : m.length = n) (bd : ∀ c ∈ T, Bd n m c) :
    ∃ t : List Vec, t.length = n ∧ (∀ a ∈ t, a ∈ T) ∧ ∃ D q, Cram n t D q (detB m) := by
  match n, hn, m, hm with
  | 0, _, [], _ => exact cram0 T
  | 1, _, [m1], _ =>
    have e : detB [m1] = m1 := by simp [detB, Kf, prod]
    rw [e]
    exact cram1 T fl hk m1 bd
  | 2, _, [m1, m2], _ =>
    have e : detB [m1, m2] = 2 * (m1 * m2) := by simp [detB, Kf, prod]
    rw [e]
    exact cram2 T fl hk m1 m2 bd
  | 3, _, [m1, m2, m3], _ =>
    have e : detB [m1, m2, m3] = 4 * (m1 * m2 * m3) := by simp [detB, Kf, prod]
    rw [e]
    exact cram3 T fl hk m1 m2 m3 bd
/-- at a basic point: so many tight forms that tell it -/
theorem basic_cram {n : Nat} (hn : n ≤ 3) {L : List Vec} (fl : ∀ c ∈ L, c.length = n + 1) {d : Int} {p : Vec} (hb : Basic n L d p) {m : Vec} (hm : m.length = n) (bd : ∀ c ∈ L, Bd n m c) :
    ∃ t : List Vec, t.length = n ∧ (∀ a ∈ t, a ∈ L ∧ dot a (d :: p) = 0) ∧ ∃ D q, Cram n t D q (detB m) := by
  obtain ⟨t, h1, h2, D, q, C⟩ := cram hn (L.filter fun c => decide (dot c (d :: p) = 0)) (fun c hc => fl c (List.mem_filter.mp hc).1) (fun v hv k => hb v hv fun c hc ht => k c (List.mem_filter.mpr ⟨hc, by simpa using ht⟩)) m hm (fun c hc => bd c (List.mem_filter.mp hc).1)
  exact ⟨t, h1, fun a ha => by
    obtain ⟨x, y⟩ := List.mem_filter.mp (h2 a ha)
    exact ⟨x, by simpa using y⟩, D, q, C⟩
/-! ### how many corners, and how great -/
theorem erase_len {α : Type} {l : List α} {p : α → Bool} (nd : l.Nodup) (h : ∀ a ∈ l, ∀ b ∈ l, p a = true → p b = true → a = b) : l.length ≤ (l.filter fun a => !p a).length + 1 := by
  induction l with
  | nil => simp
  | cons a l ih =>
    obtain ⟨na, nl⟩ := List.nodup_cons.mp nd
    cases hp : p a with
    | false =>
      have := ih nl (fun x hx y hy => h x (List.mem_cons_of_mem _ hx) y (List.mem_cons_of_mem _ hy))
      simp only [List.filter_cons, hp, Bool.not_false, if_true, List.length_cons]
      omega
    | true =>
      have e : l.filter (fun a => !p a) = l := List.filter_eq_self.mpr fun b hb => by
        cases hq : p b with
        | false => rfl
        | true => exact absurd (h a List.mem_cons_self b (List.mem_cons_of_mem _ hb) hp hq) (fun z => by subst z; exact absurd hb na)
      simp only [List.filter_cons, hp, Bool.not_true, Bool.false_eq_true, if_false, e, List.length_cons]
      exact Nat.le_refl _
theorem pigeon {α β : Type} (Rel : α → β → Prop) : ∀ (ts : List β) (l : List α), l.Nodup → (∀ a ∈ l, ∃ t ∈ ts, Rel a t) → (∀ a ∈ l, ∀ b ∈ l, ∀ t ∈ ts, Rel a t → Rel b t → a = b) → l.length ≤ ts.length
  | [], l, _, h, _ => by
    cases l with
    | nil => simp
    | cons a l => obtain ⟨t, ht, _⟩ := h a List.mem_cons_self; simp at ht
  | t :: ts, l, nd, h, inj => by
    classical
    have e := erase_len (p := fun a => decide (Rel a t)) nd (fun a ha b hb h1 h2 => inj a ha b hb t List.mem_cons_self (by simpa using h1) (by simpa using h2))
    have := pigeon Rel ts (l.filter fun a => !decide (Rel a t)) (nd.filter _) (fun a ha => by
      obtain ⟨h1, h2⟩ := List.mem_filter.mp ha
      obtain ⟨t', ht', r⟩ := h a h1
      rcases List.mem_cons.mp ht' with z | z
      · subst z; simp [r] at h2
      · exact ⟨t', z, r⟩) (fun a ha b hb t' ht' => inj a (List.mem_filter.mp ha).1 b (List.mem_filter.mp hb).1 t' (List.mem_cons_of_mem _ ht'))
    simp only [List.length_cons]
    omega
def tuples {α : Type} (L : List α) : Nat → List (List α)
  | 0 => [[]]
  | n + 1 => L.flatMap fun a => (tuples L n).map (a :: ·)
theorem tuples_len {α : Type} (L : List α) : ∀ n, (tuples L n).length = L.length ^ n
  | 0 => by simp [tuples]
  | n + 1 => by
    have : ∀ M : List α, (M.flatMap fun a => (tuples L n).map (a :: ·)).length = M.length * L.length ^ n := fun M => by
      induction M with
      | nil => simp
      | cons a M ih => simp only [List.flatMap_cons, List.length_append, List.length_map, ih, tuples_len L n, List.length_cons]; rw [Nat.succ_mul, Nat.add_comm]
    show (L.flatMap fun a => (tuples L n).map (a :: ·)).length = _
    rw [this, Nat.pow_succ, Nat.mul_comm]
theorem mem_tuples {α : Type} {L : List α} : ∀ {t : List α}, (∀ a ∈ t, a ∈ L) → t ∈ tuples L t.length
  | [], _ => by simp [tuples]
  | a :: t, h => List.mem_flatMap.mpr ⟨a, h a List.mem_cons_self, List.mem_map_of_mem (mem_tuples fun b hb => h b (List.mem_cons_of_mem _ hb))⟩
section
variable {n : Nat} {L cs : List Vec}
theorem cells_few (hn : n ≤ 3) (h : CellOk n L cs) {m : Vec} (hm : m.length = n) (bd : ∀ c ∈ L, Bd n m c) : cs.length ≤ L.length ^ n := by
  rw [← tuples_len]
  refine pigeon (fun x t => (∀ a ∈ t, dot a x = 0) ∧ ∃ D q, Cram n t D q (detB m)) _ _ h.nd (fun x hx => ?_) (fun x hx y hy t _ r1 r2 => ?_)
  · obtain ⟨d, p, rfl, hp, hb⟩ := h.pt x hx
    obtain ⟨t, h1, h2, D, q, C⟩ := basic_cram hn h.fl hb hm bd
    refine ⟨t, ?_, fun a ha => (h2 a ha).2, D, q, C⟩
    rw [← h1]
    exact mem_tuples fun a ha => (h2 a ha).1
  · obtain ⟨d, p, rfl, hp, hb⟩ := h.pt x hx
    obtain ⟨e, q, rfl, hq, hb'⟩ := h.pt y hy
    obtain ⟨t1, D, z, C⟩ := r1
    have e1 := C.eq d p hp.len t1
    have e2 := C.eq e q hq.len r2.1
    refine eq_of_prop hp.pos hq.pos (h.pr _ hx) (h.pr _ hy) ?_
    apply vec_ext (by simp [hp.len, hq.len])
    intro i
    have a1 := congrArg (fun v : Vec => v.getD i 0) e1
    have a2 := congrArg (fun v : Vec => v.getD i 0) e2
    simp only [getD_sc] at a1 a2
    rw [getD_sc, getD_sc]
    refine Int.eq_of_mul_eq_mul_left C.nz ?_
    grind
theorem cells_small (hn : n ≤ 3) (h : CellOk n L cs) {m : Vec} (hm : m.length = n) (bd : ∀ c ∈ L, Bd n m c) {d : Int} {p : Vec} (hx : d :: p ∈ cs) : d ≤ detB m ∧ ∀ y ∈ p, 0 ≤ y ∧ y ≤ d := by
  obtain ⟨d', p', e, hp, hb⟩ := h.pt _ hx
  cases e
  obtain ⟨t, h1, h2, D, q, C⟩ := basic_cram hn h.fl hb hm bd
  have e1 := C.eq d p hp.len fun a ha => (h2 a ha).2
  have dv : d ∣ D := prim_dvd (h.pr _ hx) fun y hy => by
    rcases List.mem_cons.mp hy with z | hy
    · subst z; exact Int.dvd_mul_left ..
    · obtain ⟨i, hi⟩ := List.getElem?_of_mem hy
      have a1 := congrArg (fun v : Vec => v.getD i 0) e1
      simp only [getD_sc] at a1
      rw [List.getD_eq_getElem?_getD, hi, Option.getD_some] at a1
      rw [a1]
      exact Int.dvd_mul_right ..
  refine ⟨?_, fun y hy => ?_⟩
  · have nz := C.nz
    have lo := C.lo
    have hi := C.hi
    by_cases hD : 0 < D
    · have := Int.le_of_dvd hD dv
      omega
    · have := Int.le_of_dvd (show 0 < -D by omega) (Int.dvd_neg.mpr dv)
      omega
  · obtain ⟨i, hi⟩ := List.getElem?_of_mem hy
    have hi' := (List.getElem?_eq_some_iff.mp hi).1
    have a := hp.all (faceLo n i) (h.fc _ (mem_faces.mpr ⟨i, by rw [← hp.len]; exact hi', .inl rfl⟩))
    have b := hp.all (faceHi n i) (h.fc _ (mem_faces.mpr ⟨i, by rw [← hp.len]; exact hi', .inr rfl⟩))
    rw [dot_faceLo, List.getD_eq_getElem?_getD, hi, Option.getD_some] at a
    rw [dot_faceHi, List.getD_eq_getElem?_getD, hi, Option.getD_some] at b
    omega
/-- the goal's least value on a cell is one at a corner -/
theorem cells_least (h : CellOk n L cs) {d : Int} {p : Vec} (hp : Pt n L d p) (g : Vec) : ∃ e q, e :: q ∈ cs ∧ Pt n L e q ∧ dot g (e :: q) * d ≤ dot g (d :: p) * e := by
  obtain ⟨e, q, h1, h2, h3⟩ := lp h.fc g _ d p hp (Nat.le_refl _)
  obtain ⟨e', q', hm, hs⟩ := h.cov e q h1 h2
  obtain ⟨_, _, ee, hq, _⟩ := h.pt _ hm
  cases ee
  refine ⟨e', q', hm, hq, ?_⟩
  have a := prop_dot hs g
  refine Int.le_of_mul_le_mul_left ?_ h1.pos
  have b := Int.mul_le_mul_of_nonneg_right h3 (Int.le_of_lt hq.pos)
  have e1 : e * (dot g (e' :: q') * d) = dot g (e :: q) * d * e' := by
    have : e * (dot g (e' :: q') * d) = (e * dot g (e' :: q')) * d := by grind
    rw [this, ← a]; grind
  have e2 : e * (dot g (d :: p) * e') = dot g (d :: p) * e * e' := by grind
  rw [e1, e2]
  exact b
end
end Hf


/-! ## Hk1 -/
set_option Elab.async false
set_option linter.all false
set_option maxRecDepth 100000
set_option maxHeartbeats 4000000
namespace Hf
open PySem PySem.Spec PyProof.Rows L2
/-! ### the text by places -/
/-- the built-in names still stand for the built-ins -/
structure Bt (mg : Str → Option Value) : Prop where
  len : mg "len" = none
  sum : mg "sum" = none
  tuple : mg "tuple" = none
  max : mg "max" = none
  min : mg "min" = none
  abs : mg "abs" = none
  range : mg "range" = none
  zip : mg "zip" = none
  dict : mg "dict" = none
  list : mg "list" = none
  all : mg "all" = none
  isinstance : mg "isinstance" = none
  int : mg "int" = none
  bool : mg "bool" = none
/-- a def of the text stands where its name says -/
structure Df (K : PySem.W.Frag) (mg : Str → Option Value) (x : Str) (st : Stmt) : Prop where
  ex : ∃ (f : Addr) (fd : FuncData), FunD K x x (defArgs st) (defBody st) (defScope st) [] [] f fd ∧ mg x = some (.ref f)
/-- a def may be called by its name: it keeps its promise -/
structure CalX (P : Program) (w : World) (K : PySem.W.Frag) (mg : Str → Option Value) (base : Heap) (CX : CXT) (x : Str) (k : Nat) (ps : List Str) (sp : Sp) : Prop where
  ex : ∃ (f : Addr) (fd : FuncData), FnOk P w K mg base CX k f fd ps sp ∧ mg x = some (.ref f) ∧ PySem.W.keepIn K (.ref f) = true ∧ Binds K fd ps []
abbrev Cal (P : Program) (w : World) (K : PySem.W.Frag) (mg : Str → Option Value) (base : Heap) (x : Str) (k : Nat) (ps : List Str) (sp : Sp) : Prop := CalX P w K mg base CX0 x k ps sp
section
variable {P : Program} {w : World} {K : PySem.W.Frag} {mg : Str → Option Value} {base : Heap}
theorem Df.okX {CX : CXT} {x : Str} {st : Stmt} {N ps : List Str} {k : Nat} {sp : Sp} (D : Df K mg x st) (S : FnScope N ps (defScope st))
    (hb : ∀ (kV doc pm : Value) (an : Option Addr) (cdv ct : Value) (us : List Value), us.length = ps.length → bindArgs (PySem.W.fnOf x x (defArgs st) (defBody st) (defScope st) .none kV doc pm an cdv ct) ⟨us, []⟩ = pure (ps.zip us))
    (len : ∀ vs H Q E, sp vs H Q E → vs.length = ps.length)
    (hbody : ∀ (f : Addr) (cdv : Value) (A : Around) (outer : List Env) (s : Shared) (H : Hp) (vs : List V) (Q : VK) (E : XK), Room k (A.deeper (envOfC x (defScope st) s.heap.objs.size f cdv)) → sp vs H Q E →
      ∃ t, PSs (cxOf CX P w K mg base N x (defScope st) f cdv A outer s H E) (defBody st) t ∧ t { nx := fun _ H' => Q .non H', rt := Q } (start N vs) H) : CalX P w K mg base CX x (k + 1) ps sp := by
  obtain ⟨f, fd, F, hm⟩ := D.ex
  exact ⟨f, fd, F.ok S len fun cdv A outer s H vs Q E hr h => hbody f cdv A outer s H vs Q E hr h, hm, F.kp, F.bindsN hb⟩
theorem Df.ok {x : Str} {st : Stmt} {N ps : List Str} {k : Nat} {sp : Sp} (D : Df K mg x st) (S : FnScope N ps (defScope st))
    (hb : ∀ (kV doc pm : Value) (an : Option Addr) (cdv ct : Value) (us : List Value), us.length = ps.length → bindArgs (PySem.W.fnOf x x (defArgs st) (defBody st) (defScope st) .none kV doc pm an cdv ct) ⟨us, []⟩ = pure (ps.zip us))
    (len : ∀ vs H Q E, sp vs H Q E → vs.length = ps.length)
    (hbody : ∀ (f : Addr) (cdv : Value) (A : Around) (outer : List Env) (s : Shared) (H : Hp) (vs : List V) (Q : VK) (E : XK), Room k (A.deeper (envOfC x (defScope st) s.heap.objs.size f cdv)) → sp vs H Q E →
      ∃ t, PSs (cxOf CX0 P w K mg base N x (defScope st) f cdv A outer s H E).nox (defBody st) t ∧ t { nx := fun _ H' => Q .non H', rt := Q } (start N vs) H) : Cal P w K mg base x (k + 1) ps sp :=
  D.okX S hb len fun f cdv A outer s H vs Q E hr h => by
    obtain ⟨t, h1, h2⟩ := hbody f cdv A outer s H vs Q E hr h
    exact ⟨t, h1.nox, h2⟩
theorem CalX.mono {CX : CXT} {x : Str} {j k : Nat} {ps : List Str} {sp : Sp} (c : CalX P w K mg base CX x j ps sp) (h : j ≤ k) : CalX P w K mg base CX x k ps sp := by
  obtain ⟨f, fd, F, a, b, d⟩ := c.ex
  exact ⟨f, fd, F.mono h, a, b, d⟩
theorem CalX.imp {CX : CXT} {x : Str} {k : Nat} {ps : List Str} {sp sp' : Sp} (c : CalX P w K mg base CX x k ps sp) (h : ∀ vs H Q E, sp' vs H Q E → sp vs H Q E) : CalX P w K mg base CX x k ps sp' := by
  obtain ⟨f, fd, F, a, b, d⟩ := c.ex
  exact ⟨f, fd, F.imp h, a, b, d⟩
end
/-! ### short rules -/
section
variable {X : Cx} {x : Str} {j k : Nat} {ps : List Str} {sp : Sp} {p pos : Pos} {e : Expr} {es : List Expr} {t : TA}
theorem pk_call (c : Cal X.prog X.w X.K X.mg X.base x j ps sp) (hr : Room k X.A) (ha : PA X (e :: es) t) (hj : j ≤ k := by first | decide | omega) (hg : Gl X x := by rfl) (hdb : (x == ("__debug__" : Str)) = false := by decide)
    (he : starEach (e :: es) X.env = (false, eval e X.env) :: starEach es X.env := by rfl) (hpl : (backTo pos (starEach es X.env)).any (·.1) = false := by rfl) : PE X (.Call (.Name x p) (e :: es) [] pos) (tCall sp [] E0 t) := by
  obtain ⟨f, fd, F, hm, hk, hb⟩ := c.ex
  exact pe_call F (hr.mono hj) hg hm hk hb .nil pass0 ha hdb he hpl
theorem pk_call0 (c : Cal X.prog X.w X.K X.mg X.base x j ps sp) (hr : Room k X.A) (hj : j ≤ k := by first | decide | omega) (hg : Gl X x := by rfl) (hdb : (x == ("__debug__" : Str)) = false := by decide) : PE X (.Call (.Name x p) [] [] pos) (tCall sp [] E0 tNil) := by
  obtain ⟨f, fd, F, hm, hk, hb⟩ := c.ex
  exact pe_call0 F (hr.mono hj) hg hm hk hb .nil pass0 hdb
def rLenS (K : PySem.W.Frag) : List V → Hp → VK → Prop := fun xs H Q => ∃ p ys, xs = [.ref p] ∧ (SqL K H p ys ∨ SqT K H p ys) ∧ Q (.int (ys.length : Nat)) H
theorem pk_len (T : Bt X.mg) (ha : PA X (e :: es) t) (hg : Gl X "len" := by rfl) (he : starEach (e :: es) X.env = (false, eval e X.env) :: starEach es X.env := by rfl) (hpl : (backTo pos (starEach es X.env)).any (·.1) = false := by rfl) :
    PE X (.Call (.Name "len" p) (e :: es) [] pos) (tCB (rLenS X.K) t) := pe_callB (r := rLenS X.K) call_len_seq hg T.len PySem.boot_len ha (by decide) (by decide) he hpl
theorem pk_sum (T : Bt X.mg) (ha : PA X (e :: es) t) (hc : X.calm = true := by rfl) (hg : Gl X "sum" := by rfl) (he : starEach (e :: es) X.env = (false, eval e X.env) :: starEach es X.env := by rfl) (hpl : (backTo pos (starEach es X.env)).any (·.1) = false := by rfl) :
    PE X (.Call (.Name "sum" p) (e :: es) [] pos) (tCB (rSum X.K) t) := pe_callB (cr_sum hc) hg T.sum (by decide +kernel) ha (by decide) (by decide) he hpl
theorem pk_all (T : Bt X.mg) (ha : PA X (e :: es) t) (hc : X.calm = true := by rfl) (hg : Gl X "all" := by rfl) (he : starEach (e :: es) X.env = (false, eval e X.env) :: starEach es X.env := by rfl) (hpl : (backTo pos (starEach es X.env)).any (·.1) = false := by rfl) :
    PE X (.Call (.Name "all" p) (e :: es) [] pos) (tCB (rAll X.K) t) := pe_callB (cr_all hc) hg T.all (by decide +kernel) ha (by decide) (by decide) he hpl
def rAbs : List V → Hp → VK → Prop := fun xs H Q => ∃ i, xs = [.int i] ∧ Q (.int (if i < 0 then -i else i)) H
theorem pk_abs (T : Bt X.mg) (ha : PA X (e :: es) t) (hg : Gl X "abs" := by rfl) (he : starEach (e :: es) X.env = (false, eval e X.env) :: starEach es X.env := by rfl) (hpl : (backTo pos (starEach es X.env)).any (·.1) = false := by rfl) :
    PE X (.Call (.Name "abs" p) (e :: es) [] pos) (tCB rAbs t) := pe_callB (r := rAbs) call_abs hg T.abs (by decide +kernel) ha (by decide) (by decide) he hpl
def rMx2 : List V → Hp → VK → Prop := fun xs H Q => ∃ i j, xs = [.int i, .int j] ∧ Q (.int (if j > i then j else i)) H
def rMn2 : List V → Hp → VK → Prop := fun xs H Q => ∃ i j, xs = [.int i, .int j] ∧ Q (.int (if j < i then j else i)) H
theorem pk_max2 (T : Bt X.mg) (ha : PA X (e :: es) t) (hc : X.calm = true := by rfl) (hg : Gl X "max" := by rfl) (he : starEach (e :: es) X.env = (false, eval e X.env) :: starEach es X.env := by rfl) (hpl : (backTo pos (starEach es X.env)).any (·.1) = false := by rfl) :
    PE X (.Call (.Name "max" p) (e :: es) [] pos) (tCB rMx2 t) := pe_callB (r := rMx2) (call_max2 hc) hg T.max (by decide +kernel) ha (by decide) (by decide) he hpl
theorem pk_min2 (T : Bt X.mg) (ha : PA X (e :: es) t) (hc : X.calm = true := by rfl) (hg : Gl X "min" := by rfl) (he : starEach (e :: es) X.env = (false, eval e X.env) :: starEach es X.env := by rfl) (hpl : (backTo pos (starEach es X.env)).any (·.1) = false := by rfl) :
    PE X (.Call (.Name "min" p) (e :: es) [] pos) (tCB rMn2 t) := pe_callB (r := rMn2) (call_min2 hc) hg T.min (by decide +kernel) ha (by decide) (by decide) he hpl
def rTupOf (K : PySem.W.Frag) : List V → Hp → VK → Prop := fun xs H Q => ∃ p ys, xs = [.ref p] ∧ ((SqL K H p ys ∧ ∀ l, H l = none → Q (.ref l) (upd H l (.tup ys))) ∨ (SqT K H p ys ∧ Q (.ref p) H))
theorem pk_tuple (T : Bt X.mg) (ha : PA X (e :: es) t) (hg : Gl X "tuple" := by rfl) (he : starEach (e :: es) X.env = (false, eval e X.env) :: starEach es X.env := by rfl) (hpl : (backTo pos (starEach es X.env)).any (·.1) = false := by rfl) :
    PE X (.Call (.Name "tuple" p) (e :: es) [] pos) (tCB (rTupOf X.K) t) := pe_callTy (r := rTupOf X.K) call_tuple_of hg T.tuple (by decide +kernel) ha (by decide) (by decide) he hpl
def rLstOf (K : PySem.W.Frag) : List V → Hp → VK → Prop := fun xs H Q => ∃ p ys, xs = [.ref p] ∧ (SqL K H p ys ∨ SqT K H p ys) ∧ ∀ l, H l = none → Q (.ref l) (upd H l (.lst ys))
theorem pk_list (T : Bt X.mg) (ha : PA X (e :: es) t) (hg : Gl X "list" := by rfl) (he : starEach (e :: es) X.env = (false, eval e X.env) :: starEach es X.env := by rfl) (hpl : (backTo pos (starEach es X.env)).any (·.1) = false := by rfl) :
    PE X (.Call (.Name "list" p) (e :: es) [] pos) (tCB (rLstOf X.K) t) := pe_callTy (r := rLstOf X.K) call_list_of hg T.list (by decide +kernel) ha (by decide) (by decide) he hpl
def rInt1 : List V → Hp → VK → Prop := fun xs H Q => (∃ i, xs = [.int i] ∧ Q (.int i) H) ∨ ∃ k, xs = [.bl k] ∧ Q (.int (if k then 1 else 0)) H
theorem pk_int (T : Bt X.mg) (ha : PA X (e :: es) t) (hg : Gl X "int" := by rfl) (he : starEach (e :: es) X.env = (false, eval e X.env) :: starEach es X.env := by rfl) (hpl : (backTo pos (starEach es X.env)).any (·.1) = false := by rfl) :
    PE X (.Call (.Name "int" p) (e :: es) [] pos) (tCB rInt1 t) := pe_callTy (r := rInt1) call_int1 hg T.int (by decide +kernel) ha (by decide) (by decide) he hpl
theorem pk_isinstance (T : Bt X.mg) (ha : PA X (e :: es) t) (hg : Gl X "isinstance" := by rfl) (he : starEach (e :: es) X.env = (false, eval e X.env) :: starEach es X.env := by rfl) (hpl : (backTo pos (starEach es X.env)).any (·.1) = false := by rfl) :
    PE X (.Call (.Name "isinstance" p) (e :: es) [] pos) (tCB (rIsi X.K) t) := pe_callB (r := rIsi X.K) call_isi hg T.isinstance (by decide +kernel) ha (by decide) (by decide) he hpl
end
end Hf


/-! ## Hk2 -/
set_option Elab.async false
set_option linter.all false
set_option maxRecDepth 100000
set_option maxHeartbeats 4000000
namespace Hf
open PySem PySem.Spec PyProof.Rows L2
/-! ### heaps: what never changes (tuples, instances), what stands at a def's entry -/
def Imm : HO → Prop
  | .tup _ => True
  | .ins _ _ _ => True
  | .own _ => True
  | .frz _ _ => True
  | _ => False
def Le (H H' : Hp) : Prop := ∀ b o, H b = some o → Imm o → H' b = some o
theorem Le.refl (H : Hp) : Le H H := fun _ _ h _ => h
theorem Le.trans {H H1 H2 : Hp} (a : Le H H1) (b : Le H1 H2) : Le H H2 := fun c o h i => b c o (a c o h i) i
theorem Le.of {H H' : Hp} (h : Same H H') : Le H H' := fun b o e _ => h b o e
theorem _root_.L2.Same.hnew {H : Hp} {p : Addr} {o : HO} (h : H p = none) : Same H (upd H p o) := fun a u e => by
  rw [upd_ne (ne_of_none e h)]
  exact e
theorem _root_.L2.Same.hmut {H H' : Hp} {p : Addr} {o : HO} (e : Same H H') (h : H p = none) : Same H (upd H' p o) := fun a u ha => by
  rw [upd_ne (ne_of_none ha h)]
  exact e a u ha
/-- an object that may change is changed -/
theorem Le.mut {H H' : Hp} {p : Addr} {o u : HO} (e : Le H H') (h : H' p = some u) (hu : ¬ Imm u) : Le H (upd H' p o) := fun a v ha hi => by
  have q := e a v ha hi
  have : a ≠ p := fun z => by subst z; rw [h] at q; cases q; exact hu hi
  rw [upd_ne this]
  exact q
theorem Le.new {H H' : Hp} {p : Addr} {o : HO} (e : Le H H') (h : H' p = none) : Le H (upd H' p o) := fun a v ha hi => by
  have q := e a v ha hi
  rw [upd_ne (ne_of_none q h)]
  exact q
theorem _root_.L2.Same.hback {H H' : Hp} {p : Addr} (e : Same H H') (h : H' p = none) : H p = none := e.free h
theorem Le.seqT {K : PySem.W.Frag} {H H' : Hp} {a : Addr} {xs : List V} (e : Le H H') (h : SqT K H a xs) : SqT K H' a xs := by
  rcases h with (h | ⟨o, h⟩) | h
  · exact .inl (.inl (e _ _ h trivial))
  · exact .inl (.inr ⟨o, e _ _ h trivial⟩)
  · exact .inr h
/-! ### relations of a value and a datum -/
abbrev Rl (α : Type) := Hp → V → α → Prop
class Mt {α : Type} (R : Rl α) : Prop where
  up : ∀ {H H' : Hp} {v : V} {x : α}, Le H H' → R H v x → R H' v x
class Mo {α : Type} (R : Rl α) : Prop where
  up : ∀ {H H' : Hp} {v : V} {x : α}, Same H H' → R H v x → R H' v x
instance {α : Type} {R : Rl α} [Mt R] : Mo R := ⟨fun e h => Mt.up (Le.of e) h⟩
def rInt : Rl Int := fun _ v i => v = .int i
def rStr : Rl Str := fun _ v x => v = .str x
def rBl : Rl Bool := fun _ v x => v = .bl x
def rV : Rl V := fun _ v x => v = x
def rT (K : PySem.W.Frag) {α : Type} (R : Rl α) : Rl (List α) := fun H v xs => ∃ a vs, v = .ref a ∧ SqT K H a vs ∧ Paired (R H) vs xs
/-- a list that the call made -/
def rL {α : Type} (R : Rl α) : Rl (List α) := fun H v xs => ∃ a vs, v = .ref a ∧ H a = some (.lst vs) ∧ Paired (R H) vs xs
/-- a list that is read alone (the script) -/
def rS (K : PySem.W.Frag) {α : Type} (R : Rl α) : Rl (List α) := fun H v xs => ∃ a vs, v = .ref a ∧ SqL K H a vs ∧ Paired (R H) vs xs
def r2 (K : PySem.W.Frag) {α β : Type} (R : Rl α) (S : Rl β) : Rl (α × β) := fun H v x => ∃ a u w, v = .ref a ∧ SqT K H a [u, w] ∧ R H u x.1 ∧ S H w x.2
def r3 (K : PySem.W.Frag) {α β γ : Type} (R : Rl α) (S : Rl β) (T : Rl γ) : Rl (α × β × γ) := fun H v x => ∃ a u w z, v = .ref a ∧ SqT K H a [u, w, z] ∧ R H u x.1 ∧ S H w x.2.1 ∧ T H z x.2.2
def rOpt {α : Type} (R : Rl α) : Rl (Option α) := fun H v x => match x with
  | none => v = .non
  | some y => v ≠ .non ∧ R H v y
theorem Phimp {α β : Type} {F G : α → β → Prop} (f : ∀ a b, F a b → G a b) : ∀ {l₁ : List α} {l₂ : List β}, Paired F l₁ l₂ → Paired G l₁ l₂
  | _, _, .nil => .nil
  | _, _, .cons r t => .cons (f _ _ r) (Phimp f t)
theorem Phget {α β : Type} {F : α → β → Prop} : ∀ {l₁ : List α} {l₂ : List β} {i : Nat} {b : β}, Paired F l₁ l₂ → l₂[i]? = some b → ∃ a, l₁[i]? = some a ∧ F a b
  | _, _, _, _, .nil, e => by simp at e
  | _, _, 0, _, .cons r _, e => by simp at e; subst e; exact ⟨_, rfl, r⟩
  | _, _, i + 1, x, .cons _ t, e => by
    obtain ⟨u, h1, h2⟩ := Phget (i := i) t (by simpa using e)
    exact ⟨u, by simpa using h1, h2⟩
theorem PhgetL {α β : Type} {F : α → β → Prop} : ∀ {l₁ : List α} {l₂ : List β} {i : Nat} {a : α}, Paired F l₁ l₂ → l₁[i]? = some a → ∃ b, l₂[i]? = some b ∧ F a b
  | _, _, _, _, .nil, e => by simp at e
  | _, _, 0, _, .cons r _, e => by simp at e; subst e; exact ⟨_, rfl, r⟩
  | _, _, i + 1, x, .cons _ t, e => by
    obtain ⟨u, h1, h2⟩ := PhgetL (i := i) t (by simpa using e)
    exact ⟨u, by simpa using h1, h2⟩
theorem Phapp {α β : Type} {F : α → β → Prop} : ∀ {l₁ m₁ : List α} {l₂ m₂ : List β}, Paired F l₁ l₂ → Paired F m₁ m₂ → Paired F (l₁ ++ m₁) (l₂ ++ m₂)
  | _, _, _, _, .nil, q => q
  | _, _, _, _, .cons r t, q => .cons r (Phapp t q)
theorem Phdrop {α β : Type} {F : α → β → Prop} : ∀ {l₁ : List α} {l₂ : List β} (n : Nat), Paired F l₁ l₂ → Paired F (l₁.drop n) (l₂.drop n)
  | _, _, 0, r => r
  | _, _, n + 1, .nil => .nil
  | _, _, n + 1, .cons _ t => Phdrop n t
theorem Phtake {α β : Type} {F : α → β → Prop} : ∀ {l₁ : List α} {l₂ : List β} (n : Nat), Paired F l₁ l₂ → Paired F (l₁.take n) (l₂.take n)
  | _, _, 0, r => .nil
  | _, _, n + 1, .nil => .nil
  | _, _, n + 1, .cons r t => .cons r (Phtake n t)
theorem Phlen {α β : Type} {F : α → β → Prop} {l₁ : List α} {l₂ : List β} (h : Paired F l₁ l₂) : l₁.length = l₂.length := Paired.length h
theorem Phints {H : Hp} : ∀ {vs : List V} {xs : List Int}, Paired (rInt H) vs xs → vs = xs.map V.int
  | _, _, .nil => rfl
  | _, _, .cons r t => by rw [List.map_cons, ← Phints t]; cases r; rfl
theorem Phbls {H : Hp} : ∀ {vs : List V} {xs : List Bool}, Paired (rBl H) vs xs → vs = xs.map V.bl
  | _, _, .nil => rfl
  | _, _, .cons r t => by rw [List.map_cons, ← Phbls t]; cases r; rfl
theorem Phstrs {H : Hp} : ∀ {vs : List V} {xs : List Str}, Paired (rStr H) vs xs → vs = xs.map V.str
  | _, _, .nil => rfl
  | _, _, .cons r t => by rw [List.map_cons, ← Phstrs t]; cases r; rfl

theorem _root_.PySem.Paired.himp {α β : Type} {F G : α → β → Prop} {l₁ : List α} {l₂ : List β} (h : Paired F l₁ l₂) (f : ∀ a b, F a b → G a b) : Paired G l₁ l₂ := Phimp f h
theorem _root_.PySem.Paired.hget {α β : Type} {F : α → β → Prop} {l₁ : List α} {l₂ : List β} {i : Nat} {b : β} (h : Paired F l₁ l₂) (e : l₂[i]? = some b) : ∃ a, l₁[i]? = some a ∧ F a b := Phget h e
theorem _root_.PySem.Paired.hgetL {α β : Type} {F : α → β → Prop} {l₁ : List α} {l₂ : List β} {i : Nat} {a : α} (h : Paired F l₁ l₂) (e : l₁[i]? = some a) : ∃ b, l₂[i]? = some b ∧ F a b := PhgetL h e
theorem _root_.PySem.Paired.happ {α β : Type} {F : α → β → Prop} {l₁ m₁ : List α} {l₂ m₂ : List β} (h : Paired F l₁ l₂) (q : Paired F m₁ m₂) : Paired F (l₁ ++ m₁) (l₂ ++ m₂) := Phapp h q
theorem _root_.PySem.Paired.hdrop {α β : Type} {F : α → β → Prop} {l₁ : List α} {l₂ : List β} (h : Paired F l₁ l₂) (n : Nat) : Paired F (l₁.drop n) (l₂.drop n) := Phdrop n h
theorem _root_.PySem.Paired.htake {α β : Type} {F : α → β → Prop} {l₁ : List α} {l₂ : List β} (h : Paired F l₁ l₂) (n : Nat) : Paired F (l₁.take n) (l₂.take n) := Phtake n h
theorem _root_.PySem.Paired.hlen {α β : Type} {F : α → β → Prop} {l₁ : List α} {l₂ : List β} (h : Paired F l₁ l₂) : l₁.length = l₂.length := Phlen h
theorem _root_.PySem.Paired.hints {H : Hp} {vs : List V} {xs : List Int} (h : Paired (rInt H) vs xs) : vs = xs.map V.int := Phints h
theorem _root_.PySem.Paired.hbls {H : Hp} {vs : List V} {xs : List Bool} (h : Paired (rBl H) vs xs) : vs = xs.map V.bl := Phbls h
theorem _root_.PySem.Paired.hstrs {H : Hp} {vs : List V} {xs : List Str} (h : Paired (rStr H) vs xs) : vs = xs.map V.str := Phstrs h
theorem paired_map {α : Type} {β : Type} {F : β → α → Prop} {g : α → β} (h : ∀ x, F (g x) x) : ∀ xs : List α, Paired F (xs.map g) xs
  | [] => .nil
  | x :: xs => .cons (h x) (paired_map h xs)
instance : Mt rInt := ⟨fun _ h => h⟩
instance : Mt rStr := ⟨fun _ h => h⟩
instance : Mt rBl := ⟨fun _ h => h⟩
instance : Mt rV := ⟨fun _ h => h⟩
section
variable {K : PySem.W.Frag} {α β γ : Type} {R : Rl α} {S : Rl β} {T : Rl γ}
instance [Mt R] : Mt (rT K R) := ⟨fun e ⟨a, vs, h1, h2, h3⟩ => ⟨a, vs, h1, e.seqT h2, h3.himp fun _ _ q => Mt.up e q⟩⟩
instance [Mo R] : Mo (rL R) := ⟨fun e ⟨a, vs, h1, h2, h3⟩ => ⟨a, vs, h1, e _ _ h2, h3.himp fun _ _ q => Mo.up e q⟩⟩
instance [Mo R] : Mo (rS K R) := ⟨fun e ⟨a, vs, h1, h2, h3⟩ => ⟨a, vs, h1, e.seq h2, h3.himp fun _ _ q => Mo.up e q⟩⟩
instance [Mt R] [Mt S] : Mt (r2 K R S) := ⟨fun e ⟨a, u, w, h1, h2, h3, h4⟩ => ⟨a, u, w, h1, e.seqT h2, Mt.up e h3, Mt.up e h4⟩⟩
instance [Mt R] [Mt S] [Mt T] : Mt (r3 K R S T) := ⟨fun e ⟨a, u, w, z, h1, h2, h3, h4, h5⟩ => ⟨a, u, w, z, h1, e.seqT h2, Mt.up e h3, Mt.up e h4, Mt.up e h5⟩⟩
instance [Mt R] : Mt (rOpt R) := ⟨fun {H H' v x} e h => by
  cases x with
  | none => exact h
  | some y => exact ⟨h.1, Mt.up e h.2⟩⟩
theorem rT.len {H : Hp} {v : V} {xs : List α} (h : rT K R H v xs) : ∃ a vs, v = .ref a ∧ SqT K H a vs ∧ vs.length = xs.length := by
  obtain ⟨a, vs, h1, h2, h3⟩ := h
  exact ⟨a, vs, h1, h2, h3.hlen⟩
theorem rT.ints {H : Hp} {v : V} {xs : List Int} (h : rT K rInt H v xs) : ∃ a, v = .ref a ∧ SqT K H a (xs.map V.int) := by
  obtain ⟨a, vs, h1, h2, h3⟩ := h
  rw [h3.hints] at h2
  exact ⟨a, h1, h2⟩
theorem rT.of_ints {H : Hp} {a : Addr} {xs : List Int} (h : SqT K H a (xs.map V.int)) : rT K rInt H (.ref a) xs := ⟨a, xs.map V.int, rfl, h, paired_map (F := rInt H) (g := V.int) (fun _ => rfl) xs⟩
end
theorem _root_.L2.Same.hseqT {K : PySem.W.Frag} {H H' : Hp} {a : Addr} {xs : List V} (e : Same H H') (h : SqT K H a xs) : SqT K H' a xs := (Le.of e).seqT h
/-! ### what evaluates to what: for every heap that only grew -/
def EvR {α : Type} (te : TE) (σ : L2.St) (H : Hp) (R : Rl α) (x : α) : Prop := ∀ H1, Same H H1 → ∀ Q : VK, (∀ v H2, Same H1 H2 → R H2 v x → Q v H2) → te σ H1 Q
def EvT (tt : TT) (σ : L2.St) (H : Hp) (b : Bool) : Prop := ∀ H1, Same H H1 → ∀ Q : Bool → Hp → Prop, (∀ H2, Same H1 H2 → Q b H2) → tt σ H1 Q
abbrev Ra := Hp → List V → Prop
def EvA (ta : TA) (σ : L2.St) (H : Hp) (P : Ra) : Prop := ∀ H1, Same H H1 → ∀ Q : List V → Hp → Prop, (∀ vs H2, Same H1 H2 → P H2 vs → Q vs H2) → ta σ H1 Q
def EvO (to : TO) (σ : L2.St) (H : Hp) (o : Option Int) : Prop := ∀ H1, Same H H1 → ∀ Q : Option Int → Hp → Prop, (∀ H2, Same H1 H2 → Q o H2) → to σ H1 Q
section
variable {K : PySem.W.Frag} {σ : L2.St} {H H' : Hp} {ta tb te tc : TE} {t u : TT} {v : V} {α β γ δ ε : Type} {R : Rl α} {S : Rl β} {T : Rl γ} {U : Rl δ} {x x' : α} {y : β} {z : γ} {w : δ}
theorem EvR.mono (e : Same H H') (h : EvR te σ H R x) : EvR te σ H' R x := fun H1 a Q q => h H1 (e.trans a) Q q
theorem EvT.mono {b : Bool} (e : Same H H') (h : EvT t σ H b) : EvT t σ H' b := fun H1 a Q q => h H1 (e.trans a) Q q
theorem EvR.to (h : EvR te σ H R x) (e : x = x') : EvR te σ H R x' := e ▸ h
theorem EvT.to {b b' : Bool} (h : EvT t σ H b) (e : b = b') : EvT t σ H b' := e ▸ h
theorem ev_var [Mo R] {i : Nat} (h : σ[i]? = some (some v)) (r : R H v x) : EvR (tVar i) σ H R x := fun H1 e Q q => ⟨v, h, q v H1 (Same.refl H1) (Mo.up e r)⟩
theorem ev_int {i : Int} : EvR (tC (.int i)) σ H rInt i := fun H1 _ _ q => q _ H1 (Same.refl H1) rfl
theorem ev_str {i : Str} : EvR (tC (.str i)) σ H rStr i := fun H1 _ _ q => q _ H1 (Same.refl H1) rfl
theorem ev_bl {i : Bool} : EvR (tC (.bl i)) σ H rBl i := fun H1 _ _ q => q _ H1 (Same.refl H1) rfl
theorem ev_non : EvR (tC .non) σ H rV .non := fun H1 _ _ q => q _ H1 (Same.refl H1) rfl
theorem ev_c [Mo R] (r : R H v x) : EvR (tC v) σ H R x := fun H1 e _ q => q v H1 (Same.refl H1) (Mo.up e r)
/-- a two-place operation -/
theorem ev_op {r : R2} [Mo R] (ha : EvR ta σ H R x) (hb : EvR tb σ H S y) (hr : ∀ v u H1, Same H H1 → R H1 v x → S H1 u y → ∀ Q : VK, (∀ o H2, Same H1 H2 → T H2 o z → Q o H2) → r v u H1 Q) : EvR (tOp r ta tb) σ H T z := fun H1 e Q q =>
  ha H1 e _ fun v H2 e2 r2 => hb H2 (e.trans e2) _ fun u H3 e3 r3 => hr v u H3 ((e.trans e2).trans e3) (Mo.up e3 r2) r3 Q fun o H4 e4 r4 => q o H4 ((e2.trans e3).trans e4) r4
theorem ev_un {r : V → Hp → VK → Prop} (ha : EvR ta σ H R x) (hr : ∀ v H1, Same H H1 → R H1 v x → ∀ Q : VK, (∀ o H2, Same H1 H2 → T H2 o z → Q o H2) → r v H1 Q) : EvR (tUn r ta) σ H T z := fun H1 e Q q =>
  ha H1 e _ fun v H2 e2 r2 => hr v H2 (e.trans e2) r2 Q fun o H3 e3 r3 => q o H3 (e2.trans e3) r3
theorem ev_add {i j : Int} (ha : EvR ta σ H rInt i) (hb : EvR tb σ H rInt j) : EvR (tOp (rI0 fun i j => .int (i + j)) ta tb) σ H rInt (i + j) :=
  ev_op ha hb fun v u H1 _ r1 r2 Q q => ⟨i, j, r1, r2, q _ H1 (Same.refl H1) rfl⟩
theorem ev_sub {i j : Int} (ha : EvR ta σ H rInt i) (hb : EvR tb σ H rInt j) : EvR (tOp (rI0 fun i j => .int (i - j)) ta tb) σ H rInt (i - j) :=
  ev_op ha hb fun v u H1 _ r1 r2 Q q => ⟨i, j, r1, r2, q _ H1 (Same.refl H1) rfl⟩
theorem ev_mul {i j : Int} (ha : EvR ta σ H rInt i) (hb : EvR tb σ H rInt j) (hc : CMul i j) : EvR (tOp (rI CMul fun i j => .int (i * j)) ta tb) σ H rInt (i * j) :=
  ev_op ha hb fun v u H1 _ r1 r2 Q q => ⟨i, j, r1, r2, hc, q _ H1 (Same.refl H1) rfl⟩
theorem ev_fdiv {i j : Int} (ha : EvR ta σ H rInt i) (hb : EvR tb σ H rInt j) (hc : CDivN i j) : EvR (tOp (rI CDivN fun i j => .int (i.fdiv j)) ta tb) σ H rInt (i.fdiv j) :=
  ev_op ha hb fun v u H1 _ r1 r2 Q q => ⟨i, j, r1, r2, hc, q _ H1 (Same.refl H1) rfl⟩
theorem ev_mod {i j : Int} (ha : EvR ta σ H rInt i) (hb : EvR tb σ H rInt j) (hc : j ≠ 0) : EvR (tOp (rI (fun _ j => j ≠ 0) fun i j => .int (i.fmod j)) ta tb) σ H rInt (i.fmod j) :=
  ev_op ha hb fun v u H1 _ r1 r2 Q q => ⟨i, j, r1, r2, hc, q _ H1 (Same.refl H1) rfl⟩
theorem ev_cmpI {f : Int → Int → Bool} {i j : Int} (ha : EvR ta σ H rInt i) (hb : EvR tb σ H rInt j) : EvR (tOp (rI0 fun i j => .bl (f i j)) ta tb) σ H rBl (f i j) :=
  ev_op ha hb fun v u H1 _ r1 r2 Q q => ⟨i, j, r1, r2, q _ H1 (Same.refl H1) rfl⟩
theorem ev_eqI {i j : Int} (ha : EvR ta σ H rInt i) (hb : EvR tb σ H rInt j) : EvR (tOp rEq ta tb) σ H rBl (decide (i = j)) :=
  ev_op ha hb fun v u H1 _ r1 r2 Q q => by
    cases r1; cases r2
    exact ⟨rfl, q _ H1 (Same.refl H1) (by show V.bl _ = V.bl _; simp)⟩
theorem ev_neI {i j : Int} (ha : EvR ta σ H rInt i) (hb : EvR tb σ H rInt j) : EvR (tOp rNe ta tb) σ H rBl (!decide (i = j)) :=
  ev_op ha hb fun v u H1 _ r1 r2 Q q => by
    cases r1; cases r2
    exact ⟨rfl, q _ H1 (Same.refl H1) (by show V.bl _ = V.bl _; simp)⟩
theorem ev_eqS {i j : Str} (ha : EvR ta σ H rStr i) (hb : EvR tb σ H rStr j) : EvR (tOp rEq ta tb) σ H rBl (decide (i = j)) :=
  ev_op ha hb fun v u H1 _ r1 r2 Q q => by
    cases r1; cases r2
    exact ⟨rfl, q _ H1 (Same.refl H1) (by show V.bl _ = V.bl _; simp)⟩
theorem ev_neS {i j : Str} (ha : EvR ta σ H rStr i) (hb : EvR tb σ H rStr j) : EvR (tOp rNe ta tb) σ H rBl (!decide (i = j)) :=
  ev_op ha hb fun v u H1 _ r1 r2 Q q => by
    cases r1; cases r2
    exact ⟨rfl, q _ H1 (Same.refl H1) (by show V.bl _ = V.bl _; simp)⟩
theorem ev_neg {i : Int} (ha : EvR ta σ H rInt i) : EvR (tUn (rU fun i => .int (-i)) ta) σ H rInt (-i) :=
  ev_un ha fun v H1 _ r1 Q q => ⟨i, r1, q _ H1 (Same.refl H1) rfl⟩
/-- x is None, x is not None -/
theorem ev_isN {α : Type} {R : Rl α} [Mo R] {x : α} (ha : EvR ta σ H R x) {b : Bool} (h : ∀ H v, R H v x → decide (v = .non) = b) : EvR (tOp (fun x y H Q => y = .non ∧ Q (.bl (decide (x = .non))) H) ta (tC .non)) σ H rBl b :=
  ev_op (S := rV) ha ev_non fun v u H1 _ r1 r2 Q q => ⟨r2, q _ H1 (Same.refl H1) (by rw [h H1 v r1]; rfl)⟩
theorem ev_notN {α : Type} {R : Rl α} [Mo R] {x : α} (ha : EvR ta σ H R x) {b : Bool} (h : ∀ H v, R H v x → decide (v = .non) = b) : EvR (tOp (fun x y H Q => y = .non ∧ Q (.bl (!decide (x = .non))) H) ta (tC .non)) σ H rBl (!b) :=
  ev_op (S := rV) ha ev_non fun v u H1 _ r1 r2 Q q => ⟨r2, q _ H1 (Same.refl H1) (by rw [h H1 v r1]; rfl)⟩
/-! ### tuples -/
theorem atI_paired {F : V → α → Prop} {vs : List V} {xs : List α} {i : Int} (h : Paired F vs xs) (hi : atI xs i = some x) : ∃ v, atI vs i = some v ∧ F v x := by
  unfold atI at hi ⊢
  rw [h.hlen]
  cases e : ixN xs.length i with
  | none => rw [e] at hi; cases hi
  | some j =>
    rw [e] at hi
    exact h.hget hi
theorem ev_ixT [Mo R] {xs : List α} {i : Int} (ha : EvR ta σ H (rT K R) xs) (hb : EvR tb σ H rInt i) (hi : atI xs i = some x) [Mo (rT K R)] : EvR (tOp (rIxT K) ta tb) σ H R x :=
  ev_op ha hb fun v u H1 _ r1 r2 Q q => by
    obtain ⟨a, vs, h1, h2, h3⟩ := r1
    obtain ⟨o, ho, hr⟩ := atI_paired h3 hi
    exact ⟨a, vs, i, o, h1, r2, h2, ho, q o H1 (Same.refl H1) hr⟩
theorem ev_ixL [Mo R] {xs : List α} {i : Int} (ha : EvR ta σ H (rL R) xs) (hb : EvR tb σ H rInt i) (hi : atI xs i = some x) : EvR (tOp (rIxL K) ta tb) σ H R x :=
  ev_op ha hb fun v u H1 _ r1 r2 Q q => by
    obtain ⟨a, vs, h1, h2, h3⟩ := r1
    obtain ⟨o, ho, hr⟩ := atI_paired h3 hi
    exact ⟨a, vs, i, o, h1, r2, SqL.of h2, ho, q o H1 (Same.refl H1) hr⟩
/-- the two places of a pair -/
theorem ev_fst [Mt R] [Mt S] {p : α × β} (ha : EvR ta σ H (r2 K R S) p) : EvR (tOp (rIxT K) ta (tC (.int 0))) σ H R p.1 :=
  ev_op (S := rInt) (y := 0) ha ev_int fun v u H1 _ r1 r2 Q q => by
    obtain ⟨a, u', w, h1, h2, h3, h4⟩ := r1
    exact ⟨a, [u', w], 0, u', h1, r2, h2, rfl, q u' H1 (Same.refl H1) h3⟩
theorem ev_snd [Mt R] [Mt S] {p : α × β} (ha : EvR ta σ H (r2 K R S) p) : EvR (tOp (rIxT K) ta (tC (.int 1))) σ H S p.2 :=
  ev_op (S := rInt) (y := 1) ha ev_int fun v u H1 _ r1 r2 Q q => by
    obtain ⟨a, u', w, h1, h2, h3, h4⟩ := r1
    exact ⟨a, [u', w], 1, w, h1, r2, h2, rfl, q w H1 (Same.refl H1) h4⟩
theorem ev_catA [Mt R] {xs ys : List α} (ha : EvR ta σ H (rT K R) xs) (hb : EvR tb σ H (rT K R) ys) (hz : xs.length + ys.length ≤ 100000) : EvR (tOp (rCatA K) ta tb) σ H (rT K R) (xs ++ ys) :=
  ev_op ha hb fun v u H1 _ r1 r2 Q q => by
    obtain ⟨a, vs, h1, h2, h3⟩ := r1
    obtain ⟨b, us, g1, g2, g3⟩ := r2
    have l1 := h3.hlen
    have l2 := g3.hlen
    refine ⟨a, b, vs, us, h1, g1, h2, g2, Nat.le_trans (by omega) (by decide : 100000 ≤ sizeLine), fun e => ?_, fun _ e => ?_, fun _ _ p hp => ?_⟩
    · subst e
      cases h3
      exact q _ H1 (Same.refl H1) ⟨b, us, rfl, g2, g3⟩
    · subst e
      cases g3
      rw [List.append_nil] at *
      exact q _ H1 (Same.refl H1) ⟨a, vs, rfl, h2, h3⟩
    · have e := Same.hnew (o := .tup (vs ++ us)) hp
      exact q _ _ e ⟨p, _, rfl, SqT.of upd_same, (h3.himp fun _ _ z => Mt.up (Le.of e) z).happ (g3.himp fun _ _ z => Mt.up (Le.of e) z)⟩
/-- a slice of any list -/
def cutA {α : Type} (xs : List α) (lo hi : Option Int) : List α := (xs.drop (HT.sIx xs.length 0 lo)).take (HT.sIx xs.length xs.length hi - HT.sIx xs.length 0 lo)
/-- the rest of a tuple -/
theorem eo_none : EvO tNoPart σ H none := fun H1 _ _ q => q H1 (Same.refl H1)
theorem eo_some {i : Int} (h : EvR te σ H rInt i) : EvO (tPart te) σ H (some i) := fun H1 e Q q => h H1 e _ fun v H2 e2 r => ⟨i, r, q H2 e2⟩
theorem paired_cut {F : V → α → Prop} {vs : List V} {xs : List α} (h : Paired F vs xs) (lo hi : Option Int) : Paired F (cutV vs lo hi) (cutA xs lo hi) := by
  unfold cutV cutA
  rw [h.hlen]
  first
    | exact (h.hdrop _).htake _
    | exact (h.htake _).hdrop _
theorem cut_whole {xs : List α} {lo hi : Option Int} (h : HT.sIx xs.length 0 lo = 0 ∧ HT.sIx xs.length xs.length hi = xs.length) : cutA xs lo hi = xs := by
  unfold cutA
  rw [h.1, h.2]
  simp
theorem ev_slA [Mt R] {xs : List α} {tl th : TO} {lo hi : Option Int} (ha : EvR ta σ H (rT K R) xs) (hl : EvO tl σ H lo) (hh : EvO th σ H hi) : EvR (tSl (rSlA K) ta tl th) σ H (rT K R) (cutA xs lo hi) := fun H0 e Q q =>
  ha H0 e _ fun v H1 e1 r1 => hl H1 (e.trans e1) _ fun H2 e2 => hh H2 ((e.trans e1).trans e2) _ fun H3 e3 => by
    obtain ⟨a, vs, h1, h2, h3⟩ := Mo.up (e2.trans e3) r1
    refine ⟨a, vs, h1, h2, fun c => ?_, fun c p hp => ?_⟩
    · subst h1
      rw [h3.hlen] at c
      refine q _ H3 ((e1.trans e2).trans e3) ?_
      rw [cut_whole c]
      exact ⟨a, vs, rfl, h2, h3⟩
    · have e4 := Same.hnew (o := .tup (cutV vs lo hi)) hp
      exact q _ _ (((e1.trans e2).trans e3).trans e4) ⟨p, _, rfl, SqT.of upd_same, paired_cut (h3.himp fun _ _ z => Mt.up (Le.of e4) z) lo hi⟩
theorem ev_slL [Mo R] {xs : List α} {tl th : TO} {lo hi : Option Int} (ha : EvR ta σ H (rL R) xs) (hl : EvO tl σ H lo) (hh : EvO th σ H hi) : EvR (tSl (rSlL K) ta tl th) σ H (rL R) (cutA xs lo hi) := fun H0 e Q q =>
  ha H0 e _ fun v H1 e1 r1 => hl H1 (e.trans e1) _ fun H2 e2 => hh H2 ((e.trans e1).trans e2) _ fun H3 e3 => by
    obtain ⟨a, vs, h1, h2, h3⟩ := Mo.up (R := rL R) (e2.trans e3) r1
    refine ⟨a, vs, h1, SqL.of h2, fun p hp => ?_⟩
    have e4 := Same.hnew (o := .lst (cutV vs lo hi)) hp
    exact q _ _ (((e1.trans e2).trans e3).trans e4) ⟨p, _, rfl, upd_same, paired_cut (h3.himp fun _ _ z => Mo.up e4 z) lo hi⟩
theorem ev_slS [Mo R] {xs : List α} {tl th : TO} {lo hi : Option Int} (ha : EvR ta σ H (rS K R) xs) (hl : EvO tl σ H lo) (hh : EvO th σ H hi) : EvR (tSl (rSlL K) ta tl th) σ H (rL R) (cutA xs lo hi) := fun H0 e Q q =>
  ha H0 e _ fun v H1 e1 r1 => hl H1 (e.trans e1) _ fun H2 e2 => hh H2 ((e.trans e1).trans e2) _ fun H3 e3 => by
    obtain ⟨a, vs, h1, h2, h3⟩ := Mo.up (R := rS K R) (e2.trans e3) r1
    refine ⟨a, vs, h1, h2, fun p hp => ?_⟩
    have e4 := Same.hnew (o := .lst (cutV vs lo hi)) hp
    exact q _ _ (((e1.trans e2).trans e3).trans e4) ⟨p, _, rfl, upd_same, paired_cut (h3.himp fun _ _ z => Mo.up e4 z) lo hi⟩
theorem ev_cat [Mo R] {xs ys : List α} (ha : EvR ta σ H (rL R) xs) (hb : EvR tb σ H (rL R) ys) (hz : xs.length + ys.length ≤ 10000000) : EvR (tOp rCat ta tb) σ H (rL R) (xs ++ ys) :=
  ev_op ha hb fun v u H1 _ r1 r2 Q q => by
    obtain ⟨a, vs, h1, h2, h3⟩ := r1
    obtain ⟨b, us, g1, g2, g3⟩ := r2
    refine ⟨a, b, vs, us, h1, g1, h2, g2, by rw [h3.hlen, g3.hlen]; exact Nat.le_trans hz (by decide), fun p hp => ?_⟩
    have e := Same.hnew (o := .lst (vs ++ us)) hp
    exact q _ _ e ⟨p, _, rfl, upd_same, (h3.himp fun _ _ z => Mo.up e z).happ (g3.himp fun _ _ z => Mo.up e z)⟩
/-! ### arguments, displays -/
theorem ea_nil : EvA tNil σ H (fun _ vs => vs = []) := fun H1 _ _ q => q _ H1 (Same.refl H1) rfl
theorem ea_cons [Mo R] {tr : TA} {P : Ra} (h : EvR te σ H R x) (hr : EvA tr σ H P) : EvA (tCons te tr) σ H (fun H' vs => ∃ v r, vs = v :: r ∧ R H' v x ∧ P H' r) := fun H1 e _ q =>
  h H1 e _ fun v H2 e2 r2 => hr H2 (e.trans e2) _ fun vs H3 e3 r3 => q _ H3 (e2.trans e3) ⟨v, vs, rfl, Mo.up e3 r2, r3⟩
/-- items all of one kind -/
def Items (R : Rl α) (xs : List α) : Ra := fun H vs => Paired (R H) vs xs
theorem ei_nil : EvA tNil σ H (Items R []) := fun H1 _ _ q => q _ H1 (Same.refl H1) .nil
theorem ei_cons [Mo R] {tr : TA} {xs : List α} (h : EvR te σ H R x) (hr : EvA tr σ H (Items R xs)) : EvA (tCons te tr) σ H (Items R (x :: xs)) := fun H1 e _ q =>
  h H1 e _ fun v H2 e2 r2 => hr H2 (e.trans e2) _ fun vs H3 e3 r3 => q _ H3 (e2.trans e3) (.cons (Mo.up e3 r2) r3)
theorem ev_tup [Mt R] {t : TA} {xs : List α} (h : EvA t σ H (Items R xs)) (hz : xs.length ≤ 1000) : EvR (tTup t) σ H (rT K R) xs := fun H1 e _ q =>
  h H1 e _ fun vs H2 e2 r2 => by
    have r2' : Paired (R H2) vs xs := r2
    refine ⟨by rw [r2'.hlen]; exact Nat.le_trans hz (by decide), fun p hp => ?_⟩
    have e3 := Same.hnew (o := .tup vs) hp
    exact q _ _ (e2.trans e3) ⟨p, _, rfl, SqT.of upd_same, r2'.himp fun _ _ z => Mt.up (Le.of e3) z⟩
theorem ev_lst [Mo R] {t : TA} {xs : List α} (h : EvA t σ H (Items R xs)) (hz : xs.length ≤ 1000) : EvR (tLst t) σ H (rL R) xs := fun H1 e _ q =>
  h H1 e _ fun vs H2 e2 r2 => by
    have r2' : Paired (R H2) vs xs := r2
    refine ⟨by rw [r2'.hlen]; exact Nat.le_trans hz (by decide), fun p hp => ?_⟩
    have e3 := Same.hnew (o := .lst vs) hp
    exact q _ _ (e2.trans e3) ⟨p, _, rfl, upd_same, r2'.himp fun _ _ z => Mo.up e3 z⟩
theorem ev_pair [Mt R] [Mt S] (h1 : EvR ta σ H R x) (h2 : EvR tb σ H S y) : EvR (tTup (tCons ta (tCons tb tNil))) σ H (r2 K R S) (x, y) := fun H1 e _ q =>
  h1 H1 e _ fun v H2 e2 q2 => h2 H2 (e.trans e2) _ fun u H3 e3 q3 => by
    refine ⟨by show 2 ≤ sizeLine; decide, fun p hp => ?_⟩
    have e4 := Same.hnew (o := .tup [v, u]) hp
    exact q _ _ ((e2.trans e3).trans e4) ⟨p, v, u, rfl, SqT.of upd_same, Mt.up (Le.of (e3.trans e4)) q2, Mt.up (Le.of e4) q3⟩
theorem ev_trip [Mt R] [Mt S] [Mt T] (h1 : EvR ta σ H R x) (h2 : EvR tb σ H S y) (h3 : EvR tc σ H T z) : EvR (tTup (tCons ta (tCons tb (tCons tc tNil)))) σ H (r3 K R S T) (x, y, z) := fun H1 e _ q =>
  h1 H1 e _ fun v H2 e2 q2 => h2 H2 (e.trans e2) _ fun u H3 e3 q3 => h3 H3 ((e.trans e2).trans e3) _ fun w H4 e4 q4 => by
    refine ⟨by show 3 ≤ sizeLine; decide, fun p hp => ?_⟩
    have e5 := Same.hnew (o := .tup [v, u, w]) hp
    exact q _ _ (((e2.trans e3).trans e4).trans e5) ⟨p, v, u, w, rfl, SqT.of upd_same, Mt.up (Le.of ((e3.trans e4).trans e5)) q2, Mt.up (Le.of (e4.trans e5)) q3, Mt.up (Le.of e5) q4⟩
/-! ### built-ins -/
theorem ev_cb {r : List V → Hp → VK → Prop} {t : TA} {P : Ra} (h : EvA t σ H P) (hr : ∀ vs H1, Same H H1 → P H1 vs → ∀ Q : VK, (∀ o H2, Same H1 H2 → T H2 o z → Q o H2) → r vs H1 Q) : EvR (tCB r t) σ H T z := fun H1 e Q q =>
  h H1 e _ fun vs H2 e2 r2 => hr vs H2 (e.trans e2) r2 Q fun o H3 e3 r3 => q o H3 (e2.trans e3) r3
theorem ev_lenT [Mo (rT K R)] {xs : List α} (h : EvR ta σ H (rT K R) xs) : EvR (tCB (rLenS K) (tCons ta tNil)) σ H rInt (xs.length : Int) :=
  ev_cb (ea_cons h ea_nil) fun vs H1 _ ⟨v, r, e1, h1, e2⟩ Q q => by
    subst e2; subst e1
    obtain ⟨a, us, rfl, h2, h3⟩ := h1
    exact ⟨a, us, rfl, .inr h2, by rw [h3.hlen]; exact q _ H1 (Same.refl H1) rfl⟩
theorem ev_lenL [Mo R] {xs : List α} (h : EvR ta σ H (rL R) xs) : EvR (tCB (rLenS K) (tCons ta tNil)) σ H rInt (xs.length : Int) :=
  ev_cb (ea_cons h ea_nil) fun vs H1 _ ⟨v, r, e1, h1, e2⟩ Q q => by
    subst e2; subst e1
    obtain ⟨a, us, rfl, h2, h3⟩ := h1
    exact ⟨a, us, rfl, .inl (SqL.of h2), by rw [h3.hlen]; exact q _ H1 (Same.refl H1) rfl⟩
theorem ev_sum {ns : List Int} (h : EvR ta σ H (rL rInt) ns) : EvR (tCB (rSum K) (tCons ta tNil)) σ H rInt ns.sum :=
  ev_cb (ea_cons h ea_nil) fun vs H1 _ ⟨v, r, e1, h1, e2⟩ Q q => by
    subst e2; subst e1
    obtain ⟨a, us, rfl, h2, h3⟩ := h1
    exact ⟨a, ns, rfl, by rw [← h3.hints]; exact SqL.of h2, q _ H1 (Same.refl H1) rfl⟩
theorem ev_all {bs : List Bool} (h : EvR ta σ H (rL rBl) bs) : EvR (tCB (rAll K) (tCons ta tNil)) σ H rBl (bs.all id) :=
  ev_cb (ea_cons h ea_nil) fun vs H1 _ ⟨v, r, e1, h1, e2⟩ Q q => by
    subst e2; subst e1
    obtain ⟨a, us, rfl, h2, h3⟩ := h1
    exact ⟨a, bs, rfl, by rw [← h3.hbls]; exact SqL.of h2, q _ H1 (Same.refl H1) rfl⟩
theorem ev_abs {i : Int} (h : EvR ta σ H rInt i) : EvR (tCB rAbs (tCons ta tNil)) σ H rInt (if i < 0 then -i else i) :=
  ev_cb (ea_cons h ea_nil) fun vs H1 _ ⟨v, r, e1, h1, e2⟩ Q q => by
    subst e2; subst e1
    cases h1
    exact ⟨i, rfl, q _ H1 (Same.refl H1) rfl⟩
theorem ev_max2 {i j : Int} (h : EvR ta σ H rInt i) (h' : EvR tb σ H rInt j) : EvR (tCB rMx2 (tCons ta (tCons tb tNil))) σ H rInt (if j > i then j else i) :=
  ev_cb (ea_cons h (ea_cons h' ea_nil)) fun vs H1 _ ⟨v, r, e1, h1, v', r', e2, h2, e3⟩ Q q => by
    subst e3; subst e2; subst e1
    cases h1; cases h2
    exact ⟨i, j, rfl, q _ H1 (Same.refl H1) rfl⟩
theorem ev_min2 {i j : Int} (h : EvR ta σ H rInt i) (h' : EvR tb σ H rInt j) : EvR (tCB rMn2 (tCons ta (tCons tb tNil))) σ H rInt (if j < i then j else i) :=
  ev_cb (ea_cons h (ea_cons h' ea_nil)) fun vs H1 _ ⟨v, r, e1, h1, v', r', e2, h2, e3⟩ Q q => by
    subst e3; subst e2; subst e1
    cases h1; cases h2
    exact ⟨i, j, rfl, q _ H1 (Same.refl H1) rfl⟩
theorem ev_int1 {i : Int} (h : EvR ta σ H rInt i) : EvR (tCB rInt1 (tCons ta tNil)) σ H rInt i :=
  ev_cb (ea_cons h ea_nil) fun vs H1 _ ⟨v, r, e1, h1, e2⟩ Q q => by
    subst e2; subst e1
    cases h1
    exact .inl ⟨i, rfl, q _ H1 (Same.refl H1) rfl⟩
theorem ev_tupL [Mt R] {xs : List α} (h : EvR ta σ H (rL R) xs) : EvR (tCB (rTupOf K) (tCons ta tNil)) σ H (rT K R) xs :=
  ev_cb (ea_cons h ea_nil) fun vs H1 _ ⟨v, r, e1, h1, e2⟩ Q q => by
    subst e2; subst e1
    obtain ⟨a, us, rfl, h2, h3⟩ := h1
    refine ⟨a, us, rfl, .inl ⟨SqL.of h2, fun l hl => ?_⟩⟩
    have e := Same.hnew (o := .tup us) hl
    exact q _ _ e ⟨l, us, rfl, SqT.of upd_same, h3.himp fun _ _ z => Mt.up (Le.of e) z⟩
theorem ev_lstL [Mo R] {xs : List α} (h : EvR ta σ H (rL R) xs) : EvR (tCB (rLstOf K) (tCons ta tNil)) σ H (rL R) xs :=
  ev_cb (ea_cons h ea_nil) fun vs H1 _ ⟨v, r, e1, h1, e2⟩ Q q => by
    subst e2; subst e1
    obtain ⟨a, us, rfl, h2, h3⟩ := h1
    refine ⟨a, us, rfl, .inl (SqL.of h2), fun l hl => ?_⟩
    have e := Same.hnew (o := .lst us) hl
    exact q _ _ e ⟨l, us, rfl, upd_same, h3.himp fun _ _ z => Mo.up e z⟩
/-! ### tests -/
theorem et_test {b : Bool} (h : EvR te σ H rBl b) : EvT (tTest te) σ H b := fun H1 e _ q => h H1 e _ fun v H2 e2 r => ⟨b, r, q H2 e2⟩
theorem et_B {b : Bool} (h : EvR te σ H rBl b) : EvT (tB te) σ H b := fun H1 e _ q => h H1 e _ fun v H2 e2 r => ⟨b, r, q H2 e2⟩
theorem et_not {a : Bool} (h : EvT t σ H a) : EvT (tNot t) σ H (!a) := fun H1 e _ q => h H1 e _ fun H2 e2 => q H2 e2
theorem et_and {a b : Bool} (h1 : EvT t σ H a) (h2 : a = true → EvT u σ H b) : EvT (tAnd t u) σ H (a && b) := fun H1 e Q q => h1 H1 e _ fun H2 e2 => by
  cases a with
  | true =>
    show u σ H2 Q
    exact h2 rfl H2 (e.trans e2) Q fun H3 e3 => q H3 (e2.trans e3)
  | false =>
    show Q false H2
    exact q H2 e2
theorem et_or {a b : Bool} (h1 : EvT t σ H a) (h2 : a = false → EvT u σ H b) : EvT (tOr t u) σ H (a || b) := fun H1 e Q q => h1 H1 e _ fun H2 e2 => by
  cases a with
  | true =>
    show Q true H2
    exact q H2 e2
  | false =>
    show u σ H2 Q
    exact h2 rfl H2 (e.trans e2) Q fun H3 e3 => q H3 (e2.trans e3)
theorem et_yes : EvT tYes σ H true := fun H1 _ _ q => q H1 (Same.refl H1)
theorem ev_if {b : Bool} {x1 x2 : α} (h : EvT t σ H b) (h1 : b = true → EvR ta σ H R x1) (h2 : b = false → EvR tb σ H R x2) : EvR (tIf t ta tb) σ H R (if b = true then x1 else x2) := fun H1 e Q q => h H1 e _ fun H2 e2 => by
  cases b with
  | true =>
    show ta σ H2 Q
    exact h1 rfl H2 (e.trans e2) Q fun v H3 e3 r => q v H3 (e2.trans e3) r
  | false =>
    show tb σ H2 Q
    exact h2 rfl H2 (e.trans e2) Q fun v H3 e3 r => q v H3 (e2.trans e3) r
/-- the same, both ways come to one datum -/
theorem ev_if' {b : Bool} (h : EvT t σ H b) (h1 : b = true → EvR ta σ H R x) (h2 : b = false → EvR tb σ H R x) : EvR (tIf t ta tb) σ H R x := (ev_if h h1 h2).to (by cases b <;> rfl)
theorem ev_andV {a b : Bool} (h1 : EvR ta σ H rBl a) (h2 : a = true → EvR tb σ H rBl b) : EvR (tAndV ta tb) σ H rBl (a && b) := fun H1 e Q q => h1 H1 e _ fun v H2 e2 r => ⟨a, r, by
  cases a with
  | true =>
    show tb σ H2 Q
    exact h2 rfl H2 (e.trans e2) Q fun v H3 e3 r => q v H3 (e2.trans e3) r
  | false =>
    show Q (.bl false) H2
    exact q _ H2 e2 rfl⟩
theorem ev_notV {a : Bool} (h1 : EvR ta σ H rBl a) : EvR (tNotV ta) σ H rBl (!a) := fun H1 e _ q => h1 H1 e _ fun v H2 e2 r => ⟨a, r, q _ H2 e2 rfl⟩
/-! ### calls -/
def sp1 (R : Rl α) (pre : α → Prop) (S : Rl β) (f : α → β) : Sp := fun vs H Q _ => ∃ v x, vs = [v] ∧ R H v x ∧ pre x ∧ ∀ u H', Same H H' → S H' u (f x) → Q u H'
def sp2 (R1 : Rl α) (R2 : Rl β) (pre : α → β → Prop) (S : Rl γ) (f : α → β → γ) : Sp := fun vs H Q _ => ∃ v1 v2 x1 x2, vs = [v1, v2] ∧ R1 H v1 x1 ∧ R2 H v2 x2 ∧ pre x1 x2 ∧ ∀ u H', Same H H' → S H' u (f x1 x2) → Q u H'
def sp3 (R1 : Rl α) (R2 : Rl β) (R3 : Rl γ) (pre : α → β → γ → Prop) (S : Rl δ) (f : α → β → γ → δ) : Sp := fun vs H Q _ => ∃ v1 v2 v3 x1 x2 x3, vs = [v1, v2, v3] ∧ R1 H v1 x1 ∧ R2 H v2 x2 ∧ R3 H v3 x3 ∧ pre x1 x2 x3 ∧ ∀ u H', Same H H' → S H' u (f x1 x2 x3) → Q u H'
def sp4 (R1 : Rl α) (R2 : Rl β) (R3 : Rl γ) (R4 : Rl δ) (pre : α → β → γ → δ → Prop) (S : Rl ε) (f : α → β → γ → δ → ε) : Sp := fun vs H Q _ => ∃ v1 v2 v3 v4 x1 x2 x3 x4, vs = [v1, v2, v3, v4] ∧ R1 H v1 x1 ∧ R2 H v2 x2 ∧ R3 H v3 x3 ∧ R4 H v4 x4 ∧ pre x1 x2 x3 x4 ∧ ∀ u H', Same H H' → S H' u (f x1 x2 x3 x4) → Q u H'
theorem ev_call1 {pre : α → Prop} {f : α → β} (h : EvR ta σ H R x) (hp : pre x) : EvR (tCall (sp1 R pre S f) [] E0 (tCons ta tNil)) σ H S (f x) := fun H1 e Q q =>
  h H1 e _ fun v H2 e2 r => ⟨v, x, rfl, r, hp, fun u H3 e3 s => q u H3 (e2.trans e3) s⟩
theorem ev_call2 [Mo R] {pre : α → β → Prop} {f : α → β → γ} (h1 : EvR ta σ H R x) (h2 : EvR tb σ H S y) (hp : pre x y) : EvR (tCall (sp2 R S pre T f) [] E0 (tCons ta (tCons tb tNil))) σ H T (f x y) := fun H1 e Q q =>
  h1 H1 e _ fun v H2 e2 r => h2 H2 (e.trans e2) _ fun u H3 e3 s => ⟨v, u, x, y, rfl, Mo.up e3 r, s, hp, fun o H4 e4 t => q o H4 ((e2.trans e3).trans e4) t⟩
theorem ev_call3 [Mo R] [Mo S] {pre : α → β → γ → Prop} {f : α → β → γ → δ} (h1 : EvR ta σ H R x) (h2 : EvR tb σ H S y) (h3 : EvR tc σ H T z) (hp : pre x y z) : EvR (tCall (sp3 R S T pre U f) [] E0 (tCons ta (tCons tb (tCons tc tNil)))) σ H U (f x y z) := fun H1 e Q q =>
  h1 H1 e _ fun v H2 e2 r => h2 H2 (e.trans e2) _ fun u H3 e3 s => h3 H3 ((e.trans e2).trans e3) _ fun o H4 e4 t => ⟨v, u, o, x, y, z, rfl, Mo.up (e3.trans e4) r, Mo.up e4 s, t, hp, fun o H5 e5 t => q o H5 (((e2.trans e3).trans e4).trans e5) t⟩
theorem ev_call4 {td : TE} {V1 : Rl ε} [Mo R] [Mo S] [Mo T] {pre : α → β → γ → δ → Prop} {f : α → β → γ → δ → ε} (h1 : EvR ta σ H R x) (h2 : EvR tb σ H S y) (h3 : EvR tc σ H T z) (h4 : EvR td σ H U w) (hp : pre x y z w) : EvR (tCall (sp4 R S T U pre V1 f) [] E0 (tCons ta (tCons tb (tCons tc (tCons td tNil))))) σ H V1 (f x y z w) := fun H1 e Q q =>
  h1 H1 e _ fun v H2 e2 r => h2 H2 (e.trans e2) _ fun u H3 e3 s => h3 H3 ((e.trans e2).trans e3) _ fun o H4 e4 t => h4 H4 (((e.trans e2).trans e3).trans e4) _ fun o' H5 e5 t' => ⟨v, u, o, o', x, y, z, w, rfl, Mo.up ((e3.trans e4).trans e5) r, Mo.up (e4.trans e5) s, Mo.up e5 t, t', hp, fun o H6 e6 t => q o H6 ((((e2.trans e3).trans e4).trans e5).trans e6) t⟩
end
end Hf


/-! ## Hk3 -/
set_option Elab.async false
set_option linter.all false
set_option maxRecDepth 100000
set_option maxHeartbeats 4000000
namespace Hf
open PySem PySem.Spec PyProof.Rows L2 RZ
/-! ### what is walked: data -/
structure WalkP {α : Type} (kp : Hp → Prop) (J : It) (R : Rl α) (xs : List α) : Prop where
  go : ∀ i H, kp H → i < xs.length → J.go i H
  stop : ∀ H, kp H → J.stop xs.length H
  yld : ∀ i H v H', kp H → i < xs.length → J.yld i H v H' → Same H H' ∧ ∃ x, xs[i]? = some x ∧ R H' v x
def EvI {α : Type} (KP : Hp → Hp → Prop) (wi : TI) (σ : L2.St) (H : Hp) (R : Rl α) (xs : List α) : Prop :=
  ∀ H1, Same H H1 → ∀ Rq : It → Hp → Prop, (∀ J H2, Same H1 H2 → WalkP (KP H2) J R xs → Rq J H2) → wi σ H1 Rq
section
variable {K : PySem.W.Frag} {σ : L2.St} {H H' : Hp} {ta tb te tl : TE} {t u : TT} {v : V} {α β γ δ : Type} {R : Rl α} {S : Rl β} {T : Rl γ} {xs : List α} {ys : List β}
theorem ii_tup [Mt R] (h : EvR tl σ H (rT K R) xs) : EvI Le (iTup K tl) σ H R xs := fun H1 e Rq q => h H1 e _ fun v H2 e2 ⟨a, vs, h1, h2, h3⟩ => by
  refine ⟨a, h1, ⟨vs, h2⟩, q _ H2 e2 ⟨fun i H' l hi => ?_, fun H' l => ⟨vs, l.seqT h2, Nat.le_of_eq h3.hlen⟩, fun i H' v H'' l hi y => ?_⟩⟩
  · have hi' : i < vs.length := by rw [h3.hlen]; exact hi
    exact ⟨vs, vs[i], l.seqT h2, List.getElem?_eq_getElem hi'⟩
  · obtain ⟨e, y⟩ := y
    subst e
    obtain ⟨x, hx, r⟩ := h3.hgetL (y vs (l.seqT h2))
    exact ⟨Same.refl _, x, hx, Mt.up l r⟩
theorem ii_lst [Mo R] (h : EvR tl σ H (rL R) xs) : EvI Same (iList K tl) σ H R xs := fun H1 e Rq q => h H1 e _ fun v H2 e2 ⟨a, vs, h1, h2, h3⟩ => by
  refine ⟨a, h1, ⟨vs, SqL.of h2⟩, q _ H2 e2 ⟨fun i H' l hi => ?_, fun H' l => ⟨vs, SqL.of (l _ _ h2), Nat.le_of_eq h3.hlen⟩, fun i H' v H'' l hi y => ?_⟩⟩
  · have hi' : i < vs.length := by rw [h3.hlen]; exact hi
    exact ⟨vs, vs[i], SqL.of (l _ _ h2), List.getElem?_eq_getElem hi'⟩
  · obtain ⟨e, y⟩ := y
    subst e
    obtain ⟨x, hx, r⟩ := h3.hgetL (y vs (SqL.of (l _ _ h2)))
    exact ⟨Same.refl _, x, hx, Mo.up l r⟩
/-- a list at a name, which stood at B already -/
theorem ii_var [Mo R] {B : Hp} {i : Nat} (h : σ[i]? = some (some v)) (r : rL R B v xs) (e0 : Same B H) : EvI (fun _ => Same B) (iList K (tVar i)) σ H R xs := fun H1 e Rq q => by
  obtain ⟨a, vs, h1, h2, h3⟩ := r
  refine ⟨v, h, a, h1, ⟨vs, SqL.of ((e0.trans e) _ _ h2)⟩, q _ H1 (Same.refl H1) ⟨fun i H' l hi => ?_, fun H' l => ⟨vs, SqL.of (l _ _ h2), Nat.le_of_eq h3.hlen⟩, fun i H' v H'' l hi y => ?_⟩⟩
  · have hi' : i < vs.length := by rw [h3.hlen]; exact hi
    exact ⟨vs, vs[i], SqL.of (l _ _ h2), List.getElem?_eq_getElem hi'⟩
  · obtain ⟨e, y⟩ := y
    subst e
    obtain ⟨x, hx, r⟩ := h3.hgetL (y vs (SqL.of (l _ _ h2)))
    exact ⟨Same.refl _, x, hx, Mo.up l r⟩
def ivs (lo : Int) (n : Nat) : List Int := (List.range n).map fun i => lo + (i : Nat)
theorem ivs_get {lo : Int} {n i : Nat} (h : i < n) : (ivs lo n)[i]? = some (lo + (i : Nat)) := by simp [ivs, h]
theorem ivs_len {lo : Int} {n : Nat} : (ivs lo n).length = n := by simp [ivs]
theorem ii_range1 {j : Int} (h : EvR te σ H rInt j) (h1 : j < 2 ^ 62) (h0 : -(2 ^ 62) ≤ j := by omega) : EvI Le (iRng1 (tCons te tNil)) σ H rInt (ivs 0 j.toNat) := fun H1 e Rq q => h H1 e _ fun v H2 e2 r => by
  refine ⟨j, by cases r; rfl, h0, h1, q _ H2 e2 ⟨fun i H' l hi => by rw [ivs_len] at hi; exact hi, fun H' l => by rw [ivs_len]; exact Nat.le_refl _, fun i H' v H'' l hi y => ?_⟩⟩
  obtain ⟨e, y⟩ := y
  subst e; subst y
  rw [ivs_len] at hi
  exact ⟨Same.refl _, _, ivs_get hi, rfl⟩
theorem ii_range2 {i j : Int} (ha : EvR ta σ H rInt i) (hb : EvR tb σ H rInt j) (h : -(2 ^ 62) ≤ i ∧ i < 2 ^ 62 ∧ -(2 ^ 62) ≤ j ∧ j < 2 ^ 62) : EvI Le (iRng2 (tCons ta (tCons tb tNil))) σ H rInt (ivs i (j - i).toNat) := fun H1 e Rq q => ha H1 e _ fun v H2 e2 r => hb H2 (e.trans e2) _ fun u H3 e3 r' => by
  refine ⟨i, j, by cases r; cases r'; rfl, h, q _ H3 (e2.trans e3) ⟨fun i H' l hi => by rw [ivs_len] at hi; exact hi, fun H' l => by rw [ivs_len]; exact Nat.le_refl _, fun i H' v H'' l hi y => ?_⟩⟩
  obtain ⟨e, y⟩ := y
  subst e; subst y
  rw [ivs_len] at hi
  exact ⟨Same.refl _, _, ivs_get hi, rfl⟩
theorem ii_zipT [Mt R] [Mt S] (ha : EvR ta σ H (rT K R) xs) (hb : EvR tb σ H (rT K S) ys) : EvI Le (iZipA K (tCons ta (tCons tb tNil))) σ H (r2 K R S) (xs.zip ys) := fun H1 e Rq q => ha H1 e _ fun v H2 e2 r => hb H2 (e.trans e2) _ fun u H3 e3 ⟨b, us, g1, g2, g3⟩ => by
  obtain ⟨a, vs, h1, h2, h3⟩ := Mo.up (R := rT K R) e3 r
  subst h1; subst g1
  have hl : (xs.zip ys).length = min vs.length us.length := by rw [List.length_zip, h3.hlen, g3.hlen]
  refine ⟨a, b, vs, us, rfl, .inr ⟨h2, g2, q _ H3 (e2.trans e3) ⟨fun i H' l hi => ?_, fun H' l => ⟨vs, us, l.seqT h2, l.seqT g2, by rw [hl]; omega⟩, fun i H' v H'' l hi y => ?_⟩⟩⟩
  · rw [hl] at hi
    have i1 : i < vs.length := by omega
    have i2 : i < us.length := by omega
    exact ⟨vs, us, vs[i], us[i], l.seqT h2, l.seqT g2, List.getElem?_eq_getElem i1, List.getElem?_eq_getElem i2⟩
  · obtain ⟨T, x, y, rfl, hT, rfl, hx, hy⟩ := y
    obtain ⟨x', hx', r1⟩ := h3.hgetL (hx vs (l.seqT h2))
    obtain ⟨y', hy', r2'⟩ := g3.hgetL (hy us (l.seqT g2))
    have e4 := Same.hnew (o := .tup [x, y]) hT
    refine ⟨e4, (x', y'), ?_, T, x, y, rfl, SqT.of upd_same, Mt.up (l.trans (Le.of e4)) r1, Mt.up (l.trans (Le.of e4)) r2'⟩
    rw [List.getElem?_zip_eq_some]
    exact ⟨hx', hy'⟩
/-! ### targets -/
theorem g_tup2 [Mt R] [Mt S] {i j : Nat} {p : α × β} {Q : L2.St → Hp → Prop} (h : r2 K R S H v p) (q : ∀ u w, R H u p.1 → S H w p.2 → Q ((σ.set i (some u)).set j (some w)) H) : gTup K 2 (gCons (gName i) (gCons (gName j) gNil)) v σ H Q := by
  obtain ⟨a, u, w, h1, h2, h3, h4⟩ := h
  exact ⟨a, [u, w], h1, h2, rfl, u, [w], rfl, w, [], rfl, rfl, q u w h3 h4⟩
theorem g_tup3 [Mt R] [Mt S] [Mt T] {i j k : Nat} {p : α × β × γ} {Q : L2.St → Hp → Prop} (h : r3 K R S T H v p) (q : ∀ u w z, R H u p.1 → S H w p.2.1 → T H z p.2.2 → Q (((σ.set i (some u)).set j (some w)).set k (some z)) H) : gTup K 3 (gCons (gName i) (gCons (gName j) (gCons (gName k) gNil))) v σ H Q := by
  obtain ⟨a, u, w, z, h1, h2, h3, h4, h5⟩ := h
  exact ⟨a, [u, w, z], h1, h2, rfl, u, [w, z], rfl, w, [z], rfl, z, [], rfl, rfl, q u w z h3 h4 h5⟩
/-! ### comprehensions -/
/-- what holds while the list at Dl is filled -/
def Cw (S : Rl β) (H1 : Hp) (Dl : Addr) (done : List β) (H' : Hp) : Prop := H1 Dl = none ∧ Same H1 H' ∧ ∃ acc, H' Dl = some (.lst acc) ∧ Paired (S H') acc done
theorem Cw.add [Mt S] {H1 H2 H3 : Hp} {Dl : Addr} {done : List β} {y : V} {b : β} (c : Cw S H1 Dl done H2) (e : Same H2 H3) (r : S H3 y b) (hz : done.length ≤ 1000000) :
    ∃ acc, H3 Dl = some (.lst acc) ∧ acc.length < sizeLine ∧ Cw S H1 Dl (done ++ [b]) (upd H3 Dl (.lst (acc ++ [y]))) := by
  obtain ⟨h1, h2, acc, h3, h4⟩ := c
  have h5 := e _ _ h3
  have le : Le H3 (upd H3 Dl (.lst (acc ++ [y]))) := (Le.refl H3).mut h5 (fun z => z)
  refine ⟨acc, h5, by rw [h4.hlen]; exact Nat.lt_of_le_of_lt hz (by decide), h1, (h2.trans e).hmut h1, _, upd_same, ?_⟩
  exact (h4.himp fun _ _ z => Mt.up ((Le.of e).trans le) z).happ (.cons (Mt.up le r) .nil)
theorem lc_go {J : It} {KP : Hp → Prop} (w : WalkP KP J R xs) {g : TG} {tt : TT} {vs : List Nat} {H1 : Hp} {Dl : Addr} {Qd : Hp → Prop} (Pv : Nat → Hp → Prop) (h0 : Pv 0 (upd H1 Dl (.lst []))) (hk : ∀ i H, Pv i H → KP H)
    (hs : ∀ i x v H H', xs[i]? = some x → Pv i H → Same H H' → R H' v x → g v (wipe σ vs) H' fun σ2 H2 => wipe σ2 vs = wipe σ vs ∧ tt σ2 H2 fun b H3 => if b = true then te σ2 H3 fun y H4 => ∃ acc, H4 Dl = some (.lst acc) ∧ acc.length < sizeLine ∧ Pv (i + 1) (upd H4 Dl (.lst (acc ++ [y]))) else Pv (i + 1) H3)
    (hd : ∀ H, Pv xs.length H → Qd H) :
    ∃ W : Nat → Nat → Hp → Prop, (∃ m, W 0 m (upd H1 Dl (.lst []))) ∧ ∀ i m H, W i m H →
      (J.stop i H ∧ Qd H) ∨ (J.go i H ∧ ∃ Nx : Hp → Prop, (∀ H', Nx H' → ∃ m', m' < m ∧ W (i + 1) m' H') ∧ ∀ x H', J.yld i H x H' → g x (wipe σ vs) H' fun σ2 H2 => wipe σ2 vs = wipe σ vs ∧ tt σ2 H2 fun b H3 =>
        if b = true then te σ2 H3 fun y H4 => ∃ acc, H4 Dl = some (.lst acc) ∧ acc.length < sizeLine ∧ Nx (upd H4 Dl (.lst (acc ++ [y]))) else Nx H3) := by
  refine ⟨fun i m H => m = xs.length - i ∧ i ≤ xs.length ∧ Pv i H, ⟨xs.length, by simp, Nat.zero_le _, h0⟩, ?_⟩
  rintro i m H ⟨rfl, hi, p⟩
  by_cases hlt : i < xs.length
  · refine .inr ⟨w.go i H (hk i H p) hlt, Pv (i + 1), fun H' p' => ⟨xs.length - (i + 1), by omega, rfl, hlt, p'⟩, fun x H' y => ?_⟩
    obtain ⟨e, z, hz, r⟩ := w.yld i H x H' (hk i H p) hlt y
    exact hs i z x H H' hz p e r
  · have e : i = xs.length := by omega
    subst e
    exact .inl ⟨w.stop H (hk _ H p), hd H p⟩
theorem filter_take_snoc {p : α → Bool} {f : α → β} {i : Nat} {x : α} (h : xs[i]? = some x) : (((xs.take (i + 1)).filter p).map f) = (((xs.take i).filter p).map f) ++ (if p x = true then [f x] else []) := by
  rw [List.take_add_one, h]
  simp only [Option.toList_some, List.filter_append, List.map_append]
  cases hp : p x <;> simp [hp]
theorem filter_take_len {p : α → Bool} {f : α → β} (i : Nat) : (((xs.take i).filter p).map f).length ≤ xs.length := by
  rw [List.length_map]
  exact Nat.le_trans (List.length_filter_le _ _) (by rw [List.length_take]; omega)
/-- [f x for x in xs if p x] -/
theorem ev_lcF [Mt S] {KP : Hp → Hp → Prop} {wi : TI} {j : Nat} {vs : List Nat} (p : α → Bool) (f : α → β) (h : EvI KP wi σ H R xs) (hkp : ∀ H2 H', Same H H2 → Same H2 H' → KP H2 H') (hz : xs.length ≤ 1000000)
    (hw : ∀ v, wipe ((wipe σ vs).set j (some v)) vs = wipe σ vs)
    (ht : ∀ x ∈ xs, ∀ v H', Same H H' → R H' v x → EvT t ((wipe σ vs).set j (some v)) H' (p x))
    (he : ∀ x ∈ xs, p x = true → ∀ v H', Same H H' → R H' v x → EvR te ((wipe σ vs).set j (some v)) H' S (f x)) [Mo R] : EvR (tLc wi (gName j) t te vs) σ H (rL S) ((xs.filter p).map f) := fun H0 e Q q =>
  h H0 e _ fun J H1 e1 w => fun Dl hD => lc_go w (Pv := fun i H' => Cw S H1 Dl (((xs.take i).filter p).map f) H') (by exact ⟨hD, Same.hnew hD, [], upd_same, .nil⟩) (fun i H' c => hkp H1 H' (e.trans e1) c.2.1)
    (fun i x v H2 H3 hx c e3 r => by
      have hm : x ∈ xs := List.mem_of_getElem? hx
      have e4 : Same H H3 := (e.trans e1).trans (c.2.1.trans e3)
      refine ⟨hw v, ?_⟩
      refine ht x hm v H3 e4 r H3 (Same.refl _) _ fun H4 e5 => ?_
      cases hp : p x with
      | true =>
        refine he x hm hp v H3 e4 r H4 e5 _ fun y H5 e6 ry => ?_
        have z := c.add ((e3.trans e5).trans e6) ry (Nat.le_trans (filter_take_len i) hz)
        rw [filter_take_snoc hx, hp]
        exact z
      | false =>
        show Cw S H1 Dl _ H4
        rw [filter_take_snoc hx, hp]
        obtain ⟨c1, c2, acc, c3, c4⟩ := c
        refine ⟨c1, (c2.trans e3).trans e5, acc, e5 _ _ (e3 _ _ c3), ?_⟩
        simp only [Bool.false_eq_true, if_false, List.append_nil]
        exact c4.himp fun _ _ z => Mt.up (Le.of (e3.trans e5)) z)
    (fun H' c => by
      rw [List.take_length] at c
      obtain ⟨c1, c2, acc, c3, c4⟩ := c
      exact q _ H' (e1.trans c2) ⟨Dl, acc, rfl, c3, c4⟩)
/-- [f x for x in xs] -/
theorem ev_lc [Mt S] {KP : Hp → Hp → Prop} {wi : TI} {j : Nat} {vs : List Nat} (f : α → β) (h : EvI KP wi σ H R xs) (hkp : ∀ H2 H', Same H H2 → Same H2 H' → KP H2 H') (hz : xs.length ≤ 1000000)
    (hw : ∀ v, wipe ((wipe σ vs).set j (some v)) vs = wipe σ vs)
    (he : ∀ x ∈ xs, ∀ v H', Same H H' → R H' v x → EvR te ((wipe σ vs).set j (some v)) H' S (f x)) [Mo R] : EvR (tLc wi (gName j) tYes te vs) σ H (rL S) (xs.map f) := by
  have := ev_lcF (t := tYes) (fun _ => true) f h hkp hz hw (fun _ _ _ _ _ _ => et_yes) (fun x hx _ => he x hx)
  have ef : xs.filter (fun _ => true) = xs := by simp
  rw [ef] at this
  exact this
/-- [f (x, y) for x, y in ..] -/
theorem ev_lcP [Mt S] [Mt R] [Mt T] {KP : Hp → Hp → Prop} {wi : TI} {i j : Nat} {vs : List Nat} {zs : List (α × γ)} (f : α × γ → β) (h : EvI KP wi σ H (r2 K R T) zs) (hkp : ∀ H2 H', Same H H2 → Same H2 H' → KP H2 H') (hz : zs.length ≤ 1000000)
    (hw : ∀ u v, wipe (((wipe σ vs).set i (some u)).set j (some v)) vs = wipe σ vs)
    (he : ∀ x ∈ zs, ∀ u v H', Same H H' → R H' u x.1 → T H' v x.2 → EvR te (((wipe σ vs).set i (some u)).set j (some v)) H' S (f x)) :
    EvR (tLc wi (gTup K 2 (gCons (gName i) (gCons (gName j) gNil))) tYes te vs) σ H (rL S) (zs.map f) := fun H0 e Q q =>
  h H0 e _ fun J H1 e1 w => fun Dl hD => lc_go w (Pv := fun i H' => Cw S H1 Dl ((zs.take i).map f) H') (by exact ⟨hD, Same.hnew hD, [], upd_same, .nil⟩) (fun i H' c => hkp H1 H' (e.trans e1) c.2.1)
    (fun k x v H2 H3 hx c e3 r => by
      have hm : x ∈ zs := List.mem_of_getElem? hx
      have e4 : Same H H3 := (e.trans e1).trans (c.2.1.trans e3)
      refine g_tup2 r fun a b r1 r2' => ⟨hw a b, ?_⟩
      refine he x hm a b H3 e4 r1 r2' H3 (Same.refl _) _ fun y H5 e6 ry => ?_
      have z := c.add (e3.trans e6) ry (by rw [List.length_map]; exact Nat.le_trans (by rw [List.length_take]; omega) hz)
      rw [List.take_add_one, hx, List.map_append]
      exact z)
    (fun H' c => by
      rw [List.take_length] at c
      obtain ⟨c1, c2, acc, c3, c4⟩ := c
      exact q _ H' (e1.trans c2) ⟨Dl, acc, rfl, c3, c4⟩)
/-- [f x for a, b, c in .. if p] -/
theorem ev_lc3F {δ : Type} {U : Rl δ} [Mt U] [Mt R] [Mt S] [Mt T] {KP : Hp → Hp → Prop} {wi : TI} {i j k : Nat} {vs : List Nat} {zs : List (α × β × γ)} (p : α × β × γ → Bool) (f : α × β × γ → δ) (h : EvI KP wi σ H (r3 K R S T) zs) (hkp : ∀ H2 H', Same H H2 → Same H2 H' → KP H2 H') (hz : zs.length ≤ 1000000)
    (hw : ∀ u v w, wipe ((((wipe σ vs).set i (some u)).set j (some v)).set k (some w)) vs = wipe σ vs)
    (ht : ∀ x ∈ zs, ∀ u v w H', Same H H' → R H' u x.1 → S H' v x.2.1 → T H' w x.2.2 → EvT t ((((wipe σ vs).set i (some u)).set j (some v)).set k (some w)) H' (p x))
    (he : ∀ x ∈ zs, p x = true → ∀ u v w H', Same H H' → R H' u x.1 → S H' v x.2.1 → T H' w x.2.2 → EvR te ((((wipe σ vs).set i (some u)).set j (some v)).set k (some w)) H' U (f x)) :
    EvR (tLc wi (gTup K 3 (gCons (gName i) (gCons (gName j) (gCons (gName k) gNil)))) t te vs) σ H (rL U) ((zs.filter p).map f) := fun H0 e Q q =>
  h H0 e _ fun J H1 e1 w => fun Dl hD => lc_go w (Pv := fun i H' => Cw U H1 Dl (((zs.take i).filter p).map f) H') (by exact ⟨hD, Same.hnew hD, [], upd_same, .nil⟩) (fun i H' c => hkp H1 H' (e.trans e1) c.2.1)
    (fun i x v H2 H3 hx c e3 r => by
      have hm : x ∈ zs := List.mem_of_getElem? hx
      have e4 : Same H H3 := (e.trans e1).trans (c.2.1.trans e3)
      refine g_tup3 r fun a b d q1 q2 q3 => ⟨hw a b d, ?_⟩
      refine ht x hm a b d H3 e4 q1 q2 q3 H3 (Same.refl _) _ fun H4 e5 => ?_
      cases hp : p x with
      | true =>
        refine he x hm hp a b d H3 e4 q1 q2 q3 H4 e5 _ fun y H5 e6 ry => ?_
        have z := c.add ((e3.trans e5).trans e6) ry (Nat.le_trans (filter_take_len i) hz)
        rw [filter_take_snoc hx, hp]
        exact z
      | false =>
        show Cw U H1 Dl _ H4
        rw [filter_take_snoc hx, hp]
        obtain ⟨c1, c2, acc, c3, c4⟩ := c
        refine ⟨c1, (c2.trans e3).trans e5, acc, e5 _ _ (e3 _ _ c3), ?_⟩
        simp only [Bool.false_eq_true, if_false, List.append_nil]
        exact c4.himp fun _ _ z => Mt.up (Le.of (e3.trans e5)) z)
    (fun H' c => by
      rw [List.take_length] at c
      obtain ⟨c1, c2, acc, c3, c4⟩ := c
      exact q _ H' (e1.trans c2) ⟨Dl, acc, rfl, c3, c4⟩)
theorem flat_take_snoc {f : α → List β} {i : Nat} {x : α} (h : xs[i]? = some x) : ((xs.take (i + 1)).flatMap f) = ((xs.take i).flatMap f) ++ f x := by
  rw [List.take_add_one, h]
  simp [List.flatMap_append]
theorem flat_le {f : α → List β} : ∀ (xs : List α) (i : Nat), ((xs.take i).flatMap f).length ≤ (xs.flatMap f).length
  | [], i => by simp
  | x :: xs, 0 => by simp
  | x :: xs, i + 1 => by
    have := flat_le xs i (f := f)
    simp only [List.take_succ_cons, List.flatMap_cons, List.length_append]
    omega
/-- [f x y for x in xs for y in ys x], the inner source a tuple or a range -/
theorem ev_lc2 {δ : Type} {U : Rl δ} [Mt U] [Mt R] [Mo S] {KP KP' : Hp → Hp → Prop} {wi wi1 : TI} {i j : Nat} {vs vs1 : List Nat} (ys : α → List β) (f : α → β → δ) (h : EvI KP wi σ H R xs) (hkp : ∀ H2 H', Same H H2 → Same H2 H' → KP H2 H')
    (hz : (xs.flatMap fun x => (ys x).map (f x)).length ≤ 1000000)
    (hw : ∀ v, wipe ((wipe σ vs).set i (some v)) vs = wipe σ vs) (hw1 : ∀ v u, wipe ((wipe ((wipe σ vs).set i (some v)) vs1).set j (some u)) vs1 = wipe ((wipe σ vs).set i (some v)) vs1)
    (h1 : ∀ x ∈ xs, ∀ v H', Same H H' → R H' v x → EvI KP' wi1 ((wipe σ vs).set i (some v)) H' S (ys x)) (hkp' : ∀ H2 H', Le H2 H' → KP' H2 H')
    (he : ∀ x ∈ xs, ∀ y ∈ ys x, ∀ v u H', Same H H' → R H' v x → S H' u y → EvR te ((wipe ((wipe σ vs).set i (some v)) vs1).set j (some u)) H' U (f x y)) :
    EvR (tLc2 wi (gName i) tYes wi1 (gName j) tYes te vs vs1) σ H (rL U) (xs.flatMap fun x => (ys x).map (f x)) := fun H0 e Q q =>
  h H0 e _ fun J H1 e1 w => fun Dl hD => by
    refine ⟨fun i m H' => m = xs.length - i ∧ i ≤ xs.length ∧ Cw U H1 Dl ((xs.take i).flatMap fun x => (ys x).map (f x)) H', ⟨xs.length, by simp, Nat.zero_le _, ⟨hD, Same.hnew hD, [], upd_same, .nil⟩⟩, ?_⟩
    rintro n m H2 ⟨rfl, hn, c⟩
    have kp : KP H1 H2 := hkp H1 H2 (e.trans e1) c.2.1
    by_cases hlt : n < xs.length
    · refine .inr ⟨w.go n H2 kp hlt, fun H' => Cw U H1 Dl ((xs.take (n + 1)).flatMap fun x => (ys x).map (f x)) H', fun H' c' => ⟨xs.length - (n + 1), by omega, rfl, hlt, c'⟩, fun v H3 y => ?_⟩
      obtain ⟨e3, x, hx, r⟩ := w.yld n H2 v H3 kp hlt y
      have hm : x ∈ xs := List.mem_of_getElem? hx
      have e4 : Same H H3 := (e.trans e1).trans (c.2.1.trans e3)
      refine ⟨hw v, ?_⟩
      have hl : ((xs.take n).flatMap fun x => (ys x).map (f x)).length + (ys x).length ≤ 1000000 := by
        have z := Nat.le_trans (flat_le xs (n + 1)) hz
        rw [flat_take_snoc hx, List.length_append, List.length_map] at z
        exact z
      refine h1 x hm v H3 e4 r H3 (Same.refl _) _ fun J1 H4 e5 w1 => ?_
      rw [flat_take_snoc hx]
      have c4 : Cw U H1 Dl ((xs.take n).flatMap fun x => (ys x).map (f x)) H4 := by
        obtain ⟨c1, c2, acc, c3, c4⟩ := c
        exact ⟨c1, c2.trans (e3.trans e5), acc, e5 _ _ (e3 _ _ c3), c4.himp fun _ _ z => Mt.up (Le.of (e3.trans e5)) z⟩
      refine ⟨fun k m H' => m = (ys x).length - k ∧ k ≤ (ys x).length ∧ Le H4 H' ∧ Cw U H1 Dl (((xs.take n).flatMap fun x => (ys x).map (f x)) ++ ((ys x).take k).map (f x)) H', ⟨(ys x).length, by simp, Nat.zero_le _, Le.refl _, by simpa using c4⟩, ?_⟩
      rintro k m H5 ⟨rfl, hk, le, c5⟩
      have kp1 : KP' H4 H5 := hkp' H4 H5 le
      by_cases hlt1 : k < (ys x).length
      · refine .inr ⟨w1.go k H5 kp1 hlt1, fun H' => Le H4 H' ∧ Cw U H1 Dl (((xs.take n).flatMap fun x => (ys x).map (f x)) ++ ((ys x).take (k + 1)).map (f x)) H', fun H' c' => ⟨(ys x).length - (k + 1), by omega, rfl, hlt1, c'⟩, fun u H6 y1 => ?_⟩
        obtain ⟨e6, y, hy, s⟩ := w1.yld k H5 u H6 kp1 hlt1 y1
        have hmy : y ∈ ys x := List.mem_of_getElem? hy
        have e7 : Same H H6 := (e.trans e1).trans (c5.2.1.trans e6)
        have r' : R H6 v x := by
          exact Mt.up (((Le.of e5).trans le).trans (Le.of e6)) r
        refine ⟨hw1 v u, ?_⟩
        refine he x hm y hmy v u H6 e7 r' s H6 (Same.refl _) _ fun o H7 e8 ro => ?_
        have z := c5.add (e6.trans e8) ro (by
          rw [List.length_append, List.length_map, List.length_take]
          omega)
        obtain ⟨acc, z1, z2, z3⟩ := z
        refine ⟨acc, z1, z2, ((le.trans (Le.of e6)).trans (Le.of e8)).mut z1 (fun z => z), ?_⟩
        rw [List.take_add_one, hy, Option.toList_some, List.map_append, ← List.append_assoc]
        exact z3
      · have ek : k = (ys x).length := by omega
        subst ek
        refine .inl ⟨w1.stop H5 kp1, ?_⟩
        rw [List.take_length] at c5
        exact c5
    · have e : n = xs.length := by omega
      subst e
      refine .inl ⟨w.stop H2 kp, ?_⟩
      rw [List.take_length] at c
      obtain ⟨c1, c2, acc, c3, c4⟩ := c
      exact q _ H2 (e1.trans c2) ⟨Dl, acc, rfl, c3, c4⟩
end
end Hf


/-! ## Hk4 -/
set_option Elab.async false
set_option linter.all false
set_option maxRecDepth 100000
set_option maxHeartbeats 4000000
namespace Hf
open PySem PySem.Spec PyProof.Rows L2 RZ
/-! ### constants of the module -/
theorem pk_globT {X : Cx} {x : Str} {a : Addr} {pos : Pos} (hm : X.mg x = some (.ref a)) (hg : Gl X x := by rfl) (hd : (x == ("__debug__" : Str)) = false := by decide) : PE X (.Name x pos) (tC (.ref a)) := pe_glob hg hm rfl hd
theorem pk_globI {X : Cx} {x : Str} {i : Int} {t : Tok} {pos : Pos} (hm : X.mg x = some (.int i t)) (hg : Gl X x := by rfl) (hd : (x == ("__debug__" : Str)) = false := by decide) : PE X (.Name x pos) (tC (.int i)) := pe_glob hg hm ⟨t, rfl⟩ hd
/-! ### statements -/
section
variable {K : PySem.W.Frag} {σ : L2.St} {H H' : Hp} {ta tb te tl : TE} {t u : TT} {v : V} {α β γ δ : Type} {R : Rl α} {S : Rl β} {T : Rl γ} {x : α} {y : β} {D : Ends} {ts tz : TS}
theorem s_ret (h : EvR te σ H R x) (q : ∀ v H', Same H H' → R H' v x → D.rt v H') : tRet te D σ H := h H (Same.refl H) _ q
theorem s_set {i : Nat} (h : EvR te σ H R x) (q : ∀ v H', Same H H' → R H' v x → D.nx (σ.set i (some v)) H') : tAsg te (gName i) D σ H := h H (Same.refl H) _ fun v H' e r => q v H' e r
theorem s_set2 [Mt R] [Mt S] {p : α × β} {i j : Nat} (h : EvR te σ H (r2 K R S) p) (q : ∀ u w H', Same H H' → R H' u p.1 → S H' w p.2 → D.nx ((σ.set i (some u)).set j (some w)) H') : tAsg te (gTup K 2 (gCons (gName i) (gCons (gName j) gNil))) D σ H :=
  h H (Same.refl H) _ fun v H' e r => g_tup2 r fun u w r1 r2' => q u w H' e r1 r2'
theorem s_set3 [Mt R] [Mt S] [Mt T] {p : α × β × γ} {i j k : Nat} (h : EvR te σ H (r3 K R S T) p) (q : ∀ u w z H', Same H H' → R H' u p.1 → S H' w p.2.1 → T H' z p.2.2 → D.nx (((σ.set i (some u)).set j (some w)).set k (some z)) H') : tAsg te (gTup K 3 (gCons (gName i) (gCons (gName j) (gCons (gName k) gNil)))) D σ H :=
  h H (Same.refl H) _ fun v H' e r => g_tup3 r fun u w z q1 q2 q3 => q u w z H' e q1 q2 q3
theorem s_par [Mo R] {i j : Nat} (h : EvR ta σ H R x) (h' : EvR tb σ H S y) (q : ∀ u w H', Same H H' → R H' u x → S H' w y → D.nx ((σ.set i (some u)).set j (some w)) H') : tPar i j (tCons ta (tCons tb tNil)) D σ H :=
  h H (Same.refl H) _ fun u H1 e1 r1 => h' H1 e1 _ fun w H2 e2 r2 => ⟨u, w, rfl, q u w H2 (e1.trans e2) (Mo.up e2 r1) r2⟩
theorem s_if {b : Bool} (h : EvT t σ H b) (h1 : b = true → ∀ H', Same H H' → ts D σ H') (h2 : b = false → ∀ H', Same H H' → tz D σ H') : tIfS t ts tz D σ H := h H (Same.refl H) _ fun H' e => by
  cases b with
  | true => exact h1 rfl H' e
  | false => exact h2 rfl H' e
theorem s_drop (h : EvR te σ H R x) (q : ∀ v H', Same H H' → R H' v x → D.nx σ H') : tDrop te D σ H := h H (Same.refl H) _ q
/-- x += e of ints -/
theorem s_aug {i : Nat} {f : Int → Int → Int} {a b : Int} (hx : σ[i]? = some (some (.int a))) (h : EvR te σ H rInt b) (q : ∀ H', Same H H' → D.nx (σ.set i (some (.int (f a b)))) H') : tAug i te (ipI f) D σ H := ⟨_, hx, h H (Same.refl H) _ fun v H' e r => ⟨a, b, rfl, r, q H' e⟩⟩
/-- for .. in ..: I by what stands at the walk's begin, the turn, the slots, the heap -/
theorem s_forG {KP : Hp → Hp → Prop} {wi : TI} {g : TG} {xs : List α} (I : Hp → Nat → L2.St → Hp → Prop) (h : EvI KP wi σ H R xs) (h0 : ∀ H2, Same H H2 → I H2 0 σ H2) (hk : ∀ H2 i σ' H', Same H H2 → I H2 i σ' H' → KP H2 H')
    (hs : ∀ H2 i x σ' H' v H'', Same H H2 → xs[i]? = some x → I H2 i σ' H' → Same H' H'' → R H'' v x → g v σ' H'' fun σ2 H3 => ts { D with nx := I H2 (i + 1), ct := I H2 (i + 1), bk := D.nx } σ2 H3)
    (hd : ∀ H2 σ' H', Same H H2 → I H2 xs.length σ' H' → D.nx σ' H') : tFor wi g ts D σ H := h H (Same.refl H) _ fun J H2 e w => by
  refine ⟨fun i m σ' H' => m = xs.length - i ∧ i ≤ xs.length ∧ I H2 i σ' H', ⟨xs.length, by simp, Nat.zero_le _, h0 H2 e⟩, ?_⟩
  rintro i m σ' H' ⟨rfl, hi, p⟩
  by_cases hlt : i < xs.length
  · refine .inr ⟨w.go i H' (hk H2 i σ' H' e p) hlt, I H2 (i + 1), fun σ2 H3 p' => ⟨xs.length - (i + 1), by omega, rfl, hlt, p'⟩, fun v H'' y => ?_⟩
    obtain ⟨e2, x, hx, r⟩ := w.yld i H' v H'' (hk H2 i σ' H' e p) hlt y
    exact hs H2 i x σ' H' v H'' e hx p e2 r
  · have e3 : i = xs.length := by omega
    subst e3
    exact .inl ⟨w.stop H' (hk H2 _ σ' H' e p), hd H2 σ' H' e p⟩
theorem s_for {KP : Hp → Hp → Prop} {wi : TI} {j : Nat} {xs : List α} (I : Hp → Nat → L2.St → Hp → Prop) (h : EvI KP wi σ H R xs) (h0 : ∀ H2, Same H H2 → I H2 0 σ H2) (hk : ∀ H2 i σ' H', Same H H2 → I H2 i σ' H' → KP H2 H')
    (hs : ∀ H2 i x σ' H' v H'', Same H H2 → xs[i]? = some x → I H2 i σ' H' → Same H' H'' → R H'' v x → ts { D with nx := I H2 (i + 1), ct := I H2 (i + 1), bk := D.nx } (σ'.set j (some v)) H'')
    (hd : ∀ H2 σ' H', Same H H2 → I H2 xs.length σ' H' → D.nx σ' H') : tFor wi (gName j) ts D σ H := s_forG I h h0 hk hs hd
/-- while -/
theorem s_while (W : Nat → L2.St → Hp → Prop) (m0 : Nat) (h0 : W m0 σ H)
    (hs : ∀ m σ' H', W m σ' H' → ∃ b, EvT t σ' H' b ∧ (b = true → ∀ H1, Same H' H1 → ts { D with nx := fun σ2 H2 => ∃ m', m' < m ∧ W m' σ2 H2, ct := fun σ2 H2 => ∃ m', m' < m ∧ W m' σ2 H2, bk := D.nx } σ' H1) ∧ (b = false → ∀ H1, Same H' H1 → D.nx σ' H1)) : tWhile t ts D σ H := by
  refine ⟨W, ⟨m0, h0⟩, fun m σ' H' w => ?_⟩
  obtain ⟨b, h1, h2, h3⟩ := hs m σ' H' w
  refine h1 H' (Same.refl H') _ fun H1 e => ?_
  cases b with
  | true => exact ⟨_, fun _ _ z => z, h2 rfl H1 e⟩
  | false => exact h3 rfl H1 e
/-! ### lists that are changed -/
theorem s_append [Mo S] {l : Addr} (ho : EvR ta σ H rV (.ref l)) (h : EvR te σ H S y) (hl : ∀ H', Same H H' → ∃ vs, H' l = some (.lst vs) ∧ vs.length < sizeLine)
    (q : ∀ v vs H', Same H H' → S H' v y → H' l = some (.lst vs) → D.nx σ (upd H' l (.lst (vs ++ [v])))) : tDrop (tBM K "list" rAppend ta (tCons te tNil)) D σ H := ho H (Same.refl H) _ fun a H1 e1 r1 => by
  cases r1
  obtain ⟨vs1, h1, _⟩ := hl H1 e1
  refine ⟨.inl ⟨rfl, vs1, SqL.of h1⟩, h H1 e1 _ fun v H2 e2 r2 => ?_⟩
  obtain ⟨vs2, h2, hz⟩ := hl H2 (e1.trans e2)
  exact ⟨l, vs2, v, rfl, rfl, h2, hz, q v vs2 H2 (e1.trans e2) r2 h2⟩
end
/-! ### the same, with more behind -/
section
variable {K : PySem.W.Frag} {σ : L2.St} {H H' : Hp} {ta tb te tl : TE} {t u : TT} {v : V} {α β γ δ : Type} {R : Rl α} {S : Rl β} {T : Rl γ} {x : α} {y : β} {D : Ends} {ts tz tu : TS}
theorem q_set {i : Nat} (h : EvR te σ H R x) (q : ∀ v H', Same H H' → R H' v x → tu D (σ.set i (some v)) H') : tSeq (tAsg te (gName i)) tu D σ H := s_set (D := { D with nx := tu D }) h q
theorem q_set2 [Mt R] [Mt S] {p : α × β} {i j : Nat} (h : EvR te σ H (r2 K R S) p) (q : ∀ u w H', Same H H' → R H' u p.1 → S H' w p.2 → tu D ((σ.set i (some u)).set j (some w)) H') : tSeq (tAsg te (gTup K 2 (gCons (gName i) (gCons (gName j) gNil)))) tu D σ H := s_set2 (D := { D with nx := tu D }) h q
theorem q_set3 [Mt R] [Mt S] [Mt T] {p : α × β × γ} {i j k : Nat} (h : EvR te σ H (r3 K R S T) p) (q : ∀ u w z H', Same H H' → R H' u p.1 → S H' w p.2.1 → T H' z p.2.2 → tu D (((σ.set i (some u)).set j (some w)).set k (some z)) H') : tSeq (tAsg te (gTup K 3 (gCons (gName i) (gCons (gName j) (gCons (gName k) gNil))))) tu D σ H := s_set3 (D := { D with nx := tu D }) h q
theorem q_par [Mo R] {i j : Nat} (h : EvR ta σ H R x) (h' : EvR tb σ H S y) (q : ∀ u w H', Same H H' → R H' u x → S H' w y → tu D ((σ.set i (some u)).set j (some w)) H') : tSeq (tPar i j (tCons ta (tCons tb tNil))) tu D σ H := s_par (D := { D with nx := tu D }) h h' q
theorem q_if {b : Bool} (h : EvT t σ H b) (h1 : b = true → ∀ H', Same H H' → ts { D with nx := tu D } σ H') (h2 : b = false → ∀ H', Same H H' → tz { D with nx := tu D } σ H') : tSeq (tIfS t ts tz) tu D σ H := s_if (D := { D with nx := tu D }) h h1 h2
theorem q_when {b : Bool} (h : EvT t σ H b) (h1 : b = true → ∀ H', Same H H' → ts { D with nx := tu D } σ H') (h2 : b = false → ∀ H', Same H H' → tu D σ H') : tSeq (tIfS t ts tNext) tu D σ H := s_if (D := { D with nx := tu D }) h h1 h2
theorem s_when {b : Bool} (h : EvT t σ H b) (h1 : b = true → ∀ H', Same H H' → ts D σ H') (h2 : b = false → ∀ H', Same H H' → D.nx σ H') : tIfS t ts tNext D σ H := s_if h h1 h2
theorem q_drop (h : EvR te σ H R x) (q : ∀ v H', Same H H' → R H' v x → tu D σ H') : tSeq (tDrop te) tu D σ H := s_drop (D := { D with nx := tu D }) h q
theorem q_aug {i : Nat} {f : Int → Int → Int} {a b : Int} (hx : σ[i]? = some (some (.int a))) (h : EvR te σ H rInt b) (q : ∀ H', Same H H' → tu D (σ.set i (some (.int (f a b)))) H') : tSeq (tAug i te (ipI f)) tu D σ H := s_aug (D := { D with nx := tu D }) hx h q
theorem q_forG {KP : Hp → Hp → Prop} {wi : TI} {g : TG} {xs : List α} (I : Hp → Nat → L2.St → Hp → Prop) (h : EvI KP wi σ H R xs) (h0 : ∀ H2, Same H H2 → I H2 0 σ H2) (hk : ∀ H2 i σ' H', Same H H2 → I H2 i σ' H' → KP H2 H')
    (hs : ∀ H2 i x σ' H' v H'', Same H H2 → xs[i]? = some x → I H2 i σ' H' → Same H' H'' → R H'' v x → g v σ' H'' fun σ2 H3 => ts { D with nx := I H2 (i + 1), ct := I H2 (i + 1), bk := tu D } σ2 H3)
    (hd : ∀ H2 σ' H', Same H H2 → I H2 xs.length σ' H' → tu D σ' H') : tSeq (tFor wi g ts) tu D σ H := s_forG (D := { D with nx := tu D }) I h h0 hk hs hd
theorem q_for {KP : Hp → Hp → Prop} {wi : TI} {j : Nat} {xs : List α} (I : Hp → Nat → L2.St → Hp → Prop) (h : EvI KP wi σ H R xs) (h0 : ∀ H2, Same H H2 → I H2 0 σ H2) (hk : ∀ H2 i σ' H', Same H H2 → I H2 i σ' H' → KP H2 H')
    (hs : ∀ H2 i x σ' H' v H'', Same H H2 → xs[i]? = some x → I H2 i σ' H' → Same H' H'' → R H'' v x → ts { D with nx := I H2 (i + 1), ct := I H2 (i + 1), bk := tu D } (σ'.set j (some v)) H'')
    (hd : ∀ H2 σ' H', Same H H2 → I H2 xs.length σ' H' → tu D σ' H') : tSeq (tFor wi (gName j) ts) tu D σ H := s_forG (D := { D with nx := tu D }) I h h0 hk hs hd
theorem q_while (W : Nat → L2.St → Hp → Prop) (m0 : Nat) (h0 : W m0 σ H)
    (hs : ∀ m σ' H', W m σ' H' → ∃ b, EvT t σ' H' b ∧ (b = true → ∀ H1, Same H' H1 → ts { D with nx := fun σ2 H2 => ∃ m', m' < m ∧ W m' σ2 H2, ct := fun σ2 H2 => ∃ m', m' < m ∧ W m' σ2 H2, bk := tu D } σ' H1) ∧ (b = false → ∀ H1, Same H' H1 → tu D σ' H1)) : tSeq (tWhile t ts) tu D σ H := s_while (D := { D with nx := tu D }) W m0 h0 hs
theorem q_append [Mo S] {l : Addr} (ho : EvR ta σ H rV (.ref l)) (h : EvR te σ H S y) (hl : ∀ H', Same H H' → ∃ vs, H' l = some (.lst vs) ∧ vs.length < sizeLine)
    (q : ∀ v vs H', Same H H' → S H' v y → H' l = some (.lst vs) → tu D σ (upd H' l (.lst (vs ++ [v])))) : tSeq (tDrop (tBM K "list" rAppend ta (tCons te tNil))) tu D σ H := s_append (D := { D with nx := tu D }) ho h hl q
/-- x = [..], x = [] at once: a new list that will be changed -/
theorem q_new {i : Nat} (q : ∀ l, H l = none → tu D (σ.set i (some (.ref l))) (upd H l (.lst []))) : tSeq (tAsg (tLst tNil) (gName i)) tu D σ H := ⟨Nat.zero_le _, fun l hl => q l hl⟩
end
/-! ### sayings -/
inductive Mk where
  | plus | times | leads | and | or | same
  deriving DecidableEq
def Mk.s : Mk → Str
  | .plus => "plus"
  | .times => "times"
  | .leads => "leads"
  | .and => "and"
  | .or => "or"
  | .same => "same"
inductive Say where
  | yes | no | unk (x : Str) | neg (a : Say) | mk (m : Mk) (a b : Say)
  deriving DecidableEq
def rSay (K : PySem.W.Frag) (H : Hp) (v : V) : Say → Prop
  | .yes => ∃ a, v = .ref a ∧ SqT K H a [.str "yes"]
  | .no => ∃ a, v = .ref a ∧ SqT K H a [.str "no"]
  | .unk x => ∃ a, v = .ref a ∧ SqT K H a [.str "unknown", .str x]
  | .neg s => ∃ a u, v = .ref a ∧ SqT K H a [.str "not", u] ∧ rSay K H u s
  | .mk m s t => ∃ a u w, v = .ref a ∧ SqT K H a [.str m.s, u, w] ∧ rSay K H u s ∧ rSay K H w t
abbrev rSy (K : PySem.W.Frag) : Rl Say := fun H v s => rSay K H v s
theorem rSay_up {K : PySem.W.Frag} {H H' : Hp} (e : Le H H') : ∀ (s : Say) (v : V), rSay K H v s → rSay K H' v s
  | .yes, v, ⟨a, h1, h2⟩ => ⟨a, h1, e.seqT h2⟩
  | .no, v, ⟨a, h1, h2⟩ => ⟨a, h1, e.seqT h2⟩
  | .unk x, v, ⟨a, h1, h2⟩ => ⟨a, h1, e.seqT h2⟩
  | .neg s, v, ⟨a, u, h1, h2, h3⟩ => ⟨a, u, h1, e.seqT h2, rSay_up e s u h3⟩
  | .mk m s t, v, ⟨a, u, w, h1, h2, h3, h4⟩ => ⟨a, u, w, h1, e.seqT h2, rSay_up e s u h3, rSay_up e t w h4⟩
instance {K : PySem.W.Frag} : Mt (rSy K) := ⟨fun e h => rSay_up e _ _ h⟩
/-- the word at the front -/
def Say.hd : Say → Str
  | .yes => "yes"
  | .no => "no"
  | .unk _ => "unknown"
  | .neg _ => "not"
  | .mk m _ _ => m.s
/-- its parts -/
def Say.parts : Say → List Say
  | .neg s => [s]
  | .mk _ s t => [s, t]
  | _ => []
/-- what stands behind the front word -/
def rRest (K : PySem.W.Frag) (H : Hp) (vs : List V) : Say → Prop
  | .yes => vs = []
  | .no => vs = []
  | .unk x => vs = [.str x]
  | .neg s => ∃ u, vs = [u] ∧ rSay K H u s
  | .mk _ s t => ∃ u w, vs = [u, w] ∧ rSay K H u s ∧ rSay K H w t
theorem rSay_iff {K : PySem.W.Frag} {H : Hp} {v : V} {s : Say} : rSay K H v s → ∃ a vs, v = .ref a ∧ SqT K H a (.str s.hd :: vs) ∧ rRest K H vs s := by
  intro h
  cases s with
  | yes => obtain ⟨a, h1, h2⟩ := h; exact ⟨a, [], h1, h2, rfl⟩
  | no => obtain ⟨a, h1, h2⟩ := h; exact ⟨a, [], h1, h2, rfl⟩
  | unk x => obtain ⟨a, h1, h2⟩ := h; exact ⟨a, _, h1, h2, rfl⟩
  | neg s => obtain ⟨a, u, h1, h2, h3⟩ := h; exact ⟨a, _, h1, h2, u, rfl, h3⟩
  | mk m s t => obtain ⟨a, u, w, h1, h2, h3, h4⟩ := h; exact ⟨a, _, h1, h2, u, w, rfl, h3, h4⟩
theorem rRest_parts {K : PySem.W.Frag} {H : Hp} {vs : List V} {s : Say} (h : rRest K H vs s) (hu : ∀ x, s ≠ .unk x) : Paired (rSy K H) vs s.parts := by
  cases s with
  | yes => cases h; exact .nil
  | no => cases h; exact .nil
  | unk x => exact absurd rfl (hu x)
  | neg s => obtain ⟨u, rfl, h⟩ := h; exact .cons h .nil
  | mk m s t => obtain ⟨u, w, rfl, h, h'⟩ := h; exact .cons h (.cons h' .nil)
section
variable {K : PySem.W.Frag} {σ : L2.St} {H H' : Hp} {ta tb te tl : TE} {s : Say}
theorem at0 {α : Type} {x : α} {xs : List α} : atI (x :: xs) 0 = some x := by
  unfold atI ixN
  simp
/-- saying[0] -/
theorem ev_hd (ha : EvR ta σ H (rSy K) s) : EvR (tOp (rIxT K) ta (tC (.int 0))) σ H rStr s.hd :=
  ev_op (S := rInt) (y := 0) ha ev_int fun v u H1 _ r1 r2 Q q => by
    obtain ⟨a, vs, h1, h2, h3⟩ := rSay_iff r1
    exact ⟨a, _, 0, _, h1, r2, h2, at0, q _ H1 (Same.refl H1) rfl⟩
/-- saying[1] of an unknown -/
theorem ev_nm {x : Str} (ha : EvR ta σ H (rSy K) (.unk x)) : EvR (tOp (rIxT K) ta (tC (.int 1))) σ H rStr x :=
  ev_op (S := rInt) (y := 1) ha ev_int fun v u H1 _ r1 r2 Q q => by
    obtain ⟨a, h1, h2⟩ := r1
    exact ⟨a, _, 1, _, h1, r2, h2, rfl, q _ H1 (Same.refl H1) rfl⟩
theorem ev_p1 {a : Say} (ha : EvR ta σ H (rSy K) (.neg a)) : EvR (tOp (rIxT K) ta (tC (.int 1))) σ H (rSy K) a :=
  ev_op (S := rInt) (y := 1) ha ev_int fun v u H1 _ r1 r2 Q q => by
    obtain ⟨a, w, h1, h2, h3⟩ := r1
    exact ⟨a, _, 1, _, h1, r2, h2, rfl, q _ H1 (Same.refl H1) h3⟩
theorem ev_m1 {m : Mk} {a b : Say} (ha : EvR ta σ H (rSy K) (.mk m a b)) : EvR (tOp (rIxT K) ta (tC (.int 1))) σ H (rSy K) a :=
  ev_op (S := rInt) (y := 1) ha ev_int fun v u H1 _ r1 r2 Q q => by
    obtain ⟨a, w, z, h1, h2, h3, h4⟩ := r1
    exact ⟨a, _, 1, _, h1, r2, h2, rfl, q _ H1 (Same.refl H1) h3⟩
theorem ev_m2 {m : Mk} {a b : Say} (ha : EvR ta σ H (rSy K) (.mk m a b)) : EvR (tOp (rIxT K) ta (tC (.int 2))) σ H (rSy K) b :=
  ev_op (S := rInt) (y := 2) ha ev_int fun v u H1 _ r1 r2 Q q => by
    obtain ⟨a, w, z, h1, h2, h3, h4⟩ := r1
    exact ⟨a, _, 2, _, h1, r2, h2, rfl, q _ H1 (Same.refl H1) h4⟩
/-- saying[1:] of no unknown -/
theorem ev_rest (ha : EvR ta σ H (rSy K) s) (hu : ∀ x, s ≠ .unk x) : EvR (tSl (rSlA K) ta (tPart (tC (.int 1))) tNoPart) σ H (rT K (rSy K)) s.parts := fun H0 e Q q =>
  ha H0 e _ fun v H1 e1 r1 => by
    obtain ⟨a, vs, h1, h2, h3⟩ := rSay_iff r1
    have hw : ¬ (HT.sIx (V.str s.hd :: vs).length 0 (some 1) = 0 ∧ HT.sIx (V.str s.hd :: vs).length (V.str s.hd :: vs).length none = (V.str s.hd :: vs).length) := by
      intro z
      have z1 := z.1
      have : HT.sIx (V.str s.hd :: vs).length 0 (some ((1 : Nat) : Int)) = min 1 (V.str s.hd :: vs).length := HT.sIx_nat _ _ 1
      rw [show ((1 : Nat) : Int) = (1 : Int) from rfl, z1] at this
      simp only [List.length_cons] at this
      omega
    refine ⟨1, rfl, a, _, h1, h2, fun c => absurd c hw, fun _ p hp => ?_⟩
    have e2 := Same.hnew (o := .tup (cutV (V.str s.hd :: vs) (some 1) none)) hp
    have ec : cutV (V.str s.hd :: vs) (some 1) none = vs := by
      unfold cutV
      have : HT.sIx (V.str s.hd :: vs).length 0 (some ((1 : Nat) : Int)) = min 1 (V.str s.hd :: vs).length := HT.sIx_nat _ _ 1
      rw [show ((1 : Nat) : Int) = (1 : Int) from rfl] at this
      rw [this, HT.sIx_none]
      simp
    refine q _ _ (e1.trans e2) ⟨p, _, rfl, SqT.of upd_same, ?_⟩
    rw [ec]
    exact (rRest_parts h3 hu).himp fun _ _ z => Mt.up (Le.of (by rw [ec] at e2; exact e2)) z
end
end Hf


/-! ## Sem1 -/
set_option Elab.async false
set_option linter.all false
set_option maxRecDepth 100000
set_option maxHeartbeats 4000000
namespace Hf
open PySem
/-! ### what sayings give, as whole numbers over D -/
def mkv (m : Mk) (D a b : Int) : Int := match m with
  | .plus => if a + b < D then a + b else D
  | .times => if a + b - D > 0 then a + b - D else 0
  | .leads => if D - a + b < D then D - a + b else D
  | .and => if b < a then b else a
  | .or => if b > a then b else a
  | .same => D - (if a - b < 0 then -(a - b) else a - b)
def val (t : Str → Int) (D : Int) : Say → Int
  | .yes => D
  | .no => 0
  | .unk x => t x
  | .neg s => D - val t D s
  | .mk m s u => mkv m D (val t D s) (val t D u)
/-- the numbers of names in a row -/
def tab (ns : List Str) (p : Vec) (x : Str) : Int := ((ns.zip p).lookup x).getD 0
/-- the unknowns of a saying are among these -/
def Say.In (ns : List Str) : Say → Prop
  | .yes => True
  | .no => True
  | .unk x => x ∈ ns
  | .neg s => s.In ns
  | .mk _ s u => s.In ns ∧ u.In ns
def Say.occ (x : Str) : Say → Nat
  | .yes => 0
  | .no => 0
  | .unk y => if y = x then 1 else 0
  | .neg s => s.occ x
  | .mk _ s u => s.occ x + u.occ x
def Say.marks : Say → Nat
  | .yes => 0
  | .no => 0
  | .unk _ => 0
  | .neg s => s.marks
  | .mk _ s u => 1 + (s.marks + u.marks)
def Say.leaves : Say → Nat
  | .yes => 1
  | .no => 1
  | .unk _ => 1
  | .neg s => s.leaves
  | .mk _ s u => s.leaves + u.leaves
theorem leaves_marks : ∀ s : Say, s.leaves = s.marks + 1
  | .yes => rfl
  | .no => rfl
  | .unk _ => rfl
  | .neg s => leaves_marks s
  | .mk _ s u => by
    show s.leaves + u.leaves = 1 + (s.marks + u.marks) + 1
    rw [leaves_marks s, leaves_marks u]
    omega
theorem mkv_scale (m : Mk) {k : Int} (hk : 0 ≤ k) (D a b : Int) : mkv m (k * D) (k * a) (k * b) = k * mkv m D a b := by
  have le : ∀ {x y : Int}, x ≤ y → k * x ≤ k * y := fun h => Int.mul_le_mul_of_nonneg_left h hk
  have e1 : k * a + k * b = k * (a + b) := by grind
  have e2 : k * a + k * b - k * D = k * (a + b - D) := by grind
  have e3 : k * D - k * a + k * b = k * (D - a + b) := by grind
  have e4 : k * a - k * b = k * (a - b) := by grind
  have e5 : k * (-(a - b)) = -(k * (a - b)) := by grind
  cases m with
  | plus =>
    simp only [mkv, e1]
    by_cases h : a + b < D
    · have := le (show a + b ≤ D by omega)
      rw [if_pos h]; split <;> omega
    · have := le (show D ≤ a + b by omega)
      rw [if_neg h]; split <;> omega
  | times =>
    simp only [mkv, e2]
    by_cases h : a + b - D > 0
    · have := le (show 0 ≤ a + b - D by omega)
      rw [Int.mul_zero] at this
      rw [if_pos h]; split <;> omega
    · have := le (show a + b - D ≤ 0 by omega)
      rw [Int.mul_zero] at this
      rw [if_neg h]; split <;> omega
  | leads =>
    simp only [mkv, e3]
    by_cases h : D - a + b < D
    · have := le (show D - a + b ≤ D by omega)
      rw [if_pos h]; split <;> omega
    · have := le (show D ≤ D - a + b by omega)
      rw [if_neg h]; split <;> omega
  | and =>
    simp only [mkv]
    by_cases h : b < a
    · have := le (show b ≤ a by omega)
      rw [if_pos h]; split <;> omega
    · have := le (show a ≤ b by omega)
      rw [if_neg h]; split <;> omega
  | or =>
    simp only [mkv]
    by_cases h : b > a
    · have := le (show a ≤ b by omega)
      rw [if_pos h]; split <;> omega
    · have := le (show b ≤ a by omega)
      rw [if_neg h]; split <;> omega
  | same =>
    simp only [mkv, e4]
    have e6 : ∀ z : Int, k * (D - z) = k * D - k * z := fun z => by grind
    by_cases h : a - b < 0
    · have := le (show a - b ≤ 0 by omega)
      rw [Int.mul_zero] at this
      rw [if_pos h, e6, e5]; split <;> omega
    · have := le (show 0 ≤ a - b by omega)
      rw [Int.mul_zero] at this
      rw [if_neg h, e6]; split <;> omega
theorem val_scale {k : Int} (hk : 0 ≤ k) (t : Str → Int) (D : Int) : ∀ s : Say, val (fun x => k * t x) (k * D) s = k * val t D s
  | .yes => rfl
  | .no => by simp [val]
  | .unk x => rfl
  | .neg s => by
    show k * D - val _ _ s = k * (D - val t D s)
    rw [val_scale hk t D s]
    grind
  | .mk m s u => by
    show mkv m (k * D) (val _ _ s) (val _ _ u) = k * mkv m D (val t D s) (val t D u)
    rw [val_scale hk t D s, val_scale hk t D u, mkv_scale m hk]
theorem tab_sc (k : Int) : ∀ (ns : List Str) (p : Vec) (x : Str), tab ns (sc k p) x = k * tab ns p x
  | [], p, x => by simp [tab]
  | n :: ns, [], x => by simp [tab]
  | n :: ns, y :: p, x => by
    have ih := tab_sc k ns p x
    simp only [tab, sc_cons, List.zip_cons_cons, List.lookup_cons] at ih ⊢
    cases x == n <;> simp [ih]
/-- at proportional points -/
theorem val_prop {ns : List Str} {d e : Int} {p q : Vec} (hd : 0 ≤ d) (he : 0 ≤ e) (h : sc e p = sc d q) (s : Say) : e * val (tab ns p) d s = d * val (tab ns q) e s := by
  rw [← val_scale he, ← val_scale hd]
  have : (fun x => e * tab ns p x) = (fun x => d * tab ns q x) := funext fun x => by rw [← tab_sc, ← tab_sc, h]
  rw [this, Int.mul_comm e d]
/-! ### forms -/
def nameF (ns : List Str) (x : Str) : Vec := 0 :: ns.map (fun one => if one = x then 1 else 0)
def constF (k : Int) (n : Nat) : Vec := k :: List.replicate n 0
def negF (f : Vec) : Vec := f.map (fun p => -p)
def raiseF (f : Vec) (k : Int) : Vec := (f.headD 0 + k) :: f.tail
def notF (f : Vec) : Vec := raiseF (negF f) 1
def questF (m : Mk) (a b : Vec) : Vec := match m with
  | .plus => raiseF (ad a b) (-1)
  | .times => raiseF (ad a b) (-1)
  | _ => ad a (negF b)
def sideF (m : Mk) (least : Bool) (a b : Vec) : Vec :=
  let q := questF m a b
  match m with
  | .plus => if least then constF 1 (q.length - 1) else raiseF q 1
  | .times => if least then q else constF 0 (q.length - 1)
  | .leads => if least then notF q else constF 1 (q.length - 1)
  | .and => if least then b else a
  | .or => if least then a else b
  | .same => if least then notF q else raiseF q 1
section
variable {n : Nat} {a b f : Vec}
theorem negF_len : (negF f).length = f.length := by simp [negF]
theorem raiseF_len {k : Int} (h : f.length = n + 1) : (raiseF f k).length = n + 1 := by simp [raiseF]; omega
theorem notF_len (h : f.length = n + 1) : (notF f).length = n + 1 := raiseF_len (by rw [negF_len]; exact h)
theorem constF_len {k : Int} : (constF k n).length = n + 1 := by simp [constF]
theorem questF_len (m : Mk) (ha : a.length = n + 1) (hb : b.length = n + 1) : (questF m a b).length = n + 1 := by
  have e : (ad a b).length = n + 1 := by rw [ad_length (by rw [ha, hb])]; exact ha
  have e2 : (ad a (negF b)).length = n + 1 := by rw [ad_length (by rw [negF_len, ha, hb])]; exact ha
  cases m <;> first | exact raiseF_len e | exact e2
theorem sideF_len (m : Mk) (l : Bool) (ha : a.length = n + 1) (hb : b.length = n + 1) : (sideF m l a b).length = n + 1 := by
  have hq := questF_len m ha hb
  have hc : ∀ k, (constF k ((questF m a b).length - 1)).length = n + 1 := fun k => by rw [constF_len, hq]; rfl
  cases m <;> cases l <;> first | exact hc _ | exact raiseF_len hq | exact notF_len hq | exact hq | exact ha | exact hb
theorem negF_dot : ∀ (f x : Vec), dot (negF f) x = - dot f x
  | [], x => by simp [negF]
  | a :: f, [] => by simp
  | a :: f, b :: x => by
    have := negF_dot f x
    unfold negF at this ⊢
    simp only [List.map_cons, dot_cons, this]
    grind
theorem raiseF_dot {k d : Int} {p : Vec} (h : f.length = n + 1) : dot (raiseF f k) (d :: p) = dot f (d :: p) + k * d := by
  obtain ⟨c, t, rfl, _⟩ := vcons h
  simp only [raiseF, List.headD_cons, List.tail_cons, dot_cons]
  grind
theorem notF_dot {d : Int} {p : Vec} (h : f.length = n + 1) : dot (notF f) (d :: p) = d - dot f (d :: p) := by
  unfold notF
  rw [raiseF_dot (n := n) (by rw [negF_len]; exact h), negF_dot]
  omega
theorem constF_dot {k d : Int} {p : Vec} : dot (constF k n) (d :: p) = k * d := by
  simp [constF, dot_zeros]
theorem questF_dot (m : Mk) (ha : a.length = n + 1) (hb : b.length = n + 1) {d : Int} {p : Vec} : dot (questF m a b) (d :: p) = match m with
    | .plus => dot a (d :: p) + dot b (d :: p) - d
    | .times => dot a (d :: p) + dot b (d :: p) - d
    | _ => dot a (d :: p) - dot b (d :: p) := by
  have e : (ad a b).length = n + 1 := by rw [ad_length (by rw [ha, hb])]; exact ha
  have e1 : dot (raiseF (ad a b) (-1)) (d :: p) = dot a (d :: p) + dot b (d :: p) - d := by
    rw [raiseF_dot e, dot_ad_left _ _ _ (by rw [ha, hb])]; omega
  have e2 : dot (ad a (negF b)) (d :: p) = dot a (d :: p) - dot b (d :: p) := by
    rw [dot_ad_left _ _ _ (by rw [negF_len, ha, hb]), negF_dot]; omega
  cases m <;> first | exact e1 | exact e2
/-- on its side of the question the form has the mark's value -/
theorem sideF_val (m : Mk) (l : Bool) (ha : a.length = n + 1) (hb : b.length = n + 1) {d : Int} {p : Vec} (h : if l = true then 0 ≤ dot (questF m a b) (d :: p) else dot (questF m a b) (d :: p) ≤ 0) :
    mkv m d (dot a (d :: p)) (dot b (d :: p)) = dot (sideF m l a b) (d :: p) := by
  have hq := questF_len m ha hb
  have qd := questF_dot m ha hb (d := d) (p := p)
  have hc : ∀ k, dot (constF k ((questF m a b).length - 1)) (d :: p) = k * d := fun k => constF_dot
  have r1 := raiseF_dot (k := 1) (d := d) (p := p) hq
  have r2 := notF_dot (d := d) (p := p) hq
  have hc0 := hc 0
  have hc1 := hc 1
  cases m <;> cases l <;> simp only [mkv, sideF, Bool.false_eq_true, if_false, if_true] at * <;> (try rw [hc0]) <;> (try rw [hc1]) <;> (try rw [r1]) <;> (try rw [r2]) <;> (try rw [qd] at *) <;> (try rw [qd]) <;> (repeat' split) <;> omega
end
theorem nameF_len (ns : List Str) (x : Str) : (nameF ns x).length = ns.length + 1 := by simp [nameF]
theorem nameF_none : ∀ (ns : List Str) (x : Str) (p : Vec), x ∉ ns → dot (ns.map (fun one => if one = x then (1 : Int) else 0)) p = 0
  | [], x, p, _ => by simp
  | n :: ns, x, [], _ => by simp
  | n :: ns, x, y :: p, h => by
    simp only [List.map_cons, dot_cons, nameF_none ns x p (fun z => h (List.mem_cons_of_mem _ z))]
    rw [if_neg (fun e => h (by rw [e]; exact List.mem_cons_self))]
    simp
theorem nameF_tab : ∀ (ns : List Str) (x : Str) (p : Vec), ns.Nodup → x ∈ ns → p.length = ns.length → dot (ns.map (fun one => if one = x then (1 : Int) else 0)) p = tab ns p x
  | [], x, p, _, h, _ => by simp at h
  | n :: ns, x, [], _, _, h => by simp at h
  | n :: ns, x, y :: p, nd, h, hl => by
    obtain ⟨na, nd'⟩ := List.nodup_cons.mp nd
    simp only [List.map_cons, dot_cons, tab, List.zip_cons_cons, List.lookup_cons]
    by_cases e : x = n
    · subst e
      rw [if_pos rfl, nameF_none ns x p na]
      simp
    · have hx : x ∈ ns := by
        rcases List.mem_cons.mp h with z | z
        · exact absurd z e
        · exact z
      have ih := nameF_tab ns x p nd' hx (by simpa using hl)
      have eb : (x == n) = false := by simpa using e
      rw [if_neg (fun z => e z.symm), ih, eb]
      simp [tab]
theorem nameF_dot {ns : List Str} {x : Str} {d : Int} {p : Vec} (nd : ns.Nodup) (h : x ∈ ns) (hl : p.length = ns.length) : dot (nameF ns x) (d :: p) = tab ns p x := by
  unfold nameF
  rw [dot_cons, nameF_tab ns x p nd h hl]
  simp
/-! ### a saying is a form near every point -/
def occs (ns : List Str) (s : Say) : Vec := ns.map fun x => (s.occ x : Int)
theorem occs_getD {ns : List Str} {s : Say} {i : Nat} : (occs ns s).getD i 0 = ((ns[i]?).map fun x => (s.occ x : Int)).getD 0 := by
  simp [occs, List.getD_eq_getElem?_getD]
structure Lin (ns : List Str) (s : Say) (d : Int) (p : Vec) (F : Vec) (Cs : List Vec) : Prop where
  fl : F.length = ns.length + 1
  cl : ∀ c ∈ Cs, c.length = ns.length + 1
  fb : Bd ns.length (occs ns s) F
  cb : ∀ c ∈ Cs, Bd ns.length (occs ns s) c
  pos : ∀ c ∈ Cs, 0 ≤ dot c (d :: p)
  eq : ∀ (e : Int) (q : Vec), q.length = ns.length → (∀ c ∈ Cs, 0 ≤ dot c (e :: q)) → val (tab ns q) e s = dot F (e :: q)
theorem getD_neg (f : Vec) (i : Nat) : (negF f).getD i 0 = -(f.getD i 0) := by
  simp only [negF, List.getD_eq_getElem?_getD, List.getElem?_map]
  cases f[i]? <;> simp
theorem getD_raise {f : Vec} {k : Int} (i : Nat) : (raiseF f k).getD (i + 1) 0 = f.getD (i + 1) 0 := by
  unfold raiseF
  cases f <;> simp
theorem getD_const {k : Int} {n : Nat} (i : Nat) : (constF k n).getD (i + 1) 0 = 0 := by
  simp only [constF, List.getD_cons_succ]
  rw [List.getD_eq_getElem?_getD, List.getElem?_replicate]
  split <;> rfl
theorem bd_quest {n : Nat} {m1 m2 a b : Vec} (m : Mk) (hl : a.length = b.length) (h1 : Bd n m1 a) (h2 : Bd n m2 b) (M : Vec) (hM : ∀ i, i < n → M.getD i 0 = m1.getD i 0 + m2.getD i 0) : Bd n M (questF m a b) := fun i hi => by
  have a1 := h1 i hi
  have b1 := h2 i hi
  have e := hM i hi
  have q1 : (raiseF (ad a b) (-1)).getD (i + 1) 0 = a.getD (i + 1) 0 + b.getD (i + 1) 0 := by rw [getD_raise, getD_ad _ _ _ hl]
  have q2 : (ad a (negF b)).getD (i + 1) 0 = a.getD (i + 1) 0 - b.getD (i + 1) 0 := by rw [getD_ad _ _ _ (by rw [negF_len]; exact hl), getD_neg]; omega
  cases m <;> simp only [questF] <;> first | (rw [q1]; omega) | (rw [q2]; omega)
theorem bd_neg {n : Nat} {m a : Vec} (h : Bd n m a) : Bd n m (negF a) := fun i hi => by
  have := h i hi
  rw [getD_neg]; omega
theorem bd_raise {n : Nat} {m a : Vec} {k : Int} (h : Bd n m a) : Bd n m (raiseF a k) := fun i hi => by rw [getD_raise]; exact h i hi
theorem bd_const {n n' : Nat} {m : Vec} {k : Int} (h : ∀ i, i < n → 0 ≤ m.getD i 0) : Bd n m (constF k n') := fun i hi => by rw [getD_const]; have := h i hi; omega
theorem bd_mono {n : Nat} {m M a : Vec} (h : Bd n m a) (hM : ∀ i, i < n → m.getD i 0 ≤ M.getD i 0) : Bd n M a := fun i hi => by
  have := h i hi
  have := hM i hi
  omega
theorem bd_side {n : Nat} {m1 m2 a b : Vec} (m : Mk) (l : Bool) (hl : a.length = b.length) (h1 : Bd n m1 a) (h2 : Bd n m2 b) (M : Vec) (hM : ∀ i, i < n → M.getD i 0 = m1.getD i 0 + m2.getD i 0) (p1 : ∀ i, i < n → 0 ≤ m1.getD i 0) (p2 : ∀ i, i < n → 0 ≤ m2.getD i 0) : Bd n M (sideF m l a b) := by
  have hq := bd_quest m hl h1 h2 M hM
  have hc : ∀ k n', Bd n M (constF k n') := fun k n' => bd_const fun i hi => by rw [hM i hi]; have := p1 i hi; have := p2 i hi; omega
  have ha : Bd n M a := bd_mono h1 fun i hi => by rw [hM i hi]; have := p2 i hi; omega
  have hb : Bd n M b := bd_mono h2 fun i hi => by rw [hM i hi]; have := p1 i hi; omega
  cases m <;> cases l <;> first | exact hc _ _ | exact bd_raise hq | exact bd_raise (bd_neg hq) | exact hq | exact ha | exact hb
theorem occs_nonneg {ns : List Str} {s : Say} (i : Nat) : 0 ≤ (occs ns s).getD i 0 := by
  rw [occs_getD]
  cases ns[i]? with
  | none => exact Int.le_refl 0
  | some x => exact Int.natCast_nonneg _
theorem occs_mk {ns : List Str} {m : Mk} {s u : Say} (i : Nat) : (occs ns (.mk m s u)).getD i 0 = (occs ns s).getD i 0 + (occs ns u).getD i 0 := by
  rw [occs_getD, occs_getD, occs_getD]
  cases ns[i]? with
  | none => rfl
  | some x => simp [Say.occ]
theorem lin {ns : List Str} (nd : ns.Nodup) {d : Int} {p : Vec} (hl : p.length = ns.length) : ∀ s : Say, s.In ns → ∃ F Cs, Lin ns s d p F Cs
  | .yes, _ => ⟨constF 1 ns.length, [], constF_len, by simp, bd_const fun i _ => occs_nonneg i, by simp, by simp, fun e q _ _ => by rw [constF_dot]; show e = _; omega⟩
  | .no, _ => ⟨constF 0 ns.length, [], constF_len, by simp, bd_const fun i _ => occs_nonneg i, by simp, by simp, fun e q _ _ => by rw [constF_dot]; show (0 : Int) = _; omega⟩
  | .unk x, hx => by
    refine ⟨nameF ns x, [], nameF_len ns x, by simp, fun i hi => ?_, by simp, by simp, fun e q hq _ => by rw [nameF_dot nd hx hq]; rfl⟩
    rw [occs_getD]
    simp only [nameF, List.getD_cons_succ]
    simp only [List.getD_eq_getElem?_getD, List.getElem?_map]
    rw [List.getElem?_eq_getElem hi]
    simp only [Option.map_some, Option.getD_some, Say.occ]
    by_cases e : ns[i] = x
    · rw [if_pos e, if_pos e.symm]; decide
    · rw [if_neg e, if_neg (fun z => e z.symm)]; decide
  | .neg s, hs => by
    obtain ⟨F, Cs, h⟩ := lin (d := d) nd hl s hs
    refine ⟨notF F, Cs, notF_len h.fl, h.cl, bd_raise (bd_neg h.fb), h.cb, h.pos, fun e q hq hc => ?_⟩
    rw [notF_dot h.fl, ← h.eq e q hq hc]
    rfl
  | .mk m s u, hs => by
    obtain ⟨F, Cs, h⟩ := lin (d := d) nd hl s hs.1
    obtain ⟨G, Ds, g⟩ := lin (d := d) nd hl u hs.2
    have hM : ∀ i, i < ns.length → (occs ns (.mk m s u)).getD i 0 = (occs ns s).getD i 0 + (occs ns u).getD i 0 := fun i _ => occs_mk i
    have hlen : F.length = G.length := by rw [h.fl, g.fl]
    have mono1 : ∀ c, Bd ns.length (occs ns s) c → Bd ns.length (occs ns (.mk m s u)) c := fun c hc => bd_mono hc fun i hi => by rw [hM i hi]; have := occs_nonneg (ns := ns) (s := u) i; omega
    have mono2 : ∀ c, Bd ns.length (occs ns u) c → Bd ns.length (occs ns (.mk m s u)) c := fun c hc => bd_mono hc fun i hi => by rw [hM i hi]; have := occs_nonneg (ns := ns) (s := s) i; omega
    have hq := questF_len m h.fl g.fl
    have go : ∀ (l : Bool) (Q : Vec), Q.length = ns.length + 1 → Bd ns.length (occs ns (.mk m s u)) Q → 0 ≤ dot Q (d :: p) → (∀ x, 0 ≤ dot Q x → if l = true then 0 ≤ dot (questF m F G) x else dot (questF m F G) x ≤ 0) → ∃ F Cs, Lin ns (.mk m s u) d p F Cs := fun l Q ql qb qp qe => by
      refine ⟨sideF m l F G, Q :: (Cs ++ Ds), sideF_len m l h.fl g.fl, fun c hc => ?_, bd_side m l hlen h.fb g.fb _ hM (fun i _ => occs_nonneg i) (fun i _ => occs_nonneg i), fun c hc => ?_, fun c hc => ?_, fun e q hq hc => ?_⟩
      · rcases List.mem_cons.mp hc with z | hc
        · rw [z]; exact ql
        · rcases List.mem_append.mp hc with z | z
          · exact h.cl c z
          · exact g.cl c z
      · rcases List.mem_cons.mp hc with z | hc
        · rw [z]; exact qb
        · rcases List.mem_append.mp hc with z | z
          · exact mono1 c (h.cb c z)
          · exact mono2 c (g.cb c z)
      · rcases List.mem_cons.mp hc with z | hc
        · rw [z]; exact qp
        · rcases List.mem_append.mp hc with z | z
          · exact h.pos c z
          · exact g.pos c z
      · have e1 := h.eq e q hq fun c hc' => hc c (List.mem_cons_of_mem _ (List.mem_append_left _ hc'))
        have e2 := g.eq e q hq fun c hc' => hc c (List.mem_cons_of_mem _ (List.mem_append_right _ hc'))
        show mkv m e (val _ e s) (val _ e u) = _
        rw [e1, e2]
        exact sideF_val m l h.fl g.fl (qe _ (hc Q List.mem_cons_self))
    by_cases c : 0 ≤ dot (questF m F G) (d :: p)
    · exact go true (questF m F G) hq (bd_quest m hlen h.fb g.fb _ hM) c fun x hx => by rw [if_pos rfl]; exact hx
    · exact go false (negF (questF m F G)) (by rw [negF_len]; exact hq) (bd_neg (bd_quest m hlen h.fb g.fb _ hM)) (by rw [negF_dot]; omega) fun x hx => by
        rw [negF_dot] at hx
        rw [if_neg (by decide)]; omega
/-! ### the bound of the least denominators -/
/-- the greatest of 1 and the two numbers of occurrences -/
def mOcc (f g : Say) (x : Str) : Int := max 1 (max (f.occ x : Int) (g.occ x : Int))
def mOccs (ns : List Str) (f g : Say) : Vec := ns.map (mOcc f g)
/-- the sayings part at the point of a grid -/
def PartsAt (ns : List Str) (f g : Say) (D : Int) (q : Vec) : Prop := val (tab ns q) D f ≠ val (tab ns q) D g
def OnGrid (n : Nat) (D : Int) (q : Vec) : Prop := q.length = n ∧ ∀ y ∈ q, 0 ≤ y ∧ y ≤ D
theorem face_bd {n : Nat} {c m : Vec} (h : c ∈ faces n) (hm : ∀ i, i < n → 1 ≤ m.getD i 0) : Bd n m c := fun i hi => by
  obtain ⟨k, hk, e | e⟩ := mem_faces.mp h
  · subst e
    simp only [faceLo, List.getD_cons_succ, unit_getD n k i hk]
    have := hm i hi
    split <;> omega
  · subst e
    have e1 : (unit n k (-1)).getD i 0 = if i = k then -1 else 0 := by
      unfold unit
      rw [List.getD_eq_getElem?_getD]
      by_cases h1 : i < k
      · rw [List.getElem?_append_left (by simpa using h1), List.getElem?_replicate, if_pos h1, if_neg (by omega)]; rfl
      · rw [List.getElem?_append_right (by simpa using h1)]
        simp only [List.length_replicate]
        by_cases h2 : i = k
        · subst h2; simp
        · rw [if_neg h2]
          obtain ⟨j, hj⟩ : ∃ j, i - k = j + 1 := ⟨i - k - 1, by omega⟩
          rw [hj, List.getElem?_cons_succ, List.getElem?_replicate]
          split <;> rfl
    simp only [faceHi, List.getD_cons_succ, e1]
    have := hm i hi
    split <;> omega
theorem bound_law {ns : List Str} (nd : ns.Nodup) (hn : ns.length ≤ 3) {f g : Say} (hf : f.In ns) (hg : g.In ns) {d : Int} {p : Vec} (hd : 0 < d) (hp : OnGrid ns.length d p) (hpart : PartsAt ns f g d p) :
    ∃ D q, 1 ≤ D ∧ D ≤ detB (mOccs ns f g) ∧ OnGrid ns.length D q ∧ PartsAt ns f g D q := by
  obtain ⟨F, Cs, h⟩ := lin nd hp.1 (d := d) f hf
  obtain ⟨G, Ds, k⟩ := lin nd hp.1 (d := d) g hg
  have hm : ∀ i, i < ns.length → (mOccs ns f g).getD i 0 = mOcc f g ((ns[i]?).getD default) := fun i hi => by
    simp only [mOccs, List.getD_eq_getElem?_getD, List.getElem?_map]
    rw [List.getElem?_eq_getElem hi]
    rfl
  have o1 : ∀ i, i < ns.length → (occs ns f).getD i 0 ≤ (mOccs ns f g).getD i 0 := fun i hi => by
    rw [hm i hi, occs_getD, List.getElem?_eq_getElem hi]
    simp only [Option.map_some, Option.getD_some, mOcc]
    omega
  have o2 : ∀ i, i < ns.length → (occs ns g).getD i 0 ≤ (mOccs ns f g).getD i 0 := fun i hi => by
    rw [hm i hi, occs_getD, List.getElem?_eq_getElem hi]
    simp only [Option.map_some, Option.getD_some, mOcc]
    omega
  have o3 : ∀ i, i < ns.length → 1 ≤ (mOccs ns f g).getD i 0 := fun i hi => by
    rw [hm i hi]
    simp only [mOcc]
    omega
  let L : List Vec := Cs ++ (Ds ++ faces ns.length)
  have fl : ∀ c ∈ L, c.length = ns.length + 1 := fun c hc => by
    rcases List.mem_append.mp hc with z | z
    · exact h.cl c z
    · rcases List.mem_append.mp z with z | z
      · exact k.cl c z
      · exact face_length z
  have bd : ∀ c ∈ L, Bd ns.length (mOccs ns f g) c := fun c hc => by
    rcases List.mem_append.mp hc with z | z
    · exact bd_mono (h.cb c z) o1
    · rcases List.mem_append.mp z with z | z
      · exact bd_mono (k.cb c z) o2
      · exact face_bd z o3
  have fc : ∀ c ∈ faces ns.length, c ∈ L := fun c hc => List.mem_append_right _ (List.mem_append_right _ hc)
  have getm : ∀ {q : Vec} {D : Int} (i : Nat), OnGrid ns.length D q → i < ns.length → 0 ≤ q.getD i 0 ∧ q.getD i 0 ≤ D := fun {q D} i hq hi => by
    rw [List.getD_eq_getElem?_getD, List.getElem?_eq_getElem (by rw [hq.1]; exact hi)]
    exact hq.2 _ (List.getElem_mem _)
  have hpt : Pt ns.length L d p := ⟨hd, hp.1, fun c hc => by
    rcases List.mem_append.mp hc with z | z
    · exact h.pos c z
    · rcases List.mem_append.mp z with z | z
      · exact k.pos c z
      · obtain ⟨i, hi, e | e⟩ := mem_faces.mp z
        · subst e; rw [dot_faceLo]; exact (getm i hp hi).1
        · subst e; rw [dot_faceHi]; have := (getm i hp hi).2; omega⟩
  have ef : ∀ e q, q.length = ns.length → (∀ c ∈ L, 0 ≤ dot c (e :: q)) → val (tab ns q) e f = dot F (e :: q) ∧ val (tab ns q) e g = dot G (e :: q) := fun e q hq hc =>
    ⟨h.eq e q hq fun c z => hc c (List.mem_append_left _ z), k.eq e q hq fun c z => hc c (List.mem_append_right _ (List.mem_append_left _ z))⟩
  obtain ⟨v1, v2⟩ := ef d p hp.1 hpt.all
  have hlen : F.length = G.length := by rw [h.fl, k.fl]
  -- a goal that is below 0 at the point
  have goal : ∃ g' : Vec, dot g' (d :: p) < 0 ∧ ∀ x, dot g' x < 0 → dot F x ≠ dot G x := by
    have hne : dot F (d :: p) ≠ dot G (d :: p) := by
      unfold PartsAt at hpart
      rw [v1, v2] at hpart
      exact hpart
    by_cases c : dot F (d :: p) < dot G (d :: p)
    · refine ⟨ad F (negF G), ?_, fun x hx => ?_⟩
      · rw [dot_ad_left _ _ _ (by rw [negF_len]; exact hlen), negF_dot]; omega
      · rw [dot_ad_left _ _ _ (by rw [negF_len]; exact hlen), negF_dot] at hx; omega
    · refine ⟨ad G (negF F), ?_, fun x hx => ?_⟩
      · rw [dot_ad_left _ _ _ (by rw [negF_len]; exact hlen.symm), negF_dot]; omega
      · rw [dot_ad_left _ _ _ (by rw [negF_len]; exact hlen.symm), negF_dot] at hx; omega
  obtain ⟨g', hg1, hg2⟩ := goal
  obtain ⟨e, q, h1, h2, h3⟩ := lp fc g' _ d p hpt (Nat.le_refl _)
  have hneg : dot g' (e :: q) < 0 := by
    refine Classical.byContradiction fun z => ?_
    have a := Int.mul_nonneg (show 0 ≤ dot g' (e :: q) by omega) (Int.le_of_lt hd)
    have b := Int.mul_pos (show 0 < - dot g' (d :: p) by omega) h1.pos
    rw [Int.neg_mul] at b
    omega
  obtain ⟨t, t1, t2, D, r, C⟩ := basic_cram hn fl h2 (m := mOccs ns f g) (by simp [mOccs]) bd
  have er := C.eq e q h1.len fun a ha => (t2 a ha).2
  -- the grid's row
  have main : ∀ (D' : Int) (r' : Vec), 0 < D' → D' ≤ detB (mOccs ns f g) → r'.length = ns.length → sc D' q = sc e r' → ∃ D q, 1 ≤ D ∧ D ≤ detB (mOccs ns f g) ∧ OnGrid ns.length D q ∧ PartsAt ns f g D q := fun D' r' dp db rl es => by
    have hc : ∀ c ∈ L, 0 ≤ dot c (D' :: r') := fun c hc => by
      have a := h1.all c hc
      have b := prop_dot (d := e) (e := D') (p := q) (q := r') es c
      refine Classical.byContradiction fun z => ?_
      have x := Int.mul_pos h1.pos (show 0 < - dot c (D' :: r') by omega)
      rw [Int.mul_neg] at x
      have y := Int.mul_nonneg (Int.le_of_lt dp) a
      omega
    refine ⟨D', r', by omega, db, ⟨rl, fun y hy => ?_⟩, ?_⟩
    · obtain ⟨i, hi⟩ := List.getElem?_of_mem hy
      have hi' := (List.getElem?_eq_some_iff.mp hi).1
      have a := hc (faceLo ns.length i) (fc _ (mem_faces.mpr ⟨i, by rw [← rl]; exact hi', .inl rfl⟩))
      have b := hc (faceHi ns.length i) (fc _ (mem_faces.mpr ⟨i, by rw [← rl]; exact hi', .inr rfl⟩))
      rw [dot_faceLo, List.getD_eq_getElem?_getD, hi, Option.getD_some] at a
      rw [dot_faceHi, List.getD_eq_getElem?_getD, hi, Option.getD_some] at b
      omega
    · obtain ⟨w1, w2⟩ := ef D' r' rl hc
      unfold PartsAt
      rw [w1, w2]
      refine hg2 _ ?_
      have b := prop_dot (d := e) (e := D') (p := q) (q := r') es g'
      refine Classical.byContradiction fun z => ?_
      have x := Int.mul_nonneg (Int.le_of_lt h1.pos) (show 0 ≤ dot g' (D' :: r') by omega)
      have y := Int.mul_pos dp (show 0 < - dot g' (e :: q) by omega)
      rw [Int.mul_neg] at y
      omega
  by_cases hD : 0 < D
  · exact main D r hD C.hi C.ql er
  · have nz := C.nz
    have lo := C.lo
    refine main (-D) (sc (-1) r) (by omega) (by omega) (by simp [C.ql]) ?_
    apply vec_ext (by simp [h1.len, C.ql])
    intro i
    have := congrArg (fun v : Vec => v.getD i 0) er
    simp only [getD_sc] at this
    rw [getD_sc, getD_sc, getD_sc]
    grind
end Hf


/-! ## Hk5 -/
set_option Elab.async false
set_option linter.all false
set_option maxRecDepth 100000
set_option maxHeartbeats 4000000
namespace Hf
open PySem PySem.Spec PyProof.Rows L2 RZ
section
variable {α β γ δ ε : Type} {R : Rl α} {S : Rl β} {T : Rl γ} {U : Rl δ} {V1 : Rl ε}
theorem sp1_len {pre : α → Prop} {f : α → β} (vs : List V) (H : Hp) (Q : VK) (E : XK) (h : sp1 R pre S f vs H Q E) : vs.length = 1 := by obtain ⟨_, _, rfl, _⟩ := h; rfl
theorem sp2_len {pre : α → β → Prop} {f : α → β → γ} (vs : List V) (H : Hp) (Q : VK) (E : XK) (h : sp2 R S pre T f vs H Q E) : vs.length = 2 := by obtain ⟨_, _, _, _, rfl, _⟩ := h; rfl
theorem sp3_len {pre : α → β → γ → Prop} {f : α → β → γ → δ} (vs : List V) (H : Hp) (Q : VK) (E : XK) (h : sp3 R S T pre U f vs H Q E) : vs.length = 3 := by obtain ⟨_, _, _, _, _, _, rfl, _⟩ := h; rfl
theorem sp4_len {pre : α → β → γ → δ → Prop} {f : α → β → γ → δ → ε} (vs : List V) (H : Hp) (Q : VK) (E : XK) (h : sp4 R S T U pre V1 f vs H Q E) : vs.length = 4 := by obtain ⟨_, _, _, _, _, _, _, _, rfl, _⟩ := h; rfl
end
section
variable {P : Program} {w : World} {K : PySem.W.Frag} {mg : Str → Option Value} {base : Heap}
/-- a promise that is never asked -/
theorem Df.vac {CX : CXT} {x : Str} {st : Stmt} {ps : List Str} {sp : Sp} {k : Nat} (D : Df K mg x st)
    (hb : ∀ (kV doc pm : Value) (an : Option Addr) (cdv ct : Value) (us : List Value), us.length = ps.length → bindArgs (PySem.W.fnOf x x (defArgs st) (defBody st) (defScope st) .none kV doc pm an cdv ct) ⟨us, []⟩ = pure (ps.zip us))
    (no : ∀ vs H Q E, ¬ sp vs H Q E) : CalX P w K mg base CX x k ps sp := by
  obtain ⟨f, fd, F, hm⟩ := D.ex
  exact ⟨f, fd, ⟨fun vs H Q E h => absurd h (no vs H Q E), fun A outer s H args us vs Q E _ _ _ _ h => absurd h (no vs H Q E)⟩, hm, F.kp, F.bindsN hb⟩
end
/-- a constant of the module: a tuple -/
structure Ct (K : PySem.W.Frag) (mg : Str → Option Value) (x : Str) (vs : List V) : Prop where
  ex : ∃ a : Addr, mg x = some (.ref a) ∧ ∀ H : Hp, SqT K H a vs
theorem ct_strs {K : PySem.W.Frag} {a : Addr} {xs : List Str} (h : ∀ H : Hp, SqT K H a (xs.map V.str)) (H : Hp) : rT K rStr H (.ref a) xs := ⟨a, _, rfl, h H, paired_map (F := rStr H) (g := V.str) (fun _ => rfl) xs⟩
theorem ct_ints {K : PySem.W.Frag} {a : Addr} {xs : List Int} (h : ∀ H : Hp, SqT K H a (xs.map V.int)) (H : Hp) : rT K rInt H (.ref a) xs := ⟨a, _, rfl, h H, paired_map (F := rInt H) (g := V.int) (fun _ => rfl) xs⟩
section
variable {K : PySem.W.Frag} {σ : L2.St} {H H' : Hp} {ta tb te tc : TE} {t u : TT} {v : V} {α β γ δ ε : Type} {R : Rl α} {S : Rl β} {T : Rl γ}
theorem inV_strs (x : Str) : ∀ xs : List Str, inV (.str x) (xs.map V.str) = decide (x ∈ xs)
  | [] => by simp [inV]
  | y :: ys => by
    have := inV_strs x ys
    unfold inV at this ⊢
    rw [List.map_cons, List.any_cons, this]
    show (y == x || decide (x ∈ ys)) = _
    by_cases e : y = x
    · subst e; simp
    · have e1 : (y == x) = false := by simpa using e
      have e2 : ¬ x = y := fun z => e z.symm
      rw [e1]; simp [e2]
theorem flat_strs : ∀ xs : List Str, (xs.map V.str).all flatV = true
  | [] => rfl
  | y :: ys => by rw [List.map_cons, List.all_cons, flat_strs ys]; rfl
theorem ev_inT {x : Str} {xs : List Str} (ha : EvR ta σ H rStr x) (hb : EvR tb σ H (rT K rStr) xs) : EvR (tOp (rIn K false) ta tb) σ H rBl (decide (x ∈ xs)) :=
  ev_op ha hb fun v u H1 _ r1 ⟨a, us, h1, h2, h3⟩ Q q => by
    cases r1
    rw [h3.hstrs] at h2
    exact ⟨a, _, h1, .inr h2, rfl, flat_strs xs, q _ H1 (Same.refl H1) (by rw [inV_strs]; rfl)⟩
theorem ev_niT {x : Str} {xs : List Str} (ha : EvR ta σ H rStr x) (hb : EvR tb σ H (rT K rStr) xs) : EvR (tOp (rIn K true) ta tb) σ H rBl (!decide (x ∈ xs)) :=
  ev_op ha hb fun v u H1 _ r1 ⟨a, us, h1, h2, h3⟩ Q q => by
    cases r1
    rw [h3.hstrs] at h2
    exact ⟨a, _, h1, .inr h2, rfl, flat_strs xs, q _ H1 (Same.refl H1) (by rw [inV_strs]; rfl)⟩
theorem ev_inL {x : Str} {xs : List Str} (ha : EvR ta σ H rStr x) (hb : EvR tb σ H (rL rStr) xs) : EvR (tOp (rIn K false) ta tb) σ H rBl (decide (x ∈ xs)) :=
  ev_op ha hb fun v u H1 _ r1 ⟨a, us, h1, h2, h3⟩ Q q => by
    cases r1
    rw [h3.hstrs] at h2
    exact ⟨a, _, h1, .inl (SqL.of h2), rfl, flat_strs xs, q _ H1 (Same.refl H1) (by rw [inV_strs]; rfl)⟩
theorem ev_niL {x : Str} {xs : List Str} (ha : EvR ta σ H rStr x) (hb : EvR tb σ H (rL rStr) xs) : EvR (tOp (rIn K true) ta tb) σ H rBl (!decide (x ∈ xs)) :=
  ev_op ha hb fun v u H1 _ r1 ⟨a, us, h1, h2, h3⟩ Q q => by
    cases r1
    rw [h3.hstrs] at h2
    exact ⟨a, _, h1, .inl (SqL.of h2), rfl, flat_strs xs, q _ H1 (Same.refl H1) (by rw [inV_strs]; rfl)⟩
end
/-! ### sayings: what their front words tell -/
def Say.isMk : Say → Bool
  | .mk _ _ _ => true
  | _ => false
theorem hd_unk {s : Say} (h : decide (s.hd = ("unknown" : Str)) = true) : ∃ x, s = .unk x := by
  have e := of_decide_eq_true h
  cases s with
  | unk x => exact ⟨x, rfl⟩
  | yes => exact absurd e (by decide)
  | no => exact absurd e (by decide)
  | neg s => exact absurd (show ("not" : Str) = "unknown" from e) (by decide)
  | mk m s t => exact absurd (show m.s = "unknown" from e) (by cases m <;> decide)
theorem hd_not_unk {s : Say} (h : decide (s.hd = ("unknown" : Str)) = false) : ∀ x, s ≠ .unk x := fun x e => by
  subst e
  exact absurd rfl (of_decide_eq_false h)
theorem hd_pairs (s : Say) : decide (s.hd ∈ pairsL) = s.isMk := by
  cases s with
  | unk x => show decide (("unknown" : Str) ∈ pairsL) = false; decide
  | yes => show decide (("yes" : Str) ∈ pairsL) = false; decide
  | no => show decide (("no" : Str) ∈ pairsL) = false; decide
  | neg s => show decide (("not" : Str) ∈ pairsL) = false; decide
  | mk m s t => show decide (m.s ∈ pairsL) = true; cases m <;> decide
def Say.ht : Say → Nat
  | .yes => 0
  | .no => 0
  | .unk _ => 0
  | .neg s => s.ht + 1
  | .mk _ s t => max s.ht t.ht + 1
theorem parts_ht {s p : Say} (h : p ∈ s.parts) : p.ht < s.ht := by
  cases s with
  | unk x => simp [Say.parts] at h
  | yes => simp [Say.parts] at h
  | no => simp [Say.parts] at h
  | neg s => simp [Say.parts] at h; subst h; exact Nat.lt_succ_self _
  | mk m s t =>
    simp [Say.parts] at h
    rcases h with rfl | rfl
    · show _ < max _ _ + 1; omega
    · show _ < max _ _ + 1; omega
theorem parts_len (s : Say) : s.parts.length ≤ 2 := by cases s <;> simp [Say.parts]
theorem marks_parts (s : Say) : (if s.isMk = true then (1 : Int) else 0) + (s.parts.map fun p => (p.marks : Int)).sum = (s.marks : Int) := by
  cases s <;> simp [Say.isMk, Say.parts, Say.marks]
theorem occ_parts {x : Str} {s : Say} (h : ∀ y, s ≠ .unk y) : (s.parts.map fun p => (p.occ x : Int)).sum = (s.occ x : Int) := by
  cases s with
  | unk y => exact absurd rfl (h y)
  | _ => simp [Say.parts, Say.occ]
/-- the unknowns, each once, in the order of their first occurrences -/
def Say.note : Say → List Str → List Str
  | .yes, l => l
  | .no, l => l
  | .unk x, l => if x ∈ l then l else l ++ [x]
  | .neg s, l => s.note l
  | .mk _ s t, l => t.note (s.note l)
def unks (ss : List Say) : List Str := ss.foldl (fun l s => s.note l) []
theorem note_parts {s : Say} (h : ∀ y, s ≠ .unk y) (l : List Str) : s.parts.foldl (fun l p => p.note l) l = s.note l := by
  cases s with
  | unk y => exact absurd rfl (h y)
  | _ => rfl
theorem note_len : ∀ (s : Say) (l : List Str), (s.note l).length ≤ l.length + s.leaves
  | .yes, l => by simp [Say.note]
  | .no, l => by simp [Say.note]
  | .unk x, l => by
    simp only [Say.note]
    split
    · simp
    · simp [Say.leaves]
  | .neg s, l => note_len s l
  | .mk m s t, l => by
    have a := note_len s l
    have b := note_len t (s.note l)
    simp only [Say.note, Say.leaves]
    omega
end Hf


/-! ## Hk6 -/
set_option Elab.async false
set_option linter.all false
set_option maxRecDepth 100000
set_option maxHeartbeats 4000000
namespace Hf
open PySem PySem.Spec PyProof.Rows L2 RZ
/-! ### a tuple * k, k from 0 on -/
theorem tuple_mul1 (l : Addr) (items : Array Value) (n : Nat) (sl : Array (Option Value)) (dd : Option Addr) (u : Tok) :
    Meets (Builtin.«tuple.__mul__» ⟨[.ref l, .int 1 u], []⟩) (fun _ R s => s.heap.get? l = some { cls := .type "tuple", dict := dd, data := .seq items n, slots := sl } ∧ R (.ok (.ret (Value.ref l))) s) :=
  .of_wp fun prog w A R s h => by
    obtain ⟨hp, g, d, tk, os⟩ := s
    obtain ⟨hl, h⟩ := h
    have f1 := AutoSeq1.idx_int
    have c0 : (decide ((1 : Int) < -(2 ^ 63)) || decide ((1 : Int) ≥ 2 ^ 63)) = false := by decide
    have c1 : (items.isEmpty || (1 : Int) == 1) = true := by simp
    wp_walk using wpAny_loadPart' hl
    repeat (first
      | (refine wpAny_ite_false (decide_eq_false (by rw [c0]; exact Bool.false_ne_true)) ?_; wp_walk using wpAny_loadPart' hl)
      | (refine wpAny_ite_true (decide_eq_true c1) ?_; wp_walk using wpAny_loadPart' hl))
    exact ⟨_, rfl, h⟩
theorem tuple_mul0 (l : Addr) (items : Array Value) (n : Nat) (dd : Option Addr) (sl : Array (Option Value)) (x : Int) (u : Tok) (c0 : (decide (x < -(2 ^ 63)) || decide (x ≥ 2 ^ 63)) = false) (c1 : (items.isEmpty || x == 1) = false) (c2 : (decide (x ≤ 0) || items.isEmpty) = true) :
    Meets (Builtin.«tuple.__mul__» ⟨[.ref l, .int x u], []⟩) (fun _ R s => s.heap.get? l = some { cls := .type "tuple", dict := dd, data := .seq items n, slots := sl } ∧
      R (.ok (.ret (Value.ref s.heap.objs.size))) { s with heap := s.heap.push { cls := Value.type "tuple", data := Data.seq #[] }, toks := s.toks }) :=
  .of_wp fun prog w A R s h => by
    obtain ⟨hp, g, d, tk, os⟩ := s
    obtain ⟨hl, h⟩ := h
    have f1 := AutoSeq1.idx_int
    wp_walk using wpAny_loadPart' hl
    repeat (first
      | (refine wpAny_ite_false (decide_eq_false (by rw [c0]; exact Bool.false_ne_true)) ?_; wp_walk using wpAny_loadPart' hl)
      | (refine wpAny_ite_false (decide_eq_false (by rw [c1]; exact Bool.false_ne_true)) ?_; wp_walk using wpAny_loadPart' hl)
      | (refine wpAny_ite_true (decide_eq_true c2) ?_; wp_walk using wpAny_loadPart' hl))
    exact ⟨_, rfl, h⟩
def rRepA (K : PySem.W.Frag) : R2 := fun x y H Q => ∃ l k xs, x = .ref l ∧ y = .int k ∧ SqT K H l xs ∧ xs ≠ [] ∧ 0 ≤ k ∧ k ≤ 1000 ∧ xs.length ≤ 1000 ∧ (k = 1 → Q (.ref l) H) ∧ (k ≠ 1 → ∀ p, H p = none → Q (.ref p) (upd H p (.tup (List.replicate k.toNat xs).flatten)))
theorem op_repA {X : Cx} : OpR X (binaryOp .Mult) (rRepA X.K) := by
  intro pins s σ H x y v u Q I rx ry h
  obtain ⟨l, k, xs, rfl, rfl, hT, hne, h0, h2, hz, q1, q⟩ := h
  by_cases hk : 2 ≤ k
  · exact op_repT pins s σ H _ _ v u Q I rx ry ⟨l, k, xs, rfl, rfl, hT, hne, hk, h2, hz, q (by omega)⟩
  cases rx
  obtain ⟨t, rfl⟩ := ry
  obtain ⟨its, r, ⟨⟨cls, dd, data, sl⟩, ho, hc, n, hd⟩, hs⟩ := I.tuple hT
  simp only at hc hd
  subst hc hd
  have hn : its ≠ [] := fun e => hne (by
    have := r.length
    rw [e] at this
    exact List.eq_nil_of_length_eq_zero this)
  have hi : its.toArray.isEmpty = false := by
    cases its with
    | nil => exact absurd rfl hn
    | cons a b => rfl
  by_cases hk1 : k = 1
  · subst hk1
    refine wpAny_binaryOp_repeat_ref (T := "tuple") (U := "int") (by decide) ⟨_, ho, rfl⟩ (fun s' => typeIs_int s' 1 t) noFill_tuple_mul F.fills_int_mul F.slot_int_rmul repeat_tuple F.slot_int_index.lookup
      (call_meets F.slot_int_rmul (typeIs_int s 1 t) F.entry_int_rmul (F.args_int_rmul_2 _ _) (int_rmul_tuple 1 t l its.toArray n dd sl)
        ⟨ho, rfl, ⟨_, ho, rfl⟩, call_meets F.slot_tuple_mul ⟨_, ho, rfl⟩ F.entry_tuple_mul (F.args_tuple_mul_2 _ _) (tuple_mul1 l its.toArray n sl dd t) ⟨ho, ?_⟩⟩)
    exact ⟨.ref l, H, I, rfl, q1 rfl⟩
  · have hk0 : k = 0 := by omega
    subst hk0
    have c1 : (its.toArray.isEmpty || (0 : Int) == 1) = false := by rw [hi]; rfl
    have c2 : (decide ((0 : Int) ≤ 0) || its.toArray.isEmpty) = true := by rw [hi]; rfl
    refine wpAny_binaryOp_repeat_ref (T := "tuple") (U := "int") (by decide) ⟨_, ho, rfl⟩ (fun s' => typeIs_int s' 0 t) noFill_tuple_mul F.fills_int_mul F.slot_int_rmul repeat_tuple F.slot_int_index.lookup
      (call_meets F.slot_int_rmul (typeIs_int s 0 t) F.entry_int_rmul (F.args_int_rmul_2 _ _) (int_rmul_tuple 0 t l its.toArray n dd sl)
        ⟨ho, rfl, ⟨_, ho, rfl⟩, call_meets F.slot_tuple_mul ⟨_, ho, rfl⟩ F.entry_tuple_mul (F.args_tuple_mul_2 _ _) (tuple_mul0 l its.toArray n dd sl 0 t (by decide) c1 c2) ⟨ho, ?_⟩⟩)
    exact ⟨.ref s.heap.objs.size, _, I.laid (t' := s.toks) (o := .tup []) (fun b ob q => Heap.get?_push_of_some _ q) (Nat.le_refl _) ⟨Nat.zero_le _, [], .nil, IsTup.new _ _⟩, rfl, q (by decide) _ (I.hok.fresh (Nat.le_refl _))⟩
/-! ### a list == [], != [] -/
def rEq0 (K : PySem.W.Frag) : R2 := fun x y H Q => ∃ l b xs, x = .ref l ∧ y = .ref b ∧ SqL K H l xs ∧ SqL K H b [] ∧ Q (.bl xs.isEmpty) H
def rNe0 (K : PySem.W.Frag) : R2 := fun x y H Q => ∃ l b xs, x = .ref l ∧ y = .ref b ∧ SqL K H l xs ∧ SqL K H b [] ∧ Q (.bl (!xs.isEmpty)) H
theorem op_eq0 {X : Cx} (hu : X.A.units < cLine) : OpR X (compareOp .Eq) (rEq0 X.K) := by
  intro pins s σ H x y v u Q I rx ry h
  obtain ⟨l, b, xs, rfl, rfl, h1, h2, q⟩ := h
  cases rx
  cases ry
  obtain ⟨its, r, pl, _⟩ := I.list h1
  obtain ⟨its2, r', pl2, _⟩ := I.list h2
  cases r'
  cases r with
  | nil => exact SeqAt.eq_listAt (e := fun _ => true) pl.isList pl2.isList rfl hu (fun j h1 => absurd h1 (by simp)) ⟨.bl true, H, I, rfl, q⟩
  | cons a t => exact SeqAt.eq_list_lengthsAt pl.isList pl2.isList (by simp) hu ⟨.bl false, H, I, rfl, q⟩
theorem op_ne0 {X : Cx} (hu : X.A.units < cLine) : OpR X (compareOp .NotEq) (rNe0 X.K) := by
  intro pins s σ H x y v u Q I rx ry h
  obtain ⟨l, b, xs, rfl, rfl, h1, h2, q⟩ := h
  cases rx
  cases ry
  obtain ⟨its, r, pl, _⟩ := I.list h1
  obtain ⟨its2, r', pl2, _⟩ := I.list h2
  cases r'
  cases r with
  | nil => exact SeqAt.RcNeAt.lists (e := fun _ => true) pl.isList pl2.isList rfl hu (fun j h1 => absurd h1 (by simp)) _ _ _ _ ⟨.bl false, H, I, rfl, q⟩
  | cons a t => exact SeqAt.RcNeAt.lists_lengths pl.isList pl2.isList (by simp) hu _ _ _ _ ⟨.bl true, H, I, rfl, q⟩
/-! ### max of three ints -/
theorem pk_max3 {X : Cx} {p pos : Pos} {e : Expr} {es : List Expr} {t : TA} (T : Bt X.mg) (ha : PA X (e :: es) t) (hc : X.calm = true := by rfl) (hg : Gl X "max" := by rfl) (he : starEach (e :: es) X.env = (false, eval e X.env) :: starEach es X.env := by rfl) (hpl : (backTo pos (starEach es X.env)).any (·.1) = false := by rfl) :
    PE X (.Call (.Name "max" p) (e :: es) [] pos) (tCB (rNuC3 nuMax3) t) := pe_callB (call_max3Nu hc) hg T.max (by decide +kernel) ha (by decide) (by decide) he hpl
section
variable {K : PySem.W.Frag} {σ : L2.St} {H H' : Hp} {ta tb te tc : TE} {α : Type} {R : Rl α}
theorem ev_max3 {i j k : Int} (h : EvR ta σ H rInt i) (h' : EvR tb σ H rInt j) (h'' : EvR tc σ H rInt k) : EvR (tCB (rNuC3 nuMax3) (tCons ta (tCons tb (tCons tc tNil)))) σ H rInt (max i (max j k)) :=
  ev_cb (ea_cons h (ea_cons h' (ea_cons h'' ea_nil))) fun vs H1 _ ⟨v, r, e1, h1, v', r', e2, h2, v'', r'', e3, h3, e4⟩ Q q => by
    subst e4; subst e3; subst e2; subst e1
    cases h1; cases h2; cases h3
    refine ⟨.int i, .int j, .int k, .int (max i (max j k)), rfl, ?_, q _ H1 (Same.refl H1) rfl⟩
    have e1 : ∀ a b : Int, nuMax2 (.int a) (.int b) = some (.int (max a b)) := fun a b => by
      show (some (decide (a < b))).map (fun c => if c = true then V.int b else V.int a) = _
      by_cases c : a < b
      · simp [c]; omega
      · simp [c]; omega
    unfold nuMax3
    rw [e1]
    show nuMax2 _ _ = _
    rw [e1]
    congr 2
    omega
theorem et_eq0 [Mo R] {xs : List α} (ha : EvR ta σ H (rL R) xs) (hb : EvR tb σ H (rL R) []) : EvR (tOp (rEq0 K) ta tb) σ H rBl xs.isEmpty :=
  ev_op ha hb fun v u H1 _ ⟨a, vs, h1, h2, h3⟩ ⟨b, us, g1, g2, g3⟩ Q q => by
    cases g3
    exact ⟨a, b, vs, h1, g1, SqL.of h2, SqL.of g2, q _ H1 (Same.refl H1) (by cases h3 <;> rfl)⟩
theorem et_ne0 [Mo R] {xs : List α} (ha : EvR ta σ H (rL R) xs) (hb : EvR tb σ H (rL R) []) : EvR (tOp (rNe0 K) ta tb) σ H rBl (!xs.isEmpty) :=
  ev_op ha hb fun v u H1 _ ⟨a, vs, h1, h2, h3⟩ ⟨b, us, g1, g2, g3⟩ Q q => by
    cases g3
    exact ⟨a, b, vs, h1, g1, SqL.of h2, SqL.of g2, q _ H1 (Same.refl H1) (by cases h3 <;> rfl)⟩
/-- (c,) * k -/
theorem ev_rep [Mt R] {x : α} {k : Nat} (ha : EvR ta σ H (rT K R) [x]) (hb : EvR tb σ H rInt (k : Int)) (hk : k ≤ 1000) : EvR (tOp (rRepA K) ta tb) σ H (rT K R) (List.replicate k x) :=
  ev_op ha hb fun v u H1 _ r1 r2 Q q => by
    obtain ⟨a, vs, h1, h2, h3⟩ := r1
    have hl := h3.hlen
    refine ⟨a, k, vs, h1, r2, h2, (fun z => by subst z; simp at hl), by omega, by omega, by rw [hl]; exact Nat.le_of_lt_succ (by simp), fun z => ?_, fun z p hp => ?_⟩
    · have : k = 1 := by omega
      subst this
      subst h1
      exact q _ H1 (Same.refl H1) ⟨a, vs, rfl, h2, h3⟩
    · have e := Same.hnew (o := .tup (List.replicate ((k : Int)).toNat vs).flatten) hp
      refine q _ _ e ⟨p, _, rfl, SqT.of upd_same, ?_⟩
      have : ∀ m : Nat, Paired (R (upd H1 p (.tup (List.replicate ((k : Int)).toNat vs).flatten))) (List.replicate m vs).flatten (List.replicate m x) := fun m => by
        induction m with
        | zero => exact .nil
        | succ m ih =>
          rw [List.replicate_succ, List.replicate_succ, List.flatten_cons]
          exact (h3.himp fun _ _ z => Mt.up (Le.of e) z).happ ih
      have hk : ((k : Int)).toNat = k := by omega
      have t := this k
      rw [hk] at t ⊢
      exact t
end
end Hf


/-! ## Fa1 -/
set_option Elab.async false
set_option linter.all false
set_option maxRecDepth 100000
set_option maxHeartbeats 4000000
local macro_rules | `(tactic| walk_at "fact") => `(tactic| first | assumption | exact rfl | (refine Mo.up (by assumption) ?_; walk_at "fact"))
local macro_rules | `(tactic| walk_at "same") => `(tactic| first | exact Same.refl _ | assumption | (refine Same.trans ?_ (by assumption); walk_at "same"))
local macro_rules | `(tactic| walk_at "blk") => `(tactic| first | exact rfl | decide +kernel)

namespace Hf
open PySem PySem.Spec PyProof.Rows L2 RZ
/-- all but what stands at l is as it was -/
def SameB (l : Addr) (H H' : Hp) : Prop := ∀ b o, b ≠ l → H b = some o → H' b = some o
theorem SameB.le {l : Addr} {H H' : Hp} {u : HO} (h : SameB l H H') (hl : H l = some u) (hu : ¬ Imm u) : Le H H' := fun b o e i => by
  refine h b o (fun z => ?_) e
  subst z
  rw [hl] at e
  cases e
  exact hu i
theorem SameB.refl {l : Addr} (H : Hp) : SameB l H H := fun _ _ _ e => e
theorem SameB.trans {l : Addr} {H H1 H2 : Hp} (a : SameB l H H1) (b : SameB l H1 H2) : SameB l H H2 := fun c o n e => b c o n (a c o n e)
theorem SameB.of {l : Addr} {H H' : Hp} (h : Same H H') : SameB l H H' := fun b o _ e => h b o e
theorem SameB.upd {l : Addr} {H : Hp} {u : HO} : SameB l H (upd H l u) := fun b o n e => by rw [upd_ne n]; exact e
section
variable {P : Program} {w : World} {K : PySem.W.Frag} {mg : Str → Option Value} {base : Heap}
/-! ### parts_of -/
def spParts (K : PySem.W.Frag) : Sp := sp1 (rSy K) (fun _ => True) (rT K (rSy K)) Say.parts
theorem sc_parts_of : FnScope (["saying"] : List Str) (["saying"] : List Str) (defScope (top 7)) := ⟨rfl, rfl, rfl, by decide +kernel, rfl, by decide +kernel, by decide +kernel⟩
theorem ok_parts_of (D : Df K mg "parts_of" (top 7)) : Cal P w K mg base "parts_of" 1 ["saying"] (spParts K) := by
  refine D.ok sc_parts_of (fun _ _ _ _ _ _ us hl => match us, hl with | [_], _ => rfl) (sp1_len) (fun f cdv A outer s H vs Q E hr h => ?_)
  have nd := sc_parts_of.nd
  refine ⟨_, (pss_one (ps_ret (pe_ifExp (pt_cmpR op_eq (pe_ix ix_tup (pv 0) pe_int (fun _ _ => rfl)) pe_str (nomark _)) (pe_tup pa_nil) (pe_slice sl_tupA (pv 0) (po_some pe_int) po_none)))), ?_⟩
  obtain ⟨v, x, rfl, h, _, q⟩ := h
  refine s_ret (R := rT K (rSy K)) (ev_if' (et_test (ev_eqS (ev_hd (ev_var rfl h)) ev_str)) (fun c => ?_) (fun c => ?_)) (fun v H' e r => q v H' e r)
  · obtain ⟨y, rfl⟩ := hd_unk c
    exact ev_tup ei_nil (Nat.zero_le _)
  · exact ev_rest (ev_var rfl h) (hd_not_unk c)
/-! ### marks_in -/
def spMarks (K : PySem.W.Frag) (n : Nat) : Sp := sp1 (rSy K) (fun s => s.ht < n) rInt (fun s => (s.marks : Int))
theorem sc_marks_in : FnScope (["saying", "part"] : List Str) (["saying"] : List Str) (defScope (top 8)) := ⟨rfl, rfl, rfl, by decide +kernel, rfl, by decide +kernel, by decide +kernel⟩
theorem ok_marks_in1 (D : Df K mg "marks_in" (top 8)) (T : Bt mg) (C_parts_of : Cal P w K mg base "parts_of" 1 ["saying"] (spParts K)) (cP : Ct K mg "PAIRS" (pairsL.map V.str)) {n : Nat} (C_marks_in : Cal P w K mg base "marks_in" (n + 1) ["saying"] (spMarks K n)) : Cal P w K mg base "marks_in" (n + 2) ["saying"] (spMarks K (n + 1)) := by
  obtain ⟨aP, g_PAIRS, hP⟩ := cP.ex
  refine D.ok sc_marks_in (fun _ _ _ _ _ _ us hl => match us, hl with | [_], _ => rfl) (sp1_len) (fun f cdv A outer s H vs Q E hr h => ?_)
  have nd := sc_marks_in.nd
  refine ⟨_, (pss_one (ps_ret (pe_op op_add (pe_ifExp (pt_cmpR op_in_seq (pe_ix ix_tup (pv 0) pe_int (fun _ _ => rfl)) (pk_globT g_PAIRS) rfl) pe_int pe_int) (pk_sum T (pa_cons (pe_lc (own := [("part", 1)]) rfl nd (pi_tup (pk_call C_parts_of hr (pa_cons (pv 0) pa_nil))) (blkOk_by (by walk_at "blk")) (fun _ _ _ _ _ => (pg_name (i := 1) nd rfl (by first | exact Or.inl rfl | exact Or.inr rfl))) (fun _ _ _ _ _ => pts_nil) (fun _ _ _ _ _ => (pk_call C_marks_in hr (pa_cons (pv 1) pa_nil)))) pa_nil))))), ?_⟩
  obtain ⟨v, s, rfl, h, hs, q⟩ := h
  refine s_ret (R := rInt) (EvR.to (ev_add (ev_if (x1 := (1 : Int)) (x2 := 0) (et_test (ev_inT (ev_hd (ev_var rfl h)) (ev_c (ct_strs hP H)))) (fun _ => ev_int) (fun _ => ev_int))
    (ev_sum (ev_lc (R := rSy K) (fun s => (s.marks : Int)) (ii_tup (ev_call1 (ev_var rfl h) trivial)) (fun _ _ _ e => Le.of e) (Nat.le_trans (parts_len s) (by decide)) (fun v => rfl)
      (fun x hx v H' e r => ev_call1 (ev_var rfl r) (by have := parts_ht hx; omega))))) ?_) (fun v H' e r => q v H' e r)
  rw [hd_pairs]
  exact marks_parts s
theorem ok_marks_in (D : Df K mg "marks_in" (top 8)) (T : Bt mg) (C_parts_of : Cal P w K mg base "parts_of" 1 ["saying"] (spParts K)) (cP : Ct K mg "PAIRS" (pairsL.map V.str)) : ∀ n, Cal P w K mg base "marks_in" (n + 1) ["saying"] (spMarks K n)
  | 0 => D.vac (fun _ _ _ _ _ _ us hl => match us, hl with | [_], _ => rfl) (fun vs H Q E h => by obtain ⟨_, _, _, _, z, _⟩ := h; omega)
  | n + 1 => ok_marks_in1 D T C_parts_of cP (ok_marks_in D T C_parts_of cP n)
/-! ### occurrences -/
def spOcc (K : PySem.W.Frag) (n : Nat) : Sp := sp2 (rSy K) rStr (fun s _ => s.ht < n) rInt (fun s x => (s.occ x : Int))
theorem sc_occurrences : FnScope (["saying", "name", "part"] : List Str) (["saying", "name"] : List Str) (defScope (top 11)) := ⟨rfl, rfl, rfl, by decide +kernel, rfl, by decide +kernel, by decide +kernel⟩
theorem ok_occurrences1 (D : Df K mg "occurrences" (top 11)) (T : Bt mg) (C_parts_of : Cal P w K mg base "parts_of" 1 ["saying"] (spParts K)) {n : Nat} (C_occurrences : Cal P w K mg base "occurrences" (n + 1) ["saying", "name"] (spOcc K n)) : Cal P w K mg base "occurrences" (n + 2) ["saying", "name"] (spOcc K (n + 1)) := by
  refine D.ok sc_occurrences (fun _ _ _ _ _ _ us hl => match us, hl with | [_, _], _ => rfl) (sp2_len) (fun f cdv A outer s H vs Q E hr h => ?_)
  have nd := sc_occurrences.nd
  refine ⟨_, (pss_cons (ps_if (pt_cmpR op_eq (pe_ix ix_tup (pv 0) pe_int (fun _ _ => rfl)) pe_str (nomark _)) (pss_one (ps_ret (pe_ifExp (pt_cmpR op_eq (pe_ix ix_tup (pv 0) pe_int (fun _ _ => rfl)) (pv 1) (nomark _)) pe_int pe_int))) pss_nil)
    (pss_one (ps_ret (pk_sum T (pa_cons (pe_lc (own := [("part", 2)]) rfl nd (pi_tup (pk_call C_parts_of hr (pa_cons (pv 0) pa_nil))) (blkOk_by (by walk_at "blk")) (fun _ _ _ _ _ => (pg_name (i := 2) nd rfl (by first | exact Or.inl rfl | exact Or.inr rfl))) (fun _ _ _ _ _ => pts_nil) (fun _ _ _ _ _ => (pk_call C_occurrences hr (pa_cons (pv 2) (pa_cons (pv 1) pa_nil))))) pa_nil))))), ?_⟩
  obtain ⟨v, u, s, x, rfl, h, hx, hs, q⟩ := h
  refine q_when (et_test (ev_eqS (ev_hd (ev_var rfl h)) ev_str)) (fun c H1 e1 => ?_) (fun c H1 e1 => ?_)
  · obtain ⟨y, rfl⟩ := hd_unk c
    refine s_ret (R := rInt) (EvR.to (ev_if (x1 := (1 : Int)) (x2 := 0) (et_test (ev_eqS (ev_nm (ev_var rfl (Mo.up (R := rSy K) e1 h))) (ev_var rfl hx))) (fun _ => ev_int) (fun _ => ev_int)) ?_) (fun v H' e r => q v H' (e1.trans e) r)
    simp only [Say.occ]
    by_cases z : y = x
    · rw [if_pos z, if_pos (decide_eq_true z)]; rfl
    · rw [if_neg z, decide_eq_false z]; rfl
  · have nu := hd_not_unk c
    refine s_ret (R := rInt) (EvR.to (ev_sum (ev_lc (R := rSy K) (fun s => (s.occ x : Int)) (ii_tup (ev_call1 (ev_var rfl (Mo.up (R := rSy K) e1 h)) trivial)) (fun _ _ _ e => Le.of e) (Nat.le_trans (parts_len s) (by decide)) (fun v => rfl)
      (fun y hy v H' e r => ev_call2 (ev_var rfl r) (ev_var rfl hx) (by have := parts_ht hy; omega)))) (occ_parts nu)) (fun v H' e r => q v H' (e1.trans e) r)
theorem ok_occurrences (D : Df K mg "occurrences" (top 11)) (T : Bt mg) (C_parts_of : Cal P w K mg base "parts_of" 1 ["saying"] (spParts K)) : ∀ n, Cal P w K mg base "occurrences" (n + 1) ["saying", "name"] (spOcc K n)
  | 0 => D.vac (fun _ _ _ _ _ _ us hl => match us, hl with | [_, _], _ => rfl) (fun vs H Q E h => by obtain ⟨_, _, _, _, _, _, _, z, _⟩ := h; omega)
  | n + 1 => ok_occurrences1 D T C_parts_of (ok_occurrences D T C_parts_of n)
/-! ### _note_unknowns -/
def spNote (K : PySem.W.Frag) (n : Nat) : Sp := fun vs H Q _ => ∃ (v : V) (l : Addr) (s : Say) (found : List Str), vs = [v, .ref l] ∧ rSay K H v s ∧ s.ht < n ∧ H l = some (.lst (found.map V.str)) ∧ found.length + s.leaves ≤ 1000 ∧
  ∀ H', SameB l H H' → H' l = some (.lst ((s.note found).map V.str)) → Q .non H'
theorem spNote_len {n : Nat} (vs : List V) (H : Hp) (Q : VK) (E : XK) (h : spNote K n vs H Q E) : vs.length = 2 := by obtain ⟨_, _, _, _, rfl, _⟩ := h; rfl
theorem sc__note_unknowns : FnScope (["saying", "found", "part"] : List Str) (["saying", "found"] : List Str) (defScope (top 9)) := ⟨rfl, rfl, rfl, by decide +kernel, rfl, by decide +kernel, by decide +kernel⟩
theorem ok_note_unknowns1 (D : Df K mg "_note_unknowns" (top 9)) (T : Bt mg) (C_parts_of : Cal P w K mg base "parts_of" 1 ["saying"] (spParts K)) {n : Nat} (C__note_unknowns : Cal P w K mg base "_note_unknowns" (n + 1) ["saying", "found"] (spNote K n)) : Cal P w K mg base "_note_unknowns" (n + 2) ["saying", "found"] (spNote K (n + 1)) := by
  refine D.ok sc__note_unknowns (fun _ _ _ _ _ _ us hl => match us, hl with | [_, _], _ => rfl) (spNote_len) (fun f cdv A outer s H vs Q E hr h => ?_)
  have nd := sc__note_unknowns.nd
  refine ⟨_, (pss_cons (ps_if (pt_cmpR op_eq (pe_ix ix_tup (pv 0) pe_int (fun _ _ => rfl)) pe_str (nomark _)) (pss_cons (ps_if (pt_cmpR op_notIn_seq (pe_ix ix_tup (pv 0) pe_int (fun _ _ => rfl)) (pv 1) rfl) (pss_one (ps_expr (pe_bm PySem.F.plainAttrs_list PySem.F.slot_list_append PySem.F.type_list_append mt_append (pv 1) (pa_cons (pe_ix ix_tup (pv 0) pe_int (fun _ _ => rfl)) pa_nil)))) pss_nil)
    (pss_one ps_retN)) pss_nil)
    (pss_one (ps_for PassesOwn.never rfl (pi_tup (pk_call C_parts_of hr (pa_cons (pv 0) pa_nil))) (pg_name (i := 2) nd rfl (by first | exact Or.inl rfl | exact Or.inr rfl)) (pss_one (ps_expr (pk_call C__note_unknowns hr (pa_cons (pv 2) (pa_cons (pv 1) pa_nil)))))))), ?_⟩
  obtain ⟨v, l, s, found, rfl, h, hs, hl, hz, q⟩ := h
  have fl : ∀ {H : Hp} {f : List Str}, H l = some (.lst (f.map V.str)) → rL rStr H (.ref l) f := fun hl => ⟨l, _, rfl, hl, paired_map (F := rStr _) (g := V.str) (fun _ => rfl) _⟩
  refine q_when (et_test (ev_eqS (ev_hd (ev_var rfl h)) ev_str)) (fun c H1 e1 => ?_) (fun c H1 e1 => ?_)
  · obtain ⟨y, rfl⟩ := hd_unk c
    refine q_when (et_test (ev_niL (ev_nm (ev_var rfl (Mo.up (R := rSy K) e1 h))) (ev_var rfl (fl (e1 _ _ hl))))) (fun c2 H2 e2 => ?_) (fun c2 H2 e2 => ?_)
    · refine s_append (S := rStr) (y := y) (ev_var (R := rV) rfl rfl) (ev_nm (ev_var rfl (Mo.up (R := rSy K) (e1.trans e2) h))) (fun H' e => ⟨_, e _ _ (e2 _ _ (e1 _ _ hl)), ?_⟩) (fun v vs H3 e3 r h3 => ?_)
      · rw [List.length_map]
        exact Nat.lt_of_le_of_lt (show found.length ≤ 1000 by omega) (by decide)
      · have e : Same H H3 := (e1.trans e2).trans e3
        have : vs = found.map V.str := by
          have := e _ _ hl
          rw [h3] at this
          cases this
          rfl
        subst this
        cases r
        refine q _ ((SameB.of e).trans SameB.upd) ?_
        rw [upd_same]
        simp only [Say.note]
        have nm : ¬ y ∈ found := by simpa using c2
        rw [if_neg nm, List.map_append]
        rfl
    · refine q _ (SameB.of (e1.trans e2)) ?_
      have nm : y ∈ found := by simpa using c2
      simp only [Say.note]
      rw [if_pos nm]
      exact e2 _ _ (e1 _ _ hl)
  · have nu := hd_not_unk c
    refine s_for (I := fun H2 i σ' H' => ∃ x, σ' = [some v, some (.ref l), x] ∧ SameB l H2 H' ∧ H' l = some (.lst (((s.parts.take i).foldl (fun l p => p.note l) found).map V.str)))
      (ii_tup (ev_call1 (ev_var rfl (Mo.up (R := rSy K) e1 h)) trivial)) (fun H2 e2 => ⟨none, rfl, SameB.refl _, e2 _ _ (e1 _ _ hl)⟩) (fun H2 i σ' H' e2 z => ?_) (fun H2 i x σ' H' v' H'' e2 hx z e3 r => ?_) (fun H2 σ' H' e2 z => ?_)
    · obtain ⟨x, _, sb, _⟩ := z
      exact sb.le (e2 _ _ (e1 _ _ hl)) (fun z => z)
    · obtain ⟨x0, rfl, sb, hl'⟩ := z
      refine ⟨_, rfl, _, rfl, ?_⟩
      have hm : x ∈ s.parts := List.mem_of_getElem? hx
      have hlen : ∀ k, ((s.parts.take k).foldl (fun l p => p.note l) found).length + ((s.parts.drop k).map Say.leaves).sum ≤ found.length + s.leaves := fun k => by
        have : ∀ (ps : List Say) (l : List Str), (ps.foldl (fun l p => p.note l) l).length ≤ l.length + (ps.map Say.leaves).sum := fun ps => by
          induction ps with
          | nil => intro l; simp
          | cons p ps ih =>
            intro l
            have a := ih (p.note l)
            have b := note_len p l
            simp only [List.foldl_cons, List.map_cons, List.sum_cons]
            omega
        have a := this (s.parts.take k) found
        have b : ((s.parts.take k).map Say.leaves).sum + ((s.parts.drop k).map Say.leaves).sum = (s.parts.map Say.leaves).sum := by
          rw [← List.sum_append, ← List.map_append, List.take_append_drop]
        have c : (s.parts.map Say.leaves).sum ≤ s.leaves := by cases s <;> simp [Say.parts, Say.leaves]
        omega
      have hd : x.leaves ≤ ((s.parts.drop i).map Say.leaves).sum := by
        have hi := (List.getElem?_eq_some_iff.mp hx).1
        have : s.parts.drop i = x :: s.parts.drop (i + 1) := by
          rw [List.drop_eq_getElem_cons hi, (List.getElem?_eq_some_iff.mp hx).2]
        rw [this, List.map_cons, List.sum_cons]
        omega
      refine ⟨v', l, x, _, rfl, r, by have := parts_ht hm; omega, e3 _ _ hl', by have := hlen i; omega, fun H3 sb3 h3 => ⟨_, rfl, (sb.trans (SameB.of e3)).trans sb3, ?_⟩⟩
      rw [h3, List.take_add_one, hx, Option.toList_some, List.foldl_append]
      rfl
    · obtain ⟨x, rfl, sb, hl'⟩ := z
      rw [List.take_length, note_parts nu] at hl'
      exact q _ ((SameB.of (e1.trans e2)).trans sb) hl'
theorem ok_note_unknowns (D : Df K mg "_note_unknowns" (top 9)) (T : Bt mg) (C_parts_of : Cal P w K mg base "parts_of" 1 ["saying"] (spParts K)) : ∀ n, Cal P w K mg base "_note_unknowns" (n + 1) ["saying", "found"] (spNote K n)
  | 0 => D.vac (fun _ _ _ _ _ _ us hl => match us, hl with | [_, _], _ => rfl) (fun vs H Q E h => by obtain ⟨_, _, _, _, _, _, z, _⟩ := h; omega)
  | n + 1 => ok_note_unknowns1 D T C_parts_of (ok_note_unknowns D T C_parts_of n)
/-! ### unknowns_of -/
def spUnks (K : PySem.W.Frag) (n : Nat) : Sp := sp1 (rT K (rSy K)) (fun ss => (∀ s ∈ ss, s.ht < n) ∧ (ss.map Say.leaves).sum ≤ 1000) (rT K rStr) unks
theorem notes_len : ∀ (ps : List Say) (l : List Str), (ps.foldl (fun l p => p.note l) l).length ≤ l.length + (ps.map Say.leaves).sum
  | [], l => by simp
  | p :: ps, l => by
    have a := notes_len ps (p.note l)
    have b := note_len p l
    simp only [List.foldl_cons, List.map_cons, List.sum_cons]
    omega
theorem take_sum (f : Say → Nat) : ∀ (ps : List Say) (i : Nat) (x : Say), ps[i]? = some x → ((ps.take i).map f).sum + f x ≤ (ps.map f).sum
  | [], i, x, h => by simp at h
  | p :: ps, 0, x, h => by simp at h; subst h; simp
  | p :: ps, i + 1, x, h => by
    have := take_sum f ps i x (by simpa using h)
    simp only [List.take_succ_cons, List.map_cons, List.sum_cons]
    omega
theorem sc_unknowns_of : FnScope (["sayings", "found", "saying"] : List Str) (["sayings"] : List Str) (defScope (top 10)) := ⟨rfl, rfl, rfl, by decide +kernel, rfl, by decide +kernel, by decide +kernel⟩
theorem ok_unknowns_of (D : Df K mg "unknowns_of" (top 10)) (T : Bt mg) {n : Nat} (C__note_unknowns : Cal P w K mg base "_note_unknowns" (n + 1) ["saying", "found"] (spNote K n)) : Cal P w K mg base "unknowns_of" (n + 2) ["sayings"] (spUnks K n) := by
  refine D.ok sc_unknowns_of (fun _ _ _ _ _ _ us hl => match us, hl with | [_], _ => rfl) (sp1_len) (fun f cdv A outer s H vs Q E hr h => ?_)
  have nd := sc_unknowns_of.nd
  refine ⟨_, (pss_cons (ps_set (i := 1) nd rfl (Or.inl rfl) (pe_lst pa_nil))
    (pss_cons (ps_for PassesOwn.never rfl (pi_tup (pv 0)) (pg_name (i := 2) nd rfl (by first | exact Or.inl rfl | exact Or.inr rfl)) (pss_one (ps_expr (pk_call C__note_unknowns hr (pa_cons (pv 2) (pa_cons (pv 1) pa_nil))))))
    (pss_one (ps_ret (pk_tuple T (pa_cons (pv 1) pa_nil)))))), ?_⟩
  obtain ⟨v, ss, rfl, h, ⟨hs, hz⟩, q⟩ := h
  -- found = []: new
  refine q_new fun l hl => ?_
  have e0 : Same H (upd H l (.lst [])) := Same.hnew hl
  refine q_for (I := fun H2 i σ' H' => ∃ x, σ' = [some v, some (.ref l), x] ∧ SameB l H2 H' ∧ H' l = some (.lst (((ss.take i).foldl (fun l p => p.note l) []).map V.str)))
      (ii_tup (ev_var rfl (Mo.up e0 h))) (fun H2 e2 => ⟨none, rfl, SameB.refl _, e2 _ _ upd_same⟩) (fun H2 i σ' H' e2 z => ?_) (fun H2 i x σ' H' v' H'' e2 hx z e3 r => ?_) (fun H2 σ' H' e2 z => ?_)
  · obtain ⟨x, _, sb, _⟩ := z
    exact sb.le (e2 _ _ upd_same) (fun z => z)
  · obtain ⟨x0, rfl, sb, hl'⟩ := z
    refine ⟨_, rfl, _, rfl, ?_⟩
    have hm : x ∈ ss := List.mem_of_getElem? hx
    have a := notes_len (ss.take i) []
    have b := take_sum Say.leaves ss i x hx
    refine ⟨v', l, x, _, rfl, r, hs x hm, e3 _ _ hl', by simp only [List.length_nil] at a; omega, fun H3 sb3 h3 => ⟨_, rfl, (sb.trans (SameB.of e3)).trans sb3, ?_⟩⟩
    rw [h3, List.take_add_one, hx, Option.toList_some, List.foldl_append]
    rfl
  · obtain ⟨x, rfl, sb, hl'⟩ := z
    rw [List.take_length] at hl'
    have r : rL rStr H' (.ref l) (unks ss) := ⟨l, _, rfl, hl', paired_map (F := rStr _) (g := V.str) (fun _ => rfl) _⟩
    refine s_ret (R := rT K rStr) (ev_tupL (ev_var rfl r)) (fun v H3 e r => q v H3 ?_ r)
    intro b o hb
    have hne : b ≠ l := ne_of_none hb hl
    exact e _ _ (sb b o hne (e2 _ _ (e0 _ _ hb)))
end
end Hf


/-! ## Fa2 -/
set_option Elab.async false
set_option linter.all false
set_option maxRecDepth 100000
set_option maxHeartbeats 400000

namespace Hf
open PySem PySem.Spec PyProof.Rows L2 RZ
/-! ### lists that grow -/
theorem _root_.L2.Same.trB {H H1 H2 : Hp} {l : Addr} (e : Same H H1) (hn : H l = none) (s : SameB l H1 H2) : Same H H2 := fun b o h => s b o (ne_of_none h hn) (e b o h)
section
variable {K : PySem.W.Frag} {σ : L2.St} {H H' : Hp} {te : TE} {β : Type} {S : Rl β} {y : β} {D : Ends} {tu : TS}
theorem s_push [Mt S] {l : Addr} {i : Nat} {xs : List β} (hl : rL S H (.ref l) xs) (ho : σ[i]? = some (some (.ref l))) (h : EvR te σ H S y) (hz : xs.length ≤ 1000000) (q : ∀ H', SameB l H H' → rL S H' (.ref l) (xs ++ [y]) → D.nx σ H') :
    tDrop (tBM K "list" rAppend (tVar i) (tCons te tNil)) D σ H := by
  obtain ⟨l', vs, e0, h1, h2⟩ := hl
  cases e0
  refine s_append (S := S) (y := y) (ev_var (R := rV) ho rfl) h (fun H' e => ⟨vs, e _ _ h1, by rw [h2.hlen]; exact Nat.lt_of_le_of_lt hz (by decide)⟩) (fun v vs' H' e r h' => ?_)
  have ev : vs' = vs := by
    have := e _ _ h1
    rw [h'] at this
    cases this
    rfl
  subst ev
  have le : Le H' (upd H' l (.lst (vs' ++ [v]))) := (Le.refl H').mut h' (fun z => z)
  exact q _ ((SameB.of e).trans SameB.upd) ⟨l, _, rfl, upd_same, (h2.himp fun _ _ z => Mt.up ((Le.of e).trans le) z).happ (.cons (Mt.up le r) .nil)⟩
theorem q_push [Mt S] {l : Addr} {i : Nat} {xs : List β} (hl : rL S H (.ref l) xs) (ho : σ[i]? = some (some (.ref l))) (h : EvR te σ H S y) (hz : xs.length ≤ 1000000) (q : ∀ H', SameB l H H' → rL S H' (.ref l) (xs ++ [y]) → tu D σ H') :
    tSeq (tDrop (tBM K "list" rAppend (tVar i) (tCons te tNil))) tu D σ H := s_push (D := { D with nx := tu D }) hl ho h hz q
theorem rL_nil {l : Addr} (h : H l = some (.lst [])) : rL S H (.ref l) [] := ⟨l, [], rfl, h, .nil⟩
theorem rL_le {l : Addr} {xs : List β} (h : rL S H (.ref l) xs) (s : SameB l H H') : Le H H' := by
  obtain ⟨l', vs, e0, h1, h2⟩ := h
  cases e0
  exact s.le h1 (fun z => z)
end
def rNat : Rl Nat := fun _ v n => v = .int (n : Int)
instance : Mt rNat := ⟨fun _ h => h⟩
def rMk : Rl Mk := fun _ v m => v = .str m.s
instance : Mt rMk := ⟨fun _ h => h⟩
/-- least | most -/
def rSd : Rl Bool := fun _ v b => v = .str (if b = true then "least" else "most")
instance : Mt rSd := ⟨fun _ h => h⟩
abbrev rVc (K : PySem.W.Frag) : Rl Vec := rT K rInt
/-! ### the plain functions -/
def lowestF (a b : Int) : Int × Int :=
  let g : Int := if b < 0 then -((Int.gcd a b : Nat) : Int) else ((Int.gcd a b : Nat) : Int)
  (a.fdiv g, b.fdiv g)
theorem zip_ad : ∀ (u v : Vec), ((u.zip v).map fun p => p.1 + p.2) = ad u v
  | [], v => by simp [ad]
  | a :: u, [] => by simp [ad]
  | a :: u, b :: v => by
    have := zip_ad u v
    simp only [List.zip_cons_cons, List.map_cons, ad_cons, this]
theorem cut1 {α : Type} (x : α) (xs : List α) : cutA (x :: xs) (some 1) none = xs := by
  unfold cutA
  have : HT.sIx (x :: xs).length 0 (some ((1 : Nat) : Int)) = min 1 (x :: xs).length := HT.sIx_nat _ _ 1
  rw [show ((1 : Nat) : Int) = (1 : Int) from rfl] at this
  rw [this, HT.sIx_none]
  simp
theorem gcd_step (x y : Nat) : Nat.gcd y (x % y) = Nat.gcd x y := by
  rw [Nat.gcd_comm x y, Nat.gcd_rec y x, Nat.gcd_comm]
section
variable {P : Program} {w : World} {K : PySem.W.Frag} {mg : Str → Option Value} {base : Heap}
/-! ### common, lowest -/
def spCommon : Sp := sp2 rInt rInt (fun _ _ => True) rInt (fun a b => ((Int.gcd a b : Nat) : Int))
theorem sc_common : FnScope (["first", "second", "one", "two"] : List Str) (["first", "second"] : List Str) (defScope (top 17)) := ⟨rfl, rfl, rfl, by decide +kernel, rfl, by decide +kernel, by decide +kernel⟩
theorem ok_common (D : Df K mg "common" (top 17)) (T : Bt mg) : Cal P w K mg base "common" 1 ["first", "second"] spCommon := by
  refine D.ok sc_common (fun _ _ _ _ _ _ us hl => match us, hl with | [_, _], _ => rfl) (sp2_len) (fun f cdv A outer s H vs Q E hr h => ?_)
  have nd := sc_common.nd
  refine ⟨_, (pss_cons (ps_par (i := 2) (j := 3) rfl nd rfl rfl (by decide) rfl rfl (pa_cons (pk_abs T (pa_cons (pv 0) pa_nil)) (pa_cons (pk_abs T (pa_cons (pv 1) pa_nil)) pa_nil)) (by rfl))
    (pss_cons (ps_while PassesOwn.never (pt_cmpR op_gt (pv 3) pe_int (nomark _)) (pss_one (ps_par (i := 2) (j := 3) rfl nd rfl rfl (by decide) rfl rfl (pa_cons (pv 3) (pa_cons (pe_op op_modN (pv 2) (pv 3)) pa_nil)) (by rfl))))
    (pss_one (ps_ret (pv 2))))), ?_⟩
  obtain ⟨v, u, a, b, rfl, rfl, rfl, _, q⟩ := h
  have ab : ∀ i : Int, (if i < 0 then -i else i) = (i.natAbs : Int) := fun i => by split <;> omega
  refine q_par (R := rInt) (S := rInt) (ev_abs (ev_var (R := rInt) rfl rfl)) (ev_abs (ev_var (R := rInt) rfl rfl)) (fun x y H1 e1 r1 r2 => ?_)
  cases r1
  cases r2
  rw [ab, ab]
  refine q_while (W := fun m σ' H' => ∃ x y : Nat, σ' = [some (.int a), some (.int b), some (.int (x : Int)), some (.int (y : Int))] ∧ m = y ∧ Same H H' ∧ Nat.gcd x y = Int.gcd a b) b.natAbs ⟨_, _, rfl, rfl, e1, rfl⟩ (fun m σ' H' z => ?_)
  obtain ⟨x, y, rfl, rfl, e2, hg⟩ := z
  refine ⟨_, et_test (ev_cmpI (ev_var (R := rInt) rfl rfl) ev_int), fun c H2 e3 => ?_, fun c H2 e3 => ?_⟩
  · have hy : 0 < m := by have := of_decide_eq_true c; omega
    refine s_par (R := rInt) (S := rInt) (ev_var rfl rfl) (ev_mod (ev_var (R := rInt) rfl rfl) (ev_var (R := rInt) rfl rfl) (by omega)) (fun u w H3 e4 r1 r2 => ?_)
    cases r1
    cases r2
    refine ⟨x % m, Nat.mod_lt _ hy, m, x % m, ?_, rfl, (e2.trans e3).trans e4, by rw [gcd_step]; exact hg⟩
    rw [Int.fmod_eq_emod_of_nonneg _ (by omega), ← Int.natCast_emod]
    rfl
  · have hy : m = 0 := by have := of_decide_eq_false c; omega
    refine s_ret (R := rInt) (ev_var rfl rfl) (fun v H3 e4 r => q v H3 ((e2.trans e3).trans e4) ?_)
    subst hy
    rw [Nat.gcd_zero_right] at hg
    show v = .int ((Int.gcd a b : Nat) : Int)
    rw [← hg]
    exact r
def spLowest (K : PySem.W.Frag) : Sp := sp2 rInt rInt (fun _ b => b ≠ 0 ∧ b.natAbs < 1073741824) (r2 K rInt rInt) lowestF
theorem sc_lowest : FnScope (["above", "below", "divisor"] : List Str) (["above", "below"] : List Str) (defScope (top 18)) := ⟨rfl, rfl, rfl, by decide +kernel, rfl, by decide +kernel, by decide +kernel⟩
theorem ok_lowest (D : Df K mg "lowest" (top 18)) (C_common : Cal P w K mg base "common" 1 ["first", "second"] spCommon) : Cal P w K mg base "lowest" 2 ["above", "below"] (spLowest K) := by
  refine D.ok sc_lowest (fun _ _ _ _ _ _ us hl => match us, hl with | [_, _], _ => rfl) (sp2_len) (fun f cdv A outer s H vs Q E hr h => ?_)
  have nd := sc_lowest.nd
  refine ⟨_, (pss_cons (ps_set (i := 2) nd rfl (Or.inl rfl) (pk_call C_common hr (pa_cons (pv 0) (pa_cons (pv 1) pa_nil))))
    (pss_cons (ps_if (pt_cmpR op_lt (pv 1) pe_int (nomark _)) (pss_one (ps_set (i := 2) nd rfl (Or.inl rfl) (pe_un un_neg (pv 2)))) pss_nil)
    (pss_one (ps_ret (pe_tup (pa_cons (pe_op op_fdivN (pv 0) (pv 2)) (pa_cons (pe_op op_fdivN (pv 1) (pv 2)) pa_nil))))))), ?_⟩
  obtain ⟨v, u, a, b, rfl, rfl, rfl, ⟨hb, hs⟩, q⟩ := h
  have g0 : 0 < Int.gcd a b := Int.gcd_pos_of_ne_zero_right _ hb
  have g1 : Int.gcd a b ≤ b.natAbs := Nat.le_of_dvd (by omega) (Nat.gcd_dvd_right _ _)
  refine q_set (R := rInt) (ev_call2 (ev_var (R := rInt) rfl rfl) (ev_var (R := rInt) rfl rfl) trivial) (fun v H1 e1 r => ?_)
  cases r
  have fin : ∀ (g : Int) H2, Same H H2 → g = (if b < 0 then -((Int.gcd a b : Nat) : Int) else ((Int.gcd a b : Nat) : Int)) → tRet (tTup (tCons (tOp (rI CDivN fun i j => .int (i.fdiv j)) (tVar 0) (tVar 2)) (tCons (tOp (rI CDivN fun i j => .int (i.fdiv j)) (tVar 1) (tVar 2)) tNil))) { nx := fun _ H' => Q .non H', rt := Q } [some (.int a), some (.int b), some (.int g)] H2 := fun g H2 e2 eg => by
    have hc : CDivN a g ∧ CDivN b g := by
      have : g ≠ 0 ∧ g.natAbs < 1073741824 := by
        rw [eg]
        split <;> omega
      exact ⟨this, this⟩
    refine s_ret (R := r2 K rInt rInt) (ev_pair (ev_fdiv (ev_var (R := rInt) rfl rfl) (ev_var (R := rInt) rfl rfl) hc.1) (ev_fdiv (ev_var (R := rInt) rfl rfl) (ev_var (R := rInt) rfl rfl) hc.2)) (fun v H3 e3 r => q v H3 (e2.trans e3) ?_)
    rw [eg] at r
    exact r
  refine q_when (et_test (ev_cmpI (ev_var (R := rInt) rfl rfl) ev_int)) (fun c H2 e2 => ?_) (fun c H2 e2 => ?_)
  · refine s_set (R := rInt) (ev_neg (ev_var (R := rInt) rfl rfl)) (fun v H3 e3 r => ?_)
    cases r
    exact fin _ H3 ((e1.trans e2).trans e3) (by rw [if_pos (of_decide_eq_true c)])
  · exact fin _ H2 (e1.trans e2) (by rw [if_neg (of_decide_eq_false c)])
end
end Hf


/-! ## Fa3 -/
set_option Elab.async false
set_option linter.all false
set_option maxRecDepth 100000
set_option maxHeartbeats 400000

namespace Hf
open PySem PySem.Spec PyProof.Rows L2 RZ
section
variable {P : Program} {w : World} {K : PySem.W.Frag} {mg : Str → Option Value} {base : Heap}
/-! ### faces -/
def spFaces (K : PySem.W.Frag) : Sp := sp1 rNat (fun n => n ≤ 100) (rT K (rVc K)) faces
theorem sc_faces : FnScope (["count", "found", "k", "before", "behind"] : List Str) (["count"] : List Str) (defScope (top 20)) := ⟨rfl, rfl, rfl, by decide +kernel, rfl, by decide +kernel, by decide +kernel⟩
theorem ok_faces (D : Df K mg "faces" (top 20)) (T : Bt mg) : Cal P w K mg base "faces" 1 ["count"] (spFaces K) := by
  refine D.ok sc_faces (fun _ _ _ _ _ _ us hl => match us, hl with | [_], _ => rfl) (sp1_len) (fun f cdv A outer s H vs Q E hr h => ?_)
  have nd := sc_faces.nd
  refine ⟨_, (pss_cons (ps_set (i := 1) nd rfl (Or.inl rfl) (pe_lst pa_nil))
    (pss_cons (ps_for PassesOwn.never rfl (pi_range1 rfl T.range (pa_cons (pv 0) pa_nil)) (pg_name (i := 2) nd rfl (by first | exact Or.inl rfl | exact Or.inr rfl)) (pss_cons (ps_par (i := 3) (j := 4) rfl nd rfl rfl (by decide) rfl rfl (pa_cons (pe_op op_repA (pe_tup (pa_cons pe_int pa_nil)) (pv 2)) (pa_cons (pe_op op_repA (pe_tup (pa_cons pe_int pa_nil)) (pe_op op_sub (pe_op op_sub (pv 0) (pv 2)) pe_int)) pa_nil)) (by rfl))
    (pss_cons (ps_expr (pe_bm PySem.F.plainAttrs_list PySem.F.slot_list_append PySem.F.type_list_append mt_append (pv 1) (pa_cons (pe_op op_catA (pe_op op_catA (pe_op op_catA (pe_tup (pa_cons pe_int pa_nil)) (pv 3)) (pe_tup (pa_cons pe_int pa_nil))) (pv 4)) pa_nil)))
    (pss_one (ps_expr (pe_bm PySem.F.plainAttrs_list PySem.F.slot_list_append PySem.F.type_list_append mt_append (pv 1) (pa_cons (pe_op op_catA (pe_op op_catA (pe_op op_catA (pe_tup (pa_cons pe_int pa_nil)) (pv 3)) (pe_tup (pa_cons (pe_un un_neg pe_int) pa_nil))) (pv 4)) pa_nil)))))))
    (pss_one (ps_ret (pk_tuple T (pa_cons (pv 1) pa_nil)))))), ?_⟩
  obtain ⟨v, n, rfl, rfl, hn, q⟩ := h
  refine q_new fun l hl => ?_
  have e0 : Same H (upd H l (.lst [])) := Same.hnew hl
  refine q_for (I := fun H2 i σ' H' => ∃ x y z, σ' = [some (.int (n : Int)), some (.ref l), x, y, z] ∧ SameB l H2 H' ∧ rL (rVc K) H' (.ref l) ((List.range i).flatMap fun k => [faceLo n k, faceHi n k])) (ii_range1 (ev_var (R := rInt) rfl rfl) (by omega))
    (fun H2 e2 => ⟨none, none, none, rfl, SameB.refl _, rL_nil (e2 _ _ upd_same)⟩) (fun H2 i σ' H' e2 z => ?_) (fun H2 i x σ' H' v' H'' e2 hx z e3 r => ?_) (fun H2 σ' H' e2 z => ?_)
  · obtain ⟨_, _, _, _, sb, _⟩ := z
    exact sb.le (e2 _ _ upd_same) (fun z => z)
  · obtain ⟨x0, y0, z0, rfl, sb, hl'⟩ := z
    have hi : i < n := by
      have := (List.getElem?_eq_some_iff.mp hx).1
      rw [ivs_len] at this
      omega
    rw [ivs_get (by omega)] at hx
    cases hx
    cases r
    rw [Int.zero_add]
    refine q_par (R := rVc K) (S := rVc K) (ev_rep (k := i) (ev_tup (ei_cons ev_int ei_nil) (by decide)) (ev_var (R := rInt) rfl rfl) (by omega))
      (ev_rep (k := n - i - 1) (ev_tup (ei_cons ev_int ei_nil) (by decide)) (EvR.to (ev_sub (ev_sub (ev_var (R := rInt) rfl rfl) (ev_var (R := rInt) rfl rfl)) ev_int) (by omega)) (by omega)) (fun u w H3 e4 r1 r2 => ?_)
    refine q_push (Mo.up (e3.trans e4) hl') rfl (ev_catA (ev_catA (ev_catA (ev_tup (ei_cons ev_int ei_nil) (by decide)) (ev_var rfl r1) ?_) (ev_tup (ei_cons ev_int ei_nil) (by decide)) ?_) (ev_var rfl r2) ?_) ?_ (fun H4 sb4 hl4 => ?_)
    · simp; omega
    · simp; omega
    · simp; omega
    · have : ∀ m, ((List.range m).flatMap fun k => [faceLo n k, faceHi n k]).length = 2 * m := fun m => by
        induction m with
        | zero => rfl
        | succ m ih => rw [List.range_succ, List.flatMap_append, List.length_append, ih]; simp; omega
      rw [this]; omega
    have le4 : Le H3 H4 := rL_le (Mo.up (e3.trans e4) hl') sb4
    refine s_push hl4 rfl (ev_catA (ev_catA (ev_catA (ev_tup (ei_cons ev_int ei_nil) (by decide)) (ev_var rfl (Mt.up le4 r1)) ?_) (ev_tup (ei_cons (ev_neg ev_int) ei_nil) (by decide)) ?_) (ev_var rfl (Mt.up le4 r2)) ?_) ?_ (fun H5 sb5 hl5 => ?_)
    · simp; omega
    · simp; omega
    · simp; omega
    · have : ∀ m, ((List.range m).flatMap fun k => [faceLo n k, faceHi n k]).length = 2 * m := fun m => by
        induction m with
        | zero => rfl
        | succ m ih => rw [List.range_succ, List.flatMap_append, List.length_append, ih]; simp; omega
      rw [List.length_append, this]; simp; omega
    refine ⟨_, _, _, rfl, (((sb.trans (SameB.of (e3.trans e4))).trans sb4).trans sb5), ?_⟩
    rw [List.range_succ, List.flatMap_append]
    simp only [List.flatMap_cons, List.flatMap_nil, List.append_nil]
    have ea : ∀ e : Int, ([0] : List Int) ++ List.replicate i 0 ++ [e] ++ List.replicate (n - i - 1) 0 = 0 :: unit n i e := fun e => by simp [unit]
    have eb : ∀ e : Int, ([1] : List Int) ++ List.replicate i 0 ++ [e] ++ List.replicate (n - i - 1) 0 = 1 :: unit n i e := fun e => by simp [unit]
    rw [List.append_assoc] at hl5
    have ec : [([0] : List Int) ++ List.replicate i 0 ++ [1] ++ List.replicate (n - i - 1) 0] ++ [([1] : List Int) ++ List.replicate i 0 ++ [-1] ++ List.replicate (n - i - 1) 0] = [faceLo n i, faceHi n i] := by
      rw [ea, eb]; rfl
    rw [ec] at hl5
    exact hl5
  · obtain ⟨x0, y0, z0, rfl, sb, hl'⟩ := z
    rw [ivs_len] at hl'
    have ht : ((n : Int)).toNat = n := by omega
    rw [ht] at hl'
    exact s_ret (R := rT K (rVc K)) (ev_tupL (ev_var rfl hl')) (fun v H3 e r => q v H3 (((e0.trans e2).trB hl sb).trans e) r)
end
end Hf


/-! ## Fa4 -/
set_option Elab.async false
set_option linter.all false
set_option maxRecDepth 100000
set_option maxHeartbeats 400000

namespace Hf
open PySem PySem.Spec PyProof.Rows L2 RZ
section
variable {P : Program} {w : World} {K : PySem.W.Frag} {mg : Str → Option Value} {base : Heap}
/-! ### forms -/
def spNameF (K : PySem.W.Frag) : Sp := sp2 (rT K rStr) rStr (fun ns x => x ∈ ns ∧ ns.length ≤ 1000) (rVc K) nameF
theorem sc_name_form : FnScope (["names", "name", "one"] : List Str) (["names", "name"] : List Str) (defScope (top 23)) := ⟨rfl, rfl, rfl, by decide +kernel, rfl, by decide +kernel, by decide +kernel⟩
theorem ok_name_form (D : Df K mg "name_form" (top 23)) (T : Bt mg) : Cal P w K mg base "name_form" 1 ["names", "name"] (spNameF K) := by
  refine D.ok sc_name_form (fun _ _ _ _ _ _ us hl => match us, hl with | [_, _], _ => rfl) (sp2_len) (fun f cdv A outer s H vs Q E hr h => ?_)
  have nd := sc_name_form.nd
  refine ⟨_, (pss_cons (ps_if (pt_cmpR op_notIn_seq (pv 1) (pv 0) rfl) (pss_one ps_never) pss_nil)
    (pss_one (ps_ret (pe_op op_catA (pe_tup (pa_cons pe_int pa_nil)) (pk_tuple T (pa_cons (pe_lc (own := [("one", 2)]) rfl nd (pi_tup (pv 0)) (blkOk_by (by walk_at "blk")) (fun _ _ _ _ _ => (pg_name (i := 2) nd rfl (Or.inl rfl))) (fun _ _ _ _ _ => pts_nil) (fun _ _ _ _ _ => (pe_ifExp (pt_cmpR op_eq (pv 2) (pv 1) (nomark _)) pe_int pe_int))) pa_nil)))))), ?_⟩
  obtain ⟨v, u, ns, x, rfl, h1, rfl, ⟨hx, hz⟩, q⟩ := h
  refine q_when (et_test (ev_niT (ev_var (R := rStr) rfl rfl) (ev_var rfl h1))) (fun c _ _ => ?_) (fun c H1 e1 => ?_)
  · simp [hx] at c
  refine s_ret (R := rVc K) (ev_catA (ev_tup (ei_cons ev_int ei_nil) (by decide)) (ev_tupL (ev_lc (R := rStr) (fun one => if one = x then (1 : Int) else 0) (ii_tup (ev_var rfl (Mo.up e1 h1))) (fun _ _ _ e => Le.of e) (Nat.le_trans hz (by decide)) (fun v => rfl)
    (fun y hy v H' e r => EvR.to (ev_if (x1 := (1 : Int)) (x2 := 0) (et_test (ev_eqS (ev_var rfl r) (ev_var (R := rStr) rfl rfl))) (fun _ => ev_int) (fun _ => ev_int)) ?_))) ?_) (fun v H' e r => q v H' (e1.trans e) r)
  · by_cases z : y = x
    · rw [if_pos z, if_pos (decide_eq_true z)]
    · rw [if_neg z, decide_eq_false z]; rfl
  · simp; omega
def spConstF (K : PySem.W.Frag) : Sp := sp2 rInt rNat (fun _ n => n ≤ 1000) (rVc K) constF
theorem sc_constant_form : FnScope (["number", "size"] : List Str) (["number", "size"] : List Str) (defScope (top 24)) := ⟨rfl, rfl, rfl, by decide +kernel, rfl, by decide +kernel, by decide +kernel⟩
theorem ok_constant_form (D : Df K mg "constant_form" (top 24)) : Cal P w K mg base "constant_form" 1 ["number", "size"] (spConstF K) := by
  refine D.ok sc_constant_form (fun _ _ _ _ _ _ us hl => match us, hl with | [_, _], _ => rfl) (sp2_len) (fun f cdv A outer s H vs Q E hr h => ?_)
  have nd := sc_constant_form.nd
  refine ⟨_, (pss_one (ps_ret (pe_op op_catA (pe_tup (pa_cons (pv 0) pa_nil)) (pe_op op_repA (pe_tup (pa_cons pe_int pa_nil)) (pv 1))))), ?_⟩
  obtain ⟨v, u, k, n, rfl, rfl, rfl, hn, q⟩ := h
  exact s_ret (R := rVc K) (ev_catA (ev_tup (ei_cons (ev_var (R := rInt) rfl rfl) ei_nil) (by simp)) (ev_rep (ev_tup (ei_cons ev_int ei_nil) (by decide)) (ev_var (R := rInt) rfl rfl) hn) (by simp; omega)) (fun v H' e r => q v H' e r)
def spNegF (K : PySem.W.Frag) : Sp := sp1 (rVc K) (fun f => f.length ≤ 1000) (rVc K) negF
theorem sc_opposite_form : FnScope (["form", "part"] : List Str) (["form"] : List Str) (defScope (top 25)) := ⟨rfl, rfl, rfl, by decide +kernel, rfl, by decide +kernel, by decide +kernel⟩
theorem ok_opposite_form (D : Df K mg "opposite_form" (top 25)) (T : Bt mg) : Cal P w K mg base "opposite_form" 1 ["form"] (spNegF K) := by
  refine D.ok sc_opposite_form (fun _ _ _ _ _ _ us hl => match us, hl with | [_], _ => rfl) (sp1_len) (fun f cdv A outer s H vs Q E hr h => ?_)
  have nd := sc_opposite_form.nd
  refine ⟨_, (pss_one (ps_ret (pk_tuple T (pa_cons (pe_lc (own := [("part", 1)]) rfl nd (pi_tup (pv 0)) (blkOk_by (by walk_at "blk")) (fun _ _ _ _ _ => (pg_name (i := 1) nd rfl (Or.inl rfl))) (fun _ _ _ _ _ => pts_nil) (fun _ _ _ _ _ => (pe_un un_neg (pv 1)))) pa_nil)))), ?_⟩
  obtain ⟨v, f, rfl, h1, hz, q⟩ := h
  exact s_ret (R := rVc K) (ev_tupL (ev_lc (R := rInt) (fun p => -p) (ii_tup (ev_var rfl h1)) (fun _ _ _ e => Le.of e) (Nat.le_trans hz (by decide)) (fun v => rfl) (fun y hy v H' e r => ev_neg (ev_var rfl r)))) (fun v H' e r => q v H' e r)
def spSumF (K : PySem.W.Frag) : Sp := sp2 (rVc K) (rVc K) (fun f _ => f.length ≤ 1000) (rVc K) ad
theorem sc_sum_form : FnScope (["first", "second", "one", "two"] : List Str) (["first", "second"] : List Str) (defScope (top 26)) := ⟨rfl, rfl, rfl, by decide +kernel, rfl, by decide +kernel, by decide +kernel⟩
theorem ok_sum_form (D : Df K mg "sum_form" (top 26)) (T : Bt mg) : Cal P w K mg base "sum_form" 1 ["first", "second"] (spSumF K) := by
  refine D.ok sc_sum_form (fun _ _ _ _ _ _ us hl => match us, hl with | [_, _], _ => rfl) (sp2_len) (fun f cdv A outer s H vs Q E hr h => ?_)
  have nd := sc_sum_form.nd
  refine ⟨_, (pss_one (ps_ret (pk_tuple T (pa_cons (pe_lc (own := [("one", 2), ("two", 3)]) (g := gTup K 2 (gCons (gName 2) (gCons (gName 3) gNil))) rfl nd (pi_zipA rfl T.zip (pa_cons (pv 0) (pa_cons (pv 1) pa_nil))) (blkOk_by (by walk_at "blk")) (fun _ _ _ _ _ => (pg_tup rfl (pgs_cons (pg_name (i := 2) nd rfl (Or.inl rfl)) (pgs_cons (pg_name (i := 3) nd rfl (Or.inl rfl)) pgs_nil)))) (fun _ _ _ _ _ => pts_nil) (fun _ _ _ _ _ => (pe_op op_add (pv 2) (pv 3)))) pa_nil)))), ?_⟩
  obtain ⟨v, u, f, g, rfl, h1, h2, hz, q⟩ := h
  refine s_ret (R := rVc K) (ev_tupL (EvR.to (ev_lcP (R := rInt) (T := rInt) (fun p => p.1 + p.2) (ii_zipT (ev_var rfl h1) (ev_var rfl h2)) (fun _ _ _ e => Le.of e) ?_ (fun u v => rfl) (fun x hx u v H' e r1 r2 => ev_add (ev_var rfl r1) (ev_var rfl r2))) (zip_ad f g))) (fun v H' e r => q v H' e r)
  rw [List.length_zip]
  omega
def spRaiseF (K : PySem.W.Frag) : Sp := sp2 (rVc K) rInt (fun f _ => f ≠ [] ∧ f.length ≤ 1000) (rVc K) raiseF
theorem sc_raised_form : FnScope (["form", "number"] : List Str) (["form", "number"] : List Str) (defScope (top 27)) := ⟨rfl, rfl, rfl, by decide +kernel, rfl, by decide +kernel, by decide +kernel⟩
theorem ok_raised_form (D : Df K mg "raised_form" (top 27)) : Cal P w K mg base "raised_form" 1 ["form", "number"] (spRaiseF K) := by
  refine D.ok sc_raised_form (fun _ _ _ _ _ _ us hl => match us, hl with | [_, _], _ => rfl) (sp2_len) (fun f cdv A outer s H vs Q E hr h => ?_)
  have nd := sc_raised_form.nd
  refine ⟨_, (pss_one (ps_ret (pe_op op_catA (pe_tup (pa_cons (pe_op op_add (pe_ix ix_tup (pv 0) pe_int (fun _ _ => rfl)) (pv 1)) pa_nil)) (pe_slice sl_tupA (pv 0) (po_some pe_int) po_none)))), ?_⟩
  obtain ⟨v, u, f, k, rfl, h1, rfl, ⟨hf, hz⟩, q⟩ := h
  cases f with
  | nil => exact absurd rfl hf
  | cons c t =>
    have hs := ev_slA (ta := tVar 0) (lo := some 1) (hi := none) (tl := tPart (tC (.int 1))) (th := tNoPart) (K := K) (ev_var (σ := L2.start ["form", "number"] [v, .int k]) rfl h1) (eo_some ev_int) eo_none
    rw [cut1] at hs
    refine s_ret (R := rVc K) (ev_catA (ev_tup (ei_cons (ev_add (ev_ixT (ev_var rfl h1) ev_int at0) (ev_var (R := rInt) rfl rfl)) ei_nil) (by simp)) hs ?_) (fun v H' e r => q v H' e r)
    simp at hz ⊢
    omega
def spNotF (K : PySem.W.Frag) : Sp := sp1 (rVc K) (fun f => f ≠ [] ∧ f.length ≤ 1000) (rVc K) notF
theorem sc_not_form : FnScope (["form"] : List Str) (["form"] : List Str) (defScope (top 28)) := ⟨rfl, rfl, rfl, by decide +kernel, rfl, by decide +kernel, by decide +kernel⟩
theorem ok_not_form (D : Df K mg "not_form" (top 28)) (C_opposite_form : Cal P w K mg base "opposite_form" 1 ["form"] (spNegF K)) (C_raised_form : Cal P w K mg base "raised_form" 1 ["form", "number"] (spRaiseF K)) : Cal P w K mg base "not_form" 2 ["form"] (spNotF K) := by
  refine D.ok sc_not_form (fun _ _ _ _ _ _ us hl => match us, hl with | [_], _ => rfl) (sp1_len) (fun f cdv A outer s H vs Q E hr h => ?_)
  have nd := sc_not_form.nd
  refine ⟨_, (pss_one (ps_ret (pk_call C_raised_form hr (pa_cons (pk_call C_opposite_form hr (pa_cons (pv 0) pa_nil)) (pa_cons pe_int pa_nil))))), ?_⟩
  obtain ⟨v, f, rfl, h1, ⟨hf, hz⟩, q⟩ := h
  exact s_ret (R := rVc K) (ev_call2 (ev_call1 (ev_var rfl h1) hz) ev_int ⟨by simp [negF, hf], by rw [negF_len]; exact hz⟩) (fun v H' e r => q v H' e r)
theorem mk_mem (m : Mk) : decide (m.s ∈ pairsL) = true := by cases m <;> decide
def spQuest (K : PySem.W.Frag) : Sp := sp3 rMk (rVc K) (rVc K) (fun _ a b => a ≠ [] ∧ b ≠ [] ∧ a.length ≤ 1000 ∧ b.length ≤ 1000) (rVc K) questF
theorem sc_question_of : FnScope (["mark", "first", "second"] : List Str) (["mark", "first", "second"] : List Str) (defScope (top 29)) := ⟨rfl, rfl, rfl, by decide +kernel, rfl, by decide +kernel, by decide +kernel⟩
theorem ok_question_of (D : Df K mg "question_of" (top 29)) (cP : Ct K mg "PAIRS" (pairsL.map V.str)) (C_opposite_form : Cal P w K mg base "opposite_form" 1 ["form"] (spNegF K)) (C_raised_form : Cal P w K mg base "raised_form" 1 ["form", "number"] (spRaiseF K))
    (C_sum_form : Cal P w K mg base "sum_form" 1 ["first", "second"] (spSumF K)) : Cal P w K mg base "question_of" 2 ["mark", "first", "second"] (spQuest K) := by
  obtain ⟨aP, g_PAIRS, hP⟩ := cP.ex
  refine D.ok sc_question_of (fun _ _ _ _ _ _ us hl => match us, hl with | [_, _, _], _ => rfl) (sp3_len) (fun f cdv A outer s H vs Q E hr h => ?_)
  have nd := sc_question_of.nd
  refine ⟨_, (pss_cons (ps_if (pt_cmpR op_notIn_seq (pv 0) (pk_globT g_PAIRS) rfl) (pss_one ps_never) pss_nil)
    (pss_cons (ps_if (pt_cmpR op_in_seq (pv 0) (pe_tup (pa_cons pe_str (pa_cons pe_str pa_nil))) rfl) (pss_one (ps_ret (pk_call C_raised_form hr (pa_cons (pk_call C_sum_form hr (pa_cons (pv 1) (pa_cons (pv 2) pa_nil))) (pa_cons (pe_un un_neg pe_int) pa_nil))))) pss_nil)
    (pss_one (ps_ret (pk_call C_sum_form hr (pa_cons (pv 1) (pa_cons (pk_call C_opposite_form hr (pa_cons (pv 2) pa_nil)) pa_nil))))))), ?_⟩
  obtain ⟨v1, v2, v3, m, a, b, rfl, rfl, h1, h2, ⟨ha, hb, la, lb⟩, q⟩ := h
  refine q_when (et_test (ev_niT (ev_var (R := rStr) rfl rfl) (ev_c (ct_strs hP H)))) (fun c _ _ => ?_) (fun c H1 e1 => ?_)
  · rw [mk_mem] at c; cases c
  refine q_when (et_test (ev_inT (ev_var (R := rStr) rfl rfl) (ev_tup (ei_cons ev_str (ei_cons ev_str ei_nil)) (by decide)))) (fun c H2 e2 => ?_) (fun c H2 e2 => ?_)
  · have em : questF m a b = raiseF (ad a b) (-1) := by cases m <;> first | rfl | exact absurd c (by decide)
    rw [em] at q
    refine s_ret (R := rVc K) (ev_call2 (ev_call2 (ev_var rfl (Mo.up (e1.trans e2) h1)) (ev_var rfl (Mo.up (e1.trans e2) h2)) la) (ev_neg ev_int) ⟨?_, ?_⟩) (fun v H' e r => q v H' ((e1.trans e2).trans e) r)
    · cases a with
      | nil => exact absurd rfl ha
      | cons x a => cases b with
        | nil => exact absurd rfl hb
        | cons y b => simp
    · simp only [ad, List.length_zipWith]; omega
  · have em : questF m a b = ad a (negF b) := by cases m <;> first | rfl | exact absurd c (by decide)
    rw [em] at q
    exact s_ret (R := rVc K) (ev_call2 (ev_var rfl (Mo.up (e1.trans e2) h1)) (ev_call1 (ev_var rfl (Mo.up (e1.trans e2) h2)) lb) la) (fun v H' e r => q v H' ((e1.trans e2).trans e) r)
end
end Hf


/-! ## Hk7 -/
set_option Elab.async false
set_option linter.all false
set_option maxRecDepth 100000
set_option maxHeartbeats 400000

namespace Hf
open PySem PySem.Spec PyProof.Rows L2 RZ
/-! ### the class Cell -/
structure Cl where
  n : Nat
  path : List Vec
  corners : List Vec
def cellA (mg : Str → Option Value) : Addr := match mg "Cell" with
  | some (.ref a) => a
  | _ => 0
structure CellD (K : PySem.W.Frag) (mg : Str → Option Value) : Prop where
  gl : mg "Cell" = some (.ref (cellA mg))
  cls : Cls K (cellA mg)
  n1 : NoAttr K (cellA mg) "size"
  n2 : NoAttr K (cellA mg) "path"
  n3 : NoAttr K (cellA mg) "corners"
  ex : ∃ (f : Addr) (fd : FuncData), FunD K "__init__" "Cell.__init__" (defArgs stCell) (defBody stCell) (defScope stCell) [] [] f fd ∧ L2.Mk K (cellA mg) f
def rCl (K : PySem.W.Frag) (mg : Str → Option Value) : Rl Cl := fun H v c => ∃ (a dx : Addr) (v2 v3 : V), v = .ref a ∧ H a = some (.ins (cellA mg) dx [("size", .int (c.n : Int)), ("path", v2), ("corners", v3)]) ∧ rT K (rVc K) H v2 c.path ∧ rT K (rVc K) H v3 c.corners
instance {K : PySem.W.Frag} {mg : Str → Option Value} : Mt (rCl K mg) := ⟨fun e ⟨a, dx, v2, v3, h1, h2, h3, h4⟩ => ⟨a, dx, v2, v3, h1, e _ _ h2 trivial, Mt.up e h3, Mt.up e h4⟩⟩
def spInit (mg : Str → Option Value) : Sp := fun vs H Q _ => ∃ (x dx : Addr) (v1 v2 v3 : V), vs = [.ref x, v1, v2, v3] ∧ H x = some (.ins (cellA mg) dx []) ∧ ∀ H', H' x = some (.ins (cellA mg) dx [("size", v1), ("path", v2), ("corners", v3)]) → (∀ b, b ≠ x → H' b = H b) → Q .non H'
section
variable {P : Program} {w : World} {K : PySem.W.Frag} {mg : Str → Option Value} {base : Heap}
theorem sc_cell : FnScope (["self", "size", "path", "corners"] : List Str) (["self", "size", "path", "corners"] : List Str) (defScope stCell) := ⟨rfl, rfl, rfl, by decide +kernel, rfl, by decide +kernel, by decide +kernel⟩
theorem ok_cell {f : Addr} {fd : FuncData} (D : CellD K mg) (F : FunD K "__init__" "Cell.__init__" (defArgs stCell) (defBody stCell) (defScope stCell) [] [] f fd) : FnOk P w K mg base CX0 1 f fd ["self", "size", "path", "corners"] (spInit mg) := by
  refine F.ok sc_cell (fun vs H Q E h => ?_) (fun cdv A outer s H vs Q E hr h => ⟨_, PSs.nox (pss_cons (ps_fld (pv 0) (pv 1) (by rfl)) (pss_cons (ps_fld (pv 0) (pv 2) (by rfl)) (pss_one (ps_fld (pv 0) (pv 3) (by rfl))))), ?_⟩)
  · obtain ⟨_, _, _, _, _, rfl, _⟩ := h; rfl
  · obtain ⟨x, dx, v1, v2, v3, rfl, hx, q⟩ := h
    refine ⟨v1, rfl, .ref x, rfl, x, _, dx, _, rfl, hx, D.cls, D.n1, (by decide : (0 : Nat) < 1000), ?_⟩
    refine ⟨v2, rfl, .ref x, rfl, x, _, dx, _, rfl, upd_same, D.cls, D.n2, (by decide : (1 : Nat) < 1000), ?_⟩
    refine ⟨v3, rfl, .ref x, rfl, x, _, dx, _, rfl, upd_same, D.cls, D.n3, (by decide : (2 : Nat) < 1000), ?_⟩
    refine q _ ?_ (fun b hb => ?_)
    · rw [upd_same]; rfl
    · rw [upd_ne hb, upd_ne hb, upd_ne hb]
end
section
variable {X : Cx} {k : Nat} {p pos : Pos} {e : Expr} {es : List Expr} {t : TA}
theorem pk_cell (c : CellD X.K X.mg) (hr : Room k X.A) (ha : PA X (e :: es) t) (hj : 2 ≤ k := by first | decide | omega) (hg : Gl X "Cell" := by rfl)
    (he : starEach (e :: es) X.env = (false, eval e X.env) :: starEach es X.env := by rfl) (hpl : (backTo pos (starEach es X.env)).any (·.1) = false := by rfl) : PE X (.Call (.Name "Cell" p) (e :: es) [] pos) (tMake (cellA X.mg) (spInit X.mg) [] E0 t) := by
  obtain ⟨f, fd, F, M⟩ := c.ex
  exact pe_make M (ok_cell c F) (hr.mono hj) hg c.gl (F.bindsN (fun _ _ _ _ _ _ us hl => match us, hl with | [_, _, _, _], _ => rfl)) .nil pass0 ha (by decide) he hpl
end
section
variable {K : PySem.W.Frag} {mg : Str → Option Value} {σ : L2.St} {H H' : Hp} {ta tb tc : TE} {c : Cl} {n : Nat} {xs ys : List Vec}
theorem ev_cell (h1 : EvR ta σ H rNat n) (h2 : EvR tb σ H (rT K (rVc K)) xs) (h3 : EvR tc σ H (rT K (rVc K)) ys) : EvR (tMake (cellA mg) (spInit mg) [] E0 (tCons ta (tCons tb (tCons tc tNil)))) σ H (rCl K mg) ⟨n, xs, ys⟩ := fun H1 e Q q =>
  h1 H1 e _ fun v1 H2 e2 q1 => h2 H2 (e.trans e2) _ fun v2 H3 e3 q2 => h3 H3 ((e.trans e2).trans e3) _ fun v3 H4 e4 q3 x dx hx hdx ne => by
    cases q1
    refine ⟨x, dx, _, v2, v3, rfl, upd_same, fun H5 h5 h6 => ⟨rfl, ?_⟩⟩
    have e5 : Same H4 H5 := fun b o hb => by
      have n1 : b ≠ x := ne_of_none hb hx
      have n2 : b ≠ dx := ne_of_none hb hdx
      rw [h6 b n1, upd_ne n1, upd_ne n2]
      exact hb
    exact q _ H5 (((e2.trans e3).trans e4).trans e5) ⟨x, dx, v2, v3, rfl, h5, Mt.up (Le.of (e4.trans e5)) q2, Mt.up (Le.of e5) q3⟩
theorem ev_size (D : CellD K mg) (h : EvR ta σ H (rCl K mg) c) : EvR (tFld K ta "size") σ H rNat c.n := fun H1 e Q q => h H1 e _ fun v H2 e2 ⟨a, dx, v2, v3, h1, h2, h3, h4⟩ =>
  ⟨a, _, dx, _, _, h1, h2, D.cls, D.n1, rfl, q _ H2 e2 rfl⟩
theorem ev_path (D : CellD K mg) (h : EvR ta σ H (rCl K mg) c) : EvR (tFld K ta "path") σ H (rT K (rVc K)) c.path := fun H1 e Q q => h H1 e _ fun v H2 e2 ⟨a, dx, v2, v3, h1, h2, h3, h4⟩ =>
  ⟨a, _, dx, _, _, h1, h2, D.cls, D.n2, rfl, q _ H2 e2 h3⟩
theorem ev_corners (D : CellD K mg) (h : EvR ta σ H (rCl K mg) c) : EvR (tFld K ta "corners") σ H (rT K (rVc K)) c.corners := fun H1 e Q q => h H1 e _ fun v H2 e2 ⟨a, dx, v2, v3, h1, h2, h3, h4⟩ =>
  ⟨a, _, dx, _, _, h1, h2, D.cls, D.n3, rfl, q _ H2 e2 h4⟩
end
end Hf


/-! ## Hk8 -/
set_option Elab.async false
set_option linter.all false
set_option maxRecDepth 100000
set_option maxHeartbeats 400000
namespace Hf
open PySem PySem.Spec PyProof.Rows L2 RZ
/-! ### within a comprehension's block: the frag given -/
section
variable {X : Cx} (K : PySem.W.Frag) {p pos : Pos} {e tg : Expr} {es : List Expr} {t : TA} {te tl : TE} {f : Str}
theorem bk_ix_tup (h : X.K = K := by rfl) : IxR X (rIxT K) := h ▸ ix_tup
theorem bk_ix_list (h : X.K = K := by rfl) : IxR X (rIxL K) := h ▸ ix_list
theorem bk_sl_tupA (h : X.K = K := by rfl) : SlR X (rSlA K) := h ▸ sl_tupA
theorem bk_sl_list (h : X.K = K := by rfl) : SlR X (rSlL K) := h ▸ sl_list
theorem bk_op_catA (h : X.K = K := by rfl) : OpR X (binaryOp .Add) (rCatA K) := h ▸ op_catA
theorem bk_op_repA (h : X.K = K := by rfl) : OpR X (binaryOp .Mult) (rRepA K) := h ▸ op_repA
theorem bk_op_in_seq (h : X.K = K := by rfl) : OpR X (compareOp .In) (rIn K false) := h ▸ op_in_seq
theorem bk_op_notIn_seq (h : X.K = K := by rfl) : OpR X (compareOp .NotIn) (rIn K true) := h ▸ op_notIn_seq
theorem bk_pi_tup (hl : PE X e te) (h : X.K = K := by rfl) : PI X tg e (iTup K te) := h ▸ pi_tup hl
theorem bk_pi_list (hl : PE X e te) (h : X.K = K := by rfl) : PI X tg e (iList K te) := h ▸ pi_list hl
theorem bk_pe_fld (he : PE X e te) (hb : attributeBase e f X.env (eval e X.env) = eval e X.env) (h : X.K = K := by rfl) : PE X (.Attribute e f pos) (tFld K te f) := h ▸ pe_fld he hb
theorem bk_pk_tuple (T : Bt X.mg) (ha : PA X (e :: es) t) (h : X.K = K := by rfl) (hg : Gl X "tuple" := by rfl) (he : starEach (e :: es) X.env = (false, eval e X.env) :: starEach es X.env := by rfl) (hpl : (backTo pos (starEach es X.env)).any (·.1) = false := by rfl) :
    PE X (.Call (.Name "tuple" p) (e :: es) [] pos) (tCB (rTupOf K) t) := h ▸ pk_tuple T ha hg he hpl
theorem bk_pk_list (T : Bt X.mg) (ha : PA X (e :: es) t) (h : X.K = K := by rfl) (hg : Gl X "list" := by rfl) (he : starEach (e :: es) X.env = (false, eval e X.env) :: starEach es X.env := by rfl) (hpl : (backTo pos (starEach es X.env)).any (·.1) = false := by rfl) :
    PE X (.Call (.Name "list" p) (e :: es) [] pos) (tCB (rLstOf K) t) := h ▸ pk_list T ha hg he hpl
theorem bk_pk_len (T : Bt X.mg) (ha : PA X (e :: es) t) (h : X.K = K := by rfl) (hg : Gl X "len" := by rfl) (he : starEach (e :: es) X.env = (false, eval e X.env) :: starEach es X.env := by rfl) (hpl : (backTo pos (starEach es X.env)).any (·.1) = false := by rfl) :
    PE X (.Call (.Name "len" p) (e :: es) [] pos) (tCB (rLenS K) t) := h ▸ pk_len T ha hg he hpl
theorem bk_pk_isinstance (T : Bt X.mg) (ha : PA X (e :: es) t) (h : X.K = K := by rfl) (hg : Gl X "isinstance" := by rfl) (he : starEach (e :: es) X.env = (false, eval e X.env) :: starEach es X.env := by rfl) (hpl : (backTo pos (starEach es X.env)).any (·.1) = false := by rfl) :
    PE X (.Call (.Name "isinstance" p) (e :: es) [] pos) (tCB (rIsi K) t) := h ▸ pk_isinstance T ha hg he hpl
end
section
variable {X : Cx} (K : PySem.W.Frag) {tg : Expr} {p pos : Pos} {es : List Expr} {t : TA}
theorem bk_pi_zipA {a b : Expr} {elts : List Expr} {kk : Nat} {tpos : Pos} (hm : X.mg "zip" = none) (ha : PA X [a, b] t) (h : X.K = K := by rfl) (hz : Gl X "zip" := by rfl) (hs : starEach [a, b] X.env = (false, eval a X.env) :: starEach [b] X.env := by rfl) (hpl : (backTo pos (starEach [b] X.env)).any (·.1) = false := by rfl) :
    PI X (.Tuple elts kk tpos) (.Call (.Name "zip" p) [a, b] [] pos) (iZipA K t) := h ▸ pi_zipA hz hm ha hs hpl
end
end Hf


/-! ## Fa5 -/
set_option Elab.async false
set_option linter.all false
set_option maxRecDepth 100000
set_option maxHeartbeats 400000

namespace Hf
open PySem PySem.Spec PyProof.Rows L2 RZ
section
variable {P : Program} {w : World} {K : PySem.W.Frag} {mg : Str → Option Value} {base : Heap}
/-! ### form_by_side -/
def spSide (K : PySem.W.Frag) : Sp := sp4 rMk rSd (rVc K) (rVc K) (fun _ _ a b => ∃ n, n ≤ 900 ∧ a.length = n + 1 ∧ b.length = n + 1) (rVc K) sideF
theorem mk_is {m k : Mk} (h : decide (m.s = k.s) = true) : m = k := by
  have := of_decide_eq_true h
  revert this
  cases m <;> cases k <;> first | (intro _; rfl) | (intro z; exact absurd z (by decide))
theorem mk_isnt {m k : Mk} (h : decide (m.s = k.s) = false) : m ≠ k := fun e => by
  subst e
  exact absurd rfl (of_decide_eq_false h)
theorem sd_mem (l : Bool) : decide ((if l = true then "least" else "most" : Str) ∈ (["least", "most"] : List Str)) = true := by cases l <;> decide
theorem sc_form_by_side : FnScope (["mark", "side", "first", "second", "question", "one", "both"] : List Str) (["mark", "side", "first", "second"] : List Str) (defScope (top 30)) := ⟨rfl, rfl, rfl, by decide +kernel, rfl, by decide +kernel, by decide +kernel⟩
theorem ok_form_by_side (D : Df K mg "form_by_side" (top 30)) (T : Bt mg) (cS : Ct K mg "SIDES" ((["least", "most"] : List Str).map V.str)) (C_question_of : Cal P w K mg base "question_of" 2 ["mark", "first", "second"] (spQuest K)) (C_constant_form : Cal P w K mg base "constant_form" 1 ["number", "size"] (spConstF K))
    (C_raised_form : Cal P w K mg base "raised_form" 1 ["form", "number"] (spRaiseF K)) (C_not_form : Cal P w K mg base "not_form" 2 ["form"] (spNotF K)) : Cal P w K mg base "form_by_side" 3 ["mark", "side", "first", "second"] (spSide K) := by
  obtain ⟨aS, g_SIDES, hS⟩ := cS.ex
  refine D.ok sc_form_by_side (fun _ _ _ _ _ _ us hl => match us, hl with | [_, _, _, _], _ => rfl) (sp4_len) (fun f cdv A outer s H vs Q E hr h => ?_)
  have nd := sc_form_by_side.nd
  refine ⟨_, (pss_cons (ps_set (i := 4) nd rfl (Or.inl rfl) (pk_call C_question_of hr (pa_cons (pv 0) (pa_cons (pv 2) (pa_cons (pv 3) pa_nil)))))
    (pss_cons (ps_if (pt_cmpR op_notIn_seq (pv 1) (pk_globT g_SIDES) rfl) (pss_one ps_never) pss_nil)
    (pss_cons (ps_set (i := 5) nd rfl (Or.inl rfl) (pk_call C_constant_form hr (pa_cons pe_int (pa_cons (pe_op op_sub (pk_len T (pa_cons (pv 4) pa_nil)) pe_int) pa_nil))))
    (pss_cons (ps_if (pt_cmpR op_eq (pv 0) pe_str (nomark _)) (pss_one (ps_set (i := 6) nd rfl (Or.inl rfl) (pe_tup (pa_cons (pv 5) (pa_cons (pk_call C_raised_form hr (pa_cons (pv 4) (pa_cons pe_int pa_nil))) pa_nil))))) (pss_one (ps_if (pt_cmpR op_eq (pv 0) pe_str (nomark _)) (pss_one (ps_set (i := 6) nd rfl (Or.inl rfl) (pe_tup (pa_cons (pv 4) (pa_cons (pk_call C_constant_form hr (pa_cons pe_int (pa_cons (pe_op op_sub (pk_len T (pa_cons (pv 4) pa_nil)) pe_int) pa_nil))) pa_nil))))) (pss_one (ps_if (pt_cmpR op_eq (pv 0) pe_str (nomark _)) (pss_one (ps_set (i := 6) nd rfl (Or.inl rfl) (pe_tup (pa_cons (pk_call C_not_form hr (pa_cons (pv 4) pa_nil)) (pa_cons (pv 5) pa_nil))))) (pss_one (ps_if (pt_cmpR op_eq (pv 0) pe_str (nomark _)) (pss_one (ps_set (i := 6) nd rfl (Or.inl rfl) (pe_tup (pa_cons (pv 3) (pa_cons (pv 2) pa_nil))))) (pss_one (ps_if (pt_cmpR op_eq (pv 0) pe_str (nomark _)) (pss_one (ps_set (i := 6) nd rfl (Or.inl rfl) (pe_tup (pa_cons (pv 2) (pa_cons (pv 3) pa_nil))))) (pss_one (ps_set (i := 6) nd rfl (Or.inl rfl) (pe_tup (pa_cons (pk_call C_not_form hr (pa_cons (pv 4) pa_nil)) (pa_cons (pk_call C_raised_form hr (pa_cons (pv 4) (pa_cons pe_int pa_nil))) pa_nil))))))))))))))
    (pss_one (ps_ret (pe_ifExp (pt_cmpR op_eq (pv 1) pe_str (nomark _)) (pe_ix ix_tup (pv 6) pe_int (fun _ _ => rfl)) (pe_ix ix_tup (pv 6) pe_int (fun _ _ => rfl))))))))), ?_⟩
  obtain ⟨v1, v2, v3, v4, m, l, a, b, rfl, rfl, rfl, h1, h2, ⟨n, hn, la, lb⟩, q⟩ := h
  have na : a ≠ [] := fun z => by rw [z] at la; cases la
  have nb : b ≠ [] := fun z => by rw [z] at lb; cases lb
  have lq := questF_len m la lb
  have nq : questF m a b ≠ [] := fun z => by rw [z] at lq; cases lq
  refine q_set (R := rVc K) (ev_call3 (R := rMk) (x := m) (ev_var rfl rfl) (ev_var rfl h1) (ev_var rfl h2) ⟨na, nb, by omega, by omega⟩) (fun vq H1 e1 rq => ?_)
  refine q_when (et_test (ev_niT (x := if l = true then "least" else "most") (ev_var (R := rStr) rfl rfl) (ev_c (ct_strs hS H1)))) (fun c _ _ => ?_) (fun c H2 e2 => ?_)
  · rw [sd_mem] at c; cases c
  refine q_set (R := rVc K) (x := constF 1 n) (ev_call2 (R := rInt) (S := rNat) (y := n) ev_int (EvR.to (R := rInt) (ev_sub (ev_lenT (ev_var rfl (Mo.up e2 rq))) ev_int) (show _ = ((n : Nat) : Int) by rw [lq]; omega)) (by omega)) (fun vo H3 e3 ro => ?_)
  have rq3 := Mo.up (R := rVc K) (e2.trans e3) rq
  have hc : ∀ k : Int, constF k ((questF m a b).length - 1) = constF k n := fun k => by rw [lq]; rfl
  have fin : ∀ H' v, Same H3 H' → r2 K (rVc K) (rVc K) H' v (sideF m true a b, sideF m false a b) → tRet (tIf (tTest (tOp rEq (tVar 1) (tC (.str "least")))) (tOp (rIxT K) (tVar 6) (tC (.int 0))) (tOp (rIxT K) (tVar 6) (tC (.int 1)))) { nx := fun _ H' => Q .non H', rt := Q } [some (.str m.s), some (.str (if l = true then "least" else "most")), some v3, some v4, some vq, some vo, some v] H' := fun H' v e r => by
    refine s_ret (R := rVc K) (ev_if' (b := l) (EvT.to (et_test (ev_eqS (i := if l = true then "least" else "most") (ev_var (R := rStr) rfl rfl) ev_str)) (by cases l <;> decide)) (fun c => EvR.to (ev_fst (S := rVc K) (ev_var rfl r)) (by subst c; rfl)) (fun c => EvR.to (ev_snd (R := rVc K) (ev_var rfl r)) (by subst c; rfl))) (fun v H' e2 r => q v H' (((e1.trans (‹Same H1 H2›)).trans (e3.trans e)).trans e2) r)
  refine q_if (et_test (ev_eqS (ev_var (R := rStr) (x := m.s) rfl rfl) ev_str)) (fun c H4 e4 => ?_) (fun c1 H4 e4 => ?_)
  · cases mk_is (k := .plus) c
    exact s_set (R := r2 K (rVc K) (rVc K)) (ev_pair (ev_var rfl (Mo.up e4 ro)) (ev_call2 (ev_var rfl (Mo.up e4 rq3)) ev_int ⟨nq, by omega⟩)) (fun v H5 e5 r => fin H5 v (e4.trans e5) (by
      have : (sideF .plus true a b, sideF .plus false a b) = (constF 1 n, raiseF (questF .plus a b) 1) := by rw [← hc]; rfl
      rw [this]; exact r))
  refine s_if (et_test (ev_eqS (ev_var (R := rStr) (x := m.s) rfl rfl) ev_str)) (fun c H5 e5 => ?_) (fun c2 H5 e5 => ?_)
  · cases mk_is (k := .times) c
    refine s_set (R := r2 K (rVc K) (rVc K)) (ev_pair (ev_var rfl (Mo.up (e4.trans e5) rq3)) (ev_call2 (R := rInt) (S := rNat) (y := n) ev_int (EvR.to (R := rInt) (ev_sub (ev_lenT (ev_var rfl (Mo.up (e4.trans e5) rq3))) ev_int) (show _ = ((n : Nat) : Int) by rw [lq]; omega)) (by omega))) (fun v H6 e6 r => fin H6 v ((e4.trans e5).trans e6) ?_)
    have : (sideF .times true a b, sideF .times false a b) = (questF .times a b, constF 0 n) := by rw [← hc]; rfl
    rw [this]; exact r
  refine s_if (et_test (ev_eqS (ev_var (R := rStr) (x := m.s) rfl rfl) ev_str)) (fun c H6 e6 => ?_) (fun c3 H6 e6 => ?_)
  · cases mk_is (k := .leads) c
    refine s_set (R := r2 K (rVc K) (rVc K)) (ev_pair (ev_call1 (ev_var rfl (Mo.up ((e4.trans e5).trans e6) rq3)) ⟨nq, by omega⟩) (ev_var rfl (Mo.up ((e4.trans e5).trans e6) ro))) (fun v H7 e7 r => fin H7 v (((e4.trans e5).trans e6).trans e7) ?_)
    have : (sideF .leads true a b, sideF .leads false a b) = (notF (questF .leads a b), constF 1 n) := by rw [← hc]; rfl
    rw [this]; exact r
  have e30 : Same H H3 := (e1.trans e2).trans e3
  refine s_if (et_test (ev_eqS (ev_var (R := rStr) (x := m.s) rfl rfl) ev_str)) (fun c H7 e7 => ?_) (fun c4 H7 e7 => ?_)
  · cases mk_is (k := .and) c
    have e37 : Same H3 H7 := (((e4.trans e5).trans e6).trans e7)
    exact s_set (R := r2 K (rVc K) (rVc K)) (ev_pair (ev_var rfl (Mo.up (e30.trans e37) h2)) (ev_var rfl (Mo.up (e30.trans e37) h1))) (fun v H8 e8 r => fin H8 v (e37.trans e8) r)
  refine s_if (et_test (ev_eqS (ev_var (R := rStr) (x := m.s) rfl rfl) ev_str)) (fun c H8 e8 => ?_) (fun c5 H8 e8 => ?_)
  · cases mk_is (k := .or) c
    have e38 : Same H3 H8 := ((((e4.trans e5).trans e6).trans e7).trans e8)
    exact s_set (R := r2 K (rVc K) (rVc K)) (ev_pair (ev_var rfl (Mo.up (e30.trans e38) h1)) (ev_var rfl (Mo.up (e30.trans e38) h2))) (fun v H9 e9 r => fin H9 v (e38.trans e9) r)
  have e38 : Same H3 H8 := ((((e4.trans e5).trans e6).trans e7).trans e8)
  have hm : m = .same := by
    have p1 := mk_isnt (k := .plus) c1
    have p2 := mk_isnt (k := .times) c2
    have p3 := mk_isnt (k := .leads) c3
    have p4 := mk_isnt (k := .and) c4
    have p5 := mk_isnt (k := .or) c5
    cases m <;> first | rfl | contradiction
  subst hm
  exact s_set (R := r2 K (rVc K) (rVc K)) (ev_pair (ev_call1 (ev_var rfl (Mo.up e38 rq3)) ⟨nq, by omega⟩) (ev_call2 (ev_var rfl (Mo.up e38 rq3)) ev_int ⟨nq, by omega⟩)) (fun v H9 e9 r => fin H9 v (e38.trans e9) r)
end
end Hf


/-! ## Fa6 -/
set_option Elab.async false
set_option linter.all false
set_option maxRecDepth 100000
set_option maxHeartbeats 400000

namespace Hf
open PySem PySem.Spec PyProof.Rows L2 RZ
/-! ### plain -/
def Sm (f : Vec) : Prop := ∀ y ∈ f, -1099511627776 < y ∧ y < 1099511627776
theorem atN {α : Type} {xs : List α} {i : Nat} (h : i < xs.length) : atI xs (i : Int) = some xs[i] := by
  unfold atI ixN
  have h1 : ¬ ((i : Int) < 0) := by omega
  have h2 : (i : Int) < (xs.length : Int) := by omega
  first
    | simp [h1, h]
    | (simp [h1, h2, h])
theorem atD {xs : Vec} {i : Nat} (h : i < xs.length) : atI xs (i : Int) = some (xs.getD i 0) := by
  rw [atN h, List.getD_eq_getElem?_getD, List.getElem?_eq_getElem h]
  rfl
theorem zip_dot : ∀ (u v : Vec), ((u.zip v).map fun p => p.1 * p.2).sum = dot u v
  | [], v => by simp
  | a :: u, [] => by simp
  | a :: u, b :: v => by
    have := zip_dot u v
    simp only [List.zip_cons_cons, List.map_cons, List.sum_cons, dot_cons, this]
theorem zip_with {α β γ : Type} (f : α → β → γ) : ∀ (u : List α) (v : List β), ((u.zip v).map fun p => f p.1 p.2) = List.zipWith f u v
  | [], v => by simp
  | a :: u, [] => by simp
  | a :: u, b :: v => by
    have := zip_with f u v
    simp only [List.zip_cons_cons, List.map_cons, List.zipWith_cons_cons, this]
def pivs (i : Nat) (left : List Vec) : List Vec := left.filter fun r => !decide (r.getD i 0 = 0)
def elimAll (i : Nat) (first : Vec) (left : List Vec) : List Vec := left.map fun row => List.zipWith (fun part other => part * first.getD i 0 - other * row.getD i 0) row first
def rkB : Nat → Int
  | 0 => 16
  | 1 => 512
  | 2 => 524288
  | _ => 549755813888
structure RkOk (n i : Nat) (left : List Vec) : Prop where
  len : ∀ r ∈ left, r.length = n
  bd : ∀ r ∈ left, ∀ y ∈ r, -(rkB i) ≤ y ∧ y ≤ rkB i
theorem drop_cons {n i : Nat} {r : Vec} (h : r.length = n) (hi : i < n) : r.drop i = r.getD i 0 :: r.drop (i + 1) := by
  rw [List.drop_eq_getElem_cons (by omega), List.getD_eq_getElem?_getD, List.getElem?_eq_getElem (by omega)]
  rfl
theorem rk_filter {n i : Nat} {left : List Vec} (h : ∀ r ∈ left, r.length = n) (hi : i < n) : (left.map (List.drop i)).filter (fun r => decide (hd0 r ≠ 0)) = (pivs i left).map (List.drop i) := by
  induction left with
  | nil => rfl
  | cons r t ih =>
    have ih := ih fun r hr => h r (List.mem_cons_of_mem _ hr)
    have e := drop_cons (h r List.mem_cons_self) hi
    have eh : hd0 (r.drop i) = r.getD i 0 := by rw [e]; rfl
    unfold pivs at ih ⊢
    rw [List.map_cons, List.filter_cons, List.filter_cons, eh, ih, show decide (r.getD i 0 ≠ 0) = (!decide (r.getD i 0 = 0)) from by simp]
    cases (!decide (r.getD i 0 = 0)) <;> rfl
theorem rk_skip {n i m : Nat} {left : List Vec} (h : ∀ r ∈ left, r.length = n) (hi : i < n) (hp : pivs i left = []) : rankR (m + 1) (left.map (List.drop i)) = rankR m (left.map (List.drop (i + 1))) := by
  have e := rk_filter h hi
  rw [hp] at e
  conv => lhs; unfold rankR
  rw [e]
  simp only [List.map_nil, List.map_map]
  congr 1
  apply List.map_congr_left
  intro r hr
  simp
theorem rk_elim {n i m : Nat} {left l : List Vec} {first : Vec} (h : ∀ r ∈ left, r.length = n) (hi : i < n) (hp : pivs i left = first :: l) : rankR (m + 1) (left.map (List.drop i)) = 1 + rankR m ((elimAll i first left).map (List.drop (i + 1))) := by
  have e := rk_filter h hi
  have hf : first ∈ left := by
    have : first ∈ pivs i left := by rw [hp]; exact List.mem_cons_self
    exact (List.mem_filter.mp this).1
  rw [hp] at e
  conv => lhs; unfold rankR
  rw [e]
  simp only [List.map_cons, elimAll, List.map_map]
  congr 2
  apply List.map_congr_left
  intro r hr
  have e1 := drop_cons (h r hr) hi
  have e2 := drop_cons (h first hf) hi
  simp only [Function.comp_apply]
  rw [e1, e2]
  show List.zipWith _ _ _ = _
  rw [List.drop_zipWith]
  rfl
theorem pivs_mem {i : Nat} {left l : List Vec} {first : Vec} (hp : pivs i left = first :: l) : first ∈ left := by
  have : first ∈ pivs i left := by rw [hp]; exact List.mem_cons_self
  exact (List.mem_filter.mp this).1
theorem mul_bd {a b B : Int} (h1 : -B ≤ a) (h2 : a ≤ B) (h3 : -B ≤ b) (h4 : b ≤ B) : -(B * B) ≤ a * b ∧ a * b ≤ B * B := by
  have e : (a * b).natAbs ≤ B.natAbs * B.natAbs := by
    rw [Int.natAbs_mul]
    exact Nat.mul_le_mul (by omega) (by omega)
  have e2 : (B * B).natAbs = B.natAbs * B.natAbs := Int.natAbs_mul B B
  have e3 : 0 ≤ B * B := Int.mul_nonneg (by omega) (by omega)
  omega
theorem getD_mem {r : Vec} {i : Nat} (h : i < r.length) : r.getD i 0 ∈ r := by
  rw [List.getD_eq_getElem?_getD, List.getElem?_eq_getElem h]
  exact List.getElem_mem h
theorem rk_ok {n i : Nat} {left : List Vec} {first : Vec} (h : RkOk n i left) (hi : i < n) (hn : n ≤ 3) (hf : first ∈ left) : RkOk n (i + 1) (elimAll i first left) := by
  constructor
  · intro r hr
    obtain ⟨row, hrow, rfl⟩ := List.mem_map.mp hr
    rw [List.length_zipWith, h.len row hrow, h.len first hf, Nat.min_self]
  · intro r hr y hy
    obtain ⟨row, hrow, rfl⟩ := List.mem_map.mp hr
    rw [← zip_with] at hy
    obtain ⟨p, hp, rfl⟩ := List.mem_map.mp hy
    have a1 := h.bd row hrow p.1 (List.of_mem_zip (a := p.1) (b := p.2) hp).1
    have a2 := h.bd first hf p.2 (List.of_mem_zip (a := p.1) (b := p.2) hp).2
    have a3 := h.bd first hf _ (getD_mem (r := first) (i := i) (by rw [h.len first hf]; exact hi))
    have a4 := h.bd row hrow _ (getD_mem (r := row) (i := i) (by rw [h.len row hrow]; exact hi))
    have b1 := mul_bd a1.1 a1.2 a3.1 a3.2
    have b2 := mul_bd a2.1 a2.2 a4.1 a4.2
    have hB : rkB i * rkB i * 2 = rkB (i + 1) := by
      have : i = 0 ∨ i = 1 ∨ i = 2 := by omega
      rcases this with rfl | rfl | rfl <;> rfl
    omega
theorem rk_same {n i : Nat} {left : List Vec} (h : RkOk n i left) (hi : i < n) (hn : n ≤ 3) : RkOk n (i + 1) left := ⟨h.len, fun r hr y hy => by
  have := h.bd r hr y hy
  have hB : rkB i ≤ rkB (i + 1) := by
    have : i = 0 ∨ i = 1 ∨ i = 2 := by omega
    rcases this with rfl | rfl | rfl <;> decide
  omega⟩
theorem rkB_le {i : Nat} : rkB i ≤ 549755813888 ∧ 0 ≤ rkB i := by
  unfold rkB
  split <;> decide
section
variable {P : Program} {w : World} {K : PySem.W.Frag} {mg : Str → Option Value} {base : Heap}
/-! ### number_at, bounding_forms, whole_cube -/
def spNum (K : PySem.W.Frag) : Sp := sp2 (rVc K) (rVc K) (fun f _ => f.length ≤ 1000 ∧ Sm f) rInt dot
theorem sc_number_at : FnScope (["form", "corner", "part", "number"] : List Str) (["form", "corner"] : List Str) (defScope (top 33)) := ⟨rfl, rfl, rfl, by decide +kernel, rfl, by decide +kernel, by decide +kernel⟩
theorem ok_number_at (D : Df K mg "number_at" (top 33)) (T : Bt mg) : Cal P w K mg base "number_at" 1 ["form", "corner"] (spNum K) := by
  refine D.ok sc_number_at (fun _ _ _ _ _ _ us hl => match us, hl with | [_, _], _ => rfl) (sp2_len) (fun f cdv A outer s H vs Q E hr h => ?_)
  have nd := sc_number_at.nd
  refine ⟨_, (pss_one (ps_ret (pk_sum T (pa_cons (pe_lc (own := [("part", 2), ("number", 3)]) (g := gTup K 2 (gCons (gName 2) (gCons (gName 3) gNil))) rfl nd (pi_zipA rfl T.zip (pa_cons (pv 0) (pa_cons (pv 1) pa_nil))) (blkOk_by (by walk_at "blk")) (fun _ _ _ _ _ => (pg_tup rfl (pgs_cons (pg_name (i := 2) nd rfl (Or.inl rfl)) (pgs_cons (pg_name (i := 3) nd rfl (Or.inl rfl)) pgs_nil)))) (fun _ _ _ _ _ => pts_nil) (fun _ _ _ _ _ => (pe_op op_mul (pv 2) (pv 3)))) pa_nil)))), ?_⟩
  obtain ⟨v, u, f, c, rfl, h1, h2, ⟨hz, hs⟩, q⟩ := h
  refine s_ret (R := rInt) (EvR.to (ev_sum (ev_lcP (R := rInt) (T := rInt) (fun p => p.1 * p.2) (ii_zipT (ev_var rfl h1) (ev_var rfl h2)) (fun _ _ _ e => Le.of e) ?_ (fun u v => rfl) (fun x hx u v H' e r1 r2 => ev_mul (ev_var rfl r1) (ev_var rfl r2) ?_))) (zip_dot f c)) (fun v H' e r => q v H' e r)
  · rw [List.length_zip]; omega
  · have := hs x.1 (List.of_mem_zip (a := x.1) (b := x.2) hx).1
    exact .inl ⟨by omega, by omega⟩
def spBnd (K : PySem.W.Frag) (mg : Str → Option Value) : Sp := sp1 (rCl K mg) (fun c => c.n ≤ 100 ∧ c.path.length ≤ 1000) (rT K (rVc K)) (fun c => c.path ++ faces c.n)
theorem faces_len (n : Nat) : (faces n).length = 2 * n := by
  have : ∀ m, ((List.range m).flatMap fun k => [faceLo n k, faceHi n k]).length = 2 * m := fun m => by
    induction m with
    | zero => rfl
    | succ m ih => rw [List.range_succ, List.flatMap_append, List.length_append, ih]; simp; omega
  exact this n
theorem sc_bounding_forms : FnScope (["cell"] : List Str) (["cell"] : List Str) (defScope (top 34)) := ⟨rfl, rfl, rfl, by decide +kernel, rfl, by decide +kernel, by decide +kernel⟩
theorem ok_bounding_forms (D : Df K mg "bounding_forms" (top 34)) (T : Bt mg) (CELL : CellD K mg) (C_faces : Cal P w K mg base "faces" 1 ["count"] (spFaces K)) : Cal P w K mg base "bounding_forms" 2 ["cell"] (spBnd K mg) := by
  refine D.ok sc_bounding_forms (fun _ _ _ _ _ _ us hl => match us, hl with | [_], _ => rfl) (sp1_len) (fun f cdv A outer s H vs Q E hr h => ?_)
  have nd := sc_bounding_forms.nd
  refine ⟨_, (pss_one (ps_ret (pe_op op_catA (pe_fld (pv 0) rfl) (pk_call C_faces hr (pa_cons (pe_fld (pv 0) rfl) pa_nil))))), ?_⟩
  obtain ⟨v, c, rfl, h1, ⟨hn, hz⟩, q⟩ := h
  refine s_ret (R := rT K (rVc K)) (ev_catA (ev_path CELL (ev_var rfl h1)) (ev_call1 (ev_size CELL (ev_var rfl h1)) hn) (by rw [faces_len]; omega)) (fun v H' e r => q v H' e r)
def spCube (K : PySem.W.Frag) (mg : Str → Option Value) : Sp := sp1 rNat (fun n => n ≤ 3) (rCl K mg) (fun n => ⟨n, [], cube n⟩)
theorem cube_len (n : Nat) : (cube n).length = 2 ^ n := by
  induction n with
  | zero => rfl
  | succ n ih =>
    unfold cube
    have : ∀ l : List Vec, (l.flatMap fun c => [c ++ [0], c ++ [1]]).length = 2 * l.length := fun l => by
      induction l with
      | nil => rfl
      | cons a l ih => rw [List.flatMap_cons, List.length_append, ih]; simp; omega
    rw [this, ih, Nat.pow_succ]; omega
theorem cube_small {i : Nat} (h : i ≤ 3) : (cube i).length ≤ 8 ∧ ∀ c ∈ cube i, c.length ≤ 4 := by
  refine ⟨?_, fun c hc => ?_⟩
  · rw [cube_len]
    have : i = 0 ∨ i = 1 ∨ i = 2 ∨ i = 3 := by omega
    rcases this with rfl | rfl | rfl | rfl <;> decide
  · obtain ⟨p, rfl, hp, _⟩ := mem_cube.mp hc
    simp; omega
theorem sc_whole_cube : FnScope (["size", "corners", "_", "corner", "bit"] : List Str) (["size"] : List Str) (defScope (top 35)) := ⟨rfl, rfl, rfl, by decide +kernel, rfl, by decide +kernel, by decide +kernel⟩
theorem ok_whole_cube (D : Df K mg "whole_cube" (top 35)) (T : Bt mg) (CELL : CellD K mg) : Cal P w K mg base "whole_cube" 3 ["size"] (spCube K mg) := by
  refine D.ok sc_whole_cube (fun _ _ _ _ _ _ us hl => match us, hl with | [_], _ => rfl) (sp1_len) (fun f cdv A outer s H vs Q E hr h => ?_)
  have nd := sc_whole_cube.nd
  refine ⟨_, (pss_cons (ps_set (i := 1) nd rfl (Or.inl rfl) (pe_lst (pa_cons (pe_tup (pa_cons pe_int pa_nil)) pa_nil)))
    (pss_cons (ps_for PassesOwn.never rfl (pi_range1 rfl T.range (pa_cons (pv 0) pa_nil)) (pg_name (i := 2) nd rfl (Or.inl rfl)) (pss_one (ps_setLc2 (i := 1) (own := [("corner", 3), ("bit", 4)]) (vs1 := [4]) rfl nd rfl rfl (sw_true rfl rfl rfl (by decide +kernel)) (pi_list (pv 1)) (blkOk_by (by walk_at "blk")) (by decide) (fun _ _ _ _ _ => (pg_name (i := 3) nd rfl (Or.inl rfl))) (fun _ _ _ _ _ => pts_nil) (fun _ _ _ _ _ => (bk_pi_tup K (pe_tup (pa_cons pe_int (pa_cons pe_int pa_nil))))) (fun _ _ _ _ _ => (pg_name (i := 4) nd rfl (Or.inl rfl))) (fun _ _ _ _ _ => pts_nil) (fun _ _ _ _ _ => (pe_op (bk_op_catA K) (pv 3) (pe_tup (pa_cons (pv 4) pa_nil)))))))
    (pss_one (ps_ret (pk_cell CELL hr (pa_cons (pv 0) (pa_cons (pe_tup pa_nil) (pa_cons (pk_tuple T (pa_cons (pv 1) pa_nil)) pa_nil)))))))), ?_⟩
  obtain ⟨v, n, rfl, rfl, hn, q⟩ := h
  refine q_set (R := rL (rVc K)) (x := [[1]]) (ev_lst (ei_cons (ev_tup (ei_cons ev_int ei_nil) (by decide)) ei_nil) (by decide)) (fun vc H1 e1 rc => ?_)
  refine q_for (I := fun H2 i σ' H' => ∃ vc x2, σ' = [some (.int (n : Int)), some vc, x2, none, none] ∧ Same H2 H' ∧ rL (rVc K) H' vc (cube i)) (ii_range1 (ev_var (R := rInt) rfl rfl) (by omega))
    (fun H2 e2 => ⟨_, _, rfl, Same.refl _, Mo.up e2 rc⟩) (fun H2 i σ' H' e2 z => ?_) (fun H2 i x σ' H' v' H'' e2 hx z e3 r => ?_) (fun H2 σ' H' e2 z => ?_)
  · obtain ⟨_, _, _, sb, _⟩ := z
    exact Le.of sb
  · obtain ⟨vc, x2, rfl, sb, rc⟩ := z
    have hi : i < n := by
      have := (List.getElem?_eq_some_iff.mp hx).1
      rw [ivs_len] at this
      omega
    have cs := cube_small (i := i) (by omega)
    refine s_set (R := rL (rVc K)) (x := cube (i + 1)) (EvR.to (x := (cube i).flatMap fun c => ([0, 1] : List Int).map fun b => c ++ [b]) (ev_lc2 (R := rVc K) (S := rInt) (KP := Same) (KP' := Le) (fun _ => [0, 1]) (fun c b => c ++ [b]) (ii_lst (ev_var rfl (Mo.up e3 rc))) (fun _ _ _ e => e) ?_ (fun v => rfl) (fun v u => rfl)
      (fun x hx v H' e r => ii_tup (ev_tup (ei_cons ev_int (ei_cons ev_int ei_nil)) (by decide))) (fun _ _ e => e) (fun x hx y hy v u H' e r s => ev_catA (ev_var rfl r) (ev_tup (ei_cons (ev_var rfl s) ei_nil) (by simp)) ?_)) ?_) (fun v H3 e4 r => ?_)
    · have : ∀ l : List Vec, (l.flatMap fun c => ([0, 1] : List Int).map fun b => c ++ [b]).length = 2 * l.length := fun l => by
        induction l with
        | nil => rfl
        | cons a l ih => rw [List.flatMap_cons, List.length_append, ih]; simp; omega
      rw [this]; omega
    · have := cs.2 x hx
      simp; omega
    · rfl
    · exact ⟨_, _, rfl, (sb.trans e3).trans e4, r⟩
  · obtain ⟨vc, x2, rfl, sb, rc⟩ := z
    rw [ivs_len] at rc
    have ht : ((n : Int)).toNat = n := by omega
    rw [ht] at rc
    exact s_ret (R := rCl K mg) (ev_cell (n := n) (ev_var rfl rfl) (ev_tup ei_nil (by decide)) (ev_tupL (ev_var rfl rc))) (fun v H' e r => q v H' (((e1.trans e2).trans sb).trans e) r)
/-! ### _rank -/
def spRank (K : PySem.W.Frag) : Sp := sp2 (rL (rVc K)) rNat (fun rows n => n ≤ 3 ∧ rows.length ≤ 1000 ∧ RkOk n 0 rows) rNat (fun rows n => rankR n rows)
theorem sc__rank : FnScope (["rows", "width", "left", "rank", "k", "firsts", "first", "row", "part", "other"] : List Str) (["rows", "width"] : List Str) (defScope (top 36)) := ⟨rfl, rfl, rfl, by decide +kernel, rfl, by decide +kernel, by decide +kernel⟩
theorem ok__rank (D : Df K mg "_rank" (top 36)) (T : Bt mg) : Cal P w K mg base "_rank" 1 ["rows", "width"] (spRank K) := by
  refine D.ok sc__rank (fun _ _ _ _ _ _ us hl => match us, hl with | [_, _], _ => rfl) (sp2_len) (fun f cdv A outer s H vs Q E hr h => ?_)
  have nd := sc__rank.nd
  refine ⟨_, (pss_cons (ps_set (i := 2) nd rfl (Or.inl rfl) (pk_list T (pa_cons (pv 0) pa_nil)))
    (pss_cons (ps_set (i := 3) nd rfl (Or.inl rfl) pe_int)
    (pss_cons (ps_for PassesOwn.never rfl (pi_range1 rfl T.range (pa_cons (pv 1) pa_nil)) (pg_name (i := 4) nd rfl (Or.inr rfl)) (pss_cons (ps_setLc (i := 5) (own := [("row", 7)]) rfl nd rfl rfl (sw_true rfl rfl rfl (by decide +kernel)) (pi_list (pv 2)) (blkOk_by (by walk_at "blk")) (fun _ _ _ _ _ => (pg_name (i := 7) nd rfl (Or.inl rfl))) (fun _ _ _ _ _ => (pts_one (pt_cmpR op_ne (pe_ix (bk_ix_tup K) (pv 7) (pv 4) (fun _ _ => rfl)) pe_int (nomark _)))) (fun _ _ _ _ _ => (pv 7)))
    (pss_cons (ps_if (pt_cmpR (op_eq0 hr.units0) (pv 5) (pe_lst pa_nil) (nomark _)) (pss_one ps_continue) pss_nil)
    (pss_cons (ps_set (i := 6) nd rfl (Or.inr rfl) (pe_ix ix_list (pv 5) pe_int (fun _ _ => rfl)))
    (pss_cons (ps_aug (i := 3) nd rfl (Or.inl rfl) pe_int ip_add)
    (pss_one (ps_setLc (i := 2) (own := [("row", 7)]) rfl nd rfl rfl (sw_true rfl rfl rfl (by decide +kernel)) (pi_list (pv 2)) (blkOk_by (by walk_at "blk")) (fun _ _ _ _ _ => (pg_name (i := 7) nd rfl (Or.inr rfl))) (fun _ _ _ _ _ => pts_nil) (fun _ _ _ _ _ => (bk_pk_tuple K T (pa_cons (pe_lc (own := [("part", 8), ("other", 9)]) (g := gTup K 2 (gCons (gName 8) (gCons (gName 9) gNil))) rfl nd (bk_pi_zipA K T.zip (pa_cons (pv 7) (pa_cons (pv 6) pa_nil))) (blkOk_by (by walk_at "blk")) (fun _ _ _ _ _ => (pg_tup rfl (pgs_cons (pg_name (i := 8) nd rfl (Or.inl rfl)) (pgs_cons (pg_name (i := 9) nd rfl (Or.inl rfl)) pgs_nil)))) (fun _ _ _ _ _ => pts_nil) (fun _ _ _ _ _ => (pe_op op_sub (pe_op op_mul (pv 8) (pe_ix (bk_ix_tup K) (pv 6) (pv 4) (fun _ _ => rfl))) (pe_op op_mul (pv 9) (pe_ix (bk_ix_tup K) (pv 7) (pv 4) (fun _ _ => rfl)))))) pa_nil))))))))))
    (pss_one (ps_ret (pv 3)))))), ?_⟩
  obtain ⟨v, u, rows, n, rfl, h1, rfl, ⟨hn, hz, hk⟩, q⟩ := h
  refine q_set (R := rL (rVc K)) (ev_lstL (ev_var rfl h1)) (fun vl H1 e1 rl => ?_)
  refine q_set (R := rInt) ev_int (fun v3 H2 e2 r3 => ?_)
  cases r3
  refine q_for (I := fun H2 i σ' H' => ∃ vl left rk x4 x5 x6, σ' = [some v, some (.int (n : Int)), some vl, some (.int ((rk : Nat) : Int)), x4, x5, x6, none, none, none] ∧ Same H2 H' ∧ rL (rVc K) H' vl left ∧ left.length ≤ 1000 ∧ RkOk n i left ∧ rankR n rows = rk + rankR (n - i) (left.map (List.drop i))) (ii_range1 (ev_var (R := rInt) rfl rfl) (by omega))
    (fun H3 e3 => ⟨vl, rows, 0, none, none, none, rfl, Same.refl _, Mo.up (e2.trans e3) rl, hz, hk, by rw [Nat.sub_zero, Nat.zero_add, show (List.drop 0 : Vec → Vec) = id from rfl, List.map_id]⟩) (fun H3 i σ' H' e3 z => ?_) (fun H3 i x σ' H' v' H'' e3 hx z e4 r => ?_) (fun H3 σ' H' e3 z => ?_)
  · obtain ⟨_, _, _, _, _, _, _, sb, _⟩ := z
    exact Le.of sb
  · obtain ⟨vl, left, rk, x4, x5, x6, rfl, sb, rl, hz, ok, eq⟩ := z
    have hi : i < n := by
      have := (List.getElem?_eq_some_iff.mp hx).1
      rw [ivs_len] at this
      omega
    rw [ivs_get (by omega)] at hx
    cases hx
    cases r
    rw [Int.zero_add]
    have em : n - i = (n - (i + 1)) + 1 := by omega
    have rl1 := Mo.up (R := rL (rVc K)) e4 rl
    refine q_set (R := rL (rVc K)) (x := pivs i left) (EvR.to (ev_lcF (R := rVc K) (S := rVc K) (KP := Same) (fun r => !decide (r.getD i 0 = 0)) (fun r => r) (ii_lst (ev_var rfl rl1)) (fun _ _ _ e => e) (by omega) (fun v => rfl)
      (fun r hr v H' e rr => et_test (ev_neI (ev_ixT (R := rInt) (ev_var rfl rr) (ev_var (R := rInt) rfl rfl) (atD (by rw [ok.len r hr]; exact hi))) ev_int)) (fun r hr _ v H' e rr => ev_var rfl rr)) (by rw [List.map_id']; rfl)) (fun vf H4 e5 rf => ?_)
    refine q_when (et_test (et_eq0 (ev_var rfl rf) (ev_lst ei_nil (by decide)))) (fun c H5 e6 => ?_) (fun c H5 e6 => ?_)
    · have hp : pivs i left = [] := List.isEmpty_iff.mp c
      refine ⟨vl, left, rk, _, _, _, rfl, (((sb.trans e4).trans e5).trans e6), Mo.up (e5.trans e6) rl1, hz, rk_same ok hi hn, ?_⟩
      rw [eq, em, rk_skip ok.len hi hp]
    · cases hp : pivs i left with
      | nil => rw [hp] at c; cases c
      | cons first l =>
        have hf := pivs_mem hp
        have lf := ok.len first hf
        rw [hp] at rf
        refine q_set (R := rVc K) (x := first) (ev_ixL (ev_var rfl (Mo.up (R := rL (rVc K)) e6 rf)) ev_int at0) (fun v6 H6 e7 r6 => ?_)
        refine q_aug rfl (ev_int (i := 1)) (fun H7 e8 => ?_)
        have rl2 := Mo.up (R := rL (rVc K)) (((e5.trans e6).trans e7).trans e8) rl1
        have r6' := Mo.up (R := rVc K) e8 r6
        refine s_set (R := rL (rVc K)) (x := elimAll i first left) (ev_lc (R := rVc K) (S := rVc K) (KP := Same) (fun row => List.zipWith (fun part other => part * first.getD i 0 - other * row.getD i 0) row first) (ii_lst (ev_var rfl rl2)) (fun _ _ _ e => e) (by omega) (fun v => rfl)
          (fun row hrow v H' e rr => ev_tupL (EvR.to (ev_lcP (R := rInt) (T := rInt) (fun p => p.1 * first.getD i 0 - p.2 * row.getD i 0) (ii_zipT (ev_var rfl rr) (ev_var rfl (Mo.up e r6'))) (fun _ _ _ e => Le.of e) ?_ (fun u v => rfl)
            (fun p hp u v H'' e' s1 s2 => ev_sub (ev_mul (ev_var rfl s1) (ev_ixT (R := rInt) (ev_var rfl (Mo.up (e.trans e') r6')) (ev_var (R := rInt) rfl rfl) (atD (by rw [lf]; exact hi))) ?_) (ev_mul (ev_var rfl s2) (ev_ixT (R := rInt) (ev_var rfl (Mo.up e' rr)) (ev_var (R := rInt) rfl rfl) (atD (by rw [ok.len row hrow]; exact hi))) ?_))) (zip_with (fun part other => part * first.getD i 0 - other * row.getD i 0) row first)))) (fun v H8 e9 r => ?_)
        · rw [List.length_zip, lf, ok.len row hrow]; omega
        · have := ok.bd row hrow p.1 (List.of_mem_zip (a := p.1) (b := p.2) hp).1
          have := rkB_le (i := i)
          exact .inl ⟨by omega, by omega⟩
        · have := ok.bd first hf p.2 (List.of_mem_zip (a := p.1) (b := p.2) hp).2
          have := rkB_le (i := i)
          exact .inl ⟨by omega, by omega⟩
        · refine ⟨_, _, rk + 1, _, _, _, rfl, ((((((sb.trans e4).trans e5).trans e6).trans e7).trans e8).trans e9), r, ?_, rk_ok ok hi hn hf, ?_⟩
          · unfold elimAll; rw [List.length_map]; exact hz
          · rw [eq, em, rk_elim ok.len hi hp]; omega
  · obtain ⟨vl, left, rk, x4, x5, x6, rfl, sb, rl, hz, ok, eq⟩ := z
    rw [ivs_len] at eq
    have ht : ((n : Int)).toNat = n := by omega
    rw [ht, Nat.sub_self] at eq
    have : rankR n rows = rk := by rw [eq]; rfl
    exact s_ret (R := rNat) (x := rankR n rows) (ev_var rfl (by rw [this]; rfl)) (fun v H' e r => q v H' ((((e1.trans e2).trans e3).trans sb).trans e) r)
end
end Hf


/-! ## Fa7 -/
set_option Elab.async false
set_option linter.all false
set_option maxRecDepth 100000
set_option maxHeartbeats 400000

namespace Hf
open PySem PySem.Spec PyProof.Rows L2 RZ
/-! ### plain: cells with small numbers -/
def LB : Nat → Int
  | 0 => 14
  | 1 => 14
  | 2 => 11
  | _ => 9
def DB : Nat → Int
  | 0 => 1
  | 1 => 14
  | 2 => 242
  | _ => 2916
structure Fo (n : Nat) (f : Vec) : Prop where
  len : f.length = n + 1
  bd : ∀ y ∈ f, -(LB n) ≤ y ∧ y ≤ LB n
def cutC (c : Cl) (f : Vec) : Cl := ⟨c.n, c.path ++ [f], keptOf c.corners f ++ madeOf c.n (c.path ++ faces c.n) c.corners f⟩
structure Gd (c : Cl) : Prop where
  n3 : c.n ≤ 3
  pl : c.path.length ≤ 20
  fo : ∀ f ∈ c.path, Fo c.n f
  ok : CellOk c.n (c.path ++ faces c.n) c.corners
theorem LB_ge {n : Nat} : 9 ≤ LB n ∧ LB n ≤ 14 := by
  unfold LB
  split <;> decide
theorem DB_eq {n : Nat} (h : n ≤ 3) : detB (List.replicate n (LB n)) = DB n := by
  have : n = 0 ∨ n = 1 ∨ n = 2 ∨ n = 3 := by omega
  rcases this with rfl | rfl | rfl | rfl <;> rfl
theorem DB_le {n : Nat} : DB n ≤ 2916 ∧ 1 ≤ DB n := by
  unfold DB
  split <;> decide
theorem Fo.sm {n : Nat} {f : Vec} (h : Fo n f) : Sm f := fun y hy => by
  have := h.bd y hy
  have := LB_ge (n := n)
  omega
theorem getD_rep {n i : Nat} {x : Int} (h : i < n) : (List.replicate n x).getD i 0 = x := by
  rw [List.getD_eq_getElem?_getD, List.getElem?_replicate, if_pos h]; rfl
theorem Fo.bdd {n : Nat} {f : Vec} (h : Fo n f) : Bd n (List.replicate n (LB n)) f := fun i hi => by
  rw [getD_rep hi]
  exact h.bd _ (getD_mem (by rw [h.len]; omega))
theorem fo_face {n : Nat} {f : Vec} (h : f ∈ faces n) : Fo n f := ⟨face_length h, fun y hy => by
  have hL := LB_ge (n := n)
  obtain ⟨k, hk, e⟩ := mem_faces.mp h
  have u : ∀ e : Int, (e = 1 ∨ e = -1) → ∀ z ∈ unit n k e, -1 ≤ z ∧ z ≤ 1 := fun e he z hz => by
    unfold unit at hz
    rcases List.mem_append.mp hz with z1 | z1
    · rw [(List.mem_replicate.mp z1).2]; decide
    · rcases List.mem_cons.mp z1 with z2 | z2
      · rcases he with rfl | rfl <;> subst z2 <;> decide
      · rw [(List.mem_replicate.mp z2).2]; decide
  rcases e with rfl | rfl
  · rcases List.mem_cons.mp hy with rfl | hy
    · omega
    · have := u 1 (.inl rfl) y hy; omega
  · rcases List.mem_cons.mp hy with rfl | hy
    · omega
    · have := u (-1) (.inr rfl) y hy; omega⟩
theorem Gd.foL {c : Cl} (h : Gd c) : ∀ f ∈ c.path ++ faces c.n, Fo c.n f := fun f hf => by
  rcases List.mem_append.mp hf with z | z
  · exact h.fo f z
  · exact fo_face z
theorem Gd.few {c : Cl} (h : Gd c) : c.corners.length ≤ 17576 := by
  have a := cells_few h.n3 h.ok (m := List.replicate c.n (LB c.n)) List.length_replicate (fun f hf => (h.foL f hf).bdd)
  have b : (c.path ++ faces c.n).length ≤ 26 := by
    have := h.pl
    have := h.n3
    rw [List.length_append, faces_len]; omega
  have c1 : (c.path ++ faces c.n).length ^ c.n ≤ 26 ^ c.n := Nat.pow_le_pow_left b _
  have c2 : 26 ^ c.n ≤ 26 ^ 3 := Nat.pow_le_pow_right (by decide) h.n3
  have : (26 ^ 3 : Nat) = 17576 := by decide
  omega
structure Co (n : Nat) (x : Vec) : Prop where
  len : x.length = n + 1
  bd : ∀ y ∈ x, 0 ≤ y ∧ y ≤ DB n
  hd : 0 < hd0 x
theorem Gd.co {c : Cl} (h : Gd c) {x : Vec} (hx : x ∈ c.corners) : Co c.n x := by
  obtain ⟨d, p, rfl, hp, _⟩ := h.ok.pt x hx
  obtain ⟨a, b⟩ := cells_small h.n3 h.ok (m := List.replicate c.n (LB c.n)) List.length_replicate (fun f hf => (h.foL f hf).bdd) hx
  rw [DB_eq h.n3] at a
  refine ⟨by simp [hp.len], fun y hy => ?_, hp.pos⟩
  rcases List.mem_cons.mp hy with rfl | hy
  · have := hp.pos; omega
  · have := b y hy; omega
theorem dot_bd {A B : Int} (hA : 0 ≤ A) (hB : 0 ≤ B) : ∀ (f c : Vec), (∀ y ∈ f, -A ≤ y ∧ y ≤ A) → (∀ y ∈ c, 0 ≤ y ∧ y ≤ B) → -((f.length : Int) * (A * B)) ≤ dot f c ∧ dot f c ≤ (f.length : Int) * (A * B)
  | [], c, _, _ => by simp
  | a :: f, [], _, _ => by
    have : 0 ≤ (((a :: f).length : Nat) : Int) * (A * B) := Int.mul_nonneg (by omega) (Int.mul_nonneg hA hB)
    simp only [dot_nil_right]
    omega
  | a :: f, b :: c, h1, h2 => by
    have ih := dot_bd hA hB f c (fun y hy => h1 y (List.mem_cons_of_mem _ hy)) (fun y hy => h2 y (List.mem_cons_of_mem _ hy))
    have a1 := h1 a List.mem_cons_self
    have b1 := h2 b List.mem_cons_self
    have e1 : a * b ≤ A * B := Int.le_trans (Int.mul_le_mul_of_nonneg_right a1.2 b1.1) (Int.mul_le_mul_of_nonneg_left b1.2 hA)
    have e2 : -(A * B) ≤ a * b := by
      have x1 : (-A) * b ≤ a * b := Int.mul_le_mul_of_nonneg_right a1.1 b1.1
      have x2 : A * b ≤ A * B := Int.mul_le_mul_of_nonneg_left b1.2 hA
      rw [Int.neg_mul] at x1
      omega
    rw [dot_cons, List.length_cons, Int.natCast_succ, Int.add_mul]
    omega
theorem fo_dot {n : Nat} (hn : n ≤ 3) {f x : Vec} (hf : Fo n f) (hx : Co n x) : -104976 ≤ dot f x ∧ dot f x ≤ 104976 := by
  have h := dot_bd (A := LB n) (B := DB n) (by have := LB_ge (n := n); omega) (by have := DB_le (n := n); omega) f x hf.bd hx.bd
  rw [hf.len] at h
  have : (((n + 1 : Nat) : Int) * (LB n * DB n)) ≤ 104976 := by
    have : n = 0 ∨ n = 1 ∨ n = 2 ∨ n = 3 := by omega
    rcases this with rfl | rfl | rfl | rfl <;> decide
  omega
theorem gds_btw {n : Nat} (hn : n ≤ 3) {f u v : Vec} (hf : Fo n f) (hu : Co n u) (hv : Co n v) (h1 : 0 < dot f u) (h2 : dot f v < 0) :
    gds (btwRow u (dot f u) v (dot f v)) ≠ 0 ∧ (gds (btwRow u (dot f u) v (dot f v))).natAbs < 1073741824 := by
  obtain ⟨d, p, rfl, _⟩ := vcons hu.len
  obtain ⟨e, q, rfl, _⟩ := vcons hv.len
  have pd : 0 < d := hu.hd
  have pe : 0 < e := hv.hd
  have bd1 := hu.bd d List.mem_cons_self
  have be1 := hv.bd e List.mem_cons_self
  have D2 := DB_le (n := n)
  have du := fo_dot hn hf hu
  have dv := fo_dot hn hf hv
  generalize dot f (d :: p) = a at *
  generalize dot f (e :: q) = b at *
  have hm : a * e - b * d ∈ btwRow (d :: p) a (e :: q) b := by
    unfold btwRow
    exact List.mem_cons_self
  have p1 : 0 < a * e := Int.mul_pos h1 pe
  have p2 : 0 < (-b) * d := Int.mul_pos (by omega) pd
  rw [Int.neg_mul] at p2
  have u1 : a * e ≤ 104976 * 2916 := Int.le_trans (Int.mul_le_mul_of_nonneg_right du.2 (by omega)) (Int.mul_le_mul_of_nonneg_left (by omega) (by decide))
  have u2 : (-b) * d ≤ 104976 * 2916 := Int.le_trans (Int.mul_le_mul_of_nonneg_right (by omega) (by omega)) (Int.mul_le_mul_of_nonneg_left (by omega) (by decide))
  rw [Int.neg_mul] at u2
  have g0 := gds_pos hm (by omega)
  have g1 := Int.le_of_dvd (by omega) (gds_dvd hm)
  omega
theorem Gd.cut {c : Cl} (h : Gd c) {f : Vec} (hf : Fo c.n f) (hp : c.path.length < 20) : Gd (cutC c f) := by
  refine ⟨h.n3, ?_, fun g hg => ?_, ?_⟩
  · show (c.path ++ [f]).length ≤ 20
    simp; omega
  · rcases List.mem_append.mp hg with z | z
    · exact h.fo g z
    · rw [List.mem_singleton.mp z]; exact hf
  · exact cut_ok h.ok hf.len fun g => by
      show g ∈ (c.path ++ [f]) ++ faces c.n ↔ _
      simp only [List.mem_append, List.mem_singleton]
      constructor
      · rintro ((z | z) | z)
        · exact .inl (.inl z)
        · exact .inr z
        · exact .inl (.inr z)
      · rintro ((z | z) | z)
        · exact .inl (.inl z)
        · exact .inr z
        · exact .inl (.inr z)
theorem gd_cube {n : Nat} (hn : n ≤ 3) : Gd ⟨n, [], cube n⟩ := ⟨hn, Nat.zero_le _, fun f hf => by simp at hf, cube_ok n⟩
section
variable {P : Program} {w : World} {K : PySem.W.Frag} {mg : Str → Option Value} {base : Heap}
/-! ### _are_neighbours, _between -/
def spNb (K : PySem.W.Frag) (mg : Str → Option Value) : Sp := sp3 (rCl K mg) (rVc K) (rVc K) (fun c _ _ => Gd c) rBl (fun c u v => nb c.n (c.path ++ faces c.n) u v)
theorem sc__are_neighbours : FnScope (["cell", "one", "two", "rows", "form"] : List Str) (["cell", "one", "two"] : List Str) (defScope (top 37)) := ⟨rfl, rfl, rfl, by decide +kernel, rfl, by decide +kernel, by decide +kernel⟩
theorem ok__are_neighbours (D : Df K mg "_are_neighbours" (top 37)) (T : Bt mg) (CELL : CellD K mg) (C_bounding_forms : Cal P w K mg base "bounding_forms" 2 ["cell"] (spBnd K mg)) (C_number_at : Cal P w K mg base "number_at" 1 ["form", "corner"] (spNum K)) (C__rank : Cal P w K mg base "_rank" 1 ["rows", "width"] (spRank K)) :
    Cal P w K mg base "_are_neighbours" 3 ["cell", "one", "two"] (spNb K mg) := by
  refine D.ok sc__are_neighbours (fun _ _ _ _ _ _ us hl => match us, hl with | [_, _, _], _ => rfl) (sp3_len) (fun f cdv A outer s H vs Q E hr h => ?_)
  have nd := sc__are_neighbours.nd
  refine ⟨_, (pss_cons (ps_setLc (i := 3) (own := [("form", 4)]) rfl nd rfl rfl (sw_true rfl rfl rfl (by decide +kernel)) (pi_tup (pk_call C_bounding_forms hr (pa_cons (pv 0) pa_nil))) (blkOk_by (by walk_at "blk")) (fun _ _ _ _ _ => (pg_name (i := 4) nd rfl (Or.inl rfl))) (fun _ _ _ _ _ => (pts_one (PW.pt (pw_and (pt_cmpR op_eq (pk_call C_number_at hr (pa_cons (pv 4) (pa_cons (pv 1) pa_nil))) pe_int (nomark _)) (pw_and1 (pt_cmpR op_eq (pk_call C_number_at hr (pa_cons (pv 4) (pa_cons (pv 2) pa_nil))) pe_int (nomark _))))))) (fun _ _ _ _ _ => (pe_slice (bk_sl_tupA K) (pv 4) (po_some pe_int) po_none)))
    (pss_one (ps_ret (pe_cmpR op_ge (pk_call C__rank hr (pa_cons (pv 3) (pa_cons (pe_fld (pv 0) rfl) pa_nil))) (pe_op op_sub (pe_fld (pv 0) rfl) pe_int) (nomark _))))), ?_⟩
  obtain ⟨vc, v1, v2, c, a, b, rfl, h0, h1, h2, g, q⟩ := h
  have n3 := g.n3
  have pl := g.pl
  have fo := g.foL
  have len : (c.path ++ faces c.n).length ≤ 26 := by rw [List.length_append, faces_len]; omega
  refine q_set (R := rL (rVc K)) (x := bothRows (c.path ++ faces c.n) a b) (ev_lcF (R := rVc K) (S := rVc K) (fun f => decide (dot f a = 0) && decide (dot f b = 0)) List.tail (ii_tup (ev_call1 (ev_var rfl h0) ⟨by omega, by omega⟩)) (fun _ _ _ e => Le.of e) (by omega) (fun v => rfl)
    (fun f hf v H' e r => et_and (et_test (ev_eqI (ev_call2 (ev_var rfl r) (ev_var rfl (Mo.up e h1)) ⟨by rw [(fo f hf).len]; omega, (fo f hf).sm⟩) ev_int)) (fun _ => et_test (ev_eqI (ev_call2 (ev_var rfl r) (ev_var rfl (Mo.up e h2)) ⟨by rw [(fo f hf).len]; omega, (fo f hf).sm⟩) ev_int)))
    (fun f hf _ v H' e r => EvR.to (ev_slA (ev_var rfl r) (eo_some ev_int) eo_none) (by
      obtain ⟨x, t, rfl, _⟩ := vcons (fo f hf).len
      exact cut1 x t))) (fun vr H1 e1 rr => ?_)
  refine s_ret (R := rBl) (EvR.to (ev_cmpI (f := fun i j => decide (i ≥ j)) (ev_call2 (R := rL (rVc K)) (S := rNat) (T := rNat) (ev_var rfl rr) (ev_size CELL (ev_var rfl (Mo.up e1 h0))) ⟨n3, ?_, ?_⟩) (ev_sub (ev_size CELL (ev_var rfl (Mo.up e1 h0))) ev_int)) ?_) (fun v H' e r => q v H' (e1.trans e) r)
  · unfold bothRows
    rw [List.length_map]
    exact Nat.le_trans (List.length_filter_le _ _) (by omega)
  · refine ⟨fun r hr => both_len (fun f hf => (fo f hf).len) r hr, fun r hr y hy => ?_⟩
    obtain ⟨f, hf, rfl⟩ := List.mem_map.mp hr
    have := (fo f (List.mem_filter.mp hf).1).bd y (List.mem_of_mem_tail hy)
    have := LB_ge (n := c.n)
    show -16 ≤ y ∧ y ≤ 16
    omega
  · show decide _ = decide (c.n ≤ rankR c.n (bothRows (c.path ++ faces c.n) a b) + 1)
    rw [decide_eq_decide]
    omega
def spBtw (K : PySem.W.Frag) : Sp := sp4 (rVc K) rInt (rVc K) rInt (fun u fu v fv => u.length ≤ 1000 ∧ (-1000000 < fu ∧ fu < 1000000) ∧ (-1000000 < fv ∧ fv < 1000000) ∧ gds (btwRow u fu v fv) ≠ 0 ∧ (gds (btwRow u fu v fv)).natAbs < 1073741824) (rVc K) between
theorem sc__between : FnScope (["one", "at_one", "two", "at_two", "row", "divisor", "part", "first", "second"] : List Str) (["one", "at_one", "two", "at_two"] : List Str) (defScope (top 38)) := ⟨rfl, rfl, rfl, by decide +kernel, rfl, by decide +kernel, by decide +kernel⟩
theorem ok__between (D : Df K mg "_between" (top 38)) (T : Bt mg) (C_common : Cal P w K mg base "common" 1 ["first", "second"] spCommon) : Cal P w K mg base "_between" 2 ["one", "at_one", "two", "at_two"] (spBtw K) := by
  refine D.ok sc__between (fun _ _ _ _ _ _ us hl => match us, hl with | [_, _, _, _], _ => rfl) (sp4_len) (fun f cdv A outer s H vs Q E hr h => ?_)
  have nd := sc__between.nd
  refine ⟨_, (pss_cons (ps_setLc (i := 4) (own := [("first", 7), ("second", 8)]) (g := gTup K 2 (gCons (gName 7) (gCons (gName 8) gNil))) rfl nd rfl rfl (sw_true rfl rfl rfl (by decide +kernel)) (pi_zipA rfl T.zip (pa_cons (pv 0) (pa_cons (pv 2) pa_nil))) (blkOk_by (by walk_at "blk")) (fun _ _ _ _ _ => (pg_tup rfl (pgs_cons (pg_name (i := 7) nd rfl (Or.inl rfl)) (pgs_cons (pg_name (i := 8) nd rfl (Or.inl rfl)) pgs_nil)))) (fun _ _ _ _ _ => pts_nil) (fun _ _ _ _ _ => (pe_op op_sub (pe_op op_mul (pv 1) (pv 8)) (pe_op op_mul (pv 3) (pv 7)))))
    (pss_cons (ps_set (i := 5) nd rfl (Or.inr rfl) pe_int)
    (pss_cons (ps_for PassesOwn.never rfl (pi_list (pv 4)) (pg_name (i := 6) nd rfl (Or.inl rfl)) (pss_one (ps_set (i := 5) nd rfl (Or.inr rfl) (pk_call C_common hr (pa_cons (pv 5) (pa_cons (pv 6) pa_nil))))))
    (pss_one (ps_ret (pk_tuple T (pa_cons (pe_lc (own := [("part", 6)]) rfl nd (pi_list (pv 4)) (blkOk_by (by walk_at "blk")) (fun _ _ _ _ _ => (pg_name (i := 6) nd rfl (Or.inl rfl))) (fun _ _ _ _ _ => pts_nil) (fun _ _ _ _ _ => (pe_op op_fdivN (pv 6) (pv 5)))) pa_nil))))))), ?_⟩
  obtain ⟨v1, v2, v3, v4, u, fu, v, fv, rfl, h1, rfl, h2, rfl, ⟨hz, bu, bv, g0, g1⟩, q⟩ := h
  refine q_set (R := rL rInt) (x := btwRow u fu v fv) (EvR.to (ev_lcP (R := rInt) (T := rInt) (fun p => fu * p.2 - fv * p.1) (ii_zipT (ev_var rfl h1) (ev_var rfl h2)) (fun _ _ _ e => Le.of e) ?_ (fun u v => rfl)
    (fun x hx u v H' e r1 r2 => ev_sub (ev_mul (ev_var (R := rInt) rfl rfl) (ev_var rfl r2) (.inl ⟨by omega, by omega⟩)) (ev_mul (ev_var (R := rInt) rfl rfl) (ev_var rfl r1) (.inl ⟨by omega, by omega⟩)))) (zip_with (fun first second => fu * second - fv * first) u v)) (fun vr H1 e1 rr => ?_)
  · rw [List.length_zip]; omega
  refine q_set (R := rInt) ev_int (fun v5 H2 e2 r5 => ?_)
  cases r5
  have lr : (btwRow u fu v fv).length ≤ 1000 := by unfold btwRow; rw [List.length_zipWith]; omega
  generalize hrow : btwRow u fu v fv = row at *
  refine q_for (I := fun H3 i σ' H' => ∃ x6, σ' = [some v1, some (.int fu), some v3, some (.int fv), some vr, some (.int ((row.take i).foldl (fun g y => ((Int.gcd g y : Nat) : Int)) 0)), x6, none, none] ∧ Same H3 H') (ii_lst (R := rInt) (ev_var rfl (Mo.up e2 rr)))
    (fun H3 e3 => ⟨_, rfl, Same.refl _⟩) (fun H3 i σ' H' e3 z => ?_) (fun H3 i x σ' H' v' H'' e3 hx z e4 r => ?_) (fun H3 σ' H' e3 z => ?_)
  · obtain ⟨_, _, sb⟩ := z
    exact sb
  · obtain ⟨x6, rfl, sb⟩ := z
    refine s_set (R := rInt) (ev_call2 (R := rInt) (S := rInt) (ev_var (R := rInt) rfl rfl) (ev_var rfl r) trivial) (fun v H4 e5 r => ⟨some v', ?_, (sb.trans e4).trans e5⟩)
    cases r
    rw [List.take_add_one, hx, Option.toList_some, List.foldl_append]
    rfl
  · obtain ⟨x6, rfl, sb⟩ := z
    rw [List.take_length]
    have e13 := (e2.trans e3).trans sb
    refine s_ret (R := rVc K) (x := between u fu v fv) (EvR.to (ev_tupL (ev_lc (R := rInt) (S := rInt) (KP := Same) (fun y => y.fdiv (gds row)) (ii_lst (ev_var rfl (Mo.up e13 rr))) (fun _ _ _ e => e) (by omega) (fun v => rfl)
      (fun y hy v H' e r => ev_fdiv (ev_var rfl r) (ev_var (R := rInt) rfl rfl) ⟨g0, g1⟩))) (by unfold between; rw [hrow])) (fun v H' e r => q v H' ((e1.trans e13).trans e) r)
end
end Hf


/-! ## Fa8 -/
set_option Elab.async false
set_option linter.all false
set_option maxRecDepth 100000
set_option maxHeartbeats 400000

namespace Hf
open PySem PySem.Spec PyProof.Rows L2 RZ
/-! ### plain -/
def leastC (f : Vec) (cs : List Vec) : Vec := cs.foldl (fun best c => if dot f c * hd0 best < dot f best * hd0 c then c else best) (cs.headD [])
def sideIn (f : Vec) (cs : List Vec) : Str := if (cs.map fun c => decide (dot f c ≥ 0)).all id = true then "least" else if (cs.map fun c => decide (dot f c ≤ 0)).all id = true then "most" else "both"
theorem least_mem (f : Vec) : ∀ (cs : List Vec) (b : Vec), cs.foldl (fun best c => if dot f c * hd0 best < dot f best * hd0 c then c else best) b = b ∨ cs.foldl (fun best c => if dot f c * hd0 best < dot f best * hd0 c then c else best) b ∈ cs
  | [], b => .inl rfl
  | c :: cs, b => by
    rw [List.foldl_cons]
    rcases least_mem f cs (if dot f c * hd0 b < dot f b * hd0 c then c else b) with h | h
    · rw [h]
      split
      · exact .inr List.mem_cons_self
      · exact .inl rfl
    · exact .inr (List.mem_cons_of_mem _ h)
/-- fractions a/d ≤ b/e ≤ c/g -/
theorem frac_trans {a b c d e g : Int} (hd : 0 < d) (he : 0 < e) (hg : 0 < g) (h1 : a * e ≤ b * d) (h2 : b * g ≤ c * e) : a * g ≤ c * d := by
  have x1 : a * e * g ≤ b * d * g := Int.mul_le_mul_of_nonneg_right h1 (by omega)
  have x2 : b * g * d ≤ c * e * d := Int.mul_le_mul_of_nonneg_right h2 (by omega)
  have e1 : b * d * g = b * g * d := by rw [Int.mul_assoc, Int.mul_comm d g, ← Int.mul_assoc]
  have e2 : a * e * g = (a * g) * e := by rw [Int.mul_assoc, Int.mul_comm e g, ← Int.mul_assoc]
  have e3 : c * e * d = (c * d) * e := by rw [Int.mul_assoc, Int.mul_comm e d, ← Int.mul_assoc]
  have : (a * g) * e ≤ (c * d) * e := by omega
  exact Int.le_of_mul_le_mul_right this he
theorem least_le (f : Vec) : ∀ (cs : List Vec) (b : Vec), 0 < hd0 b → (∀ c ∈ cs, 0 < hd0 c) → (0 < hd0 (cs.foldl (fun best c => if dot f c * hd0 best < dot f best * hd0 c then c else best) b)) ∧
    ∀ x, (x = b ∨ x ∈ cs) → dot f (cs.foldl (fun best c => if dot f c * hd0 best < dot f best * hd0 c then c else best) b) * hd0 x ≤ dot f x * hd0 (cs.foldl (fun best c => if dot f c * hd0 best < dot f best * hd0 c then c else best) b)
  | [], b, hb, _ => ⟨hb, fun x hx => by
    rcases hx with rfl | hx
    · exact Int.le_refl _
    · simp at hx⟩
  | c :: cs, b, hb, hc => by
    have c0 := hc c List.mem_cons_self
    rw [List.foldl_cons]
    by_cases h : dot f c * hd0 b < dot f b * hd0 c
    · rw [if_pos h]
      obtain ⟨p, ih⟩ := least_le f cs c c0 (fun x hx => hc x (List.mem_cons_of_mem _ hx))
      refine ⟨p, fun x hx => ?_⟩
      rcases hx with rfl | hx
      · exact frac_trans p c0 hb (ih c (.inl rfl)) (Int.le_of_lt h)
      · rcases List.mem_cons.mp hx with rfl | hx
        · exact ih _ (.inl rfl)
        · exact ih x (.inr hx)
    · rw [if_neg h]
      obtain ⟨p, ih⟩ := least_le f cs b hb (fun x hx => hc x (List.mem_cons_of_mem _ hx))
      refine ⟨p, fun x hx => ?_⟩
      rcases hx with rfl | hx
      · exact ih _ (.inl rfl)
      · rcases List.mem_cons.mp hx with rfl | hx
        · exact frac_trans p hb c0 (ih b (.inl rfl)) (by omega)
        · exact ih x (.inr hx)
theorem leastC_mem {f : Vec} {cs : List Vec} (h : cs ≠ []) : leastC f cs ∈ cs := by
  cases cs with
  | nil => exact absurd rfl h
  | cons c cs =>
    rcases least_mem f (c :: cs) ((c :: cs).headD []) with e | e
    · unfold leastC; rw [e]; exact List.mem_cons_self
    · exact e
theorem leastC_le {f : Vec} {cs : List Vec} (hc : ∀ c ∈ cs, 0 < hd0 c) {x : Vec} (hx : x ∈ cs) : dot f (leastC f cs) * hd0 x ≤ dot f x * hd0 (leastC f cs) := by
  cases cs with
  | nil => simp at hx
  | cons c cs => exact (least_le f (c :: cs) c (hc c List.mem_cons_self) hc).2 x (.inr hx)
def pointF (x : Vec) : List (Int × Int) := x.tail.map fun part => lowestF part (hd0 x)
theorem at_hd {x : Vec} {n : Nat} (h : x.length = n + 1) : atI x 0 = some (hd0 x) := by
  cases x with
  | nil => cases h
  | cons a t => exact at0
section
variable {P : Program} {w : World} {K : PySem.W.Frag} {mg : Str → Option Value} {base : Heap}
/-! ### cut_cell -/
def spCut (K : PySem.W.Frag) (mg : Str → Option Value) : Sp := sp2 (rCl K mg) (rVc K) (fun c f => Gd c ∧ Fo c.n f ∧ c.path.length < 20) (rCl K mg) cutC
theorem sc_cut_cell : FnScope (["cell", "form", "kept", "lost", "made", "one", "at_one", "two", "corner"] : List Str) (["cell", "form"] : List Str) (defScope (top 39)) := ⟨rfl, rfl, rfl, by decide +kernel, rfl, by decide +kernel, by decide +kernel⟩
theorem ok_cut_cell (D : Df K mg "cut_cell" (top 39)) (T : Bt mg) (CELL : CellD K mg) (C_number_at : Cal P w K mg base "number_at" 1 ["form", "corner"] (spNum K)) (C__are_neighbours : Cal P w K mg base "_are_neighbours" 3 ["cell", "one", "two"] (spNb K mg))
    (C__between : Cal P w K mg base "_between" 2 ["one", "at_one", "two", "at_two"] (spBtw K)) : Cal P w K mg base "cut_cell" 4 ["cell", "form"] (spCut K mg) := by
  refine D.ok sc_cut_cell (fun _ _ _ _ _ _ us hl => match us, hl with | [_, _], _ => rfl) (sp2_len) (fun f cdv A outer s H vs Q E hr h => ?_)
  have nd := sc_cut_cell.nd
  refine ⟨_, (pss_cons (ps_setLc (i := 2) (own := [("corner", 8)]) rfl nd rfl rfl (sw_true rfl rfl rfl (by decide +kernel)) (pi_tup (pe_fld (pv 0) rfl)) (blkOk_by (by walk_at "blk")) (fun _ _ _ _ _ => (pg_name (i := 8) nd rfl (Or.inl rfl))) (fun _ _ _ _ _ => (pts_one (pt_cmpR op_ge (pk_call C_number_at hr (pa_cons (pv 1) (pa_cons (pv 8) pa_nil))) pe_int (nomark _)))) (fun _ _ _ _ _ => (pv 8)))
    (pss_cons (ps_setLc (i := 3) (own := [("corner", 8)]) rfl nd rfl rfl (sw_true rfl rfl rfl (by decide +kernel)) (pi_tup (pe_fld (pv 0) rfl)) (blkOk_by (by walk_at "blk")) (fun _ _ _ _ _ => (pg_name (i := 8) nd rfl (Or.inl rfl))) (fun _ _ _ _ _ => (pts_one (pt_cmpR op_lt (pk_call C_number_at hr (pa_cons (pv 1) (pa_cons (pv 8) pa_nil))) pe_int (nomark _)))) (fun _ _ _ _ _ => (pv 8)))
    (pss_cons (ps_set (i := 4) nd rfl (Or.inl rfl) (pe_lst pa_nil))
    (pss_cons (ps_for PassesOwn.never rfl (pi_list (pv 2)) (pg_name (i := 5) nd rfl (Or.inl rfl)) (pss_cons (ps_set (i := 6) nd rfl (Or.inl rfl) (pk_call C_number_at hr (pa_cons (pv 1) (pa_cons (pv 5) pa_nil))))
    (pss_one (ps_for PassesOwn.never rfl (pi_list (pv 3)) (pg_name (i := 7) nd rfl (Or.inl rfl)) (pss_one (ps_if (PW.pt (pw_and (pt_cmpR op_gt (pv 6) pe_int (nomark _)) (pw_and1 (pt_val (pk_call C__are_neighbours hr (pa_cons (pv 0) (pa_cons (pv 5) (pa_cons (pv 7) pa_nil)))))))) (pss_one (ps_expr (pe_bm PySem.F.plainAttrs_list PySem.F.slot_list_append PySem.F.type_list_append mt_append (pv 4) (pa_cons (pk_call C__between hr (pa_cons (pv 5) (pa_cons (pv 6) (pa_cons (pv 7) (pa_cons (pk_call C_number_at hr (pa_cons (pv 1) (pa_cons (pv 7) pa_nil))) pa_nil))))) pa_nil)))) pss_nil))))))
    (pss_one (ps_ret (pk_cell CELL hr (pa_cons (pe_fld (pv 0) rfl) (pa_cons (pe_op op_catA (pe_fld (pv 0) rfl) (pe_tup (pa_cons (pv 1) pa_nil))) (pa_cons (pk_tuple T (pa_cons (pe_op op_cat (pv 2) (pv 4)) pa_nil)) pa_nil)))))))))), ?_⟩
  obtain ⟨vc, vf, c, f, rfl, h0, h1, ⟨g, fo, pl⟩, q⟩ := h
  have few := g.few
  have fz : f.length ≤ 1000 := by have := g.n3; rw [fo.len]; omega
  have gc := g.cut fo pl
  have few2 := gc.few
  have few3 : (keptOf c.corners f).length + (madeOf c.n (c.path ++ faces c.n) c.corners f).length ≤ 17576 := by rw [← List.length_append]; exact few2
  refine q_set (R := rL (rVc K)) (x := keptOf c.corners f) (EvR.to (ev_lcF (R := rVc K) (S := rVc K) (fun x => decide (dot f x ≥ 0)) (fun x => x) (ii_tup (ev_corners CELL (ev_var rfl h0))) (fun _ _ _ e => Le.of e) (by omega) (fun v => rfl)
    (fun x hx v H' e r => et_test (ev_cmpI (f := fun i j => decide (i ≥ j)) (ev_call2 (ev_var rfl (Mo.up e h1)) (ev_var rfl r) ⟨fz, fo.sm⟩) ev_int)) (fun x hx _ v H' e r => ev_var rfl r)) (by rw [List.map_id']; rfl)) (fun vk H1 e1 rk => ?_)
  refine q_set (R := rL (rVc K)) (x := lostOf c.corners f) (EvR.to (ev_lcF (R := rVc K) (S := rVc K) (fun x => decide (dot f x < 0)) (fun x => x) (ii_tup (ev_corners CELL (ev_var rfl (Mo.up e1 h0)))) (fun _ _ _ e => Le.of e) (by omega) (fun v => rfl)
    (fun x hx v H' e r => et_test (ev_cmpI (f := fun i j => decide (i < j)) (ev_call2 (ev_var rfl (Mo.up (e1.trans e) h1)) (ev_var rfl r) ⟨fz, fo.sm⟩) ev_int)) (fun x hx _ v H' e r => ev_var rfl r)) (by rw [List.map_id']; rfl)) (fun vl H2 e2 rl => ?_)
  refine q_new fun l hl => ?_
  have eB : Same H2 (upd H2 l (.lst [])) := Same.hnew hl
  have e02 : Same H H2 := e1.trans e2
  have rk2 := Mo.up (R := rL (rVc K)) e2 rk
  have hk : ∀ x ∈ keptOf c.corners f, x ∈ c.corners ∧ 0 ≤ dot f x := fun x hx => ⟨(List.mem_filter.mp hx).1, of_decide_eq_true (List.mem_filter.mp hx).2⟩
  have hlo : ∀ x ∈ lostOf c.corners f, x ∈ c.corners ∧ dot f x < 0 := fun x hx => ⟨(List.mem_filter.mp hx).1, of_decide_eq_true (List.mem_filter.mp hx).2⟩
  let mk1 := fun (one : Vec) => ((lostOf c.corners f).filter fun two => decide (0 < dot f one) && nb c.n (c.path ++ faces c.n) one two).map fun two => between one (dot f one) two (dot f two)
  have hmade : madeOf c.n (c.path ++ faces c.n) c.corners f = (keptOf c.corners f).flatMap mk1 := rfl
  refine q_for (I := fun H3 i σ' H' => ∃ x5 x6 x7, σ' = [some vc, some vf, some vk, some vl, some (.ref l), x5, x6, x7, none] ∧ Same H2 H' ∧ rL (rVc K) H' (.ref l) (((keptOf c.corners f).take i).flatMap mk1)) (ii_var (B := H2) (R := rVc K) rfl rk2 eB)
    (fun H3 e3 => ⟨_, _, _, rfl, eB.trans e3, rL_nil (e3 _ _ upd_same)⟩) (fun H3 i σ' H' e3 z => ?_) (fun H3 i x σ' H' v' H'' e3 hx z e4 r => ?_) (fun H3 σ' H' e3 z => ?_)
  · obtain ⟨_, _, _, _, sb, _⟩ := z
    exact sb
  · obtain ⟨x5, x6, x7, rfl, sb, rm⟩ := z
    have hxm : x ∈ keptOf c.corners f := List.mem_of_getElem? hx
    obtain ⟨xc, x0⟩ := hk x hxm
    have xo := g.co xc
    have xb := fo_dot g.n3 fo xo
    have sb4 := sb.trans e4
    have pre : ∀ m : Nat, (((keptOf c.corners f).take m).flatMap mk1).length ≤ 17576 := fun m => by
      have := flat_le (f := mk1) (keptOf c.corners f) m
      rw [← hmade] at this
      omega
    refine q_set (R := rInt) (ev_call2 (ev_var rfl (Mo.up (e02.trans sb4) h1)) (ev_var rfl r) ⟨fz, fo.sm⟩) (fun v6 H5 e5 r6 => ?_)
    cases r6
    have r5 := Mo.up (R := rVc K) e5 r
    have sb5 := sb4.trans e5
    refine s_for (I := fun H6 j σ' H' => ∃ x7, σ' = [some vc, some vf, some vk, some vl, some (.ref l), some v', some (.int (dot f x)), x7, none] ∧ Same H2 H' ∧ Le H5 H' ∧ rL (rVc K) H' (.ref l) ((((keptOf c.corners f).take i).flatMap mk1) ++ ((((lostOf c.corners f).take j).filter fun two => decide (0 < dot f x) && nb c.n (c.path ++ faces c.n) x two).map fun two => between x (dot f x) two (dot f two)))) (ii_var (B := H2) (R := rVc K) rfl rl sb5)
      (fun H6 e6 => ⟨_, rfl, sb5.trans e6, Le.of e6, by simpa using Mo.up (R := rL (rVc K)) ((e4.trans e5).trans e6) rm⟩) (fun H6 j σ' H' e6 z => ?_) (fun H6 j y σ' H' w' H'' e6 hy z e7 s => ?_) (fun H6 σ' H' e6 z => ?_)
    · obtain ⟨_, _, sb, _⟩ := z
      exact sb
    · obtain ⟨x7, rfl, sb, le, rm⟩ := z
      have hym : y ∈ lostOf c.corners f := List.mem_of_getElem? hy
      obtain ⟨yc, y0⟩ := hlo y hym
      have yo := g.co yc
      have yb := fo_dot g.n3 fo yo
      have sb7 := sb.trans e7
      have r7 : rVc K H'' v' x := Mt.up (le.trans (Le.of e7)) r5
      have snoc := filter_take_snoc (p := fun two => decide (0 < dot f x) && nb c.n (c.path ++ faces c.n) x two) (f := fun two => between x (dot f x) two (dot f two)) hy
      refine s_when (b := decide (0 < dot f x) && nb c.n (c.path ++ faces c.n) x y) (et_and (et_test (EvR.to (ev_cmpI (f := fun i j => decide (i > j)) (ev_var (R := rInt) rfl rfl) ev_int) rfl)) (fun _ => et_test (ev_call3 (ev_var rfl (Mo.up (e02.trans sb7) h0)) (ev_var rfl r7) (ev_var rfl s) g))) (fun cc H7 e8 => ?_) (fun cc H7 e8 => ?_)
      · have pos : 0 < dot f x := by
          rw [Bool.and_eq_true] at cc
          exact of_decide_eq_true cc.1
        have gb := gds_btw g.n3 fo xo yo pos y0
        refine s_push (S := rVc K) (y := between x (dot f x) y (dot f y)) (Mo.up (e7.trans e8) rm) rfl (ev_call4 (ev_var rfl (Mo.up e8 r7)) (ev_var (R := rInt) rfl rfl) (ev_var rfl (Mo.up e8 s)) (ev_call2 (ev_var rfl (Mo.up (e02.trans (sb7.trans e8)) h1)) (ev_var rfl (Mo.up e8 s)) ⟨fz, fo.sm⟩) ⟨?_, ⟨by omega, by omega⟩, ⟨by omega, by omega⟩, gb⟩) ?_ (fun H8 sb8 rm8 => ?_)
        · have := g.n3; rw [xo.len]; omega
        · have a1 := pre (i + 1)
          rw [flat_take_snoc hx, List.length_append] at a1
          have a2 : ((((lostOf c.corners f).take j).filter fun two => decide (0 < dot f x) && nb c.n (c.path ++ faces c.n) x two).map fun two => between x (dot f x) two (dot f two)).length ≤ (lostOf c.corners f).length := filter_take_len j
          have a3 : (lostOf c.corners f).length ≤ c.corners.length := List.length_filter_le _ _
          rw [List.length_append]
          omega
        · refine ⟨_, rfl, (sb7.trans e8).trB hl sb8, (le.trans (Le.of (e7.trans e8))).trans (rL_le (Mo.up (R := rL (rVc K)) (e7.trans e8) rm) sb8), ?_⟩
          rw [snoc, if_pos cc, ← List.append_assoc]
          exact rm8
      · refine ⟨_, rfl, sb7.trans e8, le.trans (Le.of (e7.trans e8)), ?_⟩
        rw [snoc, if_neg (by rw [cc]; decide), List.append_nil]
        exact Mo.up (R := rL (rVc K)) (e7.trans e8) rm
    · obtain ⟨x7, rfl, sb, le, rm⟩ := z
      rw [List.take_length] at rm
      refine ⟨_, _, _, rfl, sb, ?_⟩
      rw [flat_take_snoc hx]
      exact rm
  · obtain ⟨x5, x6, x7, rfl, sb, rm⟩ := z
    rw [List.take_length, ← hmade] at rm
    have e0 := e02.trans sb
    exact s_ret (R := rCl K mg) (x := cutC c f) (ev_cell (ev_size CELL (ev_var rfl (Mo.up e0 h0))) (ev_catA (ev_path CELL (ev_var rfl (Mo.up e0 h0))) (ev_tup (ei_cons (ev_var rfl (Mo.up e0 h1)) ei_nil) (by simp)) (by simp; omega))
      (ev_tupL (ev_cat (ev_var rfl (Mo.up sb rk2)) (ev_var rfl rm) (by omega)))) (fun v H' e r => q v H' (e0.trans e) r)
/-! ### point_of, least_corner, side_in -/
def spPoint (K : PySem.W.Frag) : Sp := sp1 (rVc K) (fun x => ∃ n, n ≤ 3 ∧ Co n x) (rT K (r2 K rInt rInt)) pointF
theorem sc_point_of : FnScope (["corner", "part"] : List Str) (["corner"] : List Str) (defScope (top 40)) := ⟨rfl, rfl, rfl, by decide +kernel, rfl, by decide +kernel, by decide +kernel⟩
theorem ok_point_of (D : Df K mg "point_of" (top 40)) (T : Bt mg) (C_lowest : Cal P w K mg base "lowest" 2 ["above", "below"] (spLowest K)) : Cal P w K mg base "point_of" 3 ["corner"] (spPoint K) := by
  refine D.ok sc_point_of (fun _ _ _ _ _ _ us hl => match us, hl with | [_], _ => rfl) (sp1_len) (fun f cdv A outer s H vs Q E hr h => ?_)
  have nd := sc_point_of.nd
  refine ⟨_, (pss_one (ps_ret (pk_tuple T (pa_cons (pe_lc (own := [("part", 1)]) rfl nd (pi_tup (pe_slice sl_tupA (pv 0) (po_some pe_int) po_none)) (blkOk_by (by walk_at "blk")) (fun _ _ _ _ _ => (pg_name (i := 1) nd rfl (Or.inl rfl))) (fun _ _ _ _ _ => pts_nil) (fun _ _ _ _ _ => (pk_call C_lowest hr (pa_cons (pv 1) (pa_cons (pe_ix (bk_ix_tup K) (pv 0) pe_int (fun _ _ => rfl)) pa_nil))))) pa_nil)))), ?_⟩
  obtain ⟨v, x, rfl, h1, ⟨n, hn, o⟩, q⟩ := h
  have et : cutA x (some 1) none = x.tail := by
    obtain ⟨a, t, rfl, _⟩ := vcons o.len
    exact cut1 a t
  have ah := at_hd o.len
  have b1 : hd0 x ≤ 2916 := by
    obtain ⟨a, t, rfl, _⟩ := vcons o.len
    have := (o.bd a List.mem_cons_self).2
    have := DB_le (n := n)
    show a ≤ _
    omega
  have b0 := o.hd
  refine s_ret (R := rT K (r2 K rInt rInt)) (ev_tupL (ev_lc (R := rInt) (S := r2 K rInt rInt) (xs := x.tail) (fun part => lowestF part (hd0 x)) (ii_tup (EvR.to (ev_slA (ev_var rfl h1) (eo_some ev_int) eo_none) et)) (fun _ _ _ e => Le.of e) ?_ (fun v => rfl)
    (fun y hy v H' e r => ev_call2 (ev_var rfl r) (ev_ixT (R := rInt) (ev_var rfl (Mo.up e h1)) ev_int ah) ⟨by omega, by omega⟩))) (fun v H' e r => q v H' e r)
  rw [List.length_tail, o.len]; omega
def spLeast (K : PySem.W.Frag) (mg : Str → Option Value) : Sp := sp2 (rCl K mg) (rVc K) (fun c f => Gd c ∧ f.length ≤ 1000 ∧ Sm f ∧ c.corners ≠ []) (rVc K) (fun c f => leastC f c.corners)
theorem sc_least_corner : FnScope (["cell", "form", "best", "corner"] : List Str) (["cell", "form"] : List Str) (defScope (top 41)) := ⟨rfl, rfl, rfl, by decide +kernel, rfl, by decide +kernel, by decide +kernel⟩
theorem ok_least_corner (D : Df K mg "least_corner" (top 41)) (CELL : CellD K mg) (C_number_at : Cal P w K mg base "number_at" 1 ["form", "corner"] (spNum K)) : Cal P w K mg base "least_corner" 2 ["cell", "form"] (spLeast K mg) := by
  refine D.ok sc_least_corner (fun _ _ _ _ _ _ us hl => match us, hl with | [_, _], _ => rfl) (sp2_len) (fun f cdv A outer s H vs Q E hr h => ?_)
  have nd := sc_least_corner.nd
  refine ⟨_, (pss_cons (ps_set (i := 2) nd rfl (Or.inl rfl) (pe_ix ix_tup (pe_fld (pv 0) rfl) pe_int (fun _ _ => rfl)))
    (pss_cons (ps_for PassesOwn.never rfl (pi_tup (pe_fld (pv 0) rfl)) (pg_name (i := 3) nd rfl (Or.inl rfl)) (pss_one (ps_if (pt_cmpR op_lt (pe_op op_mul (pk_call C_number_at hr (pa_cons (pv 1) (pa_cons (pv 3) pa_nil))) (pe_ix ix_tup (pv 2) pe_int (fun _ _ => rfl))) (pe_op op_mul (pk_call C_number_at hr (pa_cons (pv 1) (pa_cons (pv 2) pa_nil))) (pe_ix ix_tup (pv 3) pe_int (fun _ _ => rfl))) (nomark _)) (pss_one (ps_set (i := 2) nd rfl (Or.inl rfl) (pv 3))) pss_nil)))
    (pss_one (ps_ret (pv 2))))), ?_⟩
  obtain ⟨vc, vf, c, f, rfl, h0, h1, ⟨g, fz, sm, ne⟩, q⟩ := h
  have a0 : atI c.corners 0 = some (c.corners.headD []) := by
    cases hc : c.corners with
    | nil => exact absurd hc ne
    | cons x t => exact at0
  have hm0 : c.corners.headD [] ∈ c.corners := by
    cases hc : c.corners with
    | nil => exact absurd hc ne
    | cons x t => exact List.mem_cons_self
  refine q_set (R := rVc K) (ev_ixT (ev_corners CELL (ev_var rfl h0)) ev_int a0) (fun vb H1 e1 rb => ?_)
  let F := fun (best c : Vec) => if dot f c * hd0 best < dot f best * hd0 c then c else best
  refine q_for (I := fun H3 i σ' H' => ∃ vb x3, σ' = [some vc, some vf, some vb, x3] ∧ Same H3 H' ∧ rVc K H' vb ((c.corners.take i).foldl F (c.corners.headD [])) ∧ (c.corners.take i).foldl F (c.corners.headD []) ∈ c.corners) (ii_tup (ev_corners CELL (ev_var rfl (Mo.up e1 h0))))
    (fun H3 e3 => ⟨_, _, rfl, Same.refl _, Mo.up e3 rb, hm0⟩) (fun H3 i σ' H' e3 z => ?_) (fun H3 i x σ' H' v' H'' e3 hx z e4 r => ?_) (fun H3 σ' H' e3 z => ?_)
  · obtain ⟨_, _, _, sb, _⟩ := z
    exact Le.of sb
  · obtain ⟨vb, x3, rfl, sb, rb, bm⟩ := z
    have hxm : x ∈ c.corners := List.mem_of_getElem? hx
    have xo := g.co hxm
    have bo := g.co bm
    have e0 := ((e1.trans e3).trans sb).trans e4
    have rb4 := Mo.up (R := rVc K) e4 rb
    have small : ∀ {y : Vec}, Co c.n y → -(2 ^ 64) < hd0 y ∧ hd0 y < 2 ^ 64 := fun {y} o => by
      have h := o.hd
      obtain ⟨a, t, rfl, _⟩ := vcons o.len
      have := (o.bd a List.mem_cons_self).2
      have := DB_le (n := c.n)
      show -(2 ^ 64) < a ∧ a < 2 ^ 64
      have : 0 < a := h
      constructor <;> omega
    have snoc : (c.corners.take (i + 1)).foldl F (c.corners.headD []) = F ((c.corners.take i).foldl F (c.corners.headD [])) x := by
      rw [List.take_add_one, hx, Option.toList_some, List.foldl_append]; rfl
    generalize (c.corners.take i).foldl F (c.corners.headD []) = best at *
    refine s_when (et_test (ev_cmpI (f := fun i j => decide (i < j)) (ev_mul (ev_call2 (ev_var rfl (Mo.up e0 h1)) (ev_var rfl r) ⟨fz, sm⟩) (ev_ixT (R := rInt) (ev_var rfl rb4) ev_int (at_hd bo.len)) (.inr (small bo))) (ev_mul (ev_call2 (ev_var rfl (Mo.up e0 h1)) (ev_var rfl rb4) ⟨fz, sm⟩) (ev_ixT (R := rInt) (ev_var rfl r) ev_int (at_hd xo.len)) (.inr (small xo))))) (fun cc H5 e5 => ?_) (fun cc H5 e5 => ?_)
    · have c1 := of_decide_eq_true cc
      refine s_set (R := rVc K) (ev_var rfl (Mo.up e5 r)) (fun v H6 e6 r6 => ⟨v, some v', rfl, ((sb.trans e4).trans e5).trans e6, ?_⟩)
      rw [snoc]
      show rVc K H6 v (if _ then _ else _) ∧ (if _ then _ else _) ∈ _
      rw [if_pos c1]
      exact ⟨r6, hxm⟩
    · have c1 := of_decide_eq_false cc
      refine ⟨vb, some v', rfl, (sb.trans e4).trans e5, ?_⟩
      rw [snoc]
      show rVc K H5 vb (if _ then _ else _) ∧ (if _ then _ else _) ∈ _
      rw [if_neg c1]
      exact ⟨Mo.up e5 rb4, bm⟩
  · obtain ⟨vb, x3, rfl, sb, rb, _⟩ := z
    rw [List.take_length] at rb
    exact s_ret (R := rVc K) (ev_var rfl rb) (fun v H' e r => q v H' (((e1.trans e3).trans sb).trans e) r)
def spSideIn (K : PySem.W.Frag) (mg : Str → Option Value) : Sp := sp2 (rCl K mg) (rVc K) (fun c f => Gd c ∧ f.length ≤ 1000 ∧ Sm f) rStr (fun c f => sideIn f c.corners)
theorem sc_side_in : FnScope (["cell", "form", "numbers", "corner", "number"] : List Str) (["cell", "form"] : List Str) (defScope (top 42)) := ⟨rfl, rfl, rfl, by decide +kernel, rfl, by decide +kernel, by decide +kernel⟩
theorem ok_side_in (D : Df K mg "side_in" (top 42)) (T : Bt mg) (CELL : CellD K mg) (C_number_at : Cal P w K mg base "number_at" 1 ["form", "corner"] (spNum K)) : Cal P w K mg base "side_in" 2 ["cell", "form"] (spSideIn K mg) := by
  refine D.ok sc_side_in (fun _ _ _ _ _ _ us hl => match us, hl with | [_, _], _ => rfl) (sp2_len) (fun f cdv A outer s H vs Q E hr h => ?_)
  have nd := sc_side_in.nd
  refine ⟨_, (pss_cons (ps_setLc (i := 2) (own := [("corner", 3)]) rfl nd rfl rfl (sw_true rfl rfl rfl (by decide +kernel)) (pi_tup (pe_fld (pv 0) rfl)) (blkOk_by (by walk_at "blk")) (fun _ _ _ _ _ => (pg_name (i := 3) nd rfl (Or.inl rfl))) (fun _ _ _ _ _ => pts_nil) (fun _ _ _ _ _ => (pk_call C_number_at hr (pa_cons (pv 1) (pa_cons (pv 3) pa_nil)))))
    (pss_cons (ps_if (pt_val (pk_all T (pa_cons (pe_lc (own := [("number", 4)]) rfl nd (pi_list (pv 2)) (blkOk_by (by walk_at "blk")) (fun _ _ _ _ _ => (pg_name (i := 4) nd rfl (Or.inl rfl))) (fun _ _ _ _ _ => pts_nil) (fun _ _ _ _ _ => (pe_cmpR op_ge (pv 4) pe_int (nomark _)))) pa_nil))) (pss_one (ps_ret pe_str)) pss_nil)
    (pss_one (ps_ret (pe_ifExp (pt_val (pk_all T (pa_cons (pe_lc (own := [("number", 4)]) rfl nd (pi_list (pv 2)) (blkOk_by (by walk_at "blk")) (fun _ _ _ _ _ => (pg_name (i := 4) nd rfl (Or.inl rfl))) (fun _ _ _ _ _ => pts_nil) (fun _ _ _ _ _ => (pe_cmpR op_le (pv 4) pe_int (nomark _)))) pa_nil))) pe_str pe_str))))), ?_⟩
  obtain ⟨vc, vf, c, f, rfl, h0, h1, ⟨g, fz, sm⟩, q⟩ := h
  have few := g.few
  refine q_set (R := rL rInt) (ev_lc (R := rVc K) (S := rInt) (fun x => dot f x) (ii_tup (ev_corners CELL (ev_var rfl h0))) (fun _ _ _ e => Le.of e) (by omega) (fun v => rfl) (fun x hx v H' e r => ev_call2 (ev_var rfl (Mo.up e h1)) (ev_var rfl r) ⟨fz, sm⟩)) (fun vn H1 e1 rn => ?_)
  have lz : (c.corners.map fun x => dot f x).length ≤ 1000000 := by rw [List.length_map]; omega
  refine q_when (et_test (ev_all (ev_lc (R := rInt) (S := rBl) (KP := Same) (fun y => decide (y ≥ 0)) (ii_lst (ev_var rfl rn)) (fun _ _ _ e => e) lz (fun v => rfl) (fun y hy v H' e r => ev_cmpI (f := fun i j => decide (i ≥ j)) (ev_var rfl r) ev_int)))) (fun cc H2 e2 => ?_) (fun cc H2 e2 => ?_)
  · refine s_ret (R := rStr) (x := sideIn f c.corners) (EvR.to ev_str ?_) (fun v H' e r => q v H' ((e1.trans e2).trans e) r)
    rw [List.map_map] at cc
    unfold sideIn
    rw [if_pos (show (List.map (fun c => decide (dot f c ≥ 0)) c.corners).all id = true from cc)]
  · refine s_ret (R := rStr) (EvR.to (ev_if (x1 := ("most" : Str)) (x2 := "both") (et_test (ev_all (ev_lc (R := rInt) (S := rBl) (KP := Same) (fun y => decide (y ≤ 0)) (ii_lst (ev_var rfl (Mo.up e2 rn))) (fun _ _ _ e => e) lz (fun v => rfl) (fun y hy v H' e r => ev_cmpI (f := fun i j => decide (i ≤ j)) (ev_var rfl r) ev_int)))) (fun _ => ev_str) (fun _ => ev_str)) ?_) (fun v H' e r => q v H' ((e1.trans e2).trans e) r)
    rw [List.map_map] at cc
    rw [List.map_map]
    have cc' : (List.map (fun c => decide (dot f c ≥ 0)) c.corners).all id = false := cc
    have ne : ¬ (List.map (fun c => decide (dot f c ≥ 0)) c.corners).all id = true := by rw [cc']; decide
    show _ = sideIn f c.corners
    unfold sideIn
    rw [if_neg ne]
    rfl
end
end Hf


/-! ## Tr1 -/
set_option Elab.async false
set_option linter.all false
set_option maxRecDepth 100000
set_option maxHeartbeats 400000
namespace Hf
open PySem PySem.Spec
/-! ### the steps of a saying, plain -/
def stepsOf : Say → List Say
  | .neg a => stepsOf a ++ [.neg a]
  | .mk m a b => stepsOf a ++ (stepsOf b ++ [.mk m a b])
  | s => [s]
theorem steps_parts (s : Say) : stepsOf s = s.parts.flatMap stepsOf ++ [s] := by
  cases s <;> simp [stepsOf, Say.parts]
def nstep (D : Int) (t : Str → Int) : List Int → Say → List Int
  | st, .yes => D :: st
  | st, .no => 0 :: st
  | st, .unk x => t x :: st
  | a :: st, .neg _ => (D - a) :: st
  | b :: a :: st, .mk m _ _ => mkv m D a b :: st
  | st, _ => st
def nrun (D : Int) (t : Str → Int) (L : List Say) (st : List Int) : List Int := L.foldl (nstep D t) st
theorem nrun_app (D : Int) (t : Str → Int) (L M : List Say) (st : List Int) : nrun D t (L ++ M) st = nrun D t M (nrun D t L st) := List.foldl_append ..
theorem nrun_steps (D : Int) (t : Str → Int) : ∀ (s : Say) (st : List Int), nrun D t (stepsOf s) st = val t D s :: st
  | .yes, st => rfl
  | .no, st => rfl
  | .unk x, st => rfl
  | .neg a, st => by
    show nrun D t (stepsOf a ++ [.neg a]) st = _
    rw [nrun_app, nrun_steps D t a st]
    rfl
  | .mk m a b, st => by
    show nrun D t (stepsOf a ++ (stepsOf b ++ [.mk m a b])) st = _
    rw [nrun_app, nrun_app, nrun_steps D t a st, nrun_steps D t b]
    rfl
/-- leaves and marks of the steps that are left -/
def lv : List Say → Nat
  | [] => 0
  | .neg _ :: L => lv L
  | .mk _ _ _ :: L => lv L
  | _ :: L => lv L + 1
def mks : List Say → Nat
  | [] => 0
  | .mk _ _ _ :: L => mks L + 1
  | _ :: L => mks L
theorem lv_app : ∀ (L M : List Say), lv (L ++ M) = lv L + lv M
  | [], M => by simp [lv]
  | s :: L, M => by
    have := lv_app L M
    cases s <;> simp only [List.cons_append, lv, this] <;> omega
theorem mks_app : ∀ (L M : List Say), mks (L ++ M) = mks L + mks M
  | [], M => by simp [mks]
  | s :: L, M => by
    have := mks_app L M
    cases s <;> simp only [List.cons_append, mks, this] <;> omega
theorem lv_steps : ∀ s : Say, lv (stepsOf s) = s.leaves
  | .yes => rfl
  | .no => rfl
  | .unk x => rfl
  | .neg a => by show lv (stepsOf a ++ [.neg a]) = _; rw [lv_app, lv_steps a]; rfl
  | .mk m a b => by show lv (stepsOf a ++ (stepsOf b ++ [.mk m a b])) = _; rw [lv_app, lv_app, lv_steps a, lv_steps b]; rfl
theorem mks_steps : ∀ s : Say, mks (stepsOf s) = s.marks
  | .yes => rfl
  | .no => rfl
  | .unk x => rfl
  | .neg a => by show mks (stepsOf a ++ [.neg a]) = _; rw [mks_app, mks_steps a]; rfl
  | .mk m a b => by
    show mks (stepsOf a ++ (stepsOf b ++ [.mk m a b])) = _
    rw [mks_app, mks_app, mks_steps a, mks_steps b]
    simp only [mks, Say.marks]; omega
/-- from this depth the steps never lack a value, one is left -/
def okRun : Nat → List Say → Prop
  | k, [] => k = 1
  | k, .neg _ :: L => 1 ≤ k ∧ okRun k L
  | k, .mk _ _ _ :: L => 2 ≤ k ∧ okRun (k - 1) L
  | k, _ :: L => okRun (k + 1) L
theorem ok_steps : ∀ (s : Say) (k : Nat) (L : List Say), okRun (k + 1) L → okRun k (stepsOf s ++ L)
  | .yes, k, L, h => h
  | .no, k, L, h => h
  | .unk x, k, L, h => h
  | .neg a, k, L, h => by
    show okRun k ((stepsOf a ++ [.neg a]) ++ L)
    rw [List.append_assoc]
    exact ok_steps a k _ ⟨by omega, h⟩
  | .mk m a b, k, L, h => by
    show okRun k ((stepsOf a ++ (stepsOf b ++ [.mk m a b])) ++ L)
    rw [List.append_assoc, List.append_assoc]
    exact ok_steps a k _ (ok_steps b (k + 1) _ ⟨by omega, h⟩)
theorem in_steps {ns : List Str} : ∀ (s : Say), s.In ns → ∀ u ∈ stepsOf s, u.In ns
  | .yes, h, u, hu => by simp [stepsOf] at hu; subst hu; exact h
  | .no, h, u, hu => by simp [stepsOf] at hu; subst hu; exact h
  | .unk x, h, u, hu => by simp [stepsOf] at hu; subst hu; exact h
  | .neg a, h, u, hu => by
    rcases List.mem_append.mp (show u ∈ stepsOf a ++ [.neg a] from hu) with z | z
    · exact in_steps a h u z
    · rw [List.mem_singleton.mp z]; exact h
  | .mk m a b, h, u, hu => by
    rcases List.mem_append.mp (show u ∈ stepsOf a ++ (stepsOf b ++ [.mk m a b]) from hu) with z | z
    · exact in_steps a h.1 u z
    · rcases List.mem_append.mp z with z | z
      · exact in_steps b h.2 u z
      · rw [List.mem_singleton.mp z]; exact h
/-! ### forms with their weights -/
def Fw (n w : Nat) (f : Vec) : Prop := f.length = n + 1 ∧ (-(w : Int) + 1 ≤ hd0 f ∧ hd0 f ≤ w) ∧ ∀ y ∈ f.tail, -(w : Int) ≤ y ∧ y ≤ w
def Qw (n w : Nat) (f : Vec) : Prop := f.length = n + 1 ∧ (-(w : Int) + 1 ≤ hd0 f ∧ hd0 f ≤ w - 1) ∧ ∀ y ∈ f.tail, -(w : Int) ≤ y ∧ y ≤ w
theorem Fw.mono {n w v : Nat} {f : Vec} (h : Fw n w f) (hv : w ≤ v) : Fw n v f := ⟨h.1, ⟨by have := h.2.1; omega, by have := h.2.1; omega⟩, fun y hy => by have := h.2.2 y hy; omega⟩
theorem fw_name {ns : List Str} {x : Str} : Fw ns.length 1 (nameF ns x) := ⟨nameF_len ns x, ⟨by show (-1 : Int) + 1 ≤ 0; omega, by show (0 : Int) ≤ 1; omega⟩, fun y hy => by
  obtain ⟨z, _, rfl⟩ := List.mem_map.mp (show y ∈ ns.map _ from hy)
  split <;> decide⟩
theorem fw_const {n : Nat} {k : Int} (h : k = 0 ∨ k = 1) : Fw n 1 (constF k n) := ⟨constF_len, ⟨by show (-1 : Int) + 1 ≤ k; omega, by show k ≤ 1; omega⟩, fun y hy => by
  rw [(List.mem_replicate.mp (show y ∈ List.replicate n 0 from hy)).2]; decide⟩
theorem fw_not {n w : Nat} {f : Vec} (h : Fw n w f) : Fw n w (notF f) := by
  obtain ⟨a, t, rfl, ht⟩ := vcons h.1
  obtain ⟨h1, h2, h3⟩ := h
  have h2' : -(w : Int) + 1 ≤ a ∧ a ≤ w := h2
  refine ⟨notF_len h1, ?_, fun y hy => ?_⟩
  · show -(w : Int) + 1 ≤ -a + 1 ∧ -a + 1 ≤ w
    omega
  · obtain ⟨z, hz, rfl⟩ := List.mem_map.mp (show y ∈ t.map (fun p => -p) from hy)
    have := h3 z hz
    omega
theorem qw_quest {n v w : Nat} (m : Mk) {a b : Vec} (ha : Fw n v a) (hb : Fw n w b) : Qw n (v + w) (questF m a b) := by
  have hl := questF_len m ha.1 hb.1
  obtain ⟨x, s, rfl, _⟩ := vcons ha.1
  obtain ⟨y, t, rfl, _⟩ := vcons hb.1
  have hx : -(v : Int) + 1 ≤ x ∧ x ≤ v := ha.2.1
  have hy : -(w : Int) + 1 ≤ y ∧ y ≤ w := hb.2.1
  have hs : ∀ z ∈ s, -(v : Int) ≤ z ∧ z ≤ v := ha.2.2
  have ht : ∀ z ∈ t, -(w : Int) ≤ z ∧ z ≤ w := hb.2.2
  have hz : ∀ (s t : Vec), (∀ z ∈ s, -(v : Int) ≤ z ∧ z ≤ v) → (∀ z ∈ t, -(w : Int) ≤ z ∧ z ≤ w) → ∀ z ∈ ad s t, -((v + w : Nat) : Int) ≤ z ∧ z ≤ ((v + w : Nat) : Int) := fun s t hs ht z hz => by
    rw [← zip_ad] at hz
    obtain ⟨p, hp, rfl⟩ := List.mem_map.mp hz
    have a1 := hs p.1 (List.of_mem_zip (a := p.1) (b := p.2) hp).1
    have a2 := ht p.2 (List.of_mem_zip (a := p.1) (b := p.2) hp).2
    omega
  have hn : ∀ z ∈ t.map (fun p => -p), -(w : Int) ≤ z ∧ z ≤ w := fun z hz => by
    obtain ⟨u, hu, rfl⟩ := List.mem_map.mp hz
    have := ht u hu
    omega
  have g1 : Qw n (v + w) (questF m (x :: s) (y :: t)) = (List.length (questF m (x :: s) (y :: t)) = n + 1 ∧ _ ∧ _) := rfl
  rw [g1]
  refine ⟨hl, ?_⟩
  cases m with
  | plus => exact ⟨⟨by show _ ≤ x + y + -1; omega, by show x + y + -1 ≤ _; omega⟩, hz s t hs ht⟩
  | times => exact ⟨⟨by show _ ≤ x + y + -1; omega, by show x + y + -1 ≤ _; omega⟩, hz s t hs ht⟩
  | leads => exact ⟨⟨by show _ ≤ x + -y; omega, by show x + -y ≤ _; omega⟩, hz s _ hs hn⟩
  | and => exact ⟨⟨by show _ ≤ x + -y; omega, by show x + -y ≤ _; omega⟩, hz s _ hs hn⟩
  | or => exact ⟨⟨by show _ ≤ x + -y; omega, by show x + -y ≤ _; omega⟩, hz s _ hs hn⟩
  | same => exact ⟨⟨by show _ ≤ x + -y; omega, by show x + -y ≤ _; omega⟩, hz s _ hs hn⟩
theorem Qw.fw {n w : Nat} {f : Vec} (h : Qw n w f) : Fw n w f := ⟨h.1, ⟨h.2.1.1, by have := h.2.1.2; omega⟩, h.2.2⟩
theorem Qw.neg {n w : Nat} {f : Vec} (h : Qw n w f) : Qw n w (negF f) := by
  obtain ⟨a, t, rfl, ht⟩ := vcons h.1
  obtain ⟨h1, h2, h3⟩ := h
  have h2' : -(w : Int) + 1 ≤ a ∧ a ≤ w - 1 := h2
  refine ⟨by rw [negF_len]; exact h1, ?_, fun y hy => ?_⟩
  · show -(w : Int) + 1 ≤ -a ∧ -a ≤ w - 1
    omega
  · obtain ⟨z, hz, rfl⟩ := List.mem_map.mp (show y ∈ t.map (fun p => -p) from hy)
    have := h3 z hz
    omega
theorem Qw.up {n w : Nat} {f : Vec} (h : Qw n w f) : Fw n w (raiseF f 1) := by
  obtain ⟨a, t, rfl, ht⟩ := vcons h.1
  obtain ⟨h1, h2, h3⟩ := h
  have h2' : -(w : Int) + 1 ≤ a ∧ a ≤ w - 1 := h2
  exact ⟨raiseF_len h1, ⟨by show _ ≤ a + 1; omega, by show a + 1 ≤ _; omega⟩, h3⟩
theorem Qw.fo {n w : Nat} {f : Vec} (h : Qw n w f) (hw : (w : Int) ≤ LB n) : Fo n f := ⟨h.1, fun y hy => by
  obtain ⟨a, t, rfl, ht⟩ := vcons h.1
  rcases List.mem_cons.mp hy with e | e
  · have h2 : -(w : Int) + 1 ≤ a ∧ a ≤ w - 1 := h.2.1
    omega
  · have := h.2.2 y e
    omega⟩
theorem fw_side {n v w : Nat} (m : Mk) (l : Bool) {a b : Vec} (ha : Fw n v a) (hb : Fw n w b) (hv : 1 ≤ v) : Fw n (v + w) (sideF m l a b) := by
  have q := qw_quest m ha hb
  have hc : ∀ k : Int, (k = 0 ∨ k = 1) → Fw n (v + w) (constF k ((questF m a b).length - 1)) := fun k hk => by
    rw [q.1]
    exact (fw_const hk).mono (by omega)
  have hn : Fw n (v + w) (notF (questF m a b)) := q.neg.up
  cases m <;> cases l
  · exact q.up
  · exact hc 1 (.inr rfl)
  · exact hc 0 (.inl rfl)
  · exact q.fw
  · exact hc 1 (.inr rfl)
  · exact hn
  · exact ha.mono (by omega)
  · exact hb.mono (by omega)
  · exact hb.mono (by omega)
  · exact ha.mono (by omega)
  · exact q.up
  · exact hn
theorem Fw.sm {n w : Nat} {f : Vec} (h : Fw n w f) (hw : w ≤ 1000) : f.length ≤ n + 1 ∧ Sm f := by
  refine ⟨Nat.le_of_eq h.1, fun y hy => ?_⟩
  obtain ⟨a, t, rfl, ht⟩ := vcons h.1
  rcases List.mem_cons.mp hy with e | e
  · have h2 : -(w : Int) + 1 ≤ a ∧ a ≤ w := h.2.1
    omega
  · have := h.2.2 y e
    omega
/-- a stack (its top first) whose weights are not above k -/
def StW (n : Nat) : List Vec → Nat → Prop
  | [], _ => True
  | f :: st, k => ∃ w, 1 ≤ w ∧ Fw n w f ∧ w ≤ k ∧ StW n st (k - w)
theorem StW.mono {n : Nat} : ∀ {st : List Vec} {k j : Nat}, StW n st k → k ≤ j → StW n st j
  | [], _, _, _, _ => trivial
  | f :: st, k, j, ⟨w, w1, h1, h2, h3⟩, h => ⟨w, w1, h1, by omega, StW.mono h3 (by omega)⟩
theorem StW.all {n : Nat} : ∀ {st : List Vec} {k : Nat}, StW n st k → ∀ f ∈ st, Fw n k f
  | [], _, _, f, hf => by simp at hf
  | g :: st, k, ⟨w, w1, h1, h2, h3⟩, f, hf => by
    rcases List.mem_cons.mp hf with e | e
    · subst e; exact h1.mono h2
    · exact (StW.all h3 f e).mono (by omega)
/-! ### the steps that ask nothing -/
def stk (ns : List Str) : List Vec → Say → List Vec
  | st, .unk x => nameF ns x :: st
  | f :: st, .neg _ => notF f :: st
  | st, .yes => constF 1 ns.length :: st
  | st, .no => constF 0 ns.length :: st
  | st, _ => st
def adv (ns : List Str) : List Say → List Vec → Nat × List Vec
  | [], st => (0, st)
  | s :: L, st => if s.isMk = true then (0, st) else ((adv ns L (stk ns st s)).1 + 1, (adv ns L (stk ns st s)).2)
def dotS (x : Vec) (st : List Vec) : List Int := st.map fun f => dot f x
structure AdvOk (ns : List Str) (L : List Say) (st : List Vec) (j : Nat) (r : Nat × List Vec) : Prop where
  le : r.1 ≤ L.length
  lv : ∀ k, StW ns.length st k → k + lv L ≤ j → ∃ k', StW ns.length r.2 k' ∧ k' + lv (L.drop r.1) ≤ j
  ok : okRun st.length L → okRun r.2.length (L.drop r.1)
  km : mks (L.drop r.1) = mks L
  hd : L.drop r.1 = [] ∨ ∃ m a b M, L.drop r.1 = .mk m a b :: M
  rn : ns.Nodup → (∀ u ∈ L, u.In ns) → (∀ f ∈ st, f.length = ns.length + 1) → okRun st.length L → ∀ (d : Int) (p : Vec), p.length = ns.length → nrun d (tab ns p) (L.drop r.1) (dotS (d :: p) r.2) = nrun d (tab ns p) L (dotS (d :: p) st)
theorem stk_len {ns : List Str} {st : List Vec} {s : Say} (h : ∀ f ∈ st, f.length = ns.length + 1) : ∀ f ∈ stk ns st s, f.length = ns.length + 1 := by
  intro f hf
  cases s with
  | unk x => rcases List.mem_cons.mp (show f ∈ nameF ns x :: st from by cases st <;> exact hf) with rfl | z
             · exact nameF_len ns x
             · exact h f z
  | yes => rcases List.mem_cons.mp (show f ∈ constF 1 ns.length :: st from by cases st <;> exact hf) with rfl | z
           · exact constF_len
           · exact h f z
  | no => rcases List.mem_cons.mp (show f ∈ constF 0 ns.length :: st from by cases st <;> exact hf) with rfl | z
          · exact constF_len
          · exact h f z
  | neg a =>
    cases st with
    | nil => exact h f hf
    | cons g st =>
      rcases List.mem_cons.mp (show f ∈ notF g :: st from hf) with rfl | z
      · exact notF_len (h g List.mem_cons_self)
      · exact h f (List.mem_cons_of_mem _ z)
  | mk m a b => cases st <;> exact h f hf
theorem adv_ok (ns : List Str) : ∀ (L : List Say) (st : List Vec) (j : Nat), AdvOk ns L st j (adv ns L st)
  | [], st, j => ⟨Nat.le_refl _, fun k h1 h2 => ⟨k, h1, h2⟩, fun h => h, rfl, .inl rfl, fun _ _ _ _ d p _ => rfl⟩
  | s :: L, st, j => by
    by_cases hm : s.isMk = true
    · have e : adv ns (s :: L) st = (0, st) := by simp only [adv, if_pos hm]
      rw [e]
      refine ⟨Nat.zero_le _, fun k h1 h2 => ⟨k, h1, h2⟩, fun h => h, rfl, .inr ?_, fun _ _ _ _ d p _ => rfl⟩
      cases s with
      | mk m a b => exact ⟨m, a, b, L, rfl⟩
      | _ => cases hm
    · have ih := adv_ok ns L (stk ns st s) j
      have e : adv ns (s :: L) st = ((adv ns L (stk ns st s)).1 + 1, (adv ns L (stk ns st s)).2) := by simp only [adv, if_neg hm]
      rw [e]
      generalize adv ns L (stk ns st s) = r at *
      refine ⟨Nat.succ_le_succ ih.le, fun k h1 h2 => ?_, fun h => ?_, ?_, ih.hd, fun nd hin hl hok d p hp => ?_⟩
      · cases s with
        | mk m a b => exact absurd rfl hm
        | unk x => exact ih.lv (k + 1) (by cases st <;> exact ⟨1, Nat.le_refl _, fw_name, by omega, by rw [Nat.add_sub_cancel]; exact h1⟩) (by simp only [lv] at h2; omega)
        | yes => exact ih.lv (k + 1) (by cases st <;> exact ⟨1, Nat.le_refl _, fw_const (.inr rfl), by omega, by rw [Nat.add_sub_cancel]; exact h1⟩) (by simp only [lv] at h2; omega)
        | no => exact ih.lv (k + 1) (by cases st <;> exact ⟨1, Nat.le_refl _, fw_const (.inl rfl), by omega, by rw [Nat.add_sub_cancel]; exact h1⟩) (by simp only [lv] at h2; omega)
        | neg a =>
          refine ih.lv k ?_ h2
          cases st with
          | nil => trivial
          | cons f st =>
            obtain ⟨w, w1, h3, h4, h5⟩ := h1
            exact ⟨w, w1, fw_not h3, h4, h5⟩
      · refine ih.ok ?_
        cases s with
        | mk m a b => exact absurd rfl hm
        | unk x => cases st <;> exact h
        | yes => cases st <;> exact h
        | no => cases st <;> exact h
        | neg a =>
          cases st with
          | nil => exact absurd h.1 (by simp)
          | cons f st => exact h.2
      · show mks (L.drop r.1) = _
        rw [ih.km]
        cases s with
        | mk m a b => exact absurd rfl hm
        | _ => rfl
      · have hin' : ∀ u ∈ L, u.In ns := fun u hu => hin u (List.mem_cons_of_mem _ hu)
        have hok' : okRun (stk ns st s).length L := by
          cases s with
          | mk m a b => exact absurd rfl hm
          | unk x => cases st <;> exact hok
          | yes => cases st <;> exact hok
          | no => cases st <;> exact hok
          | neg a =>
            cases st with
            | nil => exact absurd hok.1 (by simp)
            | cons f st => exact hok.2
        show nrun d (tab ns p) (L.drop r.1) _ = nrun d (tab ns p) L (nstep d (tab ns p) (dotS (d :: p) st) s)
        rw [ih.rn nd hin' (stk_len hl) hok' d p hp]
        congr 1
        cases s with
        | mk m a b => exact absurd rfl hm
        | unk x =>
          have hx : x ∈ ns := hin (.unk x) List.mem_cons_self
          have e1 : stk ns st (.unk x) = nameF ns x :: st := by cases st <;> rfl
          have e2 : ∀ z : List Int, nstep d (tab ns p) z (.unk x) = tab ns p x :: z := fun z => by cases z <;> rfl
          rw [e1, e2]
          show dot (nameF ns x) (d :: p) :: _ = _
          rw [nameF_dot nd hx hp]
          rfl
        | yes =>
          have e1 : stk ns st .yes = constF 1 ns.length :: st := by cases st <;> rfl
          have e2 : ∀ z : List Int, nstep d (tab ns p) z .yes = d :: z := fun z => by cases z <;> rfl
          rw [e1, e2]
          show dot (constF 1 ns.length) (d :: p) :: _ = _
          rw [constF_dot, Int.one_mul]
          rfl
        | no =>
          have e1 : stk ns st .no = constF 0 ns.length :: st := by cases st <;> rfl
          have e2 : ∀ z : List Int, nstep d (tab ns p) z .no = 0 :: z := fun z => by cases z <;> rfl
          rw [e1, e2]
          show dot (constF 0 ns.length) (d :: p) :: _ = _
          rw [constF_dot, Int.zero_mul]
          rfl
        | neg a =>
          cases st with
          | nil => exact absurd hok.1 (by simp)
          | cons f st =>
            show dot (notF f) (d :: p) :: _ = (d - dot f (d :: p)) :: _
            rw [notF_dot (n := ns.length) (hl f List.mem_cons_self)]
end Hf


/-! ## Tr2 -/
set_option Elab.async false
set_option linter.all false
set_option maxRecDepth 100000
set_option maxHeartbeats 400000
namespace Hf
open PySem PySem.Spec
/-! ### the events, plain: a pending entry is (place, stack with its top first, cell) -/
abbrev Ent := Nat × List Vec × Cl
abbrev Fd := Str × Option (List Vec) × Cl
def lbN : Nat → Nat
  | 0 => 14
  | 1 => 14
  | 2 => 11
  | _ => 9
theorem lbN_LB (n : Nat) : ((lbN n : Nat) : Int) = LB n := by
  match n with
  | 0 => rfl
  | 1 => rfl
  | 2 => rfl
  | n + 3 => rfl
theorem lbN_le (n : Nat) : lbN n ≤ 14 := by
  unfold lbN
  split <;> decide
/-- what is done at a mark -/
def evAsk (m : Mk) (A B : Vec) (st : List Vec) (k : Nat) (c : Cl) : Fd × List Ent :=
  if sideIn (questF m A B) c.corners = "both" then ((("both" : Str), none, c), [(k + 1, sideF m false A B :: st, cutC c (negF (questF m A B))), (k + 1, sideF m true A B :: st, cutC c (questF m A B))])
  else ((sideIn (questF m A B) c.corners, none, c), [(k + 1, sideF m (decide (sideIn (questF m A B) c.corners = "least")) A B :: st, c)])
def evAt (L : List Say) (k : Nat) (st : List Vec) (c : Cl) : Fd × List Ent :=
  match L.drop k, st with
  | .mk m _ _ :: _, B :: A :: st' => evAsk m A B st' k c
  | _, _ => ((("end" : Str), some st, c), [])
def evStep (ns : List Str) (L : List Say) (e : Ent) : Fd × List Ent :=
  evAt L (e.1 + (adv ns (L.drop e.1) e.2.1).1) (adv ns (L.drop e.1) e.2.1).2 e.2.2
def evs (ns : List Str) (L : List Say) : Nat → List Ent → List Fd → List Fd
  | 0, _, found => found
  | _ + 1, [], found => found
  | M + 1, e :: pend, found => evs ns L M ((evStep ns L e).2.reverse ++ pend) (found ++ [(evStep ns L e).1])
def pot (L : List Say) (e : Ent) : Nat := 2 ^ (mks (L.drop e.1) + 1) - 1
def pots (L : List Say) (es : List Ent) : Nat := (es.map (pot L)).sum
structure EntI (ns : List Str) (L : List Say) (e : Ent) : Prop where
  le : e.1 ≤ L.length
  ws : ∃ k, StW ns.length e.2.1 k ∧ k + lv (L.drop e.1) ≤ lbN ns.length
  ok : okRun e.2.1.length (L.drop e.1)
  gd : Gd e.2.2
  cn : e.2.2.n = ns.length
  pl : e.2.2.path.length + mks (L.drop e.1) ≤ 13
  ne : e.2.2.corners ≠ []
/-- an end's entry -/
def FdI (n : Nat) (f : Fd) : Prop := (f.1 = "end" → ∃ F, f.2.1 = some [F] ∧ Fw n (lbN n) F ∧ Gd f.2.2 ∧ f.2.2.corners ≠ [] ∧ f.2.2.n = n) ∧ (f.1 ≠ "end" → f.2.1 = none)
/-- the point is served by the entry -/
def Serve (ns : List Str) (L : List Say) (r d : Int) (p : Vec) (e : Ent) : Prop :=
  Pt ns.length (e.2.2.path ++ faces ns.length) d p ∧ nrun d (tab ns p) (L.drop e.1) (dotS (d :: p) e.2.1) = [r]
def Done (ns : List Str) (r d : Int) (p : Vec) (f : Fd) : Prop := f.1 = "end" ∧ Pt ns.length (f.2.2.path ++ faces ns.length) d p ∧ ∃ F, f.2.1 = some [F] ∧ dot F (d :: p) = r
/-- how an entry stands before a mark, or at the end -/
inductive AtI (ns : List Str) (L : List Say) (k : Nat) (st : List Vec) (c : Cl) : Prop where
  | fin (F : Vec) (h : L.drop k = []) (e : st = [F]) (w : Fw ns.length (lbN ns.length) F)
  | ask (m : Mk) (a b : Say) (M : List Say) (A B : Vec) (st' : List Vec) (j v w : Nat) (h : L.drop k = .mk m a b :: M) (e : st = B :: A :: st') (w1 : 1 ≤ w) (v1 : 1 ≤ v) (hB : Fw ns.length w B) (hA : Fw ns.length v A) (hs : StW ns.length st' j) (hj : j + v + w + lv M ≤ lbN ns.length)
      (ok : okRun (st'.length + 1) M)
theorem sideIn_cases (f : Vec) (cs : List Vec) : (sideIn f cs = "least" ∧ ∀ c ∈ cs, 0 ≤ dot f c) ∨ (sideIn f cs = "most" ∧ ∀ c ∈ cs, dot f c ≤ 0) ∨ (sideIn f cs = "both" ∧ (∃ c ∈ cs, dot f c < 0) ∧ ∃ c ∈ cs, 0 < dot f c) := by
  unfold sideIn
  by_cases h : (cs.map fun c => decide (dot f c ≥ 0)).all id = true
  · rw [if_pos h]
    refine .inl ⟨rfl, fun c hc => ?_⟩
    simp only [List.all_map, List.all_eq_true] at h
    exact of_decide_eq_true (h c hc)
  · rw [if_neg h]
    have h1 : ∃ c ∈ cs, dot f c < 0 := by
      simp only [List.all_map, List.all_eq_true] at h
      apply Classical.byContradiction
      intro hn
      apply h
      intro c hc
      apply decide_eq_true
      apply Classical.byContradiction
      intro h2
      exact hn ⟨c, hc, by omega⟩
    by_cases k : (cs.map fun c => decide (dot f c ≤ 0)).all id = true
    · rw [if_pos k]
      refine .inr (.inl ⟨rfl, fun c hc => ?_⟩)
      simp only [List.all_map, List.all_eq_true] at k
      exact of_decide_eq_true (k c hc)
    · rw [if_neg k]
      refine .inr (.inr ⟨rfl, h1, ?_⟩)
      simp only [List.all_map, List.all_eq_true] at k
      apply Classical.byContradiction
      intro hn
      apply k
      intro c hc
      apply decide_eq_true
      apply Classical.byContradiction
      intro h2
      exact hn ⟨c, hc, by omega⟩
section
variable {ns : List Str} {L : List Say}
theorem ent_at {e : Ent} (h : EntI ns L e) (k : Nat) (hk : k = e.1 + (adv ns (L.drop e.1) e.2.1).1) : AtI ns L k (adv ns (L.drop e.1) e.2.1).2 e.2.2 ∧ k ≤ L.length ∧ mks (L.drop k) = mks (L.drop e.1) := by
  have a := adv_ok ns (L.drop e.1) e.2.1 (lbN ns.length)
  obtain ⟨k0, w1, w2⟩ := h.ws
  obtain ⟨k1, s1, s2⟩ := a.lv k0 w1 w2
  have ok := a.ok h.ok
  have hd := a.hd
  have le := a.le
  have km := a.km
  generalize adv ns (L.drop e.1) e.2.1 = r at *
  rw [List.drop_drop, ← hk] at s2 ok hd km
  rw [List.length_drop] at le
  refine ⟨?_, by have := h.le; omega, km⟩
  rcases hd with hd | ⟨m, a, b, M, hd⟩
  · rw [hd] at ok
    have ok : r.2.length = 1 := ok
    match hr : r.2, ok with
    | [F], _ =>
      rw [hr] at s1
      refine .fin F hd rfl ?_
      obtain ⟨w, _, h1, h2, _⟩ := s1
      rw [hd] at s2
      exact h1.mono (by omega)
  · rw [hd] at ok s2
    have ok : 2 ≤ r.2.length ∧ okRun (r.2.length - 1) M := ok
    match hr : r.2, ok with
    | [], ok => exact absurd ok.1 (by simp)
    | [_], ok => exact absurd ok.1 (by simp)
    | B :: A :: st', ok =>
      rw [hr] at s1
      obtain ⟨w, w1, h1, h2, v, v1, h3, h4, h5⟩ := s1
      refine .ask m a b M A B st' (k1 - w - v) v w hd rfl w1 v1 h1 h3 h5 ?_ ok.2
      have e : lv (.mk m a b :: M) = lv M := rfl
      omega
theorem drop_succ {α : Type} {L M : List α} {k : Nat} {x : α} (h : L.drop k = x :: M) : L.drop (k + 1) = M := by
  rw [← List.drop_drop, h]; rfl
theorem evAt_fin {k : Nat} {st : List Vec} {c : Cl} (h : L.drop k = []) : evAt L k st c = ((("end" : Str), some st, c), []) := by
  unfold evAt
  rw [h]
theorem evAt_ask {k : Nat} {m : Mk} {a b : Say} {M : List Say} {A B : Vec} {st : List Vec} {c : Cl} (h : L.drop k = .mk m a b :: M) : evAt L k (B :: A :: st) c = evAsk m A B st k c := by
  unfold evAt
  rw [h]
theorem drop_lt {α : Type} {L M : List α} {k : Nat} {x : α} (h : L.drop k = x :: M) : k < L.length := by
  apply Classical.byContradiction
  intro hn
  rw [List.drop_eq_nil_of_le (by omega)] at h
  cases h
theorem kept_ne {f c : Vec} {cs rest : List Vec} (hc : c ∈ cs) (h : 0 ≤ dot f c) : keptOf cs f ++ rest ≠ [] := fun z => by
  have : c ∈ keptOf cs f := List.mem_filter.mpr ⟨hc, decide_eq_true h⟩
  rw [(List.append_eq_nil_iff.mp z).1] at this
  simp at this
theorem evStep_ok {e : Ent} (h : EntI ns L e) : (∀ e' ∈ (evStep ns L e).2, EntI ns L e') ∧ FdI ns.length (evStep ns L e).1 ∧ pots L (evStep ns L e).2 + 1 ≤ pot L e ∧ (evStep ns L e).2.length ≤ 2 := by
  obtain ⟨ai, kle, km⟩ := ent_at h _ rfl
  unfold evStep
  generalize e.1 + (adv ns (L.drop e.1) e.2.1).1 = k at *
  cases ai with
  | fin F hd es w =>
    rw [evAt_fin hd]
    refine ⟨fun e' he => by simp at he, ⟨fun _ => ⟨F, by rw [es], w, h.gd, h.ne, h.cn⟩, fun z => absurd rfl z⟩, ?_, by simp⟩
    have : 2 ^ 1 ≤ 2 ^ (mks (L.drop e.1) + 1) := Nat.pow_le_pow_right (by decide) (by omega)
    show 0 + 1 ≤ 2 ^ (mks (L.drop e.1) + 1) - 1
    omega
  | ask m a b M A B st' j v w hd es w1 v1 hB hA hs hj ok =>
    rw [es, evAt_ask hd]
    have hd1 := drop_succ hd
    have hlt := drop_lt hd
    have mk1 : mks (L.drop e.1) = mks M + 1 := by rw [← km, hd]; rfl
    have pot0 : ∀ (st : List Vec) (c : Cl), pot L (k + 1, st, c) = 2 ^ (mks M + 1) - 1 := fun st c => by unfold pot; rw [hd1]
    have pe : pot L e = 2 ^ (mks M + 2) - 1 := by unfold pot; rw [mk1]
    have pw : 2 ^ (mks M + 2) = 2 * 2 ^ (mks M + 1) := by rw [Nat.pow_succ]; omega
    have p1 : 2 ^ 1 ≤ 2 ^ (mks M + 1) := Nat.pow_le_pow_right (by decide) (by omega)
    have qw := qw_quest m hA hB
    have fo : Fo ns.length (questF m A B) := qw.fo (by rw [← lbN_LB]; omega)
    have fo2 : Fo ns.length (negF (questF m A B)) := qw.neg.fo (by rw [← lbN_LB]; omega)
    have plt : e.2.2.path.length < 20 := by have := h.pl; omega
    have mk : ∀ (l : Bool) (c : Cl), Gd c → c.n = ns.length → c.path.length ≤ e.2.2.path.length + 1 → c.corners ≠ [] → EntI ns L (k + 1, sideF m l A B :: st', c) := fun l c g cn cp ne => by
      refine ⟨hlt, ⟨j + v + w, ⟨v + w, by omega, fw_side m l hA hB v1, by omega, hs.mono (by omega)⟩, ?_⟩, ?_, g, cn, ?_, ne⟩
      · show _ + lv (L.drop (k + 1)) ≤ _
        rw [hd1]; exact hj
      · show okRun _ (L.drop (k + 1))
        rw [hd1]; exact ok
      · show _ + mks (L.drop (k + 1)) ≤ 13
        rw [hd1]; have := h.pl; rw [mk1] at this
        show c.path.length + mks M ≤ 13
        omega
    have cn := h.cn
    rcases sideIn_cases (questF m A B) e.2.2.corners with ⟨c1, c2⟩ | ⟨c1, c2⟩ | ⟨c1, ⟨x, hx, x0⟩, y, hy, y0⟩
    · have : evAsk m A B st' k e.2.2 = ((("least" : Str), none, e.2.2), [(k + 1, sideF m true A B :: st', e.2.2)]) := by
        unfold evAsk
        rw [c1, if_neg (by decide)]
        rfl
      rw [this]
      refine ⟨fun e' he => ?_, ⟨fun z => absurd (show ("least" : Str) = "end" from z) (by decide), fun _ => rfl⟩, ?_, by simp⟩
      · rw [List.mem_singleton.mp he]
        exact mk true _ h.gd cn (by omega) h.ne
      · simp only [pots, List.map_cons, List.map_nil, List.sum_cons, List.sum_nil, pot0]
        omega
    · have : evAsk m A B st' k e.2.2 = ((("most" : Str), none, e.2.2), [(k + 1, sideF m false A B :: st', e.2.2)]) := by
        unfold evAsk
        rw [c1, if_neg (by decide)]
        rfl
      rw [this]
      refine ⟨fun e' he => ?_, ⟨fun z => absurd (show ("most" : Str) = "end" from z) (by decide), fun _ => rfl⟩, ?_, by simp⟩
      · rw [List.mem_singleton.mp he]
        exact mk false _ h.gd cn (by omega) h.ne
      · simp only [pots, List.map_cons, List.map_nil, List.sum_cons, List.sum_nil, pot0]
        omega
    · have : evAsk m A B st' k e.2.2 = ((("both" : Str), none, e.2.2), [(k + 1, sideF m false A B :: st', cutC e.2.2 (negF (questF m A B))), (k + 1, sideF m true A B :: st', cutC e.2.2 (questF m A B))]) := by
        unfold evAsk
        rw [c1, if_pos rfl]
      rw [this]
      rw [← cn] at fo fo2
      refine ⟨fun e' he => ?_, ⟨fun z => absurd (show ("both" : Str) = "end" from z) (by decide), fun _ => rfl⟩, ?_, by simp⟩
      · rcases List.mem_cons.mp he with rfl | he
        · exact mk false _ (h.gd.cut fo2 plt) cn (by show (_ ++ [_]).length ≤ _; simp) (kept_ne hx (by rw [negF_dot]; omega))
        · rw [List.mem_singleton.mp he]
          exact mk true _ (h.gd.cut fo plt) cn (by show (_ ++ [_]).length ≤ _; simp) (kept_ne hy (by omega))
      · simp only [pots, List.map_cons, List.map_nil, List.sum_cons, List.sum_nil, pot0]
        omega
theorem pt_cut {n : Nat} {c : Cl} {f : Vec} {d : Int} {p : Vec} (h : Pt n (c.path ++ faces n) d p) (hf : 0 ≤ dot f (d :: p)) : Pt n ((cutC c f).path ++ faces n) d p := ⟨h.pos, h.len, fun g hg => by
  rcases List.mem_append.mp hg with z | z
  · rcases List.mem_append.mp (show g ∈ c.path ++ [f] from z) with z | z
    · exact h.all g (List.mem_append_left _ z)
    · rw [List.mem_singleton.mp z]; exact hf
  · exact h.all g (List.mem_append_right _ z)⟩
theorem evStep_serve (nd : ns.Nodup) (hin : ∀ u ∈ L, u.In ns) {e : Ent} (h : EntI ns L e) {r d : Int} {p : Vec} (hs : Serve ns L r d p e) : (∃ e' ∈ (evStep ns L e).2, Serve ns L r d p e') ∨ Done ns r d p (evStep ns L e).1 := by
  obtain ⟨ai, kle, km⟩ := ent_at h _ rfl
  obtain ⟨pt, rn⟩ := hs
  obtain ⟨k0, w1, w2⟩ := h.ws
  have rn2 := (adv_ok ns (L.drop e.1) e.2.1 (lbN ns.length)).rn nd (fun u hu => hin u (List.mem_of_mem_drop hu)) (fun f hf => (w1.all f hf).1) h.ok d p pt.len
  rw [rn, List.drop_drop] at rn2
  unfold evStep
  generalize e.1 + (adv ns (L.drop e.1) e.2.1).1 = k at *
  generalize (adv ns (L.drop e.1) e.2.1).2 = st at *
  cases ai with
  | fin F hd es w =>
    rw [evAt_fin hd]
    rw [hd, es] at rn2
    refine .inr ⟨rfl, pt, F, by rw [es], ?_⟩
    have : [dot F (d :: p)] = [r] := rn2
    exact List.head_eq_of_cons_eq this
  | ask m a b M A B st' j v w hd es w1 v1 hB hA hs hj ok =>
    rw [hd, es] at rn2
    rw [es, evAt_ask hd]
    have hd1 := drop_succ hd
    have go : ∀ (l : Bool) (c : Cl), (if l = true then 0 ≤ dot (questF m A B) (d :: p) else dot (questF m A B) (d :: p) ≤ 0) → Pt ns.length (c.path ++ faces ns.length) d p → Serve ns L r d p (k + 1, sideF m l A B :: st', c) := fun l c hl hc => by
      refine ⟨hc, ?_⟩
      show nrun d (tab ns p) (L.drop (k + 1)) (dot (sideF m l A B) (d :: p) :: dotS (d :: p) st') = [r]
      rw [hd1, ← sideF_val m l hA.1 hB.1 hl]
      exact rn2
    have least : ∀ g : Vec, (∀ x ∈ e.2.2.corners, 0 ≤ dot g x) → 0 ≤ dot g (d :: p) := fun g hg => by
      have ok := h.gd.ok
      have pt' := pt
      rw [← h.cn] at pt'
      obtain ⟨e0, q0, hm, hp, hle⟩ := cells_least ok pt' g
      have h1 := hg _ hm
      have h2 : 0 ≤ dot g (e0 :: q0) * d := Int.mul_nonneg h1 (Int.le_of_lt pt.pos)
      have h3 : 0 ≤ dot g (d :: p) * e0 := Int.le_trans h2 hle
      apply Classical.byContradiction
      intro hn
      have h4 : dot g (d :: p) * e0 < 0 := Int.mul_neg_of_neg_of_pos (by omega) hp.pos
      omega
    rcases sideIn_cases (questF m A B) e.2.2.corners with ⟨c1, c2⟩ | ⟨c1, c2⟩ | ⟨c1, ⟨x, hx, x0⟩, y, hy, y0⟩
    · have : evAsk m A B st' k e.2.2 = ((("least" : Str), none, e.2.2), [(k + 1, sideF m true A B :: st', e.2.2)]) := by
        unfold evAsk
        rw [c1, if_neg (by decide)]
        rfl
      rw [this]
      exact .inl ⟨_, List.mem_singleton.mpr rfl, go true _ (by rw [if_pos rfl]; exact least _ c2) pt⟩
    · have : evAsk m A B st' k e.2.2 = ((("most" : Str), none, e.2.2), [(k + 1, sideF m false A B :: st', e.2.2)]) := by
        unfold evAsk
        rw [c1, if_neg (by decide)]
        rfl
      rw [this]
      refine .inl ⟨_, List.mem_singleton.mpr rfl, go false _ ?_ pt⟩
      rw [if_neg (by decide)]
      have := least (negF (questF m A B)) (fun x hx => by rw [negF_dot]; have := c2 x hx; omega)
      rw [negF_dot] at this
      omega
    · have : evAsk m A B st' k e.2.2 = ((("both" : Str), none, e.2.2), [(k + 1, sideF m false A B :: st', cutC e.2.2 (negF (questF m A B))), (k + 1, sideF m true A B :: st', cutC e.2.2 (questF m A B))]) := by
        unfold evAsk
        rw [c1, if_pos rfl]
      rw [this]
      by_cases hq : 0 ≤ dot (questF m A B) (d :: p)
      · exact .inl ⟨_, List.mem_cons_of_mem _ List.mem_cons_self, go true _ (by rw [if_pos rfl]; exact hq) (pt_cut pt hq)⟩
      · exact .inl ⟨_, List.mem_cons_self, go false _ (by rw [if_neg (by decide)]; omega) (pt_cut pt (by rw [negF_dot]; omega))⟩
theorem pots_app (a b : List Ent) : pots L (a ++ b) = pots L a + pots L b := by unfold pots; rw [List.map_append, List.sum_append]
theorem pots_rev (a : List Ent) : pots L a.reverse = pots L a := by unfold pots; rw [List.map_reverse, List.sum_reverse]
theorem evs_ok : ∀ (M : Nat) (pend : List Ent) (found : List Fd), (∀ e ∈ pend, EntI ns L e) → (∀ f ∈ found, FdI ns.length f) → ∀ f ∈ evs ns L M pend found, FdI ns.length f
  | 0, pend, found, _, hf, f, h => hf f h
  | M + 1, [], found, _, hf, f, h => hf f h
  | M + 1, e :: pend, found, he, hf, f, h => by
    obtain ⟨a, b, _, _⟩ := evStep_ok (he e List.mem_cons_self)
    refine evs_ok M _ _ (fun e' h' => ?_) (fun f' h' => ?_) f h
    · rcases List.mem_append.mp h' with z | z
      · exact a e' (List.mem_reverse.mp z)
      · exact he e' (List.mem_cons_of_mem _ z)
    · rcases List.mem_append.mp h' with z | z
      · exact hf f' z
      · rw [List.mem_singleton.mp z]; exact b
theorem evs_sub : ∀ (M : Nat) (pend : List Ent) (found : List Fd), ∀ f ∈ found, f ∈ evs ns L M pend found
  | 0, pend, found, f, h => h
  | M + 1, [], found, f, h => h
  | M + 1, e :: pend, found, f, h => evs_sub M _ _ f (List.mem_append_left _ h)
theorem evs_cover (nd : ns.Nodup) (hin : ∀ u ∈ L, u.In ns) {r d : Int} {p : Vec} : ∀ (M : Nat) (pend : List Ent) (found : List Fd), (∀ e ∈ pend, EntI ns L e) → pots L pend ≤ M → (∃ e ∈ pend, Serve ns L r d p e) → ∃ f ∈ evs ns L M pend found, Done ns r d p f
  | 0, [], found, _, _, ⟨e, he, _⟩ => by simp at he
  | 0, e :: pend, found, he, hp, _ => by
    have : 2 ^ 1 ≤ 2 ^ (mks (L.drop e.1) + 1) := Nat.pow_le_pow_right (by decide) (by omega)
    have h1 : pots L (e :: pend) = pot L e + pots L pend := rfl
    have h2 : 1 ≤ pot L e := by unfold pot; omega
    omega
  | M + 1, [], found, _, _, ⟨e, he, _⟩ => by simp at he
  | M + 1, e :: pend, found, he, hp, ⟨e0, h0, s0⟩ => by
    obtain ⟨a, b, c, _⟩ := evStep_ok (he e List.mem_cons_self)
    have hp' : pots L ((evStep ns L e).2.reverse ++ pend) ≤ M := by
      rw [pots_app, pots_rev]
      have h1 : pots L (e :: pend) = pot L e + pots L pend := rfl
      omega
    have he' : ∀ e' ∈ (evStep ns L e).2.reverse ++ pend, EntI ns L e' := fun e' h' => by
      rcases List.mem_append.mp h' with z | z
      · exact a e' (List.mem_reverse.mp z)
      · exact he e' (List.mem_cons_of_mem _ z)
    have go : (∃ e' ∈ (evStep ns L e).2.reverse ++ pend, Serve ns L r d p e') → ∃ f ∈ evs ns L (M + 1) (e :: pend) found, Done ns r d p f := fun h => evs_cover nd hin M _ _ he' hp' h
    rcases List.mem_cons.mp h0 with rfl | h0
    · rcases evStep_serve nd hin (he e0 List.mem_cons_self) s0 with ⟨e', h', s'⟩ | dn
      · exact go ⟨e', List.mem_append_left _ (List.mem_reverse.mpr h'), s'⟩
      · exact ⟨_, evs_sub M _ _ _ (List.mem_append_right _ (List.mem_singleton.mpr rfl)), dn⟩
    · exact go ⟨e0, List.mem_append_right _ h0, s0⟩
end
/-! ### the whole tree of a saying, and whether its value falls below 1 -/
def events (ns : List Str) (s : Say) : List Fd := evs ns (stepsOf s) 16384 [(0, [], ⟨ns.length, [], cube ns.length⟩)] []
def endsF (ns : List Str) (s : Say) : List (Cl × List Vec) := ((events ns s).filter fun f => decide (f.1 = ("end" : Str))).map fun f => (f.2.2, f.2.1.getD [])
def goalF (st : List Vec) : Vec := raiseF (st.headD []) (-1)
def belowF (ns : List Str) (s : Say) : Option (List (Int × Int)) := (endsF ns s).findSome? fun e => if dot (goalF e.2) (leastC (goalF e.2) e.1.corners) < 0 then some (pointF (leastC (goalF e.2) e.1.corners)) else none
structure Sok (ns : List Str) (s : Say) : Prop where
  nd : ns.Nodup
  n3 : ns.length ≤ 3
  inn : s.In ns
  lv : s.leaves ≤ lbN ns.length
  km : s.marks ≤ 13
theorem ent0 {ns : List Str} {s : Say} (h : Sok ns s) : EntI ns (stepsOf s) (0, [], ⟨ns.length, [], cube ns.length⟩) := by
  have ok := ok_steps s 0 [] rfl
  rw [List.append_nil] at ok
  refine ⟨Nat.zero_le _, ⟨0, trivial, ?_⟩, ok, gd_cube h.n3, rfl, ?_, ?_⟩
  · show 0 + lv (stepsOf s) ≤ _
    rw [lv_steps]; have := h.lv; omega
  · show 0 + mks (stepsOf s) ≤ 13
    rw [mks_steps]; have := h.km; omega
  · intro z
    have := cube_len ns.length
    rw [show cube ns.length = [] from z, List.length_nil] at this
    have : 0 < 2 ^ ns.length := Nat.pow_pos (by decide)
    omega
theorem pots0 {ns : List Str} {s : Say} (h : Sok ns s) : pots (stepsOf s) [(0, [], (⟨ns.length, [], cube ns.length⟩ : Cl))] ≤ 16384 := by
  show (2 ^ (mks (stepsOf s) + 1) - 1) + 0 ≤ 16384
  rw [mks_steps]
  have : 2 ^ (s.marks + 1) ≤ 2 ^ 14 := Nat.pow_le_pow_right (by decide) (by have := h.km; omega)
  have : (2 : Nat) ^ 14 = 16384 := by decide
  omega
theorem events_ok {ns : List Str} {s : Say} (h : Sok ns s) : ∀ f ∈ events ns s, FdI ns.length f := evs_ok _ _ _ (fun e he => by rw [List.mem_singleton.mp he]; exact ent0 h) (fun f hf => by simp at hf)
theorem ends_ok {ns : List Str} {s : Say} (h : Sok ns s) : ∀ e ∈ endsF ns s, ∃ F, e.2 = [F] ∧ Fw ns.length (lbN ns.length) F ∧ Gd e.1 ∧ e.1.corners ≠ [] ∧ e.1.n = ns.length := fun e he => by
  obtain ⟨f, hf, rfl⟩ := List.mem_map.mp he
  obtain ⟨h1, h2⟩ := List.mem_filter.mp hf
  obtain ⟨F, e1, e2, e3, e4, e5⟩ := (events_ok h f h1).1 (of_decide_eq_true h2)
  exact ⟨F, by show f.2.1.getD [] = _; rw [e1]; rfl, e2, e3, e4, e5⟩
/-- a point where the value is not full is found -/
theorem below_some {ns : List Str} {s : Say} (h : Sok ns s) {d : Int} {p : Vec} (hp : Pt ns.length (faces ns.length) d p) (hv : val (tab ns p) d s < d) : (belowF ns s).isSome = true := by
  have sv : Serve ns (stepsOf s) (val (tab ns p) d s) d p (0, [], ⟨ns.length, [], cube ns.length⟩) := ⟨hp, nrun_steps d (tab ns p) s []⟩
  obtain ⟨f, hf, fe, fp, F, e1, e2⟩ := evs_cover h.nd (in_steps s h.inn) (found := []) 16384 _ (fun e he => by rw [List.mem_singleton.mp he]; exact ent0 h) (pots0 h) ⟨_, List.mem_singleton.mpr rfl, sv⟩
  obtain ⟨F', e3, e4, gd, ne, cn⟩ := (events_ok h f hf).1 fe
  rw [e1] at e3
  cases e3
  unfold belowF
  rw [List.findSome?_isSome_iff]
  refine ⟨(f.2.2, f.2.1.getD []), List.mem_map.mpr ⟨f, List.mem_filter.mpr ⟨hf, decide_eq_true fe⟩, rfl⟩, ?_⟩
  have eg : goalF (f.2.1.getD []) = raiseF F (-1) := by rw [e1]; rfl
  show Option.isSome (if dot (goalF (f.2.1.getD [])) (leastC (goalF (f.2.1.getD [])) f.2.2.corners) < 0 then _ else _) = true
  rw [eg]
  have hd : dot (raiseF F (-1)) (d :: p) < 0 := by rw [raiseF_dot e4.1, e2]; omega
  have pt' := fp
  rw [← cn] at pt'
  obtain ⟨e0, q0, hm, hq, hle⟩ := cells_least gd.ok pt' (raiseF F (-1))
  have h1 : dot (raiseF F (-1)) (d :: p) * e0 < 0 := Int.mul_neg_of_neg_of_pos hd hq.pos
  have h2 : dot (raiseF F (-1)) (e0 :: q0) < 0 := by
    apply Classical.byContradiction
    intro hn
    have := Int.mul_nonneg (show 0 ≤ dot (raiseF F (-1)) (e0 :: q0) by omega) (Int.le_of_lt hp.pos)
    omega
  have h3 := leastC_le (f := raiseF F (-1)) (fun c hc => (gd.co hc).hd) hm
  have h4 := (gd.co (leastC_mem (f := raiseF F (-1)) ne)).hd
  have h5 : dot (raiseF F (-1)) (leastC (raiseF F (-1)) f.2.2.corners) < 0 := by
    apply Classical.byContradiction
    intro hn
    have a1 := Int.mul_nonneg (show 0 ≤ dot (raiseF F (-1)) (leastC (raiseF F (-1)) f.2.2.corners) by omega) (Int.le_of_lt hq.pos)
    have a2 := Int.mul_neg_of_neg_of_pos h2 h4
    have a3 : dot (raiseF F (-1)) (leastC (raiseF F (-1)) f.2.2.corners) * e0 ≤ dot (raiseF F (-1)) (e0 :: q0) * hd0 (leastC (raiseF F (-1)) f.2.2.corners) := h3
    omega
  rw [if_pos h5]
  rfl
end Hf


/-! ## Hk9 -/
set_option Elab.async false
set_option linter.all false
set_option maxRecDepth 100000
set_option maxHeartbeats 400000
namespace Hf
open PySem PySem.Spec PyProof.Rows L2 RZ
/-! ### lists that the call made: fresh -/
def rN {α : Type} (B : Hp) (R : Rl α) : Rl (List α) := fun H v xs => ∃ a vs, v = .ref a ∧ B a = none ∧ H a = some (.lst vs) ∧ Paired (R H) vs xs
instance {α : Type} {B : Hp} {R : Rl α} [Mo R] : Mo (rN B R) := ⟨fun e ⟨a, vs, h1, h0, h2, h3⟩ => ⟨a, vs, h1, h0, e _ _ h2, h3.himp fun _ _ q => Mo.up e q⟩⟩
theorem rN.rl {α : Type} {B H : Hp} {R : Rl α} {v : V} {xs : List α} (h : rN B R H v xs) : rL R H v xs := by
  obtain ⟨a, vs, h1, _, h2, h3⟩ := h
  exact ⟨a, vs, h1, h2, h3⟩
section
variable {K : PySem.W.Frag} {σ : L2.St} {H H' : Hp} {ta tb te tl : TE} {t u : TT} {v : V} {α β γ δ : Type} {R : Rl α} {S : Rl β} {T : Rl γ} {x : α} {y : β} {D : Ends} {ts tz tu : TS}
theorem EvR.imp {R' : Rl α} (h : EvR te σ H R x) (f : ∀ H' v, Same H H' → R H' v x → R' H' v x) : EvR te σ H R' x := fun H1 e Q q => h H1 e Q fun v H2 e2 r => q v H2 e2 (f H2 v (e.trans e2) r)
theorem ev_lstN [Mo R] {t : TA} {xs : List α} (h : EvA t σ H (Items R xs)) (hz : xs.length ≤ 1000) : EvR (tLst t) σ H (rN H R) xs := fun H1 e _ q =>
  h H1 e _ fun vs H2 e2 r2 => by
    have r2' : Paired (R H2) vs xs := r2
    refine ⟨by rw [r2'.hlen]; exact Nat.le_trans hz (by decide), fun p hp => ?_⟩
    have e3 := Same.hnew (o := .lst vs) hp
    exact q _ _ (e2.trans e3) ⟨p, _, rfl, (e.trans e2).hback hp, upd_same, r2'.himp fun _ _ z => Mo.up e3 z⟩
def sp1N (R : Rl α) (pre : α → Prop) (S : Rl β) (f : α → List β) : Sp := fun vs H Q _ => ∃ v x, vs = [v] ∧ R H v x ∧ pre x ∧ ∀ u H', Same H H' → rN H S H' u (f x) → Q u H'
theorem sp1N_len {pre : α → Prop} {f : α → List β} (vs : List V) (H : Hp) (Q : VK) (E : XK) (h : sp1N R pre S f vs H Q E) : vs.length = 1 := by obtain ⟨_, _, rfl, _⟩ := h; rfl
theorem ev_call1N {pre : α → Prop} {f : α → List β} (h : EvR ta σ H R x) (hp : pre x) : EvR (tCall (sp1N R pre S f) [] E0 (tCons ta tNil)) σ H (rN H S) (f x) := fun H1 e Q q =>
  h H1 e _ fun v H2 e2 r => ⟨v, x, rfl, r, hp, fun u H3 e3 ⟨a, vs, h1, h0, h2, h3⟩ => q u H3 (e2.trans e3) ⟨a, vs, h1, (e.trans e2).hback h0, h2, h3⟩⟩
theorem rL_mutB [Mt S] {k l : Addr} {xs : List β} (h : rL S H (.ref l) xs) (sb : SameB k H H') (ne : l ≠ k) (le : Le H H') : rL S H' (.ref l) xs := by
  obtain ⟨l', vs, e0, h1, h2⟩ := h
  cases e0
  exact ⟨l, vs, rfl, sb _ _ ne h1, h2.himp fun _ _ z => Mt.up le z⟩
theorem s_extend [Mt S] {l : Addr} {i : Nat} {xs ys : List β} (hl : rL S H (.ref l) xs) (ho : σ[i]? = some (some (.ref l))) (h : EvR te σ H (rL S) ys) (hz : xs.length + ys.length ≤ 1000000) (q : ∀ H', SameB l H H' → rL S H' (.ref l) (xs ++ ys) → D.nx σ H') :
    tDrop (tBM K "list" rExtend (tVar i) (tCons te tNil)) D σ H := by
  obtain ⟨l', vs, e0, h1, h2⟩ := hl
  cases e0
  refine ⟨_, ho, .inl ⟨rfl, vs, SqL.of h1⟩, h H (Same.refl H) _ fun v H2 e2 ⟨b, us, hb, h3, h4⟩ => ?_⟩
  subst hb
  have h1' := e2 _ _ h1
  have le : Le H2 (upd H2 l (.lst (vs ++ us))) := (Le.refl H2).mut h1' (fun z => z)
  refine ⟨l, b, vs, us, rfl, rfl, h1', h3, by rw [h2.hlen, h4.hlen]; exact Nat.le_trans hz (by decide), q _ ((SameB.of e2).trans SameB.upd) ⟨l, _, rfl, upd_same, ?_⟩⟩
  exact (h2.himp fun _ _ z => Mt.up ((Le.of e2).trans le) z).happ (h4.himp fun _ _ z => Mt.up le z)
theorem q_pop3 [Mt R] [Mt S] [Mt T] {l : Addr} {i a b c : Nat} {xs : List (α × β × γ)} {x : α × β × γ} (hl : rL (r3 K R S T) H (.ref l) (xs ++ [x])) (ho : σ[i]? = some (some (.ref l)))
    (q : ∀ u w z H', SameB l H H' → rL (r3 K R S T) H' (.ref l) xs → R H' u x.1 → S H' w x.2.1 → T H' z x.2.2 → tu D (((σ.set a (some u)).set b (some w)).set c (some z)) H') :
    tSeq (tAsg (tBM0 K "list" rPop (tVar i)) (gTup K 3 (gCons (gName a) (gCons (gName b) (gCons (gName c) gNil))))) tu D σ H := by
  obtain ⟨l', vs, e0, h1, h2⟩ := hl
  cases e0
  have ln := h2.hlen
  rw [List.length_append, List.length_singleton] at ln
  obtain ⟨y, hy, ry⟩ := h2.hget (i := xs.length) (b := x) (by simp)
  have le : Le H (upd H l (.lst vs.dropLast)) := (Le.refl H).mut h1 (fun z => z)
  have ev : vs.dropLast = vs.take xs.length := by rw [List.dropLast_eq_take, ln]; rfl
  refine ⟨_, ho, .inl ⟨rfl, vs, SqL.of h1⟩, l, vs, y, rfl, rfl, h1, by rw [ln]; exact hy, ?_⟩
  refine g_tup3 (Mt.up le ry) fun u w z r1 r2 r3' => q u w z _ SameB.upd ⟨l, _, rfl, upd_same, ?_⟩ r1 r2 r3'
  rw [ev]
  have h3 := h2.htake xs.length
  rw [List.take_left'] at h3
  · exact h3.himp fun _ _ z => Mt.up (by rw [ev] at le; exact le) z
  · rfl
/-- the inner source of a comprehension: a fresh list, while Dl grows -/
theorem ii_lstN [Mt R] {xs : List α} (h : EvR tl σ H (rN H R) xs) {Dl : Addr} {vd : List V} (hD : H Dl = some (.lst vd)) : EvI (SameB Dl) (iList K tl) σ H R xs := fun H1 e Rq q => h H1 e _ fun v H2 e2 ⟨a, vs, h1, h0, h2, h3⟩ => by
  have ne : a ≠ Dl := fun z => by subst z; rw [hD] at h0; cases h0
  have hD2 := (e.trans e2) _ _ hD
  refine ⟨a, h1, ⟨vs, SqL.of h2⟩, q _ H2 e2 ⟨fun i H' l hi => ?_, fun H' l => ⟨vs, SqL.of (l _ _ ne h2), Nat.le_of_eq h3.hlen⟩, fun i H' v H'' l hi y => ?_⟩⟩
  · have hi' : i < vs.length := by rw [h3.hlen]; exact hi
    exact ⟨vs, vs[i], SqL.of (l _ _ ne h2), List.getElem?_eq_getElem hi'⟩
  · obtain ⟨e, y⟩ := y
    subst e
    obtain ⟨x, hx, r⟩ := h3.hgetL (y vs (SqL.of (l _ _ ne h2)))
    exact ⟨Same.refl _, x, hx, Mt.up (l.le hD2 (fun z => z)) r⟩
theorem ev_lc2N {xs : List α} {U : Rl δ} [Mt U] [Mt R] [Mo S] {KP : Hp → Hp → Prop} {wi wi1 : TI} {i j : Nat} {vs vs1 : List Nat} (ys : α → List β) (f : α → β → δ) (h : EvI KP wi σ H R xs) (hkp : ∀ H2 H', Same H H2 → Same H2 H' → KP H2 H')
    (hz : (xs.flatMap fun x => (ys x).map (f x)).length ≤ 1000000)
    (hw : ∀ v, wipe ((wipe σ vs).set i (some v)) vs = wipe σ vs) (hw1 : ∀ v u, wipe ((wipe ((wipe σ vs).set i (some v)) vs1).set j (some u)) vs1 = wipe ((wipe σ vs).set i (some v)) vs1)
    (h1 : ∀ x ∈ xs, ∀ v H', Same H H' → R H' v x → ∀ Dl vd, H' Dl = some (.lst vd) → EvI (SameB Dl) wi1 ((wipe σ vs).set i (some v)) H' S (ys x))
    (he : ∀ x ∈ xs, ∀ y ∈ ys x, ∀ v u H', Same H H' → R H' v x → S H' u y → EvR te ((wipe ((wipe σ vs).set i (some v)) vs1).set j (some u)) H' U (f x y)) :
    EvR (tLc2 wi (gName i) tYes wi1 (gName j) tYes te vs vs1) σ H (rL U) (xs.flatMap fun x => (ys x).map (f x)) := fun H0 e Q q =>
  h H0 e _ fun J H1 e1 w => fun Dl hD => by
    refine ⟨fun i m H' => m = xs.length - i ∧ i ≤ xs.length ∧ Cw U H1 Dl ((xs.take i).flatMap fun x => (ys x).map (f x)) H', ⟨xs.length, by simp, Nat.zero_le _, ⟨hD, Same.hnew hD, [], upd_same, .nil⟩⟩, ?_⟩
    rintro n m H2 ⟨rfl, hn, c⟩
    have kp : KP H1 H2 := hkp H1 H2 (e.trans e1) c.2.1
    by_cases hlt : n < xs.length
    · refine .inr ⟨w.go n H2 kp hlt, fun H' => Cw U H1 Dl ((xs.take (n + 1)).flatMap fun x => (ys x).map (f x)) H', fun H' c' => ⟨xs.length - (n + 1), by omega, rfl, hlt, c'⟩, fun v H3 y => ?_⟩
      obtain ⟨e3, x, hx, r⟩ := w.yld n H2 v H3 kp hlt y
      have hm : x ∈ xs := List.mem_of_getElem? hx
      have e4 : Same H H3 := (e.trans e1).trans (c.2.1.trans e3)
      refine ⟨hw v, ?_⟩
      have hl : ((xs.take n).flatMap fun x => (ys x).map (f x)).length + (ys x).length ≤ 1000000 := by
        have z := Nat.le_trans (flat_le xs (n + 1)) hz
        rw [flat_take_snoc hx, List.length_append, List.length_map] at z
        exact z
      obtain ⟨c1, c2, acc0, c30, c40⟩ := c
      refine h1 x hm v H3 e4 r Dl acc0 (e3 _ _ c30) H3 (Same.refl _) _ fun J1 H4 e5 w1 => ?_
      rw [flat_take_snoc hx]
      have c4 : Cw U H1 Dl ((xs.take n).flatMap fun x => (ys x).map (f x)) H4 := ⟨c1, c2.trans (e3.trans e5), acc0, e5 _ _ (e3 _ _ c30), c40.himp fun _ _ z => Mt.up (Le.of (e3.trans e5)) z⟩
      refine ⟨fun k m H' => m = (ys x).length - k ∧ k ≤ (ys x).length ∧ SameB Dl H4 H' ∧ Cw U H1 Dl (((xs.take n).flatMap fun x => (ys x).map (f x)) ++ ((ys x).take k).map (f x)) H', ⟨(ys x).length, by simp, Nat.zero_le _, SameB.refl _, by simpa using c4⟩, ?_⟩
      rintro k m H5 ⟨rfl, hk, sb, c5⟩
      by_cases hlt1 : k < (ys x).length
      · refine .inr ⟨w1.go k H5 sb hlt1, fun H' => SameB Dl H4 H' ∧ Cw U H1 Dl (((xs.take n).flatMap fun x => (ys x).map (f x)) ++ ((ys x).take (k + 1)).map (f x)) H', fun H' c' => ⟨(ys x).length - (k + 1), by omega, rfl, hlt1, c'⟩, fun u H6 y1 => ?_⟩
        obtain ⟨e6, y, hy, s⟩ := w1.yld k H5 u H6 sb hlt1 y1
        have hmy : y ∈ ys x := List.mem_of_getElem? hy
        have e7 : Same H H6 := (e.trans e1).trans (c5.2.1.trans e6)
        have le : Le H4 H5 := sb.le (e5 _ _ (e3 _ _ c30)) (fun z => z)
        have r' : R H6 v x := Mt.up (((Le.of e5).trans le).trans (Le.of e6)) r
        refine ⟨hw1 v u, ?_⟩
        refine he x hm y hmy v u H6 e7 r' s H6 (Same.refl _) _ fun o H7 e8 ro => ?_
        have z := c5.add (e6.trans e8) ro (by
          rw [List.length_append, List.length_map, List.length_take]
          omega)
        obtain ⟨acc, z1, z2, z3⟩ := z
        refine ⟨acc, z1, z2, ((sb.trans (SameB.of e6)).trans (SameB.of e8)).trans SameB.upd, ?_⟩
        rw [List.take_add_one, hy, Option.toList_some, List.map_append, ← List.append_assoc]
        exact z3
      · have ek : k = (ys x).length := by omega
        subst ek
        refine .inl ⟨w1.stop H5 sb, ?_⟩
        rw [List.take_length] at c5
        exact c5
    · have e : n = xs.length := by omega
      subst e
      refine .inl ⟨w.stop H2 kp, ?_⟩
      rw [List.take_length] at c
      obtain ⟨c1, c2, acc, c3, c4⟩ := c
      exact q _ H2 (e1.trans c2) ⟨Dl, acc, rfl, c3, c4⟩
end
/-! ### places at the end of a stack -/
theorem atm1 {α : Type} (xs : List α) (x : α) : atI (xs ++ [x]) (-1) = some x := by
  have e : ixN (xs ++ [x]).length (-1) = some xs.length := by
    unfold ixN
    rw [if_neg (by omega), List.length_append, List.length_singleton, if_pos (by omega)]
    congr 1
    omega
  unfold atI
  rw [e]
  simp
theorem atm2 {α : Type} (xs : List α) (x y : α) : atI (xs ++ [x, y]) (-2) = some x := by
  have e : ixN (xs ++ [x, y]).length (-2) = some xs.length := by
    unfold ixN
    rw [if_neg (by omega), List.length_append, show [x, y].length = 2 from rfl, if_pos (by omega)]
    congr 1
    omega
  unfold atI
  rw [e]
  simp
theorem cutm1 {α : Type} (xs : List α) (x : α) : cutA (xs ++ [x]) none (some (-1)) = xs := by
  have h : HT.sIx (xs ++ [x]).length (xs ++ [x]).length (some (-1)) = xs.length := by
    first
      | exact HT.sIx_neg ..
      | (unfold HT.sIx; simp; omega)
  unfold cutA
  rw [h, HT.sIx_none]
  simp
theorem cutm2 {α : Type} (xs : List α) (x y : α) : cutA (xs ++ [x, y]) none (some (-2)) = xs := by
  have h : HT.sIx (xs ++ [x, y]).length (xs ++ [x, y]).length (some (-2)) = xs.length := by
    first
      | exact HT.sIx_neg ..
      | (unfold HT.sIx; simp; omega)
  unfold cutA
  rw [h, HT.sIx_none]
  simp
end Hf


/-! ## Fa9 -/
set_option Elab.async false
set_option linter.all false
set_option maxRecDepth 100000
set_option maxHeartbeats 400000

namespace Hf
open PySem PySem.Spec PyProof.Rows L2 RZ
/-- a stack: its top at the end of the tuple -/
def rStk (K : PySem.W.Frag) : Rl (List Vec) := fun H v st => rT K (rVc K) H v st.reverse
instance {K : PySem.W.Frag} : Mt (rStk K) := ⟨fun e h => Mt.up (R := rT K (rVc K)) e h⟩
theorem hd_neg {s : Say} (h : decide (s.hd = ("not" : Str)) = true) : ∃ a, s = .neg a := by
  have e := of_decide_eq_true h
  cases s with
  | neg a => exact ⟨a, rfl⟩
  | yes => exact absurd e (by decide)
  | no => exact absurd e (by decide)
  | unk s => exact absurd (show ("unknown" : Str) = "not" from e) (by decide)
  | mk m s t => exact absurd (show m.s = "not" from e) (by cases m <;> decide)
theorem hd_yes (s : Say) : decide (s.hd = ("yes" : Str)) = true ↔ s = .yes := by
  constructor
  · intro h
    have e := of_decide_eq_true h
    cases s with
    | yes => rfl
    | no => exact absurd e (by decide)
    | neg a => exact absurd (show ("not" : Str) = "yes" from e) (by decide)
    | unk s => exact absurd (show ("unknown" : Str) = "yes" from e) (by decide)
    | mk m s t => exact absurd (show m.s = "yes" from e) (by cases m <;> decide)
  · rintro rfl; rfl
theorem stk_mk (ns : List Str) (st : List Vec) (m : Mk) (a b : Say) : stk ns st (.mk m a b) = st := by cases st <;> rfl
theorem stk_unk (ns : List Str) (st : List Vec) (x : Str) : stk ns st (.unk x) = nameF ns x :: st := by cases st <;> rfl
theorem stk_yes (ns : List Str) (st : List Vec) : stk ns st .yes = constF 1 ns.length :: st := by cases st <;> rfl
theorem stk_no (ns : List Str) (st : List Vec) : stk ns st .no = constF 0 ns.length :: st := by cases st <;> rfl
section
variable {P : Program} {w : World} {K : PySem.W.Frag} {mg : Str → Option Value} {base : Heap}
/-! ### steps_of, steps_along -/
def spSteps (K : PySem.W.Frag) (n : Nat) : Sp := sp1N (rSy K) (fun s => s.ht < n ∧ (stepsOf s).length ≤ 10000) (rSy K) stepsOf
theorem steps_sub {s p : Say} (h : p ∈ s.parts) : (stepsOf p).length ≤ (stepsOf s).length := by
  rw [steps_parts s, List.length_append]
  have : ∀ l : List Say, p ∈ l → (stepsOf p).length ≤ (l.flatMap stepsOf).length := fun l => by
    induction l with
    | nil => intro h; simp at h
    | cons q l ih =>
      intro h
      rw [List.flatMap_cons, List.length_append]
      rcases List.mem_cons.mp h with rfl | h
      · omega
      · have := ih h; omega
  have := this s.parts h
  omega
theorem sc_steps_of : FnScope (["saying", "found", "part"] : List Str) (["saying"] : List Str) (defScope (top 44)) := ⟨rfl, rfl, rfl, by decide +kernel, rfl, by decide +kernel, by decide +kernel⟩
theorem ok_steps_of1 (D : Df K mg "steps_of" (top 44)) (C_parts_of : Cal P w K mg base "parts_of" 1 ["saying"] (spParts K)) {n : Nat} (C_steps_of : Cal P w K mg base "steps_of" (n + 1) ["saying"] (spSteps K n)) : Cal P w K mg base "steps_of" (n + 2) ["saying"] (spSteps K (n + 1)) := by
  refine D.ok sc_steps_of (fun _ _ _ _ _ _ us hl => match us, hl with | [_], _ => rfl) (sp1N_len) (fun f cdv A outer s H vs Q E hr h => ?_)
  have nd := sc_steps_of.nd
  refine ⟨_, (pss_cons (ps_set (i := 1) nd rfl (Or.inl rfl) (pe_lst pa_nil))
    (pss_cons (ps_for PassesOwn.never rfl (pi_tup (pk_call C_parts_of hr (pa_cons (pv 0) pa_nil))) (pg_name (i := 2) nd rfl (Or.inl rfl)) (pss_one (ps_expr (pe_bm PySem.F.plainAttrs_list PySem.F.slot_list_extend PySem.F.type_list_extend mt_extend (pv 1) (pa_cons (pk_call C_steps_of hr (pa_cons (pv 2) pa_nil)) pa_nil)))))
    (pss_cons (ps_expr (pe_bm PySem.F.plainAttrs_list PySem.F.slot_list_append PySem.F.type_list_append mt_append (pv 1) (pa_cons (pv 0) pa_nil)))
    (pss_one (ps_ret (pv 1)))))), ?_⟩
  obtain ⟨v, s, rfl, h, ⟨hs, hz⟩, q⟩ := h
  refine q_new fun l hl => ?_
  have e0 : Same H (upd H l (.lst [])) := Same.hnew hl
  have hz2 := hz
  rw [steps_parts s, List.length_append] at hz2
  refine q_for (I := fun H2 i σ' H' => ∃ x2, σ' = [some v, some (.ref l), x2] ∧ SameB l H2 H' ∧ rL (rSy K) H' (.ref l) ((s.parts.take i).flatMap stepsOf)) (ii_tup (ev_call1 (ev_var rfl (Mo.up (R := rSy K) e0 h)) trivial))
    (fun H2 e2 => ⟨_, rfl, SameB.refl _, rL_nil (e2 _ _ upd_same)⟩) (fun H2 i σ' H' e2 z => ?_) (fun H2 i x σ' H' v' H'' e2 hx z e3 r => ?_) (fun H2 σ' H' e2 z => ?_)
  · obtain ⟨_, _, sb, _⟩ := z
    exact sb.le (e2 _ _ upd_same) (fun z => z)
  · obtain ⟨x2, rfl, sb, rl⟩ := z
    have hm : x ∈ s.parts := List.mem_of_getElem? hx
    have hxz := steps_sub hm
    have fl := flat_le (f := stepsOf) s.parts i
    refine s_extend (Mo.up e3 rl) rfl (EvR.imp (ev_call1N (R := rSy K) (ev_var rfl r) ⟨by have := parts_ht hm; omega, by omega⟩) (fun _ _ _ h => h.rl)) (by omega) (fun H3 sb3 rl3 => ⟨_, rfl, (sb.trans (SameB.of e3)).trans sb3, ?_⟩)
    rw [flat_take_snoc hx]
    exact rl3
  · obtain ⟨x2, rfl, sb, rl⟩ := z
    rw [List.take_length] at rl
    have eH : Same H H' := (e0.trans e2).trB hl sb
    refine q_push rl rfl (ev_var rfl (Mo.up (R := rSy K) eH h)) (by omega) (fun H3 sb3 rl3 => ?_)
    rw [← steps_parts] at rl3
    have eH3 : Same H H3 := eH.trB hl sb3
    obtain ⟨a, vs, e0, h1, h2⟩ := rl3
    cases e0
    exact s_ret (R := rN H (rSy K)) (ev_var rfl ⟨l, vs, rfl, hl, h1, h2⟩) (fun u H4 e4 r => q u H4 (eH3.trans e4) r)
theorem ok_steps_of (D : Df K mg "steps_of" (top 44)) (C_parts_of : Cal P w K mg base "parts_of" 1 ["saying"] (spParts K)) : ∀ n, Cal P w K mg base "steps_of" (n + 1) ["saying"] (spSteps K n)
  | 0 => D.vac (fun _ _ _ _ _ _ us hl => match us, hl with | [_], _ => rfl) (fun vs H Q E h => by obtain ⟨_, _, _, _, z, _⟩ := h; omega)
  | n + 1 => ok_steps_of1 D C_parts_of (ok_steps_of D C_parts_of n)
def spAlong (K : PySem.W.Frag) (n : Nat) : Sp := sp1 (rT K (rSy K)) (fun ss => (∀ s ∈ ss, s.ht < n ∧ (stepsOf s).length ≤ 10000) ∧ ss.length ≤ 10 ∧ (ss.flatMap stepsOf).length ≤ 10000) (rL (rSy K)) (fun ss => ss.flatMap stepsOf)
theorem sc_steps_along : FnScope (["sayings", "saying", "step"] : List Str) (["sayings"] : List Str) (defScope (top 45)) := ⟨rfl, rfl, rfl, by decide +kernel, rfl, by decide +kernel, by decide +kernel⟩
theorem ok_steps_along (D : Df K mg "steps_along" (top 45)) {n : Nat} (C_steps_of : Cal P w K mg base "steps_of" (n + 1) ["saying"] (spSteps K n)) : Cal P w K mg base "steps_along" (n + 2) ["sayings"] (spAlong K n) := by
  refine D.ok sc_steps_along (fun _ _ _ _ _ _ us hl => match us, hl with | [_], _ => rfl) (sp1_len) (fun f cdv A outer s H vs Q E hr h => ?_)
  have nd := sc_steps_along.nd
  refine ⟨_, (pss_one (ps_ret (pe_lc2 (own := [("saying", 1), ("step", 2)]) (vs1 := [2]) rfl nd (pi_tup (pv 0)) (blkOk_by (by walk_at "blk")) (by decide) (fun _ _ _ _ _ => (pg_name (i := 1) nd rfl (Or.inl rfl))) (fun _ _ _ _ _ => pts_nil) (fun _ _ _ _ _ => (bk_pi_list K (pk_call C_steps_of hr (pa_cons (pv 1) pa_nil)))) (fun _ _ _ _ _ => (pg_name (i := 2) nd rfl (Or.inl rfl))) (fun _ _ _ _ _ => pts_nil) (fun _ _ _ _ _ => (pv 2))))), ?_⟩
  obtain ⟨v, ss, rfl, h, ⟨hs, hl, hz⟩, q⟩ := h
  have em : (ss.flatMap fun x => (stepsOf x).map fun y => y) = ss.flatMap stepsOf := by
    congr 1
    funext x
    exact List.map_id' _
  exact s_ret (R := rL (rSy K)) (x := ss.flatMap stepsOf) (EvR.to (ev_lc2N (R := rSy K) (S := rSy K) (U := rSy K) (KP := Le) stepsOf (fun _ y => y) (ii_tup (ev_var rfl h)) (fun _ _ _ e => Le.of e) (by rw [em]; omega) (fun v => rfl) (fun v u => rfl)
    (fun x hx v H' e r Dl vd hD => ii_lstN (ev_call1N (ev_var rfl r) (hs x hx)) hD) (fun x hx y hy v u H' e r s => ev_var rfl s)) em) (fun v H' e r => q v H' e r)
/-! ### _stacked -/
structure StkP (w : Say) (ns : List Str) (st : List Vec) : Prop where
  nm : w.isMk = false
  inn : w.In ns
  nl : ns.length ≤ 900
  fl : ∀ f ∈ st, f.length = ns.length + 1
  sl : st.length ≤ 20000
  ne : ∀ a, w = .neg a → st ≠ []
def spStacked (K : PySem.W.Frag) : Sp := sp3 (rSy K) (rT K rStr) (rStk K) StkP (rStk K) (fun w ns st => stk ns st w)
theorem sc__stacked : FnScope (["word", "names", "stack"] : List Str) (["word", "names", "stack"] : List Str) (defScope (top 46)) := ⟨rfl, rfl, rfl, by decide +kernel, rfl, by decide +kernel, by decide +kernel⟩
theorem ok__stacked (D : Df K mg "_stacked" (top 46)) (T : Bt mg) (C_name_form : Cal P w K mg base "name_form" 1 ["names", "name"] (spNameF K)) (C_not_form : Cal P w K mg base "not_form" 2 ["form"] (spNotF K)) (C_constant_form : Cal P w K mg base "constant_form" 1 ["number", "size"] (spConstF K)) :
    Cal P w K mg base "_stacked" 3 ["word", "names", "stack"] (spStacked K) := by
  refine D.ok sc__stacked (fun _ _ _ _ _ _ us hl => match us, hl with | [_, _, _], _ => rfl) (sp3_len) (fun f cdv A outer s H vs Q E hr h => ?_)
  have nd := sc__stacked.nd
  refine ⟨_, (pss_cons (ps_if (pt_cmpR op_eq (pe_ix ix_tup (pv 0) pe_int (fun _ _ => rfl)) pe_str (nomark _)) (pss_one (ps_ret (pe_op op_catA (pv 2) (pe_tup (pa_cons (pk_call C_name_form hr (pa_cons (pv 1) (pa_cons (pe_ix ix_tup (pv 0) pe_int (fun _ _ => rfl)) pa_nil))) pa_nil))))) pss_nil)
    (pss_cons (ps_if (pt_cmpR op_eq (pe_ix ix_tup (pv 0) pe_int (fun _ _ => rfl)) pe_str (nomark _)) (pss_one (ps_ret (pe_op op_catA (pe_slice sl_tupA (pv 2) po_none (po_some (pe_un un_neg pe_int))) (pe_tup (pa_cons (pk_call C_not_form hr (pa_cons (pe_ix ix_tup (pv 2) (pe_un un_neg pe_int) (fun _ _ => rfl)) pa_nil)) pa_nil))))) pss_nil)
    (pss_one (ps_ret (pe_op op_catA (pv 2) (pe_tup (pa_cons (pk_call C_constant_form hr (pa_cons (pe_ifExp (pt_cmpR op_eq (pe_ix ix_tup (pv 0) pe_int (fun _ _ => rfl)) pe_str (nomark _)) pe_int pe_int) (pa_cons (pk_len T (pa_cons (pv 1) pa_nil)) pa_nil))) pa_nil))))))), ?_⟩
  obtain ⟨v1, v2, v3, s, ns, st, rfl, h1, h2, h3, p, q⟩ := h
  have h3' : rT K (rVc K) H v3 st.reverse := h3
  have sl := p.sl
  have nl := p.nl
  refine q_when (et_test (ev_eqS (ev_hd (ev_var rfl h1)) ev_str)) (fun c H1 e1 => ?_) (fun c H1 e1 => ?_)
  · obtain ⟨x, rfl⟩ := hd_unk c
    refine s_ret (R := rStk K) (x := stk ns st (.unk x)) (EvR.imp (R := rT K (rVc K)) (x := (stk ns st (.unk x)).reverse) (EvR.to (ev_catA (ev_var rfl (Mo.up (R := rT K (rVc K)) e1 h3')) (ev_tup (ei_cons (ev_call2 (ev_var rfl (Mo.up e1 h2)) (ev_nm (ev_var rfl (Mo.up (R := rSy K) e1 h1))) ⟨p.inn, by omega⟩) ei_nil) (by simp)) (by simp; omega)) (by rw [stk_unk, List.reverse_cons])) (fun _ _ _ h => h)) (fun v H' e r => q v H' (e1.trans e) r)
  have nu := hd_not_unk c
  refine q_when (et_test (ev_eqS (ev_hd (ev_var rfl (Mo.up (R := rSy K) e1 h1))) ev_str)) (fun c2 H2 e2 => ?_) (fun c2 H2 e2 => ?_)
  · obtain ⟨a, rfl⟩ := hd_neg c2
    cases st with
    | nil => exact absurd rfl (p.ne a rfl)
    | cons f st =>
      have fl := p.fl f List.mem_cons_self
      rw [List.reverse_cons] at h3'
      have e12 := e1.trans e2
      have hv := Mo.up (R := rT K (rVc K)) e12 h3'
      simp only [List.length_cons] at sl
      refine s_ret (R := rStk K) (x := notF f :: st) (EvR.imp (R := rT K (rVc K)) (x := (notF f :: st).reverse) (EvR.to (ev_catA (EvR.to (ev_slA (ev_var rfl hv) eo_none (eo_some (ev_neg ev_int))) (cutm1 _ _)) (ev_tup (ei_cons (ev_call1 (ev_ixT (ev_var rfl hv) (ev_neg ev_int) (atm1 _ _)) ⟨(fun z => by subst z; exact absurd fl (by simp)), by omega⟩) ei_nil) (by simp)) (by simp; omega)) (by rw [List.reverse_cons])) (fun _ _ _ h => h)) (fun v H' e r => q v H' (e12.trans e) r)
  · have e12 := e1.trans e2
    have hc : stk ns st s = constF (if decide (s.hd = ("yes" : Str)) = true then 1 else 0) ns.length :: st := by
      cases s with
      | yes => rw [stk_yes]; rfl
      | no => rw [stk_no]; rfl
      | unk x => exact absurd rfl (nu x)
      | neg a => exact absurd rfl (of_decide_eq_false c2)
      | mk m a b => exact absurd p.nm (by simp [Say.isMk])
    refine s_ret (R := rStk K) (x := stk ns st s) (EvR.imp (R := rT K (rVc K)) (x := (stk ns st s).reverse) (EvR.to (ev_catA (ev_var rfl (Mo.up (R := rT K (rVc K)) e12 h3')) (ev_tup (ei_cons (ev_call2 (R := rInt) (S := rNat) (y := ns.length) (ev_if (x1 := (1 : Int)) (x2 := 0) (et_test (ev_eqS (ev_hd (ev_var rfl (Mo.up (R := rSy K) e12 h1))) ev_str)) (fun _ => ev_int) (fun _ => ev_int)) (ev_lenT (ev_var rfl (Mo.up (R := rT K rStr) e12 h2))) (by omega)) ei_nil) (by simp)) (by simp; omega)) (by rw [hc, List.reverse_cons])) (fun _ _ _ h => h)) (fun v H' e r => q v H' (e12.trans e) r)
/-! ### next_question -/
structure NP (L : List Say) (ns : List Str) (k : Nat) (st : List Vec) : Prop where
  le : k ≤ L.length
  ll : L.length ≤ 10000
  inn : ∀ u ∈ L, u.In ns
  nl : ns.length ≤ 900
  fl : ∀ f ∈ st, f.length = ns.length + 1
  sl : st.length ≤ 5000 + k
  ok : okRun st.length (L.drop k)
theorem at_drop {α : Type} {L M : List α} {k : Nat} {x : α} (h : L.drop k = x :: M) : atI L (k : Int) = some x := by
  rw [atN (drop_lt h)]
  congr 1
  have := List.drop_eq_getElem_cons (drop_lt h)
  rw [h] at this
  exact (List.cons.inj this).1.symm
theorem NP.sp {L : List Say} {ns : List Str} {k : Nat} {st : List Vec} (h : NP L ns k st) {s : Say} {M : List Say} (hd : L.drop k = s :: M) (hm : s.isMk = false) : StkP s ns st := by
  refine ⟨hm, h.inn s (List.mem_of_mem_drop (i := k) (by rw [hd]; exact List.mem_cons_self)), h.nl, h.fl, ?_, fun a ha => ?_⟩
  · have := h.sl; have := h.le; have := h.ll; omega
  · subst ha
    have := h.ok
    rw [hd] at this
    intro z
    subst z
    exact absurd this.1 (by simp)
theorem NP.next {L : List Say} {ns : List Str} {k : Nat} {st : List Vec} (h : NP L ns k st) {s : Say} {M : List Say} (hd : L.drop k = s :: M) (hm : s.isMk = false) : NP L ns (k + 1) (stk ns st s) := by
  refine ⟨drop_lt hd, h.ll, h.inn, h.nl, stk_len h.fl, ?_, ?_⟩
  · have := h.sl
    cases s with
    | mk m a b => cases hm
    | unk x => rw [stk_unk, List.length_cons]; omega
    | yes => rw [stk_yes, List.length_cons]; omega
    | no => rw [stk_no, List.length_cons]; omega
    | neg a => cases st with
      | nil => show 0 ≤ _; omega
      | cons f st => show (notF f :: st).length ≤ _; simp only [List.length_cons] at this ⊢; omega
  · have := h.ok
    rw [hd] at this
    rw [drop_succ hd]
    cases s with
    | mk m a b => cases hm
    | unk x => rw [stk_unk]; exact this
    | yes => rw [stk_yes]; exact this
    | no => rw [stk_no]; exact this
    | neg a => cases st with
      | nil => exact absurd this.1 (by simp)
      | cons f st => exact this.2
def nextQ (L : List Say) (ns : List Str) (k : Nat) (st : List Vec) : Nat × List Vec := (k + (adv ns (L.drop k) st).1, (adv ns (L.drop k) st).2)
theorem nextQ_skip {L : List Say} {ns : List Str} {k : Nat} {st : List Vec} {s : Say} {M : List Say} (hd : L.drop k = s :: M) (hm : s.isMk = false) : nextQ L ns (k + 1) (stk ns st s) = nextQ L ns k st := by
  unfold nextQ
  rw [drop_succ hd, hd]
  have : adv ns (s :: M) st = ((adv ns M (stk ns st s)).1 + 1, (adv ns M (stk ns st s)).2) := by simp only [adv, hm, Bool.false_eq_true, if_false]
  rw [this]
  show (_, _) = (_, _)
  congr 1
  omega
theorem nextQ_nil {L : List Say} {ns : List Str} {k : Nat} {st : List Vec} (hd : L.drop k = []) : nextQ L ns k st = (k, st) := by
  unfold nextQ
  rw [hd]
  rfl
theorem nextQ_mk {L : List Say} {ns : List Str} {k : Nat} {st : List Vec} {s : Say} {M : List Say} (hd : L.drop k = s :: M) (hm : s.isMk = true) : nextQ L ns k st = (k, st) := by
  unfold nextQ
  rw [hd]
  have : adv ns (s :: M) st = (0, st) := by simp only [adv, hm, if_true]
  rw [this]
  rfl
def spNext (K : PySem.W.Frag) : Sp := sp4 (rL (rSy K)) (rT K rStr) rNat (rStk K) NP (r2 K rNat (rStk K)) nextQ
theorem sc_next_question : FnScope (["steps", "names", "at", "stack"] : List Str) (["steps", "names", "at", "stack"] : List Str) (defScope (top 47)) := ⟨rfl, rfl, rfl, by decide +kernel, rfl, by decide +kernel, by decide +kernel⟩
theorem ok_next_question (D : Df K mg "next_question" (top 47)) (T : Bt mg) (cP : Ct K mg "PAIRS" (pairsL.map V.str)) (C__stacked : Cal P w K mg base "_stacked" 3 ["word", "names", "stack"] (spStacked K)) : Cal P w K mg base "next_question" 4 ["steps", "names", "at", "stack"] (spNext K) := by
  obtain ⟨aP, g_PAIRS, hP⟩ := cP.ex
  refine D.ok sc_next_question (fun _ _ _ _ _ _ us hl => match us, hl with | [_, _, _, _], _ => rfl) (sp4_len) (fun f cdv A outer s H vs Q E hr h => ?_)
  have nd := sc_next_question.nd
  refine ⟨_, (pss_cons (ps_while PassesOwn.never (PW.pt (pw_and (pt_cmpR op_lt (pv 2) (pk_len T (pa_cons (pv 0) pa_nil)) (nomark _)) (pw_and1 (pt_cmpR op_notIn_seq (pe_ix ix_tup (pe_ix ix_list (pv 0) (pv 2) (fun _ _ => rfl)) pe_int (fun _ _ => rfl)) (pk_globT g_PAIRS) rfl)))) (pss_cons (ps_set (i := 3) nd rfl (Or.inl rfl) (pk_call C__stacked hr (pa_cons (pe_ix ix_list (pv 0) (pv 2) (fun _ _ => rfl)) (pa_cons (pv 1) (pa_cons (pv 3) pa_nil)))))
    (pss_one (ps_aug (i := 2) nd rfl (Or.inl rfl) pe_int ip_add))))
    (pss_one (ps_ret (pe_tup (pa_cons (pv 2) (pa_cons (pv 3) pa_nil)))))), ?_⟩
  obtain ⟨v1, v2, v3, v4, L, ns, k, st, rfl, h1, h2, rfl, h4, np, q⟩ := h
  refine q_while (W := fun m σ' H' => ∃ k' vst st', σ' = [some v1, some v2, some (.int ((k' : Nat) : Int)), some vst] ∧ Same H H' ∧ rStk K H' vst st' ∧ NP L ns k' st' ∧ m = L.length - k' ∧ nextQ L ns k' st' = nextQ L ns k st) (L.length - k) ⟨k, v4, st, rfl, Same.refl _, h4, np, rfl, rfl⟩ (fun m σ' H' z => ?_)
  obtain ⟨k', vst, st', rfl, e0, hst, np', rfl, eq⟩ := z
  cases hd : L.drop k' with
  | nil =>
    have hk : ¬ (k' < L.length) := fun z => by
      have := congrArg List.length hd
      rw [List.length_drop, List.length_nil] at this
      omega
    refine ⟨false, EvT.to (et_and (b := false) (et_test (ev_cmpI (f := fun i j => decide (i < j)) (ev_var (R := rInt) rfl rfl) (ev_lenL (ev_var rfl (Mo.up e0 h1))))) (fun c => absurd (of_decide_eq_true c) (by omega))) (by rw [Bool.and_false]), fun c => absurd c (by decide), fun _ H1 e1 => ?_⟩
    rw [nextQ_nil hd] at eq
    exact s_ret (R := r2 K rNat (rStk K)) (x := nextQ L ns k st) (EvR.to (ev_pair (S := rStk K) (x := k') (ev_var rfl rfl) (ev_var rfl (Mo.up (R := rStk K) e1 hst))) eq) (fun v H2 e2 r => q v H2 ((e0.trans e1).trans e2) r)
  | cons s M =>
    have hk := drop_lt hd
    refine ⟨!s.isMk, EvT.to (et_and (b := !s.isMk) (et_test (ev_cmpI (f := fun i j => decide (i < j)) (ev_var (R := rInt) rfl rfl) (ev_lenL (ev_var rfl (Mo.up e0 h1))))) (fun c => et_test (EvR.to (ev_niT (ev_hd (ev_ixL (R := rSy K) (ev_var rfl (Mo.up e0 h1)) (ev_var (R := rInt) rfl rfl) (at_drop hd))) (ev_c (ct_strs hP H'))) (by rw [hd_pairs])))) ?_, fun c H1 e1 => ?_, fun c H1 e1 => ?_⟩
    · rw [decide_eq_true (by omega), Bool.true_and]
    · have hm : s.isMk = false := by simpa using c
      have e01 := e0.trans e1
      refine q_set (R := rStk K) (ev_call3 (ev_ixL (R := rSy K) (ev_var rfl (Mo.up e01 h1)) (ev_var (R := rInt) rfl rfl) (at_drop hd)) (ev_var rfl (Mo.up e01 h2)) (ev_var rfl (Mo.up (R := rStk K) e1 hst)) (np'.sp hd hm)) (fun v H2 e2 r => ?_)
      refine s_aug rfl (ev_int (i := 1)) (fun H3 e3 => ?_)
      exact ⟨L.length - (k' + 1), by omega, k' + 1, v, _, rfl, (e01.trans e2).trans e3, Mo.up (R := rStk K) e3 r, np'.next hd hm, rfl, by rw [nextQ_skip hd hm]; exact eq⟩
    · have hm : s.isMk = true := by simpa using c
      rw [nextQ_mk hd hm] at eq
      exact s_ret (R := r2 K rNat (rStk K)) (x := nextQ L ns k st) (EvR.to (ev_pair (S := rStk K) (x := k') (ev_var rfl rfl) (ev_var rfl (Mo.up (R := rStk K) e1 hst))) eq) (fun v H2 e2 r => q v H2 ((e0.trans e1).trans e2) r)
/-! ### asked_there, taken_there -/
def askF (L : List Say) (k : Nat) (st : List Vec) : Vec := match L.drop k, st with
  | .mk m _ _ :: _, B :: A :: _ => questF m A B
  | _, _ => []
def takF (L : List Say) (k : Nat) (st : List Vec) (l : Bool) : List Vec := match L.drop k, st with
  | .mk m _ _ :: _, B :: A :: st' => sideF m l A B :: st'
  | _, _ => []
structure AskP (n : Nat) (L : List Say) (k : Nat) (st : List Vec) : Prop where
  ex : ∃ m a b M A B st', L.drop k = .mk m a b :: M ∧ st = B :: A :: st' ∧ A.length = n + 1 ∧ B.length = n + 1 ∧ n ≤ 900 ∧ st'.length ≤ 20000
def spAsk (K : PySem.W.Frag) : Sp := sp3 (rL (rSy K)) rNat (rStk K) (fun L k st => ∃ n, AskP n L k st) (rVc K) askF
theorem sc_asked_there : FnScope (["steps", "at", "stack"] : List Str) (["steps", "at", "stack"] : List Str) (defScope (top 48)) := ⟨rfl, rfl, rfl, by decide +kernel, rfl, by decide +kernel, by decide +kernel⟩
theorem ok_asked_there (D : Df K mg "asked_there" (top 48)) (C_question_of : Cal P w K mg base "question_of" 2 ["mark", "first", "second"] (spQuest K)) : Cal P w K mg base "asked_there" 3 ["steps", "at", "stack"] (spAsk K) := by
  refine D.ok sc_asked_there (fun _ _ _ _ _ _ us hl => match us, hl with | [_, _, _], _ => rfl) (sp3_len) (fun f cdv A outer s H vs Q E hr h => ?_)
  have nd := sc_asked_there.nd
  refine ⟨_, (pss_one (ps_ret (pk_call C_question_of hr (pa_cons (pe_ix ix_tup (pe_ix ix_list (pv 0) (pv 1) (fun _ _ => rfl)) pe_int (fun _ _ => rfl)) (pa_cons (pe_ix ix_tup (pv 2) (pe_un un_neg pe_int) (fun _ _ => rfl)) (pa_cons (pe_ix ix_tup (pv 2) (pe_un un_neg pe_int) (fun _ _ => rfl)) pa_nil)))))), ?_⟩
  obtain ⟨v1, v2, v3, L, k, st, rfl, h1, rfl, h3, ⟨n, hp⟩, q⟩ := h
  obtain ⟨m, a, b, M, A, B, st', hd, rfl, la, lb, hn, hs⟩ := hp.ex
  have h3' : rT K (rVc K) H v3 (st'.reverse ++ [A, B]) := by
    have : rT K (rVc K) H v3 (B :: A :: st').reverse := h3
    rw [List.reverse_cons, List.reverse_cons, List.append_assoc] at this
    exact this
  have hB : atI (st'.reverse ++ [A, B]) (-1) = some B := by
    have := atm1 (st'.reverse ++ [A]) B
    rw [List.append_assoc] at this
    exact this
  have ef : askF L k (B :: A :: st') = questF m A B := by unfold askF; rw [hd]
  refine s_ret (R := rVc K) (x := askF L k (B :: A :: st')) (EvR.to (ev_call3 (R := rMk) (x := m) (EvR.imp (R := rStr) (ev_hd (ev_ixL (R := rSy K) (ev_var rfl h1) (ev_var (R := rInt) rfl rfl) (at_drop hd))) (fun _ _ _ h => h)) (ev_ixT (ev_var rfl h3') (ev_neg ev_int) (atm2 _ _ _)) (ev_ixT (ev_var rfl h3') (ev_neg ev_int) hB) ⟨?_, ?_, ?_, ?_⟩) ef.symm) (fun v H' e r => q v H' e r)
  · intro z; rw [z] at la; cases la
  · intro z; rw [z] at lb; cases lb
  · omega
  · omega
def spTak (K : PySem.W.Frag) : Sp := sp4 (rL (rSy K)) rNat (rStk K) rSd (fun L k st _ => ∃ n, AskP n L k st) (rStk K) takF
theorem sc_taken_there : FnScope (["steps", "at", "stack", "side"] : List Str) (["steps", "at", "stack", "side"] : List Str) (defScope (top 49)) := ⟨rfl, rfl, rfl, by decide +kernel, rfl, by decide +kernel, by decide +kernel⟩
theorem ok_taken_there (D : Df K mg "taken_there" (top 49)) (C_form_by_side : Cal P w K mg base "form_by_side" 3 ["mark", "side", "first", "second"] (spSide K)) : Cal P w K mg base "taken_there" 4 ["steps", "at", "stack", "side"] (spTak K) := by
  refine D.ok sc_taken_there (fun _ _ _ _ _ _ us hl => match us, hl with | [_, _, _, _], _ => rfl) (sp4_len) (fun f cdv A outer s H vs Q E hr h => ?_)
  have nd := sc_taken_there.nd
  refine ⟨_, (pss_one (ps_ret (pe_op op_catA (pe_slice sl_tupA (pv 2) po_none (po_some (pe_un un_neg pe_int))) (pe_tup (pa_cons (pk_call C_form_by_side hr (pa_cons (pe_ix ix_tup (pe_ix ix_list (pv 0) (pv 1) (fun _ _ => rfl)) pe_int (fun _ _ => rfl)) (pa_cons (pv 3) (pa_cons (pe_ix ix_tup (pv 2) (pe_un un_neg pe_int) (fun _ _ => rfl)) (pa_cons (pe_ix ix_tup (pv 2) (pe_un un_neg pe_int) (fun _ _ => rfl)) pa_nil))))) pa_nil))))), ?_⟩
  obtain ⟨v1, v2, v3, v4, L, k, st, l, rfl, h1, rfl, h3, h4, ⟨n, hp⟩, q⟩ := h
  obtain ⟨m, a, b, M, A, B, st', hd, rfl, la, lb, hn, hs⟩ := hp.ex
  have h3' : rT K (rVc K) H v3 (st'.reverse ++ [A, B]) := by
    have : rT K (rVc K) H v3 (B :: A :: st').reverse := h3
    rw [List.reverse_cons, List.reverse_cons, List.append_assoc] at this
    exact this
  have hB : atI (st'.reverse ++ [A, B]) (-1) = some B := by
    have := atm1 (st'.reverse ++ [A]) B
    rw [List.append_assoc] at this
    exact this
  have ef : takF L k (B :: A :: st') l = sideF m l A B :: st' := by unfold takF; rw [hd]
  refine s_ret (R := rStk K) (x := takF L k (B :: A :: st') l) (EvR.imp (R := rT K (rVc K)) (x := (takF L k (B :: A :: st') l).reverse) (EvR.to (ev_catA (EvR.to (ev_slA (ev_var rfl h3') eo_none (eo_some (ev_neg ev_int))) (cutm2 _ _ _)) (ev_tup (ei_cons (ev_call4 (R := rMk) (S := rSd) (x := m) (y := l) (EvR.imp (R := rStr) (ev_hd (ev_ixL (R := rSy K) (ev_var rfl h1) (ev_var (R := rInt) rfl rfl) (at_drop hd))) (fun _ _ _ h => h)) (ev_var rfl h4) (ev_ixT (ev_var rfl h3') (ev_neg ev_int) (atm2 _ _ _)) (ev_ixT (ev_var rfl h3') (ev_neg ev_int) hB) ⟨n, hn, la, lb⟩) ei_nil) (by simp)) (by simp; omega)) (by rw [ef, List.reverse_cons])) (fun _ _ _ h => h)) (fun v H' e r => q v H' e r)
end
end Hf


/-! ## Fa10 -/
set_option Elab.async false
set_option linter.all false
set_option maxRecDepth 100000
set_option maxHeartbeats 400000

namespace Hf
open PySem PySem.Spec PyProof.Rows L2 RZ
def rTold (K : PySem.W.Frag) : Rl (Option (List Vec)) := fun H v o => ∀ st, o = some st → rStk K H v st
instance {K : PySem.W.Frag} : Mt (rTold K) := ⟨fun e h st hs => Mt.up (R := rStk K) e (h st hs)⟩
abbrev rFd (K : PySem.W.Frag) (mg : Str → Option Value) : Rl Fd := r3 K rStr (rTold K) (rCl K mg)
abbrev rEnt (K : PySem.W.Frag) (mg : Str → Option Value) : Rl Ent := r3 K rNat (rStk K) (rCl K mg)
theorem ev_nat {σ : L2.St} {H : Hp} {te : TE} {n : Nat} (h : EvR te σ H rInt (n : Int)) : EvR te σ H rNat n := fun H1 e Q q => h H1 e Q fun v H2 e2 r => q v H2 e2 r
theorem ev_ts {σ : L2.St} {H : Hp} {te : TE} {K : PySem.W.Frag} {st : List Vec} (h : EvR te σ H (rStk K) st) : EvR te σ H (rTold K) (some st) := fun H1 e Q q => h H1 e Q fun v H2 e2 r => q v H2 e2 (fun st' hs => by cases hs; exact r)
theorem ev_tn {σ : L2.St} {H : Hp} {te : TE} {K : PySem.W.Frag} {α : Type} {R : Rl α} {x : α} (h : EvR te σ H R x) : EvR te σ H (rTold K) none := fun H1 e Q q => h H1 e Q fun v H2 e2 r => q v H2 e2 (fun st' hs => by cases hs)
theorem ev_sd {σ : L2.St} {H : Hp} (l : Bool) : EvR (tC (.str (if l = true then "least" else "most"))) σ H rSd l := fun H1 _ _ q => q _ H1 (Same.refl H1) rfl
theorem StW.len {n : Nat} : ∀ {st : List Vec} {k : Nat}, StW n st k → st.length ≤ k
  | [], _, _ => Nat.zero_le _
  | f :: st, k, ⟨w, w1, h1, h2, h3⟩ => by have := StW.len h3; rw [List.length_cons]; omega
theorem ent_np {ns : List Str} {L : List Say} {e : Ent} (h : EntI ns L e) (n3 : ns.length ≤ 3) (ll : L.length ≤ 10000) (inn : ∀ u ∈ L, u.In ns) : NP L ns e.1 e.2.1 := by
  obtain ⟨k, h1, h2⟩ := h.ws
  have := lbN_le ns.length
  have := h1.len
  exact ⟨h.le, ll, inn, by omega, fun f hf => (h1.all f hf).1, by omega, h.ok⟩
theorem pots_len {L : List Say} (es : List Ent) : es.length ≤ pots L es := by
  induction es with
  | nil => exact Nat.le_refl _
  | cons e es ih =>
    have h1 : pots L (e :: es) = pot L e + pots L es := rfl
    have : 2 ^ 1 ≤ 2 ^ (mks (L.drop e.1) + 1) := Nat.pow_le_pow_right (by decide) (by omega)
    have h2 : 1 ≤ pot L e := by unfold pot; omega
    rw [List.length_cons]; omega
theorem evs_len {ns : List Str} {L : List Say} : ∀ (M : Nat) (pend : List Ent) (found : List Fd), (evs ns L M pend found).length ≤ found.length + M
  | 0, pend, found => Nat.le_refl _
  | M + 1, [], found => Nat.le_add_right _ _
  | M + 1, e :: pend, found => by
    have := evs_len (ns := ns) (L := L) M ((evStep ns L e).2.reverse ++ pend) (found ++ [(evStep ns L e).1])
    rw [List.length_append, List.length_singleton] at this
    show (evs ns L M _ _).length ≤ _
    omega
theorem evs_nil {ns : List Str} {L : List Say} (M : Nat) (found : List Fd) : evs ns L M [] found = found := by cases M <;> rfl
section
variable {P : Program} {w : World} {K : PySem.W.Frag} {mg : Str → Option Value} {base : Heap}
def spEvents (K : PySem.W.Frag) (mg : Str → Option Value) (n : Nat) : Sp := sp2 (rT K (rSy K)) (rT K rStr) (fun ss ns => ∃ s, ss = [s] ∧ Sok ns s ∧ s.ht < n ∧ (stepsOf s).length ≤ 5000) (rL (rFd K mg)) (fun ss ns => events ns (ss.headD .yes))
theorem sc_events : FnScope (["sayings", "names", "steps", "pending", "found", "start", "forms", "cell", "at", "stack", "question", "side", "most"] : List Str) (["sayings", "names"] : List Str) (defScope (top 50)) := ⟨rfl, rfl, rfl, by decide +kernel, rfl, by decide +kernel, by decide +kernel⟩
theorem ok_events (D : Df K mg "events" (top 50)) (T : Bt mg) (CELL : CellD K mg) {n : Nat} (C_steps_along : Cal P w K mg base "steps_along" (n + 2) ["sayings"] (spAlong K n)) (C_whole_cube : Cal P w K mg base "whole_cube" 3 ["size"] (spCube K mg)) (C_next_question : Cal P w K mg base "next_question" 4 ["steps", "names", "at", "stack"] (spNext K))
    (C_asked_there : Cal P w K mg base "asked_there" 3 ["steps", "at", "stack"] (spAsk K)) (C_taken_there : Cal P w K mg base "taken_there" 4 ["steps", "at", "stack", "side"] (spTak K)) (C_side_in : Cal P w K mg base "side_in" 2 ["cell", "form"] (spSideIn K mg)) (C_cut_cell : Cal P w K mg base "cut_cell" 4 ["cell", "form"] (spCut K mg))
    (C_opposite_form : Cal P w K mg base "opposite_form" 1 ["form"] (spNegF K)) : Cal P w K mg base "events" (n + 5) ["sayings", "names"] (spEvents K mg n) := by
  refine D.ok sc_events (fun _ _ _ _ _ _ us hl => match us, hl with | [_, _], _ => rfl) (sp2_len) (fun f cdv A outer s H vs Q E hr h => ?_)
  have nd := sc_events.nd
  refine ⟨_, (pss_cons (ps_set (i := 2) nd rfl (Or.inl rfl) (pk_call C_steps_along hr (pa_cons (pv 0) pa_nil)))
    (pss_cons (ps_set (i := 3) nd rfl (Or.inl rfl) (pe_lst (pa_cons (pe_tup (pa_cons pe_int (pa_cons (pe_tup pa_nil) (pa_cons (pk_call C_whole_cube hr (pa_cons (pk_len T (pa_cons (pv 1) pa_nil)) pa_nil)) pa_nil)))) pa_nil)))
    (pss_cons (ps_set (i := 4) nd rfl (Or.inl rfl) (pe_lst pa_nil))
    (pss_cons (ps_while PassesOwn.never (pt_cmpR (op_ne0 hr.units0) (pv 3) (pe_lst pa_nil) (nomark _)) (pss_cons (ps_asg (pe_bm0 PySem.F.plainAttrs_list PySem.F.slot_list_pop PySem.F.type_list_pop mt_pop (pv 3)) (pg_tup rfl (pgs_cons (pg_name (i := 5) nd rfl (Or.inl rfl)) (pgs_cons (pg_name (i := 6) nd rfl (Or.inl rfl)) (pgs_cons (pg_name (i := 7) nd rfl (Or.inl rfl)) pgs_nil)))))
    (pss_cons (ps_asg (pk_call C_next_question hr (pa_cons (pv 2) (pa_cons (pv 1) (pa_cons (pv 5) (pa_cons (pv 6) pa_nil))))) (pg_tup rfl (pgs_cons (pg_name (i := 8) nd rfl (Or.inl rfl)) (pgs_cons (pg_name (i := 9) nd rfl (Or.inl rfl)) pgs_nil))))
    (pss_cons (ps_if (pt_cmpR op_eq (pv 8) (pk_len T (pa_cons (pv 2) pa_nil)) (nomark _)) (pss_cons (ps_expr (pe_bm PySem.F.plainAttrs_list PySem.F.slot_list_append PySem.F.type_list_append mt_append (pv 4) (pa_cons (pe_tup (pa_cons pe_str (pa_cons (pv 9) (pa_cons (pv 7) pa_nil)))) pa_nil)))
    (pss_one ps_continue)) pss_nil)
    (pss_cons (ps_set (i := 10) nd rfl (Or.inl rfl) (pk_call C_asked_there hr (pa_cons (pv 2) (pa_cons (pv 8) (pa_cons (pv 9) pa_nil)))))
    (pss_cons (ps_set (i := 11) nd rfl (Or.inl rfl) (pk_call C_side_in hr (pa_cons (pv 7) (pa_cons (pv 10) pa_nil))))
    (pss_cons (ps_expr (pe_bm PySem.F.plainAttrs_list PySem.F.slot_list_append PySem.F.type_list_append mt_append (pv 4) (pa_cons (pe_tup (pa_cons (pv 11) (pa_cons (pv 10) (pa_cons (pv 7) pa_nil)))) pa_nil)))
    (pss_cons (ps_if (pt_cmpR op_ne (pv 11) pe_str (nomark _)) (pss_cons (ps_expr (pe_bm PySem.F.plainAttrs_list PySem.F.slot_list_append PySem.F.type_list_append mt_append (pv 3) (pa_cons (pe_tup (pa_cons (pe_op op_add (pv 8) pe_int) (pa_cons (pk_call C_taken_there hr (pa_cons (pv 2) (pa_cons (pv 8) (pa_cons (pv 9) (pa_cons (pv 11) pa_nil))))) (pa_cons (pv 7) pa_nil)))) pa_nil)))
    (pss_one ps_continue)) pss_nil)
    (pss_cons (ps_set (i := 12) nd rfl (Or.inl rfl) (pk_call C_cut_cell hr (pa_cons (pv 7) (pa_cons (pk_call C_opposite_form hr (pa_cons (pv 10) pa_nil)) pa_nil))))
    (pss_cons (ps_expr (pe_bm PySem.F.plainAttrs_list PySem.F.slot_list_append PySem.F.type_list_append mt_append (pv 3) (pa_cons (pe_tup (pa_cons (pe_op op_add (pv 8) pe_int) (pa_cons (pk_call C_taken_there hr (pa_cons (pv 2) (pa_cons (pv 8) (pa_cons (pv 9) (pa_cons pe_str pa_nil))))) (pa_cons (pv 12) pa_nil)))) pa_nil)))
    (pss_one (ps_expr (pe_bm PySem.F.plainAttrs_list PySem.F.slot_list_append PySem.F.type_list_append mt_append (pv 3) (pa_cons (pe_tup (pa_cons (pe_op op_add (pv 8) pe_int) (pa_cons (pk_call C_taken_there hr (pa_cons (pv 2) (pa_cons (pv 8) (pa_cons (pv 9) (pa_cons pe_str pa_nil))))) (pa_cons (pk_call C_cut_cell hr (pa_cons (pv 7) (pa_cons (pv 10) pa_nil))) pa_nil)))) pa_nil))))))))))))))
    (pss_one (ps_ret (pv 4))))))), ?_⟩
  obtain ⟨v1, v2, ss, ns, rfl, h1, h2, ⟨s, rfl, so, hht, hsz⟩, q⟩ := h
  have n3 := so.n3
  have inn := in_steps s so.inn
  refine q_set (R := rL (rSy K)) (x := stepsOf s) (EvR.to (ev_call1 (ev_var rfl h1) ⟨fun u hu => by rw [List.mem_singleton.mp hu]; exact ⟨hht, by omega⟩, by simp, by simp; omega⟩) (by simp)) (fun vs H1 e1 rs => ?_)
  refine q_set (R := rN H1 (rEnt K mg)) (x := [(0, [], ⟨ns.length, [], cube ns.length⟩)]) (ev_lstN (ei_cons (ev_trip (R := rNat) (S := rStk K) (x := 0) (y := []) (ev_nat (n := 0) ev_int) (EvR.imp (R := rT K (rVc K)) (x := []) (ev_tup ei_nil (by decide)) (fun _ _ _ h => h)) (ev_call1 (R := rNat) (x := ns.length) (ev_lenT (ev_var rfl (Mo.up e1 h2))) n3)) ei_nil) (Nat.le_of_lt_succ (by simp))) (fun vp H2 e2 rp => ?_)
  obtain ⟨lp, ps, rfl, hlp, rp1, rp2⟩ := rp
  refine q_new fun lf hlf => ?_
  have ne : lp ≠ lf := fun z => by subst z; rw [rp1] at hlf; cases hlf
  have e3 : Same H2 (upd H2 lf (.lst [])) := Same.hnew hlf
  have hlf1 : H1 lf = none := e2.hback hlf
  have rp : rL (rEnt K mg) H2 (.ref lp) [(0, [], ⟨ns.length, [], cube ns.length⟩)] := ⟨lp, ps, rfl, rp1, rp2⟩
  generalize hL : stepsOf s = L at *
  have E0 : EntI ns L (0, [], ⟨ns.length, [], cube ns.length⟩) := hL ▸ ent0 so
  have P0 : pots L [(0, [], (⟨ns.length, [], cube ns.length⟩ : Cl))] ≤ 16384 := hL ▸ pots0 so
  have R0 : evs ns L 16384 [(0, [], ⟨ns.length, [], cube ns.length⟩)] [] = events ns s := hL ▸ rfl
  refine q_while (W := fun m σ' H' => ∃ (pend : List Ent) (found : List Fd) (x5 x6 x7 x8 x9 x10 x11 x12 : Option V), σ' = [some v1, some v2, some vs, some (.ref lp), some (.ref lf), x5, x6, x7, x8, x9, x10, x11, x12] ∧ Same H1 H' ∧ rL (rEnt K mg) H' (.ref lp) pend.reverse ∧ rL (rFd K mg) H' (.ref lf) found ∧
    (∀ e ∈ pend, EntI ns L e) ∧ pots L pend ≤ m ∧ found.length + m ≤ 16384 ∧ evs ns L m pend found = events ns s) 16384 ⟨[(0, [], ⟨ns.length, [], cube ns.length⟩)], [], none, none, none, none, none, none, none, none, rfl, e2.trans e3, Mo.up e3 rp, rL_nil upd_same, fun e he => by rw [List.mem_singleton.mp he]; exact E0, P0, by simp, R0⟩ (fun m σ' H' z => ?_)
  obtain ⟨pend, found, x5, x6, x7, x8, x9, x10, x11, x12, rfl, eH, rP, rF, hE, hp, hf, eq⟩ := z
  cases pend with
  | nil =>
    refine ⟨false, EvT.to (et_test (et_ne0 (ev_var rfl rP) (ev_lst ei_nil (by decide)))) rfl, fun c => absurd c (by decide), fun _ H5 e5 => ?_⟩
    rw [evs_nil] at eq
    subst eq
    exact s_ret (R := rL (rFd K mg)) (ev_var rfl (Mo.up e5 rF)) (fun v H' e r => q v H' ((e1.trans (eH.trans e5)).trans e) r)
  | cons e rest =>
    refine ⟨true, EvT.to (et_test (et_ne0 (ev_var rfl rP) (ev_lst ei_nil (by decide)))) (by rw [List.reverse_cons]; cases rest.reverse <;> rfl), fun _ H5 e5 => ?_, fun c => absurd c (by decide)⟩
    have he := hE e List.mem_cons_self
    have hrest : ∀ e' ∈ rest, EntI ns L e' := fun e' h' => hE e' (List.mem_cons_of_mem _ h')
    obtain ⟨so1, so2, so3, so4⟩ := evStep_ok he
    have hp1 : pots L (e :: rest) = pot L e + pots L rest := rfl
    cases m with
    | zero => omega
    | succ m =>
    have eq2 : evs ns L m ((evStep ns L e).2.reverse ++ rest) (found ++ [(evStep ns L e).1]) = events ns s := eq
    have hE2 : ∀ e' ∈ (evStep ns L e).2.reverse ++ rest, EntI ns L e' := fun e' h' => by
      rcases List.mem_append.mp h' with z | z
      · exact so1 e' (List.mem_reverse.mp z)
      · exact hrest e' z
    have hp2 : pots L ((evStep ns L e).2.reverse ++ rest) ≤ m := by rw [pots_app, pots_rev]; omega
    have hrl : rest.length ≤ 16384 := by have := pots_len (L := L) rest; omega
    have eH5 := eH.trans e5
    rw [List.reverse_cons] at rP
    refine q_pop3 (R := rNat) (S := rStk K) (T := rCl K mg) (Mo.up e5 rP) rfl (fun u5 u6 u7 H6 sb6 rP6 r5 r6 r7 => ?_)
    have eH6 : Same H1 H6 := eH5.trB hlp sb6
    have rF6 : rL (rFd K mg) H6 (.ref lf) found := rL_mutB (Mo.up e5 rF) sb6 (Ne.symm ne) (rL_le (Mo.up e5 rP) sb6)
    refine q_set2 (R := rNat) (S := rStk K) (p := nextQ L ns e.1 e.2.1) (ev_call4 (ev_var rfl (Mo.up eH6 rs)) (ev_var rfl (Mo.up (e1.trans eH6) h2)) (ev_var rfl r5) (ev_var rfl r6) (ent_np he n3 (by omega) inn)) (fun u8 u9 H7 e7 r8 r9 => ?_)
    obtain ⟨ai, kle, km⟩ := ent_at he _ rfl
    have ev0 : evStep ns L e = evAt L (e.1 + (adv ns (L.drop e.1) e.2.1).1) (adv ns (L.drop e.1) e.2.1).2 e.2.2 := rfl
    have r8' : rNat H7 u8 (e.1 + (adv ns (L.drop e.1) e.2.1).1) := r8
    have r9' : rStk K H7 u9 (adv ns (L.drop e.1) e.2.1).2 := r9
    clear r8 r9
    generalize e.1 + (adv ns (L.drop e.1) e.2.1).1 = k at *
    generalize (adv ns (L.drop e.1) e.2.1).2 = st at *
    have eH7 := eH6.trans e7
    have rP7 := Mo.up (R := rL (rEnt K mg)) e7 rP6
    have rF7 := Mo.up (R := rL (rFd K mg)) e7 rF6
    have r7' := Mo.up (R := rCl K mg) e7 r7
    cases r8'
    refine q_when (et_test (ev_eqI (ev_var (R := rInt) rfl rfl) (ev_lenL (ev_var rfl (Mo.up eH7 rs))))) (fun c H8 e8 => ?_) (fun c H8 e8 => ?_)
    · have hk : k = L.length := by have := of_decide_eq_true c; omega
      have hd : L.drop k = [] := List.drop_eq_nil_of_le (by omega)
      rw [evAt_fin hd] at ev0
      rw [ev0] at eq2 hE2 hp2
      have eH8 := eH7.trans e8
      refine q_push (S := rFd K mg) (y := (("end" : Str), some st, e.2.2)) (Mo.up e8 rF7) rfl (ev_trip (R := rStr) (S := rTold K) ev_str (ev_ts (ev_var rfl (Mo.up (R := rStk K) e8 r9'))) (ev_var rfl (Mo.up (R := rCl K mg) e8 r7'))) (by omega) (fun H9 sb9 rF9 => ?_)
      refine ⟨m, Nat.lt_succ_self _, rest, _, _, _, _, _, _, _, _, _, rfl, eH8.trB hlf1 sb9, rL_mutB (Mo.up e8 rP7) sb9 ne (rL_le (Mo.up e8 rF7) sb9), rF9, hE2, hp2, ?_, eq2⟩
      rw [List.length_append, List.length_singleton]; omega
    · have hk : k < L.length := by have := of_decide_eq_false c; omega
      cases ai with
      | fin F hd es w =>
        have := congrArg List.length hd
        rw [List.length_drop, List.length_nil] at this
        omega
      | ask mm a b M A B st' j v w hd es w1 v1' hB hA hs hj ok =>
        subst es
        rw [evAt_ask hd] at ev0
        have eH8 := eH7.trans e8
        have r9'' := Mo.up (R := rStk K) e8 r9'
        have r78 := Mo.up (R := rCl K mg) e8 r7'
        have rP8 := Mo.up (R := rL (rEnt K mg)) e8 rP7
        have rF8 := Mo.up (R := rL (rFd K mg)) e8 rF7
        have hsl := hs.len
        have lbl := lbN_le ns.length
        have ap : AskP ns.length L k (B :: A :: st') := ⟨mm, a, b, M, A, B, st', hd, rfl, hA.1, hB.1, by omega, by omega⟩
        have af : askF L k (B :: A :: st') = questF mm A B := by unfold askF; rw [hd]
        have tf : ∀ l, takF L k (B :: A :: st') l = sideF mm l A B :: st' := fun l => by unfold takF; rw [hd]
        have qw := qw_quest mm hA hB
        have fo : Fo ns.length (questF mm A B) := qw.fo (by rw [← lbN_LB]; omega)
        have fo2 : Fo ns.length (negF (questF mm A B)) := qw.neg.fo (by rw [← lbN_LB]; omega)
        have lq : (questF mm A B).length ≤ 1000 := by rw [fo.len]; omega
        have plt : e.2.2.path.length < 20 := by have := he.pl; omega
        have cn := he.cn
        refine q_set (R := rVc K) (x := questF mm A B) (EvR.to (ev_call3 (ev_var rfl (Mo.up eH8 rs)) (ev_nat (n := k) (ev_var (R := rInt) rfl rfl)) (ev_var rfl r9'') ⟨_, ap⟩) af) (fun u10 H9 e9 r10 => ?_)
        refine q_set (R := rStr) (ev_call2 (ev_var rfl (Mo.up e9 r78)) (ev_var rfl r10) ⟨he.gd, lq, fo.sm⟩) (fun u11 H10 e10 r11 => ?_)
        have e810 := e9.trans e10
        have r10' := Mo.up (R := rVc K) e10 r10
        refine q_push (S := rFd K mg) (y := (sideIn (questF mm A B) e.2.2.corners, none, e.2.2)) (Mo.up e810 rF8) rfl (ev_trip (R := rStr) (S := rTold K) (ev_var rfl r11) (ev_tn (R := rVc K) (ev_var rfl r10')) (ev_var rfl (Mo.up (R := rCl K mg) e810 r78))) (by omega) (fun H11 sb11 rF11 => ?_)
        have le11 : Le H10 H11 := rL_le (Mo.up e810 rF8) sb11
        have eH11 : Same H1 H11 := (eH8.trans e810).trB hlf1 sb11
        have rP11 : rL (rEnt K mg) H11 (.ref lp) rest.reverse := rL_mutB (Mo.up e810 rP8) sb11 ne le11
        have r9b := Mt.up (R := rStk K) ((Le.of e810).trans le11) r9''
        have r7b := Mt.up (R := rCl K mg) ((Le.of e810).trans le11) r78
        have r10b := Mt.up (R := rVc K) le11 r10'
        have r11b := Mt.up (R := rStr) le11 r11
        have flen : (found ++ [(sideIn (questF mm A B) e.2.2.corners, (none : Option (List Vec)), e.2.2)]).length + m ≤ 16384 := by rw [List.length_append, List.length_singleton]; omega
        refine q_when (et_test (ev_neS (ev_var rfl r11b) ev_str)) (fun c H12 e12 => ?_) (fun c H12 e12 => ?_)
        · have nb : sideIn (questF mm A B) e.2.2.corners ≠ ("both" : Str) := by simpa using c
          have ea : evAsk mm A B st' k e.2.2 = ((sideIn (questF mm A B) e.2.2.corners, none, e.2.2), [(k + 1, sideF mm (decide (sideIn (questF mm A B) e.2.2.corners = ("least" : Str))) A B :: st', e.2.2)]) := by
            unfold evAsk
            rw [if_neg nb]
          rw [ev0, ea] at eq2 hE2 hp2
          have rsd : ∀ Hx u, rStr Hx u (sideIn (questF mm A B) e.2.2.corners) → rSd Hx u (decide (sideIn (questF mm A B) e.2.2.corners = ("least" : Str))) := fun Hx u h => by
            rcases sideIn_cases (questF mm A B) e.2.2.corners with ⟨z, _⟩ | ⟨z, _⟩ | ⟨z, _⟩
            · rw [z] at h ⊢; exact h
            · rw [z] at h ⊢; exact h
            · exact absurd z nb
          refine q_push (S := rEnt K mg) (y := (k + 1, sideF mm (decide (sideIn (questF mm A B) e.2.2.corners = ("least" : Str))) A B :: st', e.2.2)) (Mo.up e12 rP11) rfl (ev_trip (R := rNat) (S := rStk K) (ev_nat (n := k + 1) (EvR.to (ev_add (i := (k : Int)) (j := 1) (ev_var (R := rInt) rfl rfl) ev_int) (by omega))) (EvR.to (ev_call4 (ev_var rfl (Mo.up (eH11.trans e12) rs)) (ev_nat (n := k) (ev_var (R := rInt) rfl rfl)) (ev_var rfl (Mo.up (R := rStk K) e12 r9b)) (fun H1 e Q q => ev_var (R := rStr) rfl (Mo.up (R := rStr) e12 r11b) H1 e Q fun v H2 e2 r => q v H2 e2 (rsd H2 v r)) ⟨_, ap⟩) (tf _)) (ev_var rfl (Mo.up (R := rCl K mg) e12 r7b))) (by rw [List.length_reverse]; omega) (fun H13 sb13 rP13 => ?_)
          refine ⟨m, Nat.lt_succ_self _, _ :: rest, _, _, _, _, _, _, _, _, _, rfl, (eH11.trans e12).trB hlp sb13, by rw [List.reverse_cons]; exact rP13, rL_mutB (Mo.up e12 rF11) sb13 (Ne.symm ne) (rL_le (Mo.up e12 rP11) sb13), hE2, hp2, flen, eq2⟩
        · have isb : sideIn (questF mm A B) e.2.2.corners = ("both" : Str) := by simpa using c
          have ea : evAsk mm A B st' k e.2.2 = ((sideIn (questF mm A B) e.2.2.corners, none, e.2.2), [(k + 1, sideF mm false A B :: st', cutC e.2.2 (negF (questF mm A B))), (k + 1, sideF mm true A B :: st', cutC e.2.2 (questF mm A B))]) := by
            unfold evAsk
            rw [if_pos isb, isb]
          rw [ev0, ea] at eq2 hE2 hp2
          rw [← cn] at fo fo2
          have r7c := Mo.up (R := rCl K mg) e12 r7b
          have r10c := Mo.up (R := rVc K) e12 r10b
          refine q_set (R := rCl K mg) (ev_call2 (ev_var rfl r7c) (ev_call1 (ev_var rfl r10c) lq) ⟨he.gd, fo2, plt⟩) (fun u12 H13 e13 r12 => ?_)
          have e1113 := e12.trans e13
          have r9c := Mo.up (R := rStk K) e1113 r9b
          refine q_push (S := rEnt K mg) (y := (k + 1, sideF mm false A B :: st', cutC e.2.2 (negF (questF mm A B)))) (Mo.up e1113 rP11) rfl (ev_trip (R := rNat) (S := rStk K) (ev_nat (n := k + 1) (EvR.to (ev_add (i := (k : Int)) (j := 1) (ev_var (R := rInt) rfl rfl) ev_int) (by omega))) (EvR.to (ev_call4 (ev_var rfl (Mo.up (eH11.trans e1113) rs)) (ev_nat (n := k) (ev_var (R := rInt) rfl rfl)) (ev_var rfl r9c) (ev_sd false) ⟨_, ap⟩) (tf false)) (ev_var rfl r12)) (by rw [List.length_reverse]; omega) (fun H14 sb14 rP14 => ?_)
          have le14 : Le H13 H14 := rL_le (Mo.up e1113 rP11) sb14
          have eH14 : Same H1 H14 := (eH11.trans e1113).trB hlp sb14
          have rF14 : rL (rFd K mg) H14 (.ref lf) _ := rL_mutB (Mo.up e1113 rF11) sb14 (Ne.symm ne) le14
          refine s_push (S := rEnt K mg) (y := (k + 1, sideF mm true A B :: st', cutC e.2.2 (questF mm A B))) rP14 rfl (ev_trip (R := rNat) (S := rStk K) (ev_nat (n := k + 1) (EvR.to (ev_add (i := (k : Int)) (j := 1) (ev_var (R := rInt) rfl rfl) ev_int) (by omega))) (EvR.to (ev_call4 (ev_var rfl (Mo.up eH14 rs)) (ev_nat (n := k) (ev_var (R := rInt) rfl rfl)) (ev_var rfl (Mt.up le14 r9c)) (ev_sd true) ⟨_, ap⟩) (tf true)) (ev_call2 (ev_var rfl (Mt.up le14 (Mo.up (R := rCl K mg) e13 r7c))) (ev_var rfl (Mt.up le14 (Mo.up (R := rVc K) e13 r10c))) ⟨he.gd, fo, plt⟩)) (by rw [List.length_append, List.length_reverse, List.length_singleton]; omega) (fun H15 sb15 rP15 => ?_)
          refine ⟨m, Nat.lt_succ_self _, _ :: _ :: rest, _, _, _, _, _, _, _, _, _, rfl, eH14.trB hlp sb15, by rw [List.reverse_cons, List.reverse_cons]; exact rP15, rL_mutB rF14 sb15 (Ne.symm ne) (rL_le rP14 sb15), hE2, hp2, flen, eq2⟩
end
end Hf


/-! ## Fa11 -/
set_option Elab.async false
set_option linter.all false
set_option maxRecDepth 100000
set_option maxHeartbeats 400000

namespace Hf
open PySem PySem.Spec PyProof.Rows L2 RZ
theorem events_len (ns : List Str) (s : Say) : (events ns s).length ≤ 16384 := by
  have := evs_len (ns := ns) (L := stepsOf s) 16384 [(0, [], ⟨ns.length, [], cube ns.length⟩)] []
  unfold events
  simp only [List.length_nil] at this
  omega
def belowG (e : Cl × List Vec) : Option (List (Int × Int)) := if dot (goalF e.2) (leastC (goalF e.2) e.1.corners) < 0 then some (pointF (leastC (goalF e.2) e.1.corners)) else none
section
variable {P : Program} {w : World} {K : PySem.W.Frag} {mg : Str → Option Value} {base : Heap}
def spEnds (K : PySem.W.Frag) (mg : Str → Option Value) (n : Nat) : Sp := sp2 (rT K (rSy K)) (rT K rStr) (fun ss ns => ∃ s, ss = [s] ∧ Sok ns s ∧ s.ht < n ∧ (stepsOf s).length ≤ 5000) (rL (r2 K (rCl K mg) (rStk K))) (fun ss ns => endsF ns (ss.headD .yes))
theorem sc_ends : FnScope (["sayings", "names", "kind", "told", "cell"] : List Str) (["sayings", "names"] : List Str) (defScope (top 51)) := ⟨rfl, rfl, rfl, by decide +kernel, rfl, by decide +kernel, by decide +kernel⟩
theorem ok_ends (D : Df K mg "ends" (top 51)) {n : Nat} (C_events : Cal P w K mg base "events" (n + 5) ["sayings", "names"] (spEvents K mg n)) : Cal P w K mg base "ends" (n + 6) ["sayings", "names"] (spEnds K mg n) := by
  refine D.ok sc_ends (fun _ _ _ _ _ _ us hl => match us, hl with | [_, _], _ => rfl) (sp2_len) (fun f cdv A outer s H vs Q E hr h => ?_)
  have nd := sc_ends.nd
  refine ⟨_, (pss_one (ps_ret (pe_lc (own := [("kind", 2), ("told", 3), ("cell", 4)]) (g := gTup K 3 (gCons (gName 2) (gCons (gName 3) (gCons (gName 4) gNil)))) rfl nd (pi_list (pk_call C_events hr (pa_cons (pv 0) (pa_cons (pv 1) pa_nil)))) (blkOk_by (by walk_at "blk")) (fun _ _ _ _ _ => (pg_tup rfl (pgs_cons (pg_name (i := 2) nd rfl (Or.inl rfl)) (pgs_cons (pg_name (i := 3) nd rfl (Or.inl rfl)) (pgs_cons (pg_name (i := 4) nd rfl (Or.inl rfl)) pgs_nil))))) (fun _ _ _ _ _ => (pts_one (pt_cmpR op_eq (pv 2) pe_str (nomark _)))) (fun _ _ _ _ _ => (pe_tup (pa_cons (pv 4) (pa_cons (pv 3) pa_nil))))))), ?_⟩
  obtain ⟨v1, v2, ss, ns, rfl, h1, h2, ⟨s, rfl, so, hht, hsz⟩, q⟩ := h
  have hl := events_len ns s
  refine s_ret (R := rL (r2 K (rCl K mg) (rStk K))) (x := endsF ns s) (ev_lc3F (R := rStr) (S := rTold K) (T := rCl K mg) (KP := Same) (zs := events ns s) (fun f => decide (f.1 = ("end" : Str))) (fun f => (f.2.2, f.2.1.getD [])) (ii_lst (ev_call2 (ev_var rfl h1) (ev_var rfl h2) ⟨s, rfl, so, hht, hsz⟩)) (fun _ _ _ e => e) (by omega) (fun u v w => rfl)
    (fun x hx u v w H' e r1 r2 r3 => et_test (ev_eqS (ev_var rfl r1) ev_str)) (fun x hx hp u v w H' e r1 r2 r3 => ev_pair (ev_var rfl r3) (ev_var rfl ?_))) (fun v H' e r => q v H' e r)
  obtain ⟨F, e1, _⟩ := (events_ok so x hx).1 (of_decide_eq_true hp)
  have := r2 [F] e1
  rw [e1]
  exact this
def spGoal (K : PySem.W.Frag) : Sp := sp1 (rStk K) (fun st => ∃ F, st = [F] ∧ F ≠ [] ∧ F.length ≤ 1000) (rVc K) goalF
theorem sc_less_one : FnScope (["forms"] : List Str) (["forms"] : List Str) (defScope (top 53)) := ⟨rfl, rfl, rfl, by decide +kernel, rfl, by decide +kernel, by decide +kernel⟩
theorem ok_less_one (D : Df K mg "less_one" (top 53)) (C_raised_form : Cal P w K mg base "raised_form" 1 ["form", "number"] (spRaiseF K)) : Cal P w K mg base "less_one" 2 ["forms"] (spGoal K) := by
  refine D.ok sc_less_one (fun _ _ _ _ _ _ us hl => match us, hl with | [_], _ => rfl) (sp1_len) (fun f cdv A outer s H vs Q E hr h => ?_)
  have nd := sc_less_one.nd
  refine ⟨_, (pss_one (ps_ret (pk_call C_raised_form hr (pa_cons (pe_ix ix_tup (pv 0) pe_int (fun _ _ => rfl)) (pa_cons (pe_un un_neg pe_int) pa_nil))))), ?_⟩
  obtain ⟨v, st, rfl, h1, ⟨F, rfl, nz, hz⟩, q⟩ := h
  have h1' : rT K (rVc K) H v [F] := h1
  exact s_ret (R := rVc K) (x := goalF [F]) (ev_call2 (ev_ixT (ev_var rfl h1') ev_int at0) (ev_neg ev_int) ⟨nz, hz⟩) (fun v H' e r => q v H' e r)
def spBelow (K : PySem.W.Frag) (n : Nat) : Sp := sp1 (rSy K) (fun s => Sok (unks [s]) s ∧ s.ht < n ∧ (stepsOf s).length ≤ 5000) (rOpt (rT K (r2 K rInt rInt))) (fun s => belowF (unks [s]) s)
theorem sc_point_below : FnScope (["saying", "cell", "forms", "goal", "corner"] : List Str) (["saying"] : List Str) (defScope (top 54)) := ⟨rfl, rfl, rfl, by decide +kernel, rfl, by decide +kernel, by decide +kernel⟩
theorem ok_point_below (D : Df K mg "point_below" (top 54)) {n : Nat} (C_ends : Cal P w K mg base "ends" (n + 6) ["sayings", "names"] (spEnds K mg n)) (C_unknowns_of : Cal P w K mg base "unknowns_of" (n + 2) ["sayings"] (spUnks K n)) (C_less_one : Cal P w K mg base "less_one" 2 ["forms"] (spGoal K))
    (C_least_corner : Cal P w K mg base "least_corner" 2 ["cell", "form"] (spLeast K mg)) (C_number_at : Cal P w K mg base "number_at" 1 ["form", "corner"] (spNum K)) (C_point_of : Cal P w K mg base "point_of" 3 ["corner"] (spPoint K)) : Cal P w K mg base "point_below" (n + 7) ["saying"] (spBelow K n) := by
  refine D.ok sc_point_below (fun _ _ _ _ _ _ us hl => match us, hl with | [_], _ => rfl) (sp1_len) (fun f cdv A outer s H vs Q E hr h => ?_)
  have nd := sc_point_below.nd
  refine ⟨_, (pss_cons (ps_for PassesOwn.never rfl (pi_list (pk_call C_ends hr (pa_cons (pe_tup (pa_cons (pv 0) pa_nil)) (pa_cons (pk_call C_unknowns_of hr (pa_cons (pe_tup (pa_cons (pv 0) pa_nil)) pa_nil)) pa_nil)))) (pg_tup rfl (pgs_cons (pg_name (i := 1) nd rfl (Or.inl rfl)) (pgs_cons (pg_name (i := 2) nd rfl (Or.inl rfl)) pgs_nil))) (pss_cons (ps_set (i := 3) nd rfl (Or.inl rfl) (pk_call C_less_one hr (pa_cons (pv 2) pa_nil)))
    (pss_cons (ps_set (i := 4) nd rfl (Or.inl rfl) (pk_call C_least_corner hr (pa_cons (pv 1) (pa_cons (pv 3) pa_nil))))
    (pss_one (ps_if (pt_cmpR op_lt (pk_call C_number_at hr (pa_cons (pv 3) (pa_cons (pv 4) pa_nil))) pe_int (nomark _)) (pss_one (ps_ret (pk_call C_point_of hr (pa_cons (pv 4) pa_nil)))) pss_nil)))))
    (pss_one (ps_ret pe_non))), ?_⟩
  obtain ⟨v, s, rfl, h1, ⟨so, hht, hsz⟩, q⟩ := h
  have lbl := lbN_le (unks [s]).length
  have n3 := so.n3
  have lvs := so.lv
  have one : ∀ {σ : L2.St}, σ[0]? = some (some v) → EvR (tTup (tCons (tVar 0) tNil)) σ H (rT K (rSy K)) [s] := fun hσ => ev_tup (ei_cons (ev_var hσ h1) ei_nil) (by simp)
  have hb : belowF (unks [s]) s = (endsF (unks [s]) s).findSome? belowG := rfl
  have eok := ends_ok so
  generalize hes : endsF (unks [s]) s = es at *
  refine q_forG (I := fun H2 i σ' H' => ∃ x1 x2 x3 x4, σ' = [some v, x1, x2, x3, x4] ∧ Same H2 H' ∧ (es.take i).findSome? belowG = none) (ii_lst (R := r2 K (rCl K mg) (rStk K)) (xs := es) (EvR.to (ev_call2 (one rfl) (ev_call1 (one rfl) ⟨fun u hu => by rw [List.mem_singleton.mp hu]; exact hht, by simp; omega⟩) ⟨s, rfl, so, hht, hsz⟩) hes))
    (fun H2 e2 => ⟨_, _, _, _, rfl, Same.refl _, rfl⟩) (fun H2 i σ' H' e2 z => ?_) (fun H2 i x σ' H' v' H'' e2 hx z e3 r => ?_) (fun H2 σ' H' e2 z => ?_)
  · obtain ⟨_, _, _, _, _, sb, _⟩ := z
    exact sb
  · obtain ⟨x1, x2, x3, x4, rfl, sb, none_⟩ := z
    obtain ⟨F, ef, fw, gd, ne, cn⟩ := eok x (List.mem_of_getElem? hx)
    have snoc : (es.take (i + 1)).findSome? belowG = belowG x := by
      rw [List.take_add_one, hx, Option.toList_some, List.findSome?_append, none_]
      cases hb : belowG x <;> simp [hb]
    have whole : belowG x = none ∨ es.findSome? belowG = belowG x := by
      cases hx' : belowG x with
      | none => exact .inl rfl
      | some y =>
        refine .inr ?_
        have : es = es.take (i + 1) ++ es.drop (i + 1) := (List.take_append_drop _ _).symm
        rw [this, List.findSome?_append, snoc, hx']
        rfl
    refine g_tup2 r fun uc uf rc rf => ?_
    have hF : F ≠ [] := fun z => by have := fw.1; rw [z] at this; cases this
    have fl := fw.1
    have gl : goalF x.2 = raiseF F (-1) := by rw [ef]; rfl
    have gsm : (goalF x.2).length ≤ 1000 ∧ Sm (goalF x.2) := by
      rw [gl]
      obtain ⟨a, t, rfl, ht⟩ := vcons fw.1
      refine ⟨by rw [raiseF_len (n := (unks [s]).length) fw.1]; omega, fun y hy => ?_⟩
      rcases List.mem_cons.mp (show y ∈ (a + -1) :: t from hy) with e | e
      · have h2 : -((lbN (unks [s]).length : Nat) : Int) + 1 ≤ a ∧ a ≤ (lbN (unks [s]).length : Nat) := fw.2.1
        omega
      · have := fw.2.2 y e
        omega
    refine q_set (R := rVc K) (ev_call1 (ev_var rfl rf) ⟨F, ef, hF, by omega⟩) (fun u3 H3 e4 r3 => ?_)
    refine q_set (R := rVc K) (ev_call2 (ev_var rfl (Mo.up e4 rc)) (ev_var rfl r3) ⟨gd, gsm.1, gsm.2, ne⟩) (fun u4 H4 e5 r4 => ?_)
    refine s_when (et_test (ev_cmpI (f := fun i j => decide (i < j)) (ev_call2 (ev_var rfl (Mo.up e5 r3)) (ev_var rfl r4) gsm) ev_int)) (fun c H5 e6 => ?_) (fun c H5 e6 => ?_)
    · have c1 := of_decide_eq_true c
      have eg : belowG x = some (pointF (leastC (goalF x.2) x.1.corners)) := by unfold belowG; rw [if_pos c1]
      have co := gd.co (leastC_mem (f := goalF x.2) ne)
      refine s_ret (R := rT K (r2 K rInt rInt)) (ev_call1 (ev_var rfl (Mo.up (R := rVc K) e6 r4)) ⟨_, gd.n3, co⟩) (fun v H6 e7 r => q v H6 (((((e2.trans sb).trans e3).trans e4).trans (e5.trans e6)).trans e7) ?_)
      have hw : belowF (unks [s]) s = some (pointF (leastC (goalF x.2) x.1.corners)) := by
        rcases whole with z | z
        · rw [eg] at z; cases z
        · rw [hb, z, eg]
      show rOpt _ H6 v (belowF (unks [s]) s)
      rw [hw]
      refine ⟨fun z => ?_, r⟩
      obtain ⟨a, vs, e, _⟩ := r
      rw [z] at e; cases e
    · have c1 := of_decide_eq_false c
      have eg : belowG x = none := by unfold belowG; rw [if_neg c1]
      exact ⟨_, _, _, _, rfl, (((sb.trans e3).trans e4).trans (e5.trans e6)), by rw [snoc, eg]⟩
  · obtain ⟨x1, x2, x3, x4, rfl, sb, none_⟩ := z
    rw [List.take_length] at none_
    refine s_ret (R := rV) ev_non (fun v H6 e7 r => q v H6 ((e2.trans sb).trans e7) ?_)
    show rOpt _ H6 v (belowF (unks [s]) s)
    rw [hb, none_]
    exact r
end
end Hf


/-! ## Zx -/
set_option Elab.async false
set_option linter.all false
set_option maxRecDepth 100000
set_option maxHeartbeats 2000000
/-! zip over any two drawn sequences, its pairs kept: dict(zip(..)), list(zip(..)) -/
namespace Zx
open PySem PySem.Spec
section
variable {prog : Program} {w : World} {A : Around} {E : Value → Shared → Prop} {s : Shared} {z TI TO T i1 i2 : Addr} {fp1 fp2 : List Addr} {n1 n2 i : Nat} {P1 P2 : Nat → Value → Prop} {St1 St2 : Nat → Heap → Prop} {f : Bool} {oT : Obj}
theorem held_item {Q : Value → Shared → Prop} (S : ZipSep2 z TI TO i1 i2 fp1 fp2) (D1 : Draws prog w A i1 fp1 n1 P1 St1) (D2 : Draws prog w A i2 fp2 n2 P2 St2)
    (hz : IsZipHeld s.heap z TI TO T f) (hT : s.heap.get? T = some oT) (hTI : IsTupOf2 s.heap TI (.ref i1) (.ref i2)) (st1 : St1 i s.heap) (st2 : St2 i s.heap) (hlt1 : i < n1) (hlt2 : i < n2)
    (hQ : ∀ x1 x2 h' tk, P1 i x1 → P2 i x2 → IsZipHeld h' z TI TO T true → St1 (i + 1) h' → St2 (i + 1) h' → IsTupOf2 h' s.heap.objs.size x1 x2 → h'.objs.size = s.heap.objs.size + 1 →
      (∀ c o, c ≠ z → c ≠ i1 → c ≠ i2 → s.heap.get? c = some o → h'.get? c = some o) → Q (.ref s.heap.objs.size) { s with heap := h', toks := tk }) :
    wpAny (model prog w) A (Builtin.«zip.__next__» ⟨[.ref z], []⟩) (fun fin s' => ∃ v, fin = .done (.ret v) ∧ Q v s') E s := by
  obtain ⟨hp, g, d, tk0, os⟩ := s
  show wpAny _ _ (field (.ref z) 2 >>= _) _ _ _
  refine wpAny_bind (wpAny_field hz rfl (x := .bool false) rfl ?_)
  show wpAny _ _ (field (.ref z) 3 >>= _) _ _ _
  refine wpAny_bind (wpAny_field hz rfl (x := .ref TI) rfl ?_)
  refine wpAny_bind (wpAny_seqItems hTI rfl ?_)
  show wpAny _ _ (Builtin.SmallTypes.ownedTupleIsFree (.ref z) >>= _) _ _ _
  refine wpAny_bind (wpAny_tupleHeld_zip hz hT fun h₁ hz₁ hs₁ => ?_)
  replace hs₁ : Heap.SameBut z hp h₁ := hs₁
  simp only [Bool.false_eq_true, if_false]
  refine wpAny_bind ?_
  rw [← Array.forIn_toList]
  simp only [List.forIn_cons, List.forIn_nil]
  refine wpAny_bind (wpAny_bind (wpAny_holding ?_))
  show wpAny _ _ (Builtin.SmallTypes.nextOf (.ref i1) >>= _) _ _ ⟨h₁, g, d, tk0, os⟩
  refine wpAny_bind (D1.item i _ _ _ hlt1 (D1.over st1 hs₁ S.zf1) fun x1 p1 tk1 hx1 sn1 hp1 => wpAny_pure ?_)
  replace hp1 : Heap.SameBut i1 h₁ p1 := hp1
  refine wpAny_pure ?_
  refine wpAny_bind (wpAny_bind (wpAny_holding ?_))
  show wpAny _ _ (Builtin.SmallTypes.nextOf (.ref i2) >>= _) _ _ ⟨p1, g, d, tk1, os⟩
  refine wpAny_bind (D2.item i _ _ _ hlt2 (D2.over (D2.over st2 hs₁ S.zf2) hp1 S.sep1_2) fun x2 p2 tk2 hx2 sn2 hp2 => wpAny_pure ?_)
  replace hp2 : Heap.SameBut i2 p1 p2 := hp2
  refine wpAny_pure (wpAny_pure ?_)
  show wpAny _ _ (newTuple [x1, x2] >>= _) _ _ _
  refine wpAny_bind (wpAny_newTuple ?_)
  have hsz : p2.objs.size = hp.objs.size := by rw [hp2.1, hp1.1, hs₁.1]
  have hz2 : IsZipHeld p2 z TI TO T true := hp2.extBut _ _ S.zi2 (hp1.extBut _ _ S.zi1 hz₁)
  have hk : ∀ c o, c ≠ z → c ≠ i1 → c ≠ i2 → hp.get? c = some o → p2.get? c = some o := fun c o c1 c2 c3 e => hp2.extBut _ _ c3 (hp1.extBut _ _ c2 (hs₁.extBut _ _ c1 e))
  have hj1 : St1 (i + 1) p2 := D1.over sn1 hp2 S.sep2_1
  refine wpAny_pure ⟨_, rfl, ?_⟩
  show Q (.ref p2.objs.size) _
  have hpp : IsTupOf2 (p2.push { cls := .type "tuple", data := .seq #[x1, x2] }) p2.objs.size x1 x2 := Heap.get?_push_size _ rfl
  have hz4 : (p2.push { cls := .type "tuple", data := .seq #[x1, x2] }).objs.size = p2.objs.size + 1 := Heap.size_push ..
  rw [hsz] at hpp hz4 ⊢
  exact hQ x1 x2 _ tk2 hx1 hx2 (Heap.get?_push_of_some _ hz2) (D1.frame _ _ _ hj1 fun b _ o e => Heap.get?_push_of_some _ e) (D2.frame _ _ _ sn2 fun b _ o e => Heap.get?_push_of_some _ e) hpp hz4 fun c o c1 c2 c3 e => Heap.get?_push_of_some _ (hk c o c1 c2 c3 e)
theorem held_end {Q : Fin → Shared → Prop} (S : ZipSep2 z TI TO i1 i2 fp1 fp2) (D1 : Draws prog w A i1 fp1 n1 P1 St1) (D2 : Draws prog w A i2 fp2 n2 P2 St2)
    (hz : IsZipHeld s.heap z TI TO T f) (hT : s.heap.get? T = some oT) (hTI : IsTupOf2 s.heap TI (.ref i1) (.ref i2)) (st1 : St1 i s.heap) (st2 : St2 i s.heap) (hle1 : i ≤ n1) (hle2 : i ≤ n2) (hend : i = n1 ∨ i = n2)
    (hE : ∀ h' tk e, (∀ c o, c ≠ z → c ≠ i1 → c ≠ i2 → s.heap.get? c = some o → h'.get? c = some o) → (∃ o, h'.get? e = some o ∧ o.cls = .type "StopIteration") → E (.ref e) { s with heap := h', toks := tk }) :
    wpAny (model prog w) A (Builtin.«zip.__next__» ⟨[.ref z], []⟩) Q E s := by
  obtain ⟨hp, g, d, tk0, os⟩ := s
  show wpAny _ _ (field (.ref z) 2 >>= _) _ _ _
  refine wpAny_bind (wpAny_field hz rfl (x := .bool false) rfl ?_)
  show wpAny _ _ (field (.ref z) 3 >>= _) _ _ _
  refine wpAny_bind (wpAny_field hz rfl (x := .ref TI) rfl ?_)
  refine wpAny_bind (wpAny_seqItems hTI rfl ?_)
  show wpAny _ _ (Builtin.SmallTypes.ownedTupleIsFree (.ref z) >>= _) _ _ _
  refine wpAny_bind (wpAny_tupleHeld_zip hz hT fun h₁ hz₁ hs₁ => ?_)
  replace hs₁ : Heap.SameBut z hp h₁ := hs₁
  simp only [Bool.false_eq_true, if_false]
  refine wpAny_bind ?_
  rw [← Array.forIn_toList]
  simp only [List.forIn_cons, List.forIn_nil]
  refine wpAny_bind (wpAny_bind (wpAny_holding ?_))
  show wpAny _ _ (Builtin.SmallTypes.nextOf (.ref i1) >>= _) _ _ ⟨h₁, g, d, tk0, os⟩
  by_cases hlt1 : i < n1
  · refine wpAny_bind (D1.item i _ _ _ hlt1 (D1.over st1 hs₁ S.zf1) fun x1 p1 tk1 hx1 sn1 hp1 => wpAny_pure ?_)
    replace hp1 : Heap.SameBut i1 h₁ p1 := hp1
    have hi2 : i = n2 := by omega
    refine wpAny_pure ?_
    refine wpAny_bind (wpAny_bind (wpAny_holding ?_))
    show wpAny _ _ (Builtin.SmallTypes.nextOf (.ref i2) >>= _) _ _ ⟨p1, g, d, tk1, os⟩
    refine wpAny_bind (D2.done ⟨p1, g, d, tk1, os⟩ _ _ (by rw [← hi2]; exact D2.over (D2.over st2 hs₁ S.zf2) hp1 S.sep1_2) fun q e hq he => ?_)
    exact hE q tk1 e (fun c o c1 c2 c3 x => hq _ _ c3 (hp1.extBut _ _ c2 (hs₁.extBut _ _ c1 x))) he
  · have hi1 : i = n1 := by omega
    refine wpAny_bind (D1.done ⟨h₁, g, d, tk0, os⟩ _ _ (by rw [← hi1]; exact D1.over st1 hs₁ S.zf1) fun q e hq he => ?_)
    exact hE q tk0 e (fun c o c1 c2 c3 x => hq _ _ c2 (hs₁.extBut _ _ c1 x)) he
/-- where a zip over two drawn sequences stands: its own tuple free, or out -/
def ZSt (z TI TO i1 i2 d : Addr) (St1 St2 : Nat → Heap → Prop) (i : Nat) (h : Heap) : Prop :=
  IsTupOf2 h TI (.ref i1) (.ref i2) ∧ St1 i h ∧ St2 i h ∧ ((IsZip h z TI TO .none ∧ ∃ a b, IsTupOf2 h TO a b) ∨ ∃ T f oT, IsZipHeld h z TI TO T f ∧ h.get? T = some oT ∧ T ≠ z ∧ T ≠ i1 ∧ T ≠ i2 ∧ T ≠ d)
theorem next_item {d : Addr} {Q : Option Value → Shared → Prop} (S : ZipSep2 z TI TO i1 i2 fp1 fp2) (D1 : Draws prog w A.in1 i1 fp1 n1 P1 St1) (D2 : Draws prog w A.in1 i2 fp2 n2 P2 St2)
    (st : ZSt z TI TO i1 i2 d St1 St2 i s.heap) (hd : d < s.heap.objs.size) (hlt1 : i < n1) (hlt2 : i < n2)
    (hQ : ∀ x1 x2 h' tk, P1 i x1 → P2 i x2 → ZSt z TI TO i1 i2 d St1 St2 (i + 1) h' → IsTupOf2 h' s.heap.objs.size x1 x2 → h'.objs.size = s.heap.objs.size + 1 →
      (∀ c o, c ≠ z → c ≠ TO → c ≠ i1 → c ≠ i2 → s.heap.get? c = some o → h'.get? c = some o) → Q (some (.ref s.heap.objs.size)) { s with heap := h', toks := tk }) :
    wpAny (model prog w) A (pyNext (.ref z)) Q E s := by
  obtain ⟨hTI, st1, st2, hz⟩ := st
  have lt : ∀ {c o}, s.heap.get? c = some o → s.heap.objs.size ≠ c := fun e => Nat.ne_of_gt (Heap.lt_size e)
  have n1' : s.heap.objs.size ≠ i1 := let ⟨_, e⟩ := D1.live _ _ st1; lt e
  have n2' : s.heap.objs.size ≠ i2 := let ⟨_, e⟩ := D2.live _ _ st2; lt e
  rcases hz with ⟨hz, a, b, hTO⟩ | ⟨T, f, oT, hz, hT, r1, r2, r3, r4⟩
  · have hTy : s.TypeIs (.ref z) "zip" := ⟨_, hz, rfl⟩
    unfold pyNext
    refine wpAny_bind (wpAny_attempt (wpAny_callSpecial?_slot (name := Str.ofString "__next__") hTy F.slot_zip_next
      (wpAny_call_entry F.slot_zip_next hTy F.entry_zip_next (zipD2_next_item S D1 D2 hz hTI hTO st1 st2 hlt1 hlt2 fun x1 x2 h' tk p1 p2 a1 a2 a3 a4 a5 a6 hk => wpAny_pure ?_) (F.args_zip_next_1 _))))
    exact hQ x1 x2 h' tk p1 p2 ⟨hk _ _ S.TIz S.TITO S.TIi1 S.TIi2 hTI, a3, a4, .inr ⟨_, false, _, a1, a5, lt hz, n1', n2', Nat.ne_of_gt hd⟩⟩ a5 a6 hk
  · have hTy : s.TypeIs (.ref z) "zip" := ⟨_, hz, rfl⟩
    unfold pyNext
    refine wpAny_bind (wpAny_attempt (wpAny_callSpecial?_slot (name := Str.ofString "__next__") hTy F.slot_zip_next
      (wpAny_call_entry F.slot_zip_next hTy F.entry_zip_next (held_item S D1 D2 hz hT hTI st1 st2 hlt1 hlt2 fun x1 x2 h' tk p1 p2 a1 a3 a4 a5 a6 hk => wpAny_pure ?_) (F.args_zip_next_1 _))))
    exact hQ x1 x2 h' tk p1 p2 ⟨hk _ _ S.TIz S.TIi1 S.TIi2 hTI, a3, a4, .inr ⟨T, true, oT, a1, hk _ _ r1 r2 r3 hT, r1, r2, r3, r4⟩⟩ a5 a6 fun c o c1 _ c3 c4 e => hk c o c1 c3 c4 e
theorem next_end {d : Addr} {Q : Option Value → Shared → Prop} (S : ZipSep2 z TI TO i1 i2 fp1 fp2) (D1 : Draws prog w A.in1 i1 fp1 n1 P1 St1) (D2 : Draws prog w A.in1 i2 fp2 n2 P2 St2)
    (st : ZSt z TI TO i1 i2 d St1 St2 i s.heap) (hle1 : i ≤ n1) (hle2 : i ≤ n2) (hend : i = n1 ∨ i = n2)
    (hQ : ∀ h' tk, (∀ c o, c ≠ z → c ≠ TO → c ≠ i1 → c ≠ i2 → s.heap.get? c = some o → h'.get? c = some o) → Q none { s with heap := h', toks := tk }) :
    wpAny (model prog w) A (pyNext (.ref z)) Q E s := by
  obtain ⟨hTI, st1, st2, hz⟩ := st
  rcases hz with ⟨hz, a, b, hTO⟩ | ⟨T, f, oT, hz, hT, r1, r2, r3, r4⟩
  · have hTy : s.TypeIs (.ref z) "zip" := ⟨_, hz, rfl⟩
    unfold pyNext
    refine wpAny_bind (wpAny_attempt (wpAny_callSpecial?_slot (name := Str.ofString "__next__") hTy F.slot_zip_next
      (wpAny_call_entry F.slot_zip_next hTy F.entry_zip_next (zipD2_next_end S D1 D2 hz hTI hTO st1 st2 hle1 hle2 hend fun h' tk e hk he => ?_) (F.args_zip_next_1 _))))
    obtain ⟨o, ho, hc⟩ := he
    exact wpAny_bind (wpAny_isInstance (T := "StopIteration") (b := true) ⟨o, ho, hc⟩ isSubtype_stop (wpAny_pure (hQ _ _ hk)))
  · have hTy : s.TypeIs (.ref z) "zip" := ⟨_, hz, rfl⟩
    unfold pyNext
    refine wpAny_bind (wpAny_attempt (wpAny_callSpecial?_slot (name := Str.ofString "__next__") hTy F.slot_zip_next
      (wpAny_call_entry F.slot_zip_next hTy F.entry_zip_next (held_end S D1 D2 hz hT hTI st1 st2 hle1 hle2 hend fun h' tk e hk he => ?_) (F.args_zip_next_1 _))))
    obtain ⟨o, ho, hc⟩ := he
    exact wpAny_bind (wpAny_isInstance (T := "StopIteration") (b := true) ⟨o, ho, hc⟩ isSubtype_stop (wpAny_pure (hQ _ _ fun c o c1 _ c3 c4 e => hk c o c1 c3 c4 e)))
theorem ZSt.frame {d : Addr} {h h' : Heap} (D1 : Draws prog w A i1 fp1 n1 P1 St1) (D2 : Draws prog w A i2 fp2 n2 P2 St2) (st : ZSt z TI TO i1 i2 d St1 St2 i h) (hz : d ≠ z) (hTI : d ≠ TI) (hTO : d ≠ TO) (h1 : d ∉ fp1) (h2 : d ∉ fp2)
    (hk : ∀ b o, b ≠ d → h.get? b = some o → h'.get? b = some o) : ZSt z TI TO i1 i2 d St1 St2 i h' := by
  obtain ⟨a, b, c, e⟩ := st
  refine ⟨hk _ _ (Ne.symm hTI) a, D1.frame _ _ _ b fun x hx o e => hk x o (fun q => h1 (q ▸ hx)) e, D2.frame _ _ _ c fun x hx o e => hk x o (fun q => h2 (q ▸ hx)) e, ?_⟩
  rcases e with ⟨z1, x, y, z2⟩ | ⟨T, f, oT, z1, z2, r1, r2, r3, r4⟩
  · exact .inl ⟨hk _ _ (Ne.symm hz) z1, x, y, hk _ _ (Ne.symm hTO) z2⟩
  · exact .inr ⟨T, f, oT, hk _ _ (Ne.symm hz) z1, hk _ _ r4 z2, r1, r2, r3, r4⟩
end
/-! dict(zip(..)) -/
section
variable {prog : Program} {w : World} {z TI TO i1 i2 : Addr} {fp1 fp2 : List Addr} {n1 n2 : Nat} {P1 P2 : Nat → Value → Prop} {St1 St2 : Nat → Heap → Prop}
theorem pairArg (S : ZipSep2 z TI TO i1 i2 fp1 fp2) (D1 : ∀ A : Around, A.handled = none → Draws prog w A i1 fp1 n1 P1 St1) (D2 : ∀ A : Around, A.handled = none → Draws prog w A i2 fp2 n2 P2 St2)
    (f1 : ∀ i h h', St1 i h → (∀ b ∈ fp1, ∀ o, h.get? b = some o → h'.get? b = some o) → St1 i h') (f2 : ∀ i h h', St2 i h → (∀ b ∈ fp2, ∀ o, h.get? b = some o → h'.get? b = some o) → St2 i h') (l1 : ∀ h, St1 0 h → ∀ b ∈ fp1, ∃ o, h.get? b = some o) (l2 : ∀ h, St2 0 h → ∀ b ∈ fp2, ∃ o, h.get? b = some o) :
    PairArg prog w "zip" z (z :: TI :: TO :: (fp1 ++ fp2)) [z, TO, i1, i2] (min n1 n2) (fun i k v => P1 i k ∧ P2 i v) (fun h => IsTupOf2 h TI (.ref i1) (.ref i2) ∧ St1 0 h ∧ St2 0 h ∧ IsZip h z TI TO .none ∧ ∃ a b, IsTupOf2 h TO a b) where
  type := fun s ok => ⟨_, ok.2.2.2.1, rfl⟩
  notDict := by decide
  keep := fun h h' ok hk => by
    obtain ⟨a, b, c, e, x, y, f⟩ := ok
    exact ⟨hk _ _ a, f1 _ _ _ b fun b _ o e => hk b o e, f2 _ _ _ c fun b _ o e => hk b o e, hk _ _ e, x, y, hk _ _ f⟩
  there := fun h ok b hb => by
    obtain ⟨a, b', c, e, x, y, f⟩ := ok
    simp only [List.mem_cons, List.mem_append] at hb
    rcases hb with rfl | rfl | rfl | hb | hb
    · exact ⟨_, e⟩
    · exact ⟨_, a⟩
    · exact ⟨_, f⟩
    · exact l1 h b' b hb
    · exact l2 h c b hb
  sub := fun b hb => by
    simp only [List.mem_cons, List.not_mem_nil, or_false] at hb
    have m1 := S.mem1
    have m2 := S.mem2
    rcases hb with rfl | rfl | rfl | rfl
    · exact List.mem_cons_self
    · exact List.mem_cons_of_mem _ (List.mem_cons_of_mem _ List.mem_cons_self)
    · exact List.mem_cons_of_mem _ (List.mem_cons_of_mem _ (List.mem_cons_of_mem _ (List.mem_append_left _ m1)))
    · exact List.mem_cons_of_mem _ (List.mem_cons_of_mem _ (List.mem_cons_of_mem _ (List.mem_append_right _ m2)))
  noKeys := fun A s Q E hA ok h => getAttrOr_miss_zip ok.2.2.2.1 rfl rfl rfl zip_no_keys (by decide +kernel) hA h
  iter := fun A s d Q E hA ok hd hdf h => by
    obtain ⟨a, b', c, e, x, y, f⟩ := ok
    simp only [List.mem_cons, List.mem_append, not_or] at hdf
    obtain ⟨dz, dTI, dTO, d1, d2⟩ := hdf
    have hA1 : A.in1.handled = none := hA
    refine wpAny_pyIter_zip e (h z [z, TO, i1, i2] (ZSt z TI TO i1 i2 d St1 St2) s.heap s.toks ?_ ⟨a, b', c, .inl ⟨e, x, y, f⟩⟩ (fun _ _ e => e) fun b hb => .inl hb)
    exact {
      off := fun hm => by
        simp only [List.mem_cons, List.not_mem_nil, or_false] at hm
        rcases hm with q | q | q | q
        · exact dz q
        · exact dTO q
        · exact d1 (q ▸ S.mem1)
        · exact d2 (q ▸ S.mem2)
      frame := fun i h₁ h₂ st hk => st.frame (D1 A.in1 hA1) (D2 A.in1 hA1) dz dTI dTO d1 d2 hk
      item := fun i s₁ Q₁ E₁ hi st hds hQ => by
        refine next_item S (D1 A.in1 hA1) (D2 A.in1 hA1) st hds (by omega) (by omega) fun x1 x2 h' tk p1 p2 st' hT _ hk => ?_
        exact hQ s₁.heap.objs.size x1 x2 h' tk ⟨p1, p2⟩ (.inl ⟨_, hT, rfl, _, rfl⟩) st' fun b o hb e => hk b o (fun q => hb (by simp [q])) (fun q => hb (by simp [q])) (fun q => hb (by simp [q])) (fun q => hb (by simp [q])) e
      done := fun s₁ Q₁ E₁ st hQ => next_end S (D1 A.in1 hA1) (D2 A.in1 hA1) st (by omega) (by omega) (by omega) fun h' tk hk => hQ h' tk fun b o hb e => hk b o (fun q => hb (by simp [q])) (fun q => hb (by simp [q])) (fun q => hb (by simp [q])) (fun q => hb (by simp [q])) e }
end
/-! list(zip(..)) -/
section
variable {prog : Program} {w : World} {A : Around} {z TI TO i1 i2 : Addr} {fp1 fp2 : List Addr} {n1 n2 : Nat} {P1 P2 : Nat → Value → Prop} {St1 St2 : Nat → Heap → Prop} {R : Result → Shared → Prop}
/-- what the list holds: references of pairs -/
def Prs (P1 P2 : Nat → Value → Prop) (h : Heap) (acc : Array Value) (i : Nat) : Prop := acc.size = i ∧ ∀ j v, acc[j]? = some v → ∃ T x y, v = .ref T ∧ P1 j x ∧ P2 j y ∧ IsTupOf2 h T x y
theorem Prs.keep {h h' : Heap} {acc : Array Value} {i : Nat} (p : Prs P1 P2 h acc i) (k : ∀ T x y, IsTupOf2 h T x y → IsTupOf2 h' T x y) : Prs P1 P2 h' acc i := ⟨p.1, fun j v e => by
  obtain ⟨T, x, y, e1, e2, e3, e4⟩ := p.2 j v e
  exact ⟨T, x, y, e1, e2, e3, k T x y e4⟩⟩
/-- the pairs made are none of the zip's own cells -/
theorem ZSt.live {d : Addr} {i : Nat} {h : Heap} (D1 : Draws prog w A i1 fp1 n1 P1 St1) (D2 : Draws prog w A i2 fp2 n2 P2 St2) (st : ZSt z TI TO i1 i2 d St1 St2 i h) : (∃ o, h.get? z = some o ∧ o.cls = .type "zip") ∧ (∃ o, h.get? i1 = some o) ∧ ∃ o, h.get? i2 = some o := by
  obtain ⟨_, b, c, e⟩ := st
  refine ⟨?_, D1.live _ _ b, D2.live _ _ c⟩
  rcases e with ⟨e, _⟩ | ⟨T, f, oT, e, _⟩
  · exact ⟨_, e, rfl⟩
  · exact ⟨_, e, rfl⟩
theorem ext_loop (S : ZipSep2 z TI TO i1 i2 fp1 fp2) (D1 : Draws prog w A.in1.in1 i1 fp1 n1 P1 St1) (D2 : Draws prog w A.in1.in1 i2 fp2 n2 P2 St2) (L : Addr) (hz : L ≠ z) (hTI : L ≠ TI) (hTO : L ≠ TO) (h1 : L ∉ fp1) (h2 : L ∉ fp2) (hn : min n1 n2 ≤ sizeLine) (res : Value) (N : Nat) (hN : z < N ∧ TO < N ∧ i1 < N ∧ i2 < N ∧ L < N) :
    ∀ (k i : Nat) (s : Shared) (acc : Array Value) (c : Nat), min n1 n2 - i = k → i ≤ min n1 n2 → N ≤ s.heap.objs.size → ZSt z TI TO i1 i2 L St1 St2 i s.heap → s.heap.get? L = some { cls := .type "list", dict := none, data := .seq acc c, slots := #[] } → Prs P1 P2 s.heap acc i → (∀ (j : Nat) (v : Value), acc[j]? = some v → ∃ T : Addr, v = Value.ref T ∧ N ≤ T) →
    (∀ h' tk acc' c', (∀ b o, b ≠ L → b ≠ z → b ≠ TO → b ≠ i1 → b ≠ i2 → s.heap.get? b = some o → h'.get? b = some o) → h'.get? L = some { cls := .type "list", dict := none, data := .seq acc' c', slots := #[] } → Prs P1 P2 h' acc' (min n1 n2) → R (.ok (.ret res)) { s with heap := h', toks := tk }) →
    codeAny (model prog w) A (.builtin "list.extend.loop" ⟨[.ref L, .ref z, res], []⟩) R s := by
  have hi1 : L ≠ i1 := fun e => h1 (e ▸ S.mem1)
  have hi2 : L ≠ i2 := fun e => h2 (e ▸ S.mem2)
  intro k
  induction k with
  | zero =>
    intro i s acc c hk hi hN' st hS hacc hT hR
    have hin : i = min n1 n2 := by omega
    subst hin
    refine codeAny_builtin F.entry_extend_loop ?_
    rw [Around.under_plainId F.plain_extend_loop _]
    show wpAny _ A.in1 (pyNext (.ref z) >>= _) _ _ s
    refine wpAny_bind (next_end S D1 D2 st (by omega) (by omega) (by omega) fun h' tk hk => ?_)
    refine wpAny_pure (hR h' tk acc c (fun b o _ b1 b2 b3 b4 e => hk b o b1 b2 b3 b4 e) (hk _ _ hz hTO hi1 hi2 hS) ⟨hacc.1, fun j v e => ?_⟩)
    obtain ⟨T, x, y, e1, e2, e3, e4⟩ := hacc.2 j v e
    obtain ⟨T', e5, e6⟩ := hT j v e
    rw [e1] at e5
    cases e5
    exact ⟨T, x, y, e1, e2, e3, hk _ _ (Nat.ne_of_gt (Nat.lt_of_lt_of_le hN.1 e6)) (Nat.ne_of_gt (Nat.lt_of_lt_of_le hN.2.1 e6)) (Nat.ne_of_gt (Nat.lt_of_lt_of_le hN.2.2.1 e6)) (Nat.ne_of_gt (Nat.lt_of_lt_of_le hN.2.2.2.1 e6)) e4⟩
  | succ k ih =>
    intro i s acc c hk hi hN' st hS hacc hT hR
    have hlt : i < min n1 n2 := by omega
    refine codeAny_builtin F.entry_extend_loop ?_
    rw [Around.under_plainId F.plain_extend_loop _]
    show wpAny _ A.in1 (pyNext (.ref z) >>= _) _ _ s
    refine wpAny_bind (next_item S D1 D2 st (Nat.lt_of_lt_of_le hN.2.2.2.2 hN') (by omega) (by omega) fun x1 x2 h' tk p1 p2 st' hT' hsz hk' => ?_)
    have hS' := hk' _ _ hz hTO hi1 hi2 hS
    show wpAny _ A.in1 (updateSeq L (·.push (Value.ref s.heap.objs.size)) >>= _) _ _ _
    refine wpAny_bind ?_
    have other : ∀ b o, b ≠ L → h'.get? b = some o → (h'.update L (Obj.mapSeq (·.push (Value.ref s.heap.objs.size)))).get? b = some o := fun b o hb e => (Heap.get?_update_other _ _ (Ne.symm hb)).trans e
    have szu : (h'.update L (Obj.mapSeq (·.push (Value.ref s.heap.objs.size)))).objs.size = h'.objs.size := (Heap.SameBut.update ..).1
    refine wpAny_updateSeq hS' rfl (wpAny_pure ⟨plainId_quiet F.plain_extend_loop _, ih (i + 1) ⟨h'.update L (Obj.mapSeq (·.push (Value.ref s.heap.objs.size))), s.gens, s.drawn, tk, s.os⟩ (acc.push (.ref s.heap.objs.size)) _ (by omega) hlt (by show N ≤ _; rw [szu, hsz]; omega) (st'.frame D1 D2 hz hTI hTO h1 h2 other) (Heap.get?_update_self _ hS' rfl) ⟨by rw [Array.size_push, hacc.1], fun j v hj => ?_⟩ (fun j v hj => ?_) fun h'' tk'' acc' c' hk'' hS'' hacc' => ?_⟩) (by rw [hacc.1]; omega) (by show (acc.push (Value.ref s.heap.objs.size)).size ≤ sizeLine + 1; rw [Array.size_push, hacc.1]; omega)
    · rw [Array.getElem?_push] at hj
      split at hj
      · rename_i e
        rw [hacc.1] at e
        cases hj
        refine ⟨_, x1, x2, rfl, e ▸ p1, e ▸ p2, other _ _ (Nat.ne_of_gt (Nat.lt_of_lt_of_le hN.2.2.2.2 hN')) hT'⟩
      · obtain ⟨T, x, y, e1, e2, e3, e4⟩ := hacc.2 j v hj
        obtain ⟨T', e5, e6⟩ := hT j v hj
        rw [e1] at e5
        cases e5
        exact ⟨T, x, y, e1, e2, e3, other _ _ (Nat.ne_of_gt (Nat.lt_of_lt_of_le hN.2.2.2.2 e6)) (hk' _ _ (Nat.ne_of_gt (Nat.lt_of_lt_of_le hN.1 e6)) (Nat.ne_of_gt (Nat.lt_of_lt_of_le hN.2.1 e6)) (Nat.ne_of_gt (Nat.lt_of_lt_of_le hN.2.2.1 e6)) (Nat.ne_of_gt (Nat.lt_of_lt_of_le hN.2.2.2.1 e6)) e4)⟩
    · rw [Array.getElem?_push] at hj
      split at hj
      · cases hj
        exact ⟨_, rfl, hN'⟩
      · exact hT j v hj
    · exact hR h'' tk'' acc' c' (fun b o bL b1 b2 b3 b4 e => hk'' b o bL b1 b2 b3 b4 (other b o bL (hk' b o b1 b2 b3 b4 e))) hS'' hacc'

theorem zip_no_len : typeLookup (.type "zip") "__len__" = pure none := am_miss_of_fast (by decide +kernel)
theorem zip_no_hint : typeLookup (.type "zip") "__length_hint__" = pure none := am_miss_of_fast (by decide +kernel)
end
section
variable {prog : Program} {w : World} {A : Around} {E : Value → Shared → Prop} {s : Shared} {z TI TO i1 i2 : Addr} {fp1 fp2 : List Addr} {n1 n2 : Nat} {P1 P2 : Nat → Value → Prop} {St1 St2 : Nat → Heap → Prop}
theorem call_list_zip {Q : Value → Shared → Prop} (S : ZipSep2 z TI TO i1 i2 fp1 fp2) (D1 : Draws prog w A.in1.in1.in1 i1 fp1 n1 P1 St1) (D2 : Draws prog w A.in1.in1.in1 i2 fp2 n2 P2 St2) (hn : min n1 n2 ≤ sizeLine) (hzf : IsZip s.heap z TI TO .none)
    (st : ∀ h, (∀ b o, s.heap.get? b = some o → h.get? b = some o) → ZSt z TI TO i1 i2 s.heap.objs.size St1 St2 0 h) (hfp : ∀ b ∈ z :: TI :: TO :: (fp1 ++ fp2), b < s.heap.objs.size)
    (hQ : ∀ h' tk acc c', (∀ b o, b ≠ z → b ≠ TO → b ≠ i1 → b ≠ i2 → s.heap.get? b = some o → h'.get? b = some o) → h'.get? s.heap.objs.size = some { cls := .type "list", dict := none, data := .seq acc c', slots := #[] } → Prs P1 P2 h' acc (min n1 n2) → Q (.ref s.heap.objs.size) { s with heap := h', toks := tk }) :
    wpAny (model prog w) A (call (.type "list") [.ref z]) Q E s := by
  have lt : ∀ {b}, b ∈ z :: TI :: TO :: (fp1 ++ fp2) → s.heap.objs.size ≠ b := fun hb => Nat.ne_of_gt (hfp _ hb)
  have lz : s.heap.objs.size ≠ z := lt List.mem_cons_self
  have lTI : s.heap.objs.size ≠ TI := lt (List.mem_cons_of_mem _ List.mem_cons_self)
  have lTO : s.heap.objs.size ≠ TO := lt (List.mem_cons_of_mem _ (List.mem_cons_of_mem _ List.mem_cons_self))
  have l1 : s.heap.objs.size ∉ fp1 := fun h => lt (List.mem_cons_of_mem _ (List.mem_cons_of_mem _ (List.mem_cons_of_mem _ (List.mem_append_left _ h)))) rfl
  have l2 : s.heap.objs.size ∉ fp2 := fun h => lt (List.mem_cons_of_mem _ (List.mem_cons_of_mem _ (List.mem_cons_of_mem _ (List.mem_append_right _ h)))) rfl
  have st0 := st s.heap (fun _ _ e => e)
  refine callType_codes (Q₁ := fun obj s₁ => obj = .ref s.heap.objs.size ∧ s₁ = { s with heap := s.heap.push { cls := .type "list", data := .seq #[] } }) F.called_list (F.typeCall_list_1 _) F.entry_list_init (code_list_new _ ⟨rfl, rfl⟩) fun obj s₁ h₁ => ?_
  obtain ⟨rfl, rfl⟩ := h₁
  have hS : (s.heap.push { cls := .type "list", data := .seq #[] }).get? s.heap.objs.size = some { cls := .type "list", data := .seq #[] } := Heap.get?_push_size _ rfl
  refine ⟨⟨_, hS, rfl⟩, F.args_list_init_2 _ _, ?_⟩
  generalize hp1 : s.heap.push { cls := .type "list", data := .seq #[] } = h1 at *
  have k1 : ∀ b o, s.heap.get? b = some o → h1.get? b = some o := fun b o e => by rw [← hp1]; exact Heap.get?_push_of_some _ e
  have sz1 : h1.objs.size = s.heap.objs.size + 1 := by rw [← hp1]; exact Heap.size_push ..
  show wpAny _ A.in1.in1 (do let old ← Builtin.List.listItems (.ref s.heap.objs.size); Builtin.List.listUpdate (.ref s.heap.objs.size) (fun _ => #[]); letGo old.toList.reverse; Builtin.List.listExtendWith (.ref s.heap.objs.size) (.ref z) .none) _ _ _
  refine wpAny_bind ?_
  unfold Builtin.List.listItems
  refine wpAny_bind (wpAny_seqItems hS rfl (wpAny_pure ?_))
  show wpAny _ A.in1.in1 (updateSeq s.heap.objs.size (fun _ => #[]) >>= fun _ => letGo (#[] : Array Value).toList.reverse >>= fun _ => Builtin.List.listExtendWith (.ref s.heap.objs.size) (.ref z) .none) _ _ _
  refine wpAny_bind (wpAny_updateSeq hS rfl ?_)
  have hS₂ := Heap.get?_update_self (Obj.mapSeq (fun _ => (#[] : Array Value))) hS rfl
  have oth : ∀ b o, b ≠ s.heap.objs.size → h1.get? b = some o → (h1.update s.heap.objs.size (Obj.mapSeq (fun _ => (#[] : Array Value)))).get? b = some o :=
    fun b o hb e => (Heap.get?_update_other _ _ (Ne.symm hb)).trans e
  have sz2 : (h1.update s.heap.objs.size (Obj.mapSeq (fun _ => (#[] : Array Value)))).objs.size = h1.objs.size := (Heap.SameBut.update ..).1
  refine wpAny_bind (wpAny_letGo ?_)
  generalize h1.update s.heap.objs.size (Obj.mapSeq (fun _ => (#[] : Array Value))) = h2 at *
  have k2 : ∀ b o, s.heap.get? b = some o → h2.get? b = some o := fun b o e => oth b o (Nat.ne_of_lt (Heap.lt_size e)) (k1 b o e)
  have hT : ∀ h, (∀ b o, s.heap.get? b = some o → h.get? b = some o) → Shared.TypeIs ⟨h, s.gens, s.drawn, s.toks, s.os⟩ (.ref z) "zip" := fun h k => by
    obtain ⟨o, e1, e2⟩ := (ZSt.live D1 D2 (st h k)).1
    exact ⟨o, e1, e2⟩
  unfold Builtin.List.listExtendWith
  refine wpAny_bind (wpAny_typeOf (hT h2 k2) ?_)
  have q1 : Builtin.List.listSameRef (.ref s.heap.objs.size) (.ref z) = false := by simp [Builtin.List.listSameRef, lz]
  have q2 : (Value.type "zip" == Value.type "list") = false := by decide
  have q3 : (Value.type "zip" == Value.type "tuple") = false := by decide
  simp only [q1, q2, q3, Bool.or_false, Bool.false_eq_true, if_false]
  have self : ∀ {Q' : Value → Shared → Prop} {E' : Value → Shared → Prop} {A' : Around}, Q' (.ref z) ⟨h2, s.gens, s.drawn, s.toks, s.os⟩ → wpAny (model prog w) A' (pyIter (.ref z)) Q' E' ⟨h2, s.gens, s.drawn, s.toks, s.os⟩ := fun {Q' E' A'} q => by
    exact wpAny_pyIter_zip (k2 _ _ hzf) q
  refine wpAny_bind (self ?_)
  refine wpAny_bind (wpAny_holding ?_)
  unfold Builtin.List.listLengthHint
  refine wpAny_bind (wpAny_specialOf (hT h2 k2) zip_no_len ?_)
  show wpAny _ A.in1.in1 (specialOf (Value.ref z) (Str.ofString "__length_hint__") >>= _) _ _ _
  refine wpAny_bind (wpAny_specialOf (hT h2 k2) zip_no_hint ?_)
  refine wpAny_pure ?_
  show wpAny _ A.in1.in1 (rule "list.extend.makes-room" >>= fun _ => Builtin.List.listTouch (.ref s.heap.objs.size) >>= fun _ =>
    again (.builtin "list.extend.loop" ⟨[.ref s.heap.objs.size, .ref z, .none], []⟩)) _ _ _
  refine wpAny_bind (wpAny_rule ?_)
  refine wpAny_bind ?_
  show wpAny _ A.in1.in1 (updateSeq s.heap.objs.size (·.push .none) >>= fun _ => updateSeq s.heap.objs.size (·.pop)) _ _ _
  refine wpAny_bind (wpAny_updateSeq hS₂ rfl ?_)
  have hS₃ := Heap.get?_update_self (Obj.mapSeq (·.push Value.none)) hS₂ rfl
  refine wpAny_updateSeq (hz := by seq_fits) hS₃ rfl ?_
  have hS₄ := Heap.get?_update_self (Obj.mapSeq (·.pop)) hS₃ rfl
  have oth3 : ∀ b o, b ≠ s.heap.objs.size → h2.get? b = some o → ((h2.update s.heap.objs.size (Obj.mapSeq (·.push Value.none))).update s.heap.objs.size (Obj.mapSeq (·.pop))).get? b = some o :=
    fun b o hb e => (Heap.get?_update_other _ _ (Ne.symm hb)).trans ((Heap.get?_update_other _ _ (Ne.symm hb)).trans e)
  have sz3 : ((h2.update s.heap.objs.size (Obj.mapSeq (·.push Value.none))).update s.heap.objs.size (Obj.mapSeq (·.pop))).objs.size = h2.objs.size := (Heap.SameBut.update ..).1.trans (Heap.SameBut.update ..).1
  have k3 : ∀ b o, s.heap.get? b = some o → ((h2.update s.heap.objs.size (Obj.mapSeq (·.push Value.none))).update s.heap.objs.size (Obj.mapSeq (·.pop))).get? b = some o := fun b o e => oth3 b o (Nat.ne_of_lt (Heap.lt_size e)) (k2 b o e)
  refine wpAny_pure ⟨plainId_quiet F.plain_extend_loop _, ext_loop S D1 D2 s.heap.objs.size lz lTI lTO l1 l2 hn _ (s.heap.objs.size + 1) ⟨?_, ?_, ?_, ?_, Nat.lt_succ_self _⟩ _ 0 ⟨_, s.gens, s.drawn, s.toks, s.os⟩ #[] _ rfl (Nat.zero_le _) (by show s.heap.objs.size + 1 ≤ _; rw [sz3, sz2, sz1]; exact Nat.le_refl _) (st _ k3) hS₄ ⟨rfl, fun j v e => by simp at e⟩ (fun j v e => by simp at e) fun h' tk acc' c' hk hS' hacc => ?_⟩
  · exact Nat.lt_succ_of_lt (hfp _ List.mem_cons_self)
  · exact Nat.lt_succ_of_lt (hfp _ (List.mem_cons_of_mem _ (List.mem_cons_of_mem _ List.mem_cons_self)))
  · exact Nat.lt_succ_of_lt (hfp _ (List.mem_cons_of_mem _ (List.mem_cons_of_mem _ (List.mem_cons_of_mem _ (List.mem_append_left _ S.mem1)))))
  · exact Nat.lt_succ_of_lt (hfp _ (List.mem_cons_of_mem _ (List.mem_cons_of_mem _ (List.mem_cons_of_mem _ (List.mem_append_right _ S.mem2)))))
  · exact ⟨rfl, hQ h' tk acc' c' (fun b o b1 b2 b3 b4 e => hk b o (Nat.ne_of_lt (Heap.lt_size e)) b1 b2 b3 b4 (k3 b o e)) hS' hacc⟩
end
end Zx


/-! ## Hk10 -/
set_option Elab.async false
set_option linter.all false
set_option maxRecDepth 100000
set_option maxHeartbeats 1000000
namespace Hf
open PySem PySem.Spec PyProof.Rows L2 RZ
/-! ### dict(zip(t, t)), dict(list(zip(l, t))) -/
def tDz (q1 : Hp → Addr → List V → Prop) (K : PySem.W.Frag) (t : TA) : TE := fun σ H Q => t σ H fun vs H1 => ∃ (a b : Addr) (kvs : List (L2.Key × V)), vs = [.ref a, .ref b] ∧ q1 H1 a (kvs.map fun kv => kV kv.1) ∧ SqT K H1 b (kvs.map fun kv => kv.2) ∧ kvs.length ≤ 1000 ∧ ∀ p, H1 p = none → Q (.ref p) (upd H1 p (.dK (mergeK [] kvs)))
theorem rel_keys {us : List Value} : ∀ {kvs : List (L2.Key × V)}, Vals (kvs.map fun kv => kV kv.1) us → ∀ (P : Program) (w : World) (i : Nat) (u : Value), us[i]? = some u → ∃ kv, kvs[i]? = some kv ∧ (mixKind P w).is kv.1 u = true := by
  intro kvs r P w i u hu
  have hl := r.length
  rw [List.length_map] at hl
  have hi := (List.getElem?_eq_some_iff.mp hu).1
  obtain ⟨u', h1, h2⟩ := r.get (i := i) (x := kV (kvs[i]'(by omega)).1) (by rw [List.getElem?_map, List.getElem?_eq_getElem (by omega)]; rfl)
  rw [hu] at h1
  cases h1
  exact ⟨_, List.getElem?_eq_getElem (by omega), kV_is h2⟩
theorem kv_zip {kvs : List (L2.Key × V)} {us : List Value} (r : Vals (kvs.map fun kv => kv.2) us) : KV kvs ((kvs.map fun kv => kv.1).zip us) := by
  unfold KV
  induction kvs generalizing us with
  | nil => cases r; exact .nil
  | cons kv t ih =>
    cases r with
    | cons h r => exact .cons ⟨rfl, h⟩ (ih r)
section
variable {X : Cx} {p p2 pos pos2 : Pos} {e1 e2 : Expr} {t : TA}
theorem dict_end {pins : List (Addr × Obj)} {σ : L2.St} {H1 : Hp} {s1 : Shared} {h2 : Heap} {tk : Nat} {Q : VK} {kvs : List (L2.Key × V)} {us : List Value} {D : Addr} (I : Inv X pins σ H1 s1) (hz : kvs.length ≤ 1000) (r : Vals (kvs.map fun kv => kv.2) us)
    (k : ∀ b o, s1.heap.get? b = some o → h2.get? b = some o) (hD : s1.heap.objs.size ≤ D) (hd : h2.DictOf (mixKind X.prog X.w) D (merged [] ((kvs.map fun kv => kv.1).zip us))) (q : ∀ p, H1 p = none → Q (.ref p) (upd H1 p (.dK (mergeK [] kvs)))) :
    EP X pins σ Q (.ref D) { s1 with heap := h2, toks := tk } := by
  have hm : (D == sysModules) = false := beq_eq_false_iff_ne.mpr (Nat.ne_of_gt (Nat.lt_of_lt_of_le I.big hD))
  have hlen : (mergeK [] kvs).length ≤ sizeLine := Nat.le_trans (length_mergeK kvs []) (by rw [List.length_nil, Nat.zero_add, sizeLine_eq]; omega)
  exact ⟨.ref D, upd H1 D (.dK (mergeK [] kvs)), I.laid (t' := tk) k hD (show ObjOk X.prog X.w _ _ _ (.dK (mergeK [] kvs)) from ⟨hlen, hm, merged [] ((kvs.map fun kv => kv.1).zip us), KV.merge (kv_zip r) .nil, hd⟩), rfl, q _ (I.hok.fresh hD)⟩
theorem pk_dictz (T : Bt X.mg) (hc : X.calm = true) (ha : PA X [e1, e2] t) (hg : Gl X "dict" := by rfl) (hg2 : Gl X "zip" := by rfl)
    (hs : starEach [e1, e2] X.env = (false, eval e1 X.env) :: starEach [e2] X.env := by rfl) (hpl : (backTo pos2 (starEach [e2] X.env)).any (·.1) = false := by rfl) :
    PE X (.Call (.Name "dict" p) [.Call (.Name "zip" p2) [e1, e2] [] pos2] [] pos) (tDz (SqT X.K) X.K t) := by
  refine ⟨fun pins s σ H Q I h => ?_⟩
  refine wpAny_Call_Name_kw (ld_blt I hg T.dict PyProof.Rows.boot_dict ?_ (by decide) (by decide))
  refine PyProof.Rows.callWith_type1 (e := .Call (.Name "zip" p2) [e1, e2] [] pos2) ?_ (by rfl) (by rfl)
  refine Calls.spliced_cons ?_
  refine Call_ (ld_blt (I.tok _) hg2 T.zip PyProof.Rows.boot_zip (PyProof.Rows.callWith_type1 (thn (ha.run pos2 pins _ σ H _ (I.tok _) h) fun us s1 ⟨vs, H1, I1, r1, a, b, kvs, ev, ha', hb', hz, q⟩ => ?_) hs hpl))
  subst ev
  cases r1 with
  | cons r rr =>
    cases rr with
    | cons r' rr =>
      cases rr
      cases r
      cases r'
      obtain ⟨its, rv, p1, _⟩ := I1.tuple ha'
      obtain ⟨its2, rv2, p2', _⟩ := I1.tuple hb'
      obtain ⟨o1, ho1, _⟩ := id p1
      obtain ⟨o2, ho2, _⟩ := id p2'
      have la := Heap.lt_size ho1
      have lb := Heap.lt_size ho2
      have len1 := rv.length
      have len2 := rv2.length
      rw [List.length_map] at len1 len2
      refine zip_begins2 (begins_tuple a its.toArray) (begins_tuple b its2.toArray) (show s1.heap.IsTuple a its.toArray from p1) (show s1.heap.IsTuple b its2.toArray from p2') fun h' g1 g2 g3 g4 g5 g6 hk => ?_
      refine wpAny_pure ?_
      have S := zip_sep2 (N := s1.heap.objs.size) (fp1 := [a]) (fp2 := [b]) (fun x hx => by rw [List.mem_singleton.mp hx]; exact la) (fun x hx => by rw [List.mem_singleton.mp hx]; exact lb)
      have D1 : ∀ A : Around, A.handled = none → Draws X.prog X.w A s1.heap.objs.size [s1.heap.objs.size, a] its.toArray.size (fun i v => its.toArray[i]? = some v) (fun i h => h.IsTupleIter s1.heap.objs.size a i ∧ h.IsTuple a its.toArray) := fun A hA => Draws.tuple hA _ _ (Nat.ne_of_lt la) _
      have D2 : ∀ A : Around, A.handled = none → Draws X.prog X.w A (s1.heap.objs.size + 1) [s1.heap.objs.size + 1, b] its2.toArray.size (fun i v => its2.toArray[i]? = some v) (fun i h => h.IsTupleIter (s1.heap.objs.size + 1) b i ∧ h.IsTuple b its2.toArray) := fun A hA => Draws.tuple hA _ _ (Nat.ne_of_lt (Nat.lt_succ_of_lt lb)) _
      have hh := I1.ok.hd hc
      refine call_dict_pairs (knd := mixKind X.prog X.w) (kvs := (kvs.map fun kv => kv.1).zip its2) (Zx.pairArg S D1 D2 (fun i h h' st hk => (D1 X.A hh).frame i h h' st hk) (fun i h h' st hk => (D2 X.A hh).frame i h h' st hk) (fun h st x hx => ?_) (fun h st x hx => ?_)) hh ⟨g2, ⟨⟨_, g4, rfl, rfl⟩, ?_⟩, ⟨⟨_, g5, rfl, rfl⟩, ?_⟩, g1, _, _, g3⟩ ⟨?_, fun i key v hr => ?_⟩ ?_ fun h2 tk hd hk2 => ?_
      · obtain ⟨⟨o, e, _⟩, ⟨o', e', _⟩⟩ := st
        simp only [List.mem_cons, List.not_mem_nil, or_false] at hx
        rcases hx with rfl | rfl
        · exact ⟨_, e⟩
        · exact ⟨_, e'⟩
      · obtain ⟨⟨o, e, _⟩, ⟨o', e', _⟩⟩ := st
        simp only [List.mem_cons, List.not_mem_nil, or_false] at hx
        rcases hx with rfl | rfl
        · exact ⟨_, e⟩
        · exact ⟨_, e'⟩
      · exact (show s1.heap.IsTuple a its.toArray from p1).at fun o e => hk _ o e
      · exact (show s1.heap.IsTuple b its2.toArray from p2').at fun o e => hk _ o e
      · rw [List.length_zip, List.length_map, List.size_toArray, List.size_toArray]; omega
      · obtain ⟨h1, h2⟩ := hr
        have h1' : its[i]? = some key := by simpa using h1
        have h2' : its2[i]? = some v := by simpa using h2
        obtain ⟨kv, e3, e4⟩ := rel_keys rv X.prog X.w i key h1'
        refine ⟨kv.1, ?_, e4⟩
        rw [List.getElem?_zip_eq_some]
        exact ⟨by rw [List.getElem?_map, e3]; rfl, h2'⟩
      · rw [List.size_toArray, List.size_toArray, sizeLine_eq]; omega
      · have fin : EP X pins σ Q (.ref h'.objs.size) { s1 with heap := h2, toks := tk } := dict_end I1 hz rv2 (fun x o e => by
          have := Heap.lt_size e
          refine hk2 x o ?_ (hk x o e)
          simp only [List.mem_cons, List.not_mem_nil, or_false, not_or]
          exact ⟨Nat.ne_of_lt (Nat.lt_of_lt_of_le this (Nat.le_add_right _ _)), Nat.ne_of_lt (Nat.lt_of_lt_of_le this (Nat.le_add_right _ _)), Nat.ne_of_lt this, Nat.ne_of_lt (Nat.lt_of_lt_of_le this (Nat.le_add_right _ _))⟩) (by rw [g6]; omega) hd q
        exact fin
theorem pk_dictlz (T : Bt X.mg) (hc : X.calm = true) (ha : PA X [e1, e2] t) {p3 pos3 : Pos} (hg : Gl X "dict" := by rfl) (hg3 : Gl X "list" := by rfl) (hg2 : Gl X "zip" := by rfl)
    (hs : starEach [e1, e2] X.env = (false, eval e1 X.env) :: starEach [e2] X.env := by rfl) (hpl : (backTo pos2 (starEach [e2] X.env)).any (·.1) = false := by rfl) :
    PE X (.Call (.Name "dict" p) [.Call (.Name "list" p3) [.Call (.Name "zip" p2) [e1, e2] [] pos2] [] pos3] [] pos) (tDz (SqL X.K) X.K t) := by
  refine ⟨fun pins s σ H Q I h => ?_⟩
  refine wpAny_Call_Name_kw (ld_blt I hg T.dict PyProof.Rows.boot_dict ?_ (by decide) (by decide))
  refine PyProof.Rows.callWith_type1 (e := .Call (.Name "list" p3) [.Call (.Name "zip" p2) [e1, e2] [] pos2] [] pos3) ?_ (by rfl) (by rfl)
  refine Calls.spliced_cons ?_
  refine wpAny_Call_Name_kw (ld_blt (I.tok _) hg3 T.list PyProof.Rows.boot_list ?_ (by decide) (by decide))
  refine PyProof.Rows.callWith_type1 (e := .Call (.Name "zip" p2) [e1, e2] [] pos2) ?_ (by rfl) (by rfl)
  refine Calls.spliced_cons ?_
  refine Call_ (ld_blt ((I.tok _).tok _) hg2 T.zip PyProof.Rows.boot_zip (PyProof.Rows.callWith_type1 (thn (ha.run pos2 pins _ σ H _ ((I.tok _).tok _) h) fun us s1 ⟨vs, H1, I1, r1, a, b, kvs, ev, ha', hb', hz, q⟩ => ?_) hs hpl))
  subst ev
  cases r1 with
  | cons r rr =>
    cases rr with
    | cons r' rr =>
      cases rr
      cases r
      cases r'
      obtain ⟨its, rv, pl, _⟩ := I1.list ha'
      obtain ⟨its2, rv2, p2', _⟩ := I1.tuple hb'
      have p1 := pl.isList
      obtain ⟨o1, ho1, _⟩ := id p1
      obtain ⟨o2, ho2, _⟩ := id p2'
      have la := Heap.lt_size ho1
      have lb := Heap.lt_size ho2
      have len1 := rv.length
      have len2 := rv2.length
      rw [List.length_map] at len1 len2
      refine zip_begins2 (begins_list a its.toArray) (begins_tuple b its2.toArray) (show s1.heap.IsList a its.toArray from p1) (show s1.heap.IsTuple b its2.toArray from p2') fun h' g1 g2 g3 g4 g5 g6 hk => ?_
      refine wpAny_pure ?_
      have S := zip_sep2 (N := s1.heap.objs.size) (fp1 := [a]) (fp2 := [b]) (fun x hx => by rw [List.mem_singleton.mp hx]; exact la) (fun x hx => by rw [List.mem_singleton.mp hx]; exact lb)
      have D1 : ∀ A : Around, A.handled = none → Draws X.prog X.w A s1.heap.objs.size [s1.heap.objs.size, a] its.toArray.size (fun i v => its.toArray[i]? = some v) (fun i h => h.IsListIter s1.heap.objs.size a i ∧ h.IsList a its.toArray) := fun A hA => Draws.list hA _ _ (Nat.ne_of_lt la) _
      have D2 : ∀ A : Around, A.handled = none → Draws X.prog X.w A (s1.heap.objs.size + 1) [s1.heap.objs.size + 1, b] its2.toArray.size (fun i v => its2.toArray[i]? = some v) (fun i h => h.IsTupleIter (s1.heap.objs.size + 1) b i ∧ h.IsTuple b its2.toArray) := fun A hA => Draws.tuple hA _ _ (Nat.ne_of_lt (Nat.lt_succ_of_lt lb)) _
      have hh := I1.ok.hd hc
      have mn : min its.toArray.size its2.toArray.size = kvs.length := by rw [List.size_toArray, List.size_toArray]; omega
      refine Zx.call_list_zip S (D1 _ hh) (D2 _ hh) (by rw [mn, sizeLine_eq]; omega) g1 (fun h k => ⟨k _ _ g2, ⟨⟨_, k _ _ g4, rfl, rfl⟩, (show s1.heap.IsList a its.toArray from p1).at fun o e => k _ o (hk _ o e)⟩, ⟨⟨_, k _ _ g5, rfl, rfl⟩, (show s1.heap.IsTuple b its2.toArray from p2').at fun o e => k _ o (hk _ o e)⟩, .inl ⟨k _ _ g1, _, _, k _ _ g3⟩⟩) (fun x hx => ?_) fun h2 tk acc c2 hk2 hL hacc => ?_
      · show x < h'.objs.size
        rw [g6]
        simp only [List.mem_cons, List.cons_append, List.nil_append, List.not_mem_nil, or_false] at hx
        rcases hx with rfl | rfl | rfl | rfl | rfl | rfl | rfl <;> first | exact Nat.lt_of_lt_of_le la (Nat.le_add_right _ _) | exact Nat.lt_of_lt_of_le lb (Nat.le_add_right _ _) | exact Nat.add_lt_add_left (by decide) _ | exact Nat.lt_add_of_pos_right (by decide)
      refine wpAny_pure ?_
      rw [mn] at hacc
      have kall : ∀ x o, s1.heap.get? x = some o → h2.get? x = some o := fun x o e => by
        have := Heap.lt_size e
        exact hk2 x o (Nat.ne_of_lt (Nat.lt_of_lt_of_le this (Nat.le_add_right _ _))) (Nat.ne_of_lt (Nat.lt_of_lt_of_le this (Nat.le_add_right _ _))) (Nat.ne_of_lt this) (Nat.ne_of_lt (Nat.lt_of_lt_of_le this (Nat.le_add_right _ _))) (hk x o e)
      refine L2.call_dict_pairs (s := { s1 with heap := h2, toks := tk }) (prs := (kvs.map fun kv => kv.1).zip its2) hh hL rfl rfl rfl ?_ ?_ (fun j kq e => ?_) fun h3 tk3 hd k3 => ?_
      · rw [hacc.1, List.length_zip, List.length_map]; omega
      · rw [List.length_zip, List.length_map, sizeLine_eq]; omega
      · rw [List.getElem?_zip_eq_some] at e
        obtain ⟨e1', e2'⟩ := e
        have hj : j < acc.size := by
          have := (List.getElem?_eq_some_iff.mp e2').1
          rw [hacc.1]; omega
        obtain ⟨T', x, y, f1, f2, f3, f4⟩ := hacc.2 j acc[j] (Array.getElem?_eq_getElem hj)
        have f2' : its[j]? = some x := by simpa using f2
        have f3' : its2[j]? = some y := by simpa using f3
        obtain ⟨kv, e3, e4⟩ := rel_keys rv X.prog X.w j x f2'
        rw [List.getElem?_map, e3] at e1'
        have e5 : kv.1 = kq.1 := Option.some.inj e1'
        rw [f3'] at e2'
        have e6 : y = kq.2 := Option.some.inj e2'
        refine ⟨T', x, by rw [Array.getElem?_eq_getElem hj, f1], e6 ▸ ⟨_, f4, rfl, _, rfl⟩, e5 ▸ e4⟩
      · have sz : s1.heap.objs.size ≤ h2.objs.size := by
          have e := Heap.lt_size hL
          have e2 : h'.objs.size < h2.objs.size := e
          rw [g6] at e2
          exact Nat.le_of_lt (Nat.lt_of_le_of_lt (Nat.le_add_right _ 5) e2)
        have fin : EP X pins σ Q (.ref h2.objs.size) { s1 with heap := h3, toks := tk3 } := dict_end I1 hz rv2 (fun x o e => k3 x o (kall x o e)) sz hd q
        exact fin
end
end Hf


/-! ## Fa12 -/
set_option Elab.async false
set_option linter.all false
set_option maxRecDepth 100000
set_option maxHeartbeats 400000

namespace Hf
open PySem PySem.Spec PyProof.Rows L2 RZ
/-! ### tables -/
abbrev Tb := List (Str × Int)
def tbK (tb : Tb) : List (L2.Key × V) := tb.map fun kv => (Sum.inr kv.1, V.int kv.2)
def rTb : Rl Tb := fun H v tb => ∃ a, v = .ref a ∧ H a = some (.dK (tbK tb))
instance : Mo rTb := ⟨fun e ⟨a, h1, h2⟩ => ⟨a, h1, e _ _ h2⟩⟩
theorem valV_tb (x : Str) : ∀ tb : Tb, valV (tbK tb) (Sum.inr x) = (tb.lookup x).map V.int
  | [] => rfl
  | (k, i) :: tb => by
    have ih := valV_tb x tb
    by_cases e : k = x
    · subst e
      rw [tbK, List.map_cons, valV_pos rfl, List.lookup_cons]
      simp
    · have e1 : ¬ (Sum.inr k : L2.Key) = Sum.inr x := fun z => e (Sum.inr.inj z)
      have e2 : (x == k) = false := by simpa using fun z => e z.symm
      rw [tbK, List.map_cons, valV_neg e1, List.lookup_cons, e2]
      exact ih
theorem putK_new {kvs : List (L2.Key × V)} {k : L2.Key} {v : V} (h : ∀ kv ∈ kvs, kv.1 ≠ k) : putK kvs k v = kvs ++ [(k, v)] := by
  unfold putK
  have : (kvs.any fun kv => decide (kv.1 = k)) = false := by
    rw [List.any_eq_false]
    intro kv hm
    simpa using h kv hm
  rw [this]
  rfl
theorem merge_tb : ∀ (tb acc : Tb), ((acc ++ tb).map (·.1)).Nodup → mergeK (tbK acc) (tbK tb) = tbK (acc ++ tb)
  | [], acc, _ => by rw [List.append_nil]; rfl
  | (k, i) :: tb, acc, h => by
    have hn : ∀ kv ∈ tbK acc, kv.1 ≠ Sum.inr k := fun kv hm e => by
      obtain ⟨p, hp, rfl⟩ := List.mem_map.mp hm
      have e' : p.1 = k := Sum.inr.inj e
      rw [List.map_append, List.nodup_append] at h
      exact h.2.2 p.1 (List.mem_map.mpr ⟨p, hp, rfl⟩) k (by simp) e'
    have e2 : acc ++ (k, i) :: tb = (acc ++ [(k, i)]) ++ tb := by simp
    show mergeK (putK (tbK acc) (Sum.inr k) (V.int i)) (tbK tb) = _
    rw [putK_new hn, e2]
    have : tbK acc ++ [(Sum.inr k, V.int i)] = tbK (acc ++ [(k, i)]) := by unfold tbK; rw [List.map_append]; rfl
    rw [this]
    exact merge_tb tb _ (by rw [← e2]; exact h)
section
variable {K : PySem.W.Frag} {σ : L2.St} {H H' : Hp} {ta tb te tl : TE} {x : Str} {T : Tb} {y : Int}
theorem ev_dget (ha : EvR ta σ H rTb T) (hb : EvR tb σ H rStr x) (hl : T.lookup x = some y) : EvR (tDGet ta tb) σ H rInt y := fun H1 e Q q =>
  ha H1 e _ fun v H2 e2 r => hb H2 (e.trans e2) _ fun u H3 e3 s => by
    obtain ⟨a, h1, h2⟩ := r
    cases s
    refine ⟨a, .int y, h1, ?_, q _ H3 (e2.trans e3) rfl⟩
    have := DGet.k (k := Sum.inr x) (e3 _ _ h2)
    rw [valV_tb, hl] at this
    exact this
theorem ev_dictz {ns : List Str} {row : Vec} (h1 : EvR ta σ H (rT K rStr) ns) (h2 : EvR tb σ H (rT K rInt) row) (nd : ns.Nodup) (hl : ns.length = row.length) (hz : ns.length ≤ 1000) : EvR (tDz (SqT K) K (tCons ta (tCons tb tNil))) σ H rTb (ns.zip row) := fun H1 e Q q =>
  h1 H1 e _ fun v H2 e2 r => h2 H2 (e.trans e2) _ fun u H3 e3 s => by
    obtain ⟨a, va, ea, sa, pa⟩ := Mo.up (R := rT K rStr) e3 r
    obtain ⟨b, vb, eb, sb, pb⟩ := s
    subst ea; subst eb
    have m1 : (tbK (ns.zip row)).map (fun kv => kV kv.1) = va := by
      rw [pa.hstrs]
      unfold tbK
      rw [List.map_map]
      have : (ns.zip row).map (fun p => p.1) = ns := by rw [List.map_fst_zip]; omega
      conv => rhs; rw [← this]
      rw [List.map_map]
      rfl
    have m2 : (tbK (ns.zip row)).map (fun kv => kv.2) = vb := by
      rw [pb.hints]
      unfold tbK
      rw [List.map_map]
      have : (ns.zip row).map (fun p => p.2) = row := by rw [List.map_snd_zip]; omega
      conv => rhs; rw [← this]
      rw [List.map_map]
      rfl
    refine ⟨a, b, tbK (ns.zip row), rfl, by rw [m1]; exact sa, by rw [m2]; exact sb, by unfold tbK; rw [List.length_map, List.length_zip]; omega, fun p hp => ?_⟩
    have e4 := Same.hnew (o := .dK (mergeK [] (tbK (ns.zip row)))) hp
    refine q _ _ ((e2.trans e3).trans e4) ⟨p, rfl, ?_⟩
    rw [upd_same]
    have := merge_tb (ns.zip row) [] (by rw [List.nil_append, List.map_fst_zip (by omega)]; exact nd)
    rw [show tbK [] = [] from rfl, List.nil_append] at this
    rw [this]
end
theorem lookup_zip : ∀ (ns : List Str) (row : Vec) (x : Str), x ∈ ns → ns.length = row.length → ((ns.zip row).lookup x).isSome = true
  | [], _, x, h, _ => by simp at h
  | n :: ns, [], x, _, h => by simp at h
  | n :: ns, y :: row, x, h, hl => by
    rw [List.zip_cons_cons, List.lookup_cons]
    cases e : x == n with
    | true => rfl
    | false =>
      rcases List.mem_cons.mp h with z | z
      · subst z; simp at e
      · exact lookup_zip ns row x z (by simpa using hl)
def tbF (tb : Tb) (x : Str) : Int := (tb.lookup x).getD 0
def numOf (L : List Say) (t : Str → Int) (D : Int) : Int := (nrun D t L []).headD 0
def gridF : Nat → Nat → List Vec
  | 0, _ => [[]]
  | n + 1, m => (gridF n m).flatMap fun row => (ivs 0 (m + 1)).map fun k => row ++ [k]
theorem grid_len (m : Nat) : ∀ n, (gridF n m).length = (m + 1) ^ n
  | 0 => rfl
  | n + 1 => by
    unfold gridF
    have : ∀ l : List Vec, (l.flatMap fun row => (ivs 0 (m + 1)).map fun k => row ++ [k]).length = l.length * (m + 1) := fun l => by
      induction l with
      | nil => simp
      | cons a l ih => rw [List.flatMap_cons, List.length_append, ih, List.length_map, ivs_len, List.length_cons, Nat.succ_mul, Nat.add_comm]
    rw [this, grid_len m n, Nat.pow_succ]
theorem mem_grid {m : Nat} : ∀ {n : Nat} {row : Vec}, row ∈ gridF n m ↔ row.length = n ∧ ∀ y ∈ row, 0 ≤ y ∧ y ≤ m
  | 0, row => by
    constructor
    · intro h
      rw [List.mem_singleton.mp h]
      exact ⟨rfl, fun y hy => by simp at hy⟩
    · rintro ⟨h, _⟩
      rw [List.eq_nil_of_length_eq_zero h]
      exact List.mem_singleton.mpr rfl
  | n + 1, row => by
    unfold gridF
    rw [List.mem_flatMap]
    constructor
    · rintro ⟨r, hr, h⟩
      obtain ⟨k, hk, rfl⟩ := List.mem_map.mp h
      obtain ⟨h1, h2⟩ := mem_grid.mp hr
      obtain ⟨i, hi, rfl⟩ := List.mem_map.mp hk
      have := List.mem_range.mp hi
      refine ⟨by simp [h1], fun y hy => ?_⟩
      rcases List.mem_append.mp hy with z | z
      · exact h2 y z
      · rw [List.mem_singleton.mp z]; omega
    · rintro ⟨h1, h2⟩
      have hne : row ≠ [] := fun z => by rw [z] at h1; simp at h1
      have e := List.dropLast_concat_getLast hne
      refine ⟨row.dropLast, mem_grid.mpr ⟨by rw [List.length_dropLast]; omega, fun y hy => h2 y (by rw [← e]; exact List.mem_append_left _ hy)⟩, List.mem_map.mpr ⟨row.getLast hne, ?_, e⟩⟩
      have hb := h2 (row.getLast hne) (List.getLast_mem hne)
      refine List.mem_map.mpr ⟨(row.getLast hne).toNat, List.mem_range.mpr (by omega), by omega⟩
def firstRow (L1 L2 : List Say) (ns : List Str) (m : Nat) : Option Vec := (gridF ns.length m).find? fun row => !decide (numOf L1 (tbF (ns.zip row)) m = numOf L2 (tbF (ns.zip row)) m)
section
variable {P : Program} {w : World} {K : PySem.W.Frag} {mg : Str → Option Value} {base : Heap}
/-! ### _marked, _number_of -/
def spMarked : Sp := sp4 rMk rInt rInt rInt (fun _ _ _ _ => True) rInt (fun m a b D => mkv m D a b)
theorem sc__marked : FnScope (["mark", "one", "two", "most"] : List Str) (["mark", "one", "two", "most"] : List Str) (defScope (top 62)) := ⟨rfl, rfl, rfl, by decide +kernel, rfl, by decide +kernel, by decide +kernel⟩
theorem ok__marked (D : Df K mg "_marked" (top 62)) (T : Bt mg) : Cal P w K mg base "_marked" 1 ["mark", "one", "two", "most"] spMarked := by
  refine D.ok sc__marked (fun _ _ _ _ _ _ us hl => match us, hl with | [_, _, _, _], _ => rfl) (sp4_len) (fun f cdv A outer s H vs Q E hr h => ?_)
  have nd := sc__marked.nd
  refine ⟨_, (pss_cons (ps_if (pt_cmpR op_eq (pv 0) pe_str (nomark _)) (pss_one (ps_ret (pk_min2 T (pa_cons (pv 3) (pa_cons (pe_op op_add (pv 1) (pv 2)) pa_nil))))) pss_nil)
    (pss_cons (ps_if (pt_cmpR op_eq (pv 0) pe_str (nomark _)) (pss_one (ps_ret (pk_max2 T (pa_cons pe_int (pa_cons (pe_op op_sub (pe_op op_add (pv 1) (pv 2)) (pv 3)) pa_nil))))) pss_nil)
    (pss_cons (ps_if (pt_cmpR op_eq (pv 0) pe_str (nomark _)) (pss_one (ps_ret (pk_min2 T (pa_cons (pv 3) (pa_cons (pe_op op_add (pe_op op_sub (pv 3) (pv 1)) (pv 2)) pa_nil))))) pss_nil)
    (pss_cons (ps_if (pt_cmpR op_eq (pv 0) pe_str (nomark _)) (pss_one (ps_ret (pk_min2 T (pa_cons (pv 1) (pa_cons (pv 2) pa_nil))))) pss_nil)
    (pss_one (ps_ret (pe_ifExp (pt_cmpR op_eq (pv 0) pe_str (nomark _)) (pk_max2 T (pa_cons (pv 1) (pa_cons (pv 2) pa_nil))) (pe_op op_sub (pv 3) (pk_abs T (pa_cons (pe_op op_sub (pv 1) (pv 2)) pa_nil)))))))))), ?_⟩
  obtain ⟨v1, v2, v3, v4, m, a, b, d, rfl, rfl, rfl, rfl, rfl, _, q⟩ := h
  refine q_when (et_test (ev_eqS (ev_var (R := rStr) (x := m.s) rfl rfl) ev_str)) (fun c H1 e1 => ?_) (fun c1 H1 e1 => ?_)
  · cases mk_is (k := .plus) c
    exact s_ret (R := rInt) (ev_min2 (ev_var (R := rInt) rfl rfl) (ev_add (ev_var (R := rInt) rfl rfl) (ev_var (R := rInt) rfl rfl))) (fun v H' e r => q v H' (e1.trans e) r)
  refine q_when (et_test (ev_eqS (ev_var (R := rStr) (x := m.s) rfl rfl) ev_str)) (fun c H2 e2 => ?_) (fun c2 H2 e2 => ?_)
  · cases mk_is (k := .times) c
    exact s_ret (R := rInt) (ev_max2 ev_int (ev_sub (ev_add (ev_var (R := rInt) rfl rfl) (ev_var (R := rInt) rfl rfl)) (ev_var (R := rInt) rfl rfl))) (fun v H' e r => q v H' ((e1.trans e2).trans e) r)
  refine q_when (et_test (ev_eqS (ev_var (R := rStr) (x := m.s) rfl rfl) ev_str)) (fun c H3 e3 => ?_) (fun c3 H3 e3 => ?_)
  · cases mk_is (k := .leads) c
    exact s_ret (R := rInt) (ev_min2 (ev_var (R := rInt) rfl rfl) (ev_add (ev_sub (ev_var (R := rInt) rfl rfl) (ev_var (R := rInt) rfl rfl)) (ev_var (R := rInt) rfl rfl))) (fun v H' e r => q v H' (((e1.trans e2).trans e3).trans e) r)
  refine q_when (et_test (ev_eqS (ev_var (R := rStr) (x := m.s) rfl rfl) ev_str)) (fun c H4 e4 => ?_) (fun c4 H4 e4 => ?_)
  · cases mk_is (k := .and) c
    exact s_ret (R := rInt) (ev_min2 (ev_var (R := rInt) rfl rfl) (ev_var (R := rInt) rfl rfl)) (fun v H' e r => q v H' (((e1.trans e2).trans (e3.trans e4)).trans e) r)
  refine s_ret (R := rInt) (x := mkv m d a b) (ev_if' (et_test (ev_eqS (ev_var (R := rStr) (x := m.s) rfl rfl) ev_str)) (fun c => ?_) (fun c5 => ?_)) (fun v H' e r => q v H' (((e1.trans e2).trans (e3.trans e4)).trans e) r)
  · cases mk_is (k := .or) c
    exact ev_max2 (ev_var (R := rInt) rfl rfl) (ev_var (R := rInt) rfl rfl)
  · have hm : m = .same := by
      have p1 := mk_isnt (k := .plus) c1
      have p2 := mk_isnt (k := .times) c2
      have p3 := mk_isnt (k := .leads) c3
      have p4 := mk_isnt (k := .and) c4
      have p5 := mk_isnt (k := .or) c5
      cases m <;> first | rfl | contradiction
    subst hm
    exact ev_sub (ev_var (R := rInt) rfl rfl) (ev_abs (ev_sub (ev_var (R := rInt) rfl rfl) (ev_var (R := rInt) rfl rfl)))
structure NumP (L : List Say) (tb : Tb) : Prop where
  ll : L.length ≤ 10000
  ok : okRun 0 L
  inn : ∀ x, Say.unk x ∈ L → (tb.lookup x).isSome = true
theorem nst_len {D : Int} {t : Str → Int} {st : List Int} {s : Say} {M : List Say} (h : okRun st.length (s :: M)) : okRun (nstep D t st s).length M := by
  cases s with
  | unk x => cases st <;> exact h
  | yes => cases st <;> exact h
  | no => cases st <;> exact h
  | neg a => cases st with
    | nil => exact absurd h.1 (by simp)
    | cons a st => exact h.2
  | mk m a b => match st, h with
    | [], h => exact absurd h.1 (by simp)
    | [_], h => exact absurd h.1 (by simp)
    | b :: a :: st, h => exact h.2
def spNumber (K : PySem.W.Frag) : Sp := sp3 (rL (rSy K)) rTb rInt (fun L tb _ => NumP L tb) rInt (fun L tb D => numOf L (tbF tb) D)
theorem sc__number_of : FnScope (["steps", "table", "most", "stack", "step", "two"] : List Str) (["steps", "table", "most"] : List Str) (defScope (top 63)) := ⟨rfl, rfl, rfl, by decide +kernel, rfl, by decide +kernel, by decide +kernel⟩
theorem ok__number_of (D : Df K mg "_number_of" (top 63)) (C__marked : Cal P w K mg base "_marked" 1 ["mark", "one", "two", "most"] spMarked) : Cal P w K mg base "_number_of" 2 ["steps", "table", "most"] (spNumber K) := by
  refine D.ok sc__number_of (fun _ _ _ _ _ _ us hl => match us, hl with | [_, _, _], _ => rfl) (sp3_len) (fun f cdv A outer s H vs Q E hr h => ?_)
  have nd := sc__number_of.nd
  refine ⟨_, (pss_cons (ps_set (i := 3) nd rfl (Or.inl rfl) (pe_lst pa_nil))
    (pss_cons (ps_for PassesOwn.never rfl (pi_list (pv 0)) (pg_name (i := 4) nd rfl (Or.inl rfl)) (pss_one (ps_if (pt_cmpR op_eq (pe_ix ix_tup (pv 4) pe_int (fun _ _ => rfl)) pe_str (nomark _)) (pss_one (ps_expr (pe_bm PySem.F.plainAttrs_list PySem.F.slot_list_append PySem.F.type_list_append mt_append (pv 3) (pa_cons (pe_dget (hu_of hr) (pv 1) (pe_ix ix_tup (pv 4) pe_int (fun _ _ => rfl)) (fun _ _ => rfl)) pa_nil)))) (pss_one (ps_if (pt_cmpR op_in_seq (pe_ix ix_tup (pv 4) pe_int (fun _ _ => rfl)) (pe_tup (pa_cons pe_str (pa_cons pe_str pa_nil))) rfl) (pss_one (ps_expr (pe_bm PySem.F.plainAttrs_list PySem.F.slot_list_append PySem.F.type_list_append mt_append (pv 3) (pa_cons (pe_ifExp (pt_cmpR op_eq (pe_ix ix_tup (pv 4) pe_int (fun _ _ => rfl)) pe_str (nomark _)) (pv 2) pe_int) pa_nil)))) (pss_one (ps_if (pt_cmpR op_eq (pe_ix ix_tup (pv 4) pe_int (fun _ _ => rfl)) pe_str (nomark _)) (pss_one (ps_expr (pe_bm PySem.F.plainAttrs_list PySem.F.slot_list_append PySem.F.type_list_append mt_append (pv 3) (pa_cons (pe_op op_sub (pv 2) (pe_bm0 PySem.F.plainAttrs_list PySem.F.slot_list_pop PySem.F.type_list_pop mt_pop (pv 3))) pa_nil)))) (pss_cons (ps_set (i := 5) nd rfl (Or.inl rfl) (pe_bm0 PySem.F.plainAttrs_list PySem.F.slot_list_pop PySem.F.type_list_pop mt_pop (pv 3)))
    (pss_one (ps_expr (pe_bm PySem.F.plainAttrs_list PySem.F.slot_list_append PySem.F.type_list_append mt_append (pv 3) (pa_cons (pk_call C__marked hr (pa_cons (pe_ix ix_tup (pv 4) pe_int (fun _ _ => rfl)) (pa_cons (pe_bm0 PySem.F.plainAttrs_list PySem.F.slot_list_pop PySem.F.type_list_pop mt_pop (pv 3)) (pa_cons (pv 5) (pa_cons (pv 2) pa_nil))))) pa_nil))))))))))))
    (pss_one (ps_ret (pe_ix ix_list (pv 3) pe_int (fun _ _ => rfl)))))), ?_⟩
  obtain ⟨v0, v1, v2, L, tb, d, rfl, h0, h1, rfl, np, q⟩ := h
  have ll := np.ll
  refine q_new fun l hl => ?_
  have e0 : Same H (upd H l (.lst [])) := Same.hnew hl
  refine q_for (I := fun H2 i σ' H' => ∃ x4 x5 st, σ' = [some v0, some v1, some (.int d), some (.ref l), x4, x5] ∧ Same H H' ∧ H' l = some (.lst (st.reverse.map V.int)) ∧ st = nrun d (tbF tb) (L.take i) [] ∧ okRun st.length (L.drop i) ∧ st.length ≤ i) (ii_var (B := H) (R := rSy K) rfl h0 e0)
    (fun H2 e2 => ⟨_, _, [], rfl, e0.trans e2, e2 _ _ upd_same, rfl, np.ok, Nat.le_refl _⟩) (fun H2 i σ' H' e2 z => ?_) (fun H2 i s σ' H' v' H'' e2 hx z e3 r => ?_) (fun H2 σ' H' e2 z => ?_)
  · obtain ⟨_, _, _, _, sb, _⟩ := z
    exact sb
  · obtain ⟨x4, x5, st, rfl, eH', hst, est, ok, sl⟩ := z
    have hi := (List.getElem?_eq_some_iff.mp hx).1
    have hd : L.drop i = s :: L.drop (i + 1) := by rw [List.drop_eq_getElem_cons hi, (List.getElem?_eq_some_iff.mp hx).2]
    have hm : s ∈ L := List.mem_of_getElem? hx
    rw [hd] at ok
    have eH := eH'.trans e3
    have hst3 := e3 _ _ hst
    have nxt : nrun d (tbF tb) (L.take (i + 1)) [] = nstep d (tbF tb) st s := by
      rw [List.take_add_one, hx, Option.toList_some, nrun_app, ← est]
      rfl
    have ok' := nst_len (D := d) (t := tbF tb) ok
    have fin : ∀ H4 x5, Same H H4 → H4 l = some (.lst ((nstep d (tbF tb) st s).reverse.map V.int)) → (nstep d (tbF tb) st s).length ≤ i + 1 → ∃ x4 x5' st', ([some v0, some v1, some (.int d), some (.ref l), some v', x5] : L2.St) = [some v0, some v1, some (.int d), some (.ref l), x4, x5'] ∧ Same H H4 ∧ H4 l = some (.lst (st'.reverse.map V.int)) ∧ st' = nrun d (tbF tb) (L.take (i + 1)) [] ∧ okRun st'.length (L.drop (i + 1)) ∧ st'.length ≤ i + 1 := fun H4 x5 e h4 hl' => ⟨_, _, _, rfl, e, h4, nxt.symm, ok', hl'⟩
    have rl3 : ∀ {Hx : Hp} {l' : Addr} {zs : List Int}, Hx l' = some (.lst (zs.map V.int)) → rL rInt Hx (.ref l') zs := fun h => ⟨_, _, rfl, h, paired_map (F := rInt _) (g := V.int) (fun _ => rfl) _⟩
    have unrl : ∀ {Hx : Hp} {l' : Addr} {zs : List Int}, rL rInt Hx (.ref l') zs → Hx l' = some (.lst (zs.map V.int)) := fun {Hx l' zs} h => by
      obtain ⟨a, vs, e, h1, h2⟩ := h
      cases e
      rw [h2.hints] at h1
      exact h1
    refine s_if (et_test (ev_eqS (ev_hd (ev_var rfl r)) ev_str)) (fun c H4 e4 => ?_) (fun c H4 e4 => ?_)
    · obtain ⟨x, rfl⟩ := hd_unk c
      obtain ⟨y, hy⟩ := Option.isSome_iff_exists.mp (np.inn x hm)
      have en : nstep d (tbF tb) st (.unk x) = y :: st := by
        have : nstep d (tbF tb) st (.unk x) = tbF tb x :: st := by cases st <;> rfl
        rw [this]; unfold tbF; rw [hy]; rfl
      refine s_push (S := rInt) (y := y) (rl3 (e4 _ _ hst3)) rfl (ev_dget (ev_var rfl (Mo.up (R := rTb) (eH.trans e4) h1)) (ev_nm (ev_var rfl (Mo.up (R := rSy K) e4 r))) hy) (by rw [List.length_reverse]; omega) (fun H5 sb5 r5 => fin H5 _ ((eH.trans e4).trB hl sb5) ?_ ?_)
      · rw [en, List.reverse_cons]; exact unrl r5
      · rw [en]; simp; omega
    have nu := hd_not_unk c
    refine s_if (et_test (ev_inT (ev_hd (ev_var rfl (Mo.up (R := rSy K) e4 r))) (ev_tup (ei_cons ev_str (ei_cons ev_str ei_nil)) (by decide)))) (fun c H5 e5 => ?_) (fun c5 H5 e5 => ?_)
    · have en : nstep d (tbF tb) st s = (if decide (s.hd = ("yes" : Str)) = true then d else 0) :: st := by
        cases s with
        | yes => cases st <;> rfl
        | no => cases st <;> rfl
        | unk x => exact absurd rfl (nu x)
        | neg a => exact absurd (of_decide_eq_true c) (by simp [Say.hd]; decide)
        | mk m a b => exact absurd (of_decide_eq_true c) (by cases m <;> simp [Say.hd, Mk.s] <;> decide)
      have e45 := e4.trans e5
      refine s_push (S := rInt) (rl3 (e45 _ _ hst3)) rfl (ev_if (x1 := d) (x2 := 0) (et_test (ev_eqS (ev_hd (ev_var rfl (Mo.up (R := rSy K) e45 r))) ev_str)) (fun _ => ev_var (R := rInt) rfl rfl) (fun _ => ev_int)) (by rw [List.length_reverse]; omega) (fun H6 sb6 r6 => fin H6 _ ((eH.trans e45).trB hl sb6) ?_ ?_)
      · rw [en, List.reverse_cons]; exact unrl r6
      · rw [en]; simp; omega
    have e45 := e4.trans e5
    refine s_if (et_test (ev_eqS (ev_hd (ev_var rfl (Mo.up (R := rSy K) e45 r))) ev_str)) (fun c H6 e6 => ?_) (fun c6 H6 e6 => ?_)
    · obtain ⟨u, rfl⟩ := hd_neg c
      cases st with
      | nil => exact absurd ok.1 (by simp)
      | cons a st =>
        have e456 := e45.trans e6
        have h6 : H6 l = some (.lst (st.reverse.map V.int ++ [.int a])) := by
          have := e456 _ _ hst3
          rw [List.reverse_cons, List.map_append] at this
          exact this
        have dl : (st.reverse.map V.int ++ [V.int a]).dropLast = st.reverse.map V.int := List.dropLast_concat
        refine ⟨_, rfl, .inl ⟨rfl, _, SqL.of h6⟩, _, rfl, _, rfl, .inl ⟨rfl, _, SqL.of h6⟩, l, _, .int a, rfl, rfl, h6, by simp, d, a, rfl, rfl, l, st.reverse.map V.int, .int (d - a), rfl, rfl, ?_, ?_, fin _ _ ?_ ?_ ?_⟩
        · rw [upd_same, dl]
        · rw [List.length_map, List.length_reverse]
          simp only [List.length_cons] at sl
          exact Nat.lt_of_le_of_lt (show st.length ≤ 10000 by omega) (by decide)
        · exact (((eH.trans e456).trB hl SameB.upd).trB hl SameB.upd)
        · rw [upd_same]
          show _ = some (HO.lst (((d - a) :: st).reverse.map V.int))
          rw [List.reverse_cons, List.map_append]
          rfl
        · show ((d - a) :: st).length ≤ _
          simp only [List.length_cons] at sl ⊢
          omega
    · have hmk : ∃ m a b, s = .mk m a b := by
        cases s with
        | mk m a b => exact ⟨m, a, b, rfl⟩
        | yes => exact absurd c5 (by simp [Say.hd])
        | no => exact absurd c5 (by simp [Say.hd])
        | unk x => exact absurd rfl (nu x)
        | neg a => exact absurd rfl (of_decide_eq_false c6)
      obtain ⟨m, sa, sb, rfl⟩ := hmk
      match st, ok, sl, hst3, fin with
      | [], ok, _, _, _ => exact absurd ok.1 (by simp)
      | [_], ok, _, _, _ => exact absurd ok.1 (by simp)
      | b :: a :: st, ok, sl, hst3, fin =>
        have e456 := e45.trans e6
        have h6 : H6 l = some (.lst ((st.reverse.map V.int ++ [.int a]) ++ [.int b])) := by
          have := e456 _ _ hst3
          rw [List.reverse_cons, List.reverse_cons, List.map_append, List.map_append] at this
          exact this
        have dl : ((st.reverse.map V.int ++ [V.int a]) ++ [V.int b]).dropLast = st.reverse.map V.int ++ [V.int a] := List.dropLast_concat
        have dl2 : (st.reverse.map V.int ++ [V.int a]).dropLast = st.reverse.map V.int := List.dropLast_concat
        simp only [List.length_cons] at sl
        refine ⟨_, rfl, .inl ⟨rfl, _, SqL.of h6⟩, l, _, .int b, rfl, rfl, h6, by simp, ?_⟩
        rw [dl]
        generalize hH7 : upd H6 l (.lst (st.reverse.map V.int ++ [.int a])) = H7
        have h7 : H7 l = some (.lst (st.reverse.map V.int ++ [.int a])) := by rw [← hH7, upd_same]
        have sb7 : SameB l H6 H7 := by rw [← hH7]; exact SameB.upd
        have le7 : Le H6 H7 := sb7.le h6 (fun z => z)
        have r7 : rSay K H7 v' (.mk m sa sb) := Mt.up (R := rSy K) ((Le.of e456).trans le7) r
        refine ⟨_, rfl, .inl ⟨rfl, _, SqL.of h7⟩, ?_⟩
        refine ev_hd (K := K) (ta := tVar 4) (s := .mk m sa sb) (ev_var rfl r7) H7 (Same.refl _) _ fun vm H8 e8 rm => ?_
        cases rm
        have h8 := e8 _ _ h7
        have sb8 : SameB l H6 (upd H8 l (.lst (st.reverse.map V.int))) := (sb7.trans (SameB.of e8)).trans SameB.upd
        refine ⟨_, rfl, .inl ⟨rfl, _, SqL.of h8⟩, l, _, .int a, rfl, rfl, h8, by simp, ?_⟩
        rw [dl2]
        refine ⟨_, rfl, _, rfl, .str m.s, .int a, .int b, .int d, m, a, b, d, rfl, rfl, rfl, rfl, rfl, trivial, fun u H9 e9 s9 => ?_⟩
        cases s9
        have h9 : H9 l = some (.lst (st.reverse.map V.int)) := e9 _ _ upd_same
        refine ⟨l, _, .int (mkv m d a b), rfl, rfl, h9, ?_, fin _ _ (((eH.trans e456).trB hl ((sb8.trans (SameB.of e9)).trans SameB.upd))) ?_ ?_⟩
        · rw [List.length_map, List.length_reverse]
          exact Nat.lt_of_le_of_lt (show st.length ≤ 10000 by omega) (by decide)
        · rw [upd_same]
          show _ = some (HO.lst ((mkv m d a b :: st).reverse.map V.int))
          rw [List.reverse_cons, List.map_append]
          rfl
        · show (mkv m d a b :: st).length ≤ _
          simp only [List.length_cons]
          omega
  · obtain ⟨x4, x5, st, rfl, eH, hst, est, ok, sl⟩ := z
    rw [List.take_length] at est
    rw [List.drop_length] at ok
    match st, ok, hst, est with
    | [a], _, hst, est =>
      have r : rL rInt H' (.ref l) [a] := ⟨l, _, rfl, hst, .cons rfl .nil⟩
      refine s_ret (R := rInt) (x := numOf L (tbF tb) d) (EvR.to (ev_ixL (ev_var rfl r) ev_int at0) ?_) (fun v H5 e5 r => q v H5 (eH.trans e5) r)
      unfold numOf
      rw [← est]
      rfl
end
end Hf


/-! ## Fa13 -/
set_option Elab.async false
set_option linter.all false
set_option maxRecDepth 100000
set_option maxHeartbeats 400000

namespace Hf
open PySem PySem.Spec PyProof.Rows L2 RZ
theorem ii_rangeN {σ : L2.St} {H : Hp} {te : TE} {m : Nat} (h : EvR te σ H rInt (m : Int)) (hm : m ≤ 1000000000) : EvI Le (iRng1 (tCons te tNil)) σ H rInt (ivs 0 m) := by
  have hh := ii_range1 h (by omega) (by omega)
  have e1 : ((m : Int)).toNat = m := by omega
  rw [e1] at hh
  exact hh
theorem tab_tbF (ns : List Str) (row : Vec) : tbF (ns.zip row) = tab ns row := rfl
theorem numOf_val (ns : List Str) (row : Vec) (s : Say) (d : Int) : numOf (stepsOf s) (tbF (ns.zip row)) d = val (tab ns row) d s := by
  unfold numOf
  rw [nrun_steps]
  rfl
section
variable {P : Program} {w : World} {K : PySem.W.Frag} {mg : Str → Option Value} {base : Heap}
def spGrid (K : PySem.W.Frag) : Sp := sp2 rNat rNat (fun n m => n ≤ 3 ∧ (m + 1) ^ n ≤ 1000000 ∧ m ≤ 1000000) (rL (rVc K)) gridF
theorem sc__grid : FnScope (["size", "most", "rows", "_", "row", "number"] : List Str) (["size", "most"] : List Str) (defScope (top 64)) := ⟨rfl, rfl, rfl, by decide +kernel, rfl, by decide +kernel, by decide +kernel⟩
theorem ok__grid (D : Df K mg "_grid" (top 64)) (T : Bt mg) : Cal P w K mg base "_grid" 1 ["size", "most"] (spGrid K) := by
  refine D.ok sc__grid (fun _ _ _ _ _ _ us hl => match us, hl with | [_, _], _ => rfl) (sp2_len) (fun f cdv A outer s H vs Q E hr h => ?_)
  have nd := sc__grid.nd
  refine ⟨_, (pss_cons (ps_set (i := 2) nd rfl (Or.inl rfl) (pe_lst (pa_cons (pe_tup pa_nil) pa_nil)))
    (pss_cons (ps_for PassesOwn.never rfl (pi_range1 rfl T.range (pa_cons (pv 0) pa_nil)) (pg_name (i := 3) nd rfl (Or.inl rfl)) (pss_one (ps_setLc2 (i := 2) (own := [("row", 4), ("number", 5)]) (vs1 := [5]) rfl nd rfl rfl (sw_true rfl rfl rfl (by decide +kernel)) (pi_list (pv 2)) (blkOk_by (by walk_at "blk")) (by decide) (fun _ _ _ _ _ => (pg_name (i := 4) nd rfl (Or.inl rfl))) (fun _ _ _ _ _ => pts_nil) (fun _ _ _ _ _ => (pi_range1 rfl T.range (pa_cons (pe_op op_add (pv 1) pe_int) pa_nil))) (fun _ _ _ _ _ => (pg_name (i := 5) nd rfl (Or.inl rfl))) (fun _ _ _ _ _ => pts_nil) (fun _ _ _ _ _ => (pe_op (bk_op_catA K) (pv 4) (pe_tup (pa_cons (pv 5) pa_nil)))))))
    (pss_one (ps_ret (pv 2))))), ?_⟩
  obtain ⟨v, u, n, m, rfl, rfl, rfl, ⟨hn, hz, hm⟩, q⟩ := h
  refine q_set (R := rL (rVc K)) (x := [[]]) (ev_lst (ei_cons (ev_tup ei_nil (by decide)) ei_nil) (by decide)) (fun vc H1 e1 rc => ?_)
  refine q_for (I := fun H2 i σ' H' => ∃ vc x3, σ' = [some (.int (n : Int)), some (.int (m : Int)), some vc, x3, none, none] ∧ Same H2 H' ∧ rL (rVc K) H' vc (gridF i m)) (ii_range1 (ev_var (R := rInt) rfl rfl) (by omega))
    (fun H2 e2 => ⟨_, _, rfl, Same.refl _, Mo.up e2 rc⟩) (fun H2 i σ' H' e2 z => ?_) (fun H2 i x σ' H' v' H'' e2 hx z e3 r => ?_) (fun H2 σ' H' e2 z => ?_)
  · obtain ⟨_, _, _, sb, _⟩ := z
    exact Le.of sb
  · obtain ⟨vc, x3, rfl, sb, rc⟩ := z
    have hi : i < n := by
      have := (List.getElem?_eq_some_iff.mp hx).1
      rw [ivs_len] at this
      omega
    have gl := grid_len m (i + 1)
    have gz : (m + 1) ^ (i + 1) ≤ 1000000 := Nat.le_trans (Nat.pow_le_pow_right (by omega) (by omega)) hz
    refine s_set (R := rL (rVc K)) (x := gridF (i + 1) m) (ev_lc2 (R := rVc K) (S := rInt) (KP := Same) (KP' := Le) (fun _ => ivs 0 (m + 1)) (fun row k => row ++ [k]) (ii_lst (ev_var rfl (Mo.up e3 rc))) (fun _ _ _ e => e) ?_ (fun v => rfl) (fun v u => rfl)
      (fun x hx v H' e r => ?_) (fun _ _ e => e) (fun x hx y hy v u H' e r s => ev_catA (ev_var rfl r) (ev_tup (ei_cons (ev_var rfl s) ei_nil) (by simp)) ?_)) (fun v H3 e4 r => ?_)
    · have : (gridF (i + 1) m).length ≤ 1000000 := by rw [gl]; exact gz
      exact this
    · exact ii_rangeN (m := m + 1) (EvR.to (ev_add (i := (m : Int)) (j := 1) (ev_var (R := rInt) rfl rfl) ev_int) (by omega)) (by omega)
    · have := (mem_grid.mp hx).1
      simp; omega
    · exact ⟨_, _, rfl, (sb.trans e3).trans e4, r⟩
  · obtain ⟨vc, x3, rfl, sb, rc⟩ := z
    rw [ivs_len] at rc
    have ht : ((n : Int)).toNat = n := by omega
    rw [ht] at rc
    exact s_ret (R := rL (rVc K)) (ev_var rfl rc) (fun v H' e r => q v H' (((e1.trans e2).trans sb).trans e) r)
structure FirP (L1 L2 : List Say) (ns : List Str) (m : Nat) : Prop where
  l1 : L1.length ≤ 10000
  l2 : L2.length ≤ 10000
  o1 : okRun 0 L1
  o2 : okRun 0 L2
  i1 : ∀ x, Say.unk x ∈ L1 → x ∈ ns
  i2 : ∀ x, Say.unk x ∈ L2 → x ∈ ns
  nd : ns.Nodup
  n3 : ns.length ≤ 3
  gz : (m + 1) ^ ns.length ≤ 1000000
  mz : m ≤ 1000000
def spFirst (K : PySem.W.Frag) : Sp := sp4 (rL (rSy K)) (rL (rSy K)) (rT K rStr) rNat FirP (rOpt (rVc K)) firstRow
theorem sc__first_on_grid : FnScope (["first", "second", "names", "most", "row", "table"] : List Str) (["first", "second", "names", "most"] : List Str) (defScope (top 65)) := ⟨rfl, rfl, rfl, by decide +kernel, rfl, by decide +kernel, by decide +kernel⟩
theorem ok__first_on_grid (D : Df K mg "_first_on_grid" (top 65)) (T : Bt mg) (C__grid : Cal P w K mg base "_grid" 1 ["size", "most"] (spGrid K)) (C__number_of : Cal P w K mg base "_number_of" 2 ["steps", "table", "most"] (spNumber K)) : Cal P w K mg base "_first_on_grid" 3 ["first", "second", "names", "most"] (spFirst K) := by
  refine D.ok sc__first_on_grid (fun _ _ _ _ _ _ us hl => match us, hl with | [_, _, _, _], _ => rfl) (sp4_len) (fun f cdv A outer s H vs Q E hr h => ?_)
  have nd := sc__first_on_grid.nd
  refine ⟨_, (pss_cons (ps_for PassesOwn.never rfl (pi_list (pk_call C__grid hr (pa_cons (pk_len T (pa_cons (pv 2) pa_nil)) (pa_cons (pv 3) pa_nil)))) (pg_name (i := 4) nd rfl (Or.inl rfl)) (pss_cons (ps_set (i := 5) nd rfl (Or.inl rfl) (pk_dictz T rfl (pa_cons (pv 2) (pa_cons (pv 4) pa_nil))))
    (pss_one (ps_if (pt_cmpR op_ne (pk_call C__number_of hr (pa_cons (pv 0) (pa_cons (pv 5) (pa_cons (pv 3) pa_nil)))) (pk_call C__number_of hr (pa_cons (pv 1) (pa_cons (pv 5) (pa_cons (pv 3) pa_nil)))) (nomark _)) (pss_one (ps_ret (pv 4))) pss_nil))))
    (pss_one (ps_ret pe_non))), ?_⟩
  obtain ⟨v1, v2, v3, v4, L1, L2', ns, m, rfl, h1, h2, h3, rfl, fp, q⟩ := h
  have n3 := fp.n3
  let gd := fun (row : Vec) => !decide (numOf L1 (tbF (ns.zip row)) m = numOf L2' (tbF (ns.zip row)) m)
  refine q_for (I := fun H2 i σ' H' => ∃ x4 x5, σ' = [some v1, some v2, some v3, some (.int (m : Int)), x4, x5] ∧ Same H2 H' ∧ ((gridF ns.length m).take i).find? gd = none) (ii_lst (R := rVc K) (xs := gridF ns.length m) (ev_call2 (R := rNat) (S := rNat) (x := ns.length) (y := m) (ev_lenT (ev_var rfl h3)) (ev_var rfl rfl) ⟨n3, fp.gz, fp.mz⟩))
    (fun H2 e2 => ⟨_, _, rfl, Same.refl _, rfl⟩) (fun H2 i σ' H' e2 z => ?_) (fun H2 i row σ' H' v' H'' e2 hx z e3 r => ?_) (fun H2 σ' H' e2 z => ?_)
  · obtain ⟨_, _, _, sb, _⟩ := z
    exact sb
  · obtain ⟨x4, x5, rfl, sb, none_⟩ := z
    have hl := (mem_grid.mp (List.mem_of_getElem? hx)).1
    have e0 := (e2.trans sb).trans e3
    have snoc : ((gridF ns.length m).take (i + 1)).find? gd = if gd row = true then some row else none := by
      rw [List.take_add_one, hx, Option.toList_some, List.find?_append, none_]
      by_cases c : gd row = true
      · simp [c]
      · simp [c]
    refine q_set (R := rTb) (x := ns.zip row) (ev_dictz (ev_var rfl (Mo.up e0 h3)) (ev_var rfl r) fp.nd hl.symm (by omega)) (fun u5 H3 e4 r5 => ?_)
    have np1 : NumP L1 (ns.zip row) := ⟨fp.l1, fp.o1, fun x hx => lookup_zip ns row x (fp.i1 x hx) hl.symm⟩
    have np2 : NumP L2' (ns.zip row) := ⟨fp.l2, fp.o2, fun x hx => lookup_zip ns row x (fp.i2 x hx) hl.symm⟩
    refine s_when (et_test (ev_neI (ev_call3 (R := rL (rSy K)) (S := rTb) (T := rInt) (ev_var rfl (Mo.up (e0.trans e4) h1)) (ev_var rfl r5) (ev_var (R := rInt) (x := (m : Int)) rfl rfl) np1) (ev_call3 (R := rL (rSy K)) (S := rTb) (T := rInt) (ev_var rfl (Mo.up (e0.trans e4) h2)) (ev_var rfl r5) (ev_var (R := rInt) (x := (m : Int)) rfl rfl) np2))) (fun c H4 e5 => ?_) (fun c H4 e5 => ?_)
    · have c' : gd row = true := c
      refine s_ret (R := rVc K) (ev_var rfl (Mo.up (R := rVc K) (e4.trans e5) r)) (fun v H5 e6 r => q v H5 ((e0.trans (e4.trans e5)).trans e6) ?_)
      have : firstRow L1 L2' ns m = some row := by
        show (gridF ns.length m).find? gd = some row
        have ea : gridF ns.length m = (gridF ns.length m).take (i + 1) ++ (gridF ns.length m).drop (i + 1) := (List.take_append_drop _ _).symm
        rw [ea, List.find?_append, snoc, if_pos c']
        rfl
      rw [this]
      refine ⟨fun z => ?_, r⟩
      obtain ⟨a, vs, e, _⟩ := r
      rw [z] at e; cases e
    · have c' : ¬ gd row = true := fun z => by
        have : gd row = false := c
        rw [this] at z; cases z
      exact ⟨_, _, rfl, (((sb.trans e3).trans e4).trans e5), by rw [snoc, if_neg c']⟩
  · obtain ⟨x4, x5, rfl, sb, none_⟩ := z
    rw [List.take_length] at none_
    refine s_ret (R := rV) ev_non (fun v H6 e7 r => q v H6 ((e2.trans sb).trans e7) ?_)
    have : firstRow L1 L2' ns m = none := none_
    rw [this]
    exact r
end
end Hf


/-! ## Fa14 -/
set_option Elab.async false
set_option linter.all false
set_option maxRecDepth 100000
set_option maxHeartbeats 400000

namespace Hf
open PySem PySem.Spec PyProof.Rows L2 RZ
/-! ### the class TooMany -/
def tmA (mg : Str → Option Value) : Addr := match mg "TooMany" with
  | some (.ref a) => a
  | _ => 0
structure TmD (K : PySem.W.Frag) (mg : Str → Option Value) : Prop where
  gl : mg "TooMany" = some (.ref (tmA mg))
  ox : OexC K (tmA mg)
  xf : XfC K (tmA mg)
  nw : PySem.W.findIn K (.ref (tmA mg)) "what" = some none
  te : PySem.W.exmOne K (.ref (tmA mg)) (.ref (tmA mg)) = some true
  ex : ∃ (f : Addr) (fd : FuncData), FunD K "__init__" "TooMany.__init__" (defArgs stTm) (defBody stTm) (defScope stTm) [] [] f fd ∧ PySem.W.findIn K (.ref (tmA mg)) "__init__" = some (some (.ref f)) ∧ PySem.W.typeIn K (.ref f) = some (.type "function")
/-- how the exception leaves: its own new dict tells what -/
def Thr (mg : Str → Option Value) (H : Hp) (E : XK) (w : Str) : Prop := ∀ (H' : Hp) (d : Addr), Same H H' → H' d = none → E (.ref (tmA mg)) (some d) (upd H' d (.xd [(("what" : Str), .str w)]))
theorem Thr.mono {mg : Str → Option Value} {H H1 : Hp} {E : XK} {w : Str} (h : Thr mg H E w) (e : Same H H1) : Thr mg H1 E w := fun H' d e' hd => h H' d (e.trans e') hd
def spTm (mg : Str → Option Value) : Sp := fun vs H Q _ => ∃ (a : Addr) (v : V), vs = [.ref a, v] ∧ H a = some (exo a (tmA mg) none) ∧ ∀ d, H d = none → d ≠ a → Q .non (upd (upd H d (exd d [(("what" : Str), v)])) a (exo a (tmA mg) (some d)))
section
variable {P : Program} {w : World} {K : PySem.W.Frag} {mg : Str → Option Value} {base : Heap}
theorem sc_tm : FnScope (["self", "what"] : List Str) (["self", "what"] : List Str) (defScope stTm) := ⟨rfl, rfl, rfl, by decide +kernel, rfl, by decide +kernel, by decide +kernel⟩
theorem ok_tm {f : Addr} {fd : FuncData} (D : TmD K mg) (F : FunD K "__init__" "TooMany.__init__" (defArgs stTm) (defBody stTm) (defScope stTm) [] [] f fd) : FnOk P w K mg base CX0 1 f fd ["self", "what"] (spTm mg) := by
  refine F.ok sc_tm (fun vs H Q E h => ?_) (fun cdv A outer s H vs Q E hr h => ⟨_, PSs.nox (pss_one (ps_ost (pv 0) (pv 1))), ?_⟩)
  · obtain ⟨_, _, rfl, _⟩ := h; rfl
  · obtain ⟨a, v, rfl, ha, q⟩ := h
    exact ⟨v, rfl, .ref a, rfl, a, tmA mg, rfl, D.ox, D.nw, .inl ⟨ha, fun dx hdx ne => q dx hdx ne⟩⟩
end
section
variable {X : Cx} {k : Nat} {p pos pos2 : Pos} {e : Expr} {ta : TA} {W : WX}
theorem ps_raiseTm (D : TmD X.K X.mg) (hr : Room k X.A) (tk : Takes X W) (ha : PA X [e] ta) (hc : X.calm = true := by rfl) (hj : 2 ≤ k := by first | decide | omega) (hg : Gl X "TooMany" := by rfl)
    (he : starEach [e] X.env = (false, eval e X.env) :: starEach [] X.env := by rfl) (hpl : (backTo pos (starEach [] X.env)).any (·.1) = false := by rfl) :
    PS X (.Raise (some (.Call (.Name "TooMany" p) [e] [] pos)) none pos2) (fun _ σ H => tMkO (tmA X.mg) (spTm X.mg) [] ta σ H fun cls d H' => W cls d σ H') := by
  obtain ⟨f, fd, F, i1, i2⟩ := D.ex
  exact ps_raise hc tk (pmk_oex (CX := CX0) (k := 1) D.ox i1 i2 (ok_tm D F) (hr.mono hj) (F.bindsN (fun _ _ _ _ _ _ us hl => match us, hl with | [_, _], _ => rfl)) .nil pass0 hg D.gl ha (by decide) he hpl)
end
theorem s_raise {mg : Str → Option Value} {σ : L2.St} {H : Hp} {te : TE} {E : XK} {x : Str} (h : EvR te σ H rStr x) (hE : Thr mg H E x) : tMkO (tmA mg) (spTm mg) [] (tCons te tNil) σ H fun cls d H' => E cls d H' := h H (Same.refl H) _ fun v H1 e r => by
  cases r
  refine ⟨by simp, fun a ha => ⟨a, .str x, rfl, upd_same, fun d hd ne => ⟨rfl, d, [(("what" : Str), .str x)], upd_same, ?_, ?_, ?_⟩⟩⟩
  · rw [upd_ne ne, upd_same]
  · rw [upd_ne ne] at hd; exact hd
  · have hd1 : H1 d = none := by rw [upd_ne ne] at hd; exact hd
    have := hE H1 d e hd1
    have eq : upd (del (upd (upd (upd H1 a (exo a (tmA mg) none)) d (exd d [(("what" : Str), .str x)])) a (exo a (tmA mg) (some d))) a) d (.xd [(("what" : Str), .str x)]) = upd H1 d (.xd [(("what" : Str), .str x)]) := by
      funext b
      by_cases h1 : b = d
      · subst h1; rw [upd_same, upd_same]
      · rw [upd_ne h1, upd_ne h1]
        by_cases h2 : b = a
        · subst h2; rw [del_same, ha]
        · rw [del_ne h2, upd_ne h2, upd_ne h1, upd_ne h2]
    rw [eq]
    exact this
/-! ### calls of what may raise -/
section
variable {X : Cx} {x : Str} {j k : Nat} {ps : List Str} {sp : Sp} {p pos : Pos} {e : Expr} {es : List Expr} {t : TA} {W : WX}
theorem pk_callL (c : CalX X.prog X.w X.K X.mg X.base (L2.CX X.prog X.w) x j ps sp) (hr : Room k X.A) (ha : PA X (e :: es) t) (hj : j ≤ k := by first | decide | omega) (hg : Gl X x := by rfl) (hdb : (x == ("__debug__" : Str)) = false := by decide)
    (he : starEach (e :: es) X.env = (false, eval e X.env) :: starEach es X.env := by rfl) (hpl : (backTo pos (starEach es X.env)).any (·.1) = false := by rfl) : PE X (.Call (.Name x p) (e :: es) [] pos) (tCall sp [] E0 t) := by
  obtain ⟨f, fd, F, hm, hk, hb⟩ := c.ex
  exact pe_call F (hr.mono hj) hg hm hk hb .nil passL ha hdb he hpl
theorem pk_callS (c : CalX X.prog X.w X.K X.mg X.base (L2.CX X.prog X.w) x j ps sp) (hr : Room k X.A) (tk : Takes X W) (ha : PA X (e :: es) t) (hj : j ≤ k := by first | decide | omega) (hg : Gl X x := by rfl) (hdb : (x == ("__debug__" : Str)) = false := by decide)
    (he : starEach (e :: es) X.env = (false, eval e X.env) :: starEach es X.env := by rfl) (hpl : (backTo pos (starEach es X.env)).any (·.1) = false := by rfl) : PE X (.Call (.Name x p) (e :: es) [] pos) (tCallS sp (WE W) t) := by
  obtain ⟨f, fd, F, hm, hk, hb⟩ := c.ex
  exact pe_callS F (hr.mono hj) hg hm hk hb (fun σ => passAt tk σ) ha hdb he hpl
end
section
variable {K : PySem.W.Frag} {σ : L2.St} {H : Hp} {ta tb : TE} {α β : Type} {R : Rl α} {S : Rl β} {x : α} {y : β} {D : Ends} {tu : TS} {sp : Sp} {E : L2.St → XK}
theorem q_drop1X (h1 : EvR ta σ H R x) (q : ∀ u H', Same H H' → R H' u x → sp [u] H' (fun _ H2 => tu D σ H2) (E σ)) : tSeq (tDrop (tCallS sp E (tCons ta tNil))) tu D σ H := h1 H (Same.refl H) _ fun u H1 e1 r => q u H1 e1 r
theorem q_drop2X [Mo R] (h1 : EvR ta σ H R x) (h2 : EvR tb σ H S y) (q : ∀ u w H', Same H H' → R H' u x → S H' w y → sp [u, w] H' (fun _ H2 => tu D σ H2) (E σ)) : tSeq (tDrop (tCallS sp E (tCons ta (tCons tb tNil)))) tu D σ H := h1 H (Same.refl H) _ fun u H1 e1 r => h2 H1 e1 _ fun w H2 e2 s => q u w H2 (e1.trans e2) (Mo.up e2 r) s
theorem q_set2X [Mo R] {i : Nat} (h1 : EvR ta σ H R x) (h2 : EvR tb σ H S y) (q : ∀ u w H', Same H H' → R H' u x → S H' w y → sp [u, w] H' (fun v H2 => tu D (σ.set i (some v)) H2) (E σ)) : tSeq (tAsg (tCallS sp E (tCons ta (tCons tb tNil))) (gName i)) tu D σ H := h1 H (Same.refl H) _ fun u H1 e1 r => h2 H1 e1 _ fun w H2 e2 s => q u w H2 (e1.trans e2) (Mo.up e2 r) s
end
/-! ### the counts -/
def mostM : Nat → Nat
  | 0 => 12
  | 1 => 12
  | 2 => 9
  | _ => 7
def cntz (u m : Nat) : Option Str := if 4 ≤ u then some "unknowns" else if mostM u < m then some "marks" else none
section
variable {P : Program} {w : World} {K : PySem.W.Frag} {mg : Str → Option Value} {base : Heap}
def spCounts (mg : Str → Option Value) : Sp := fun vs H Q E => ∃ u m : Nat, vs = [.int (u : Int), .int (m : Int)] ∧ (∀ x, cntz u m = some x → Thr mg H E x) ∧ (cntz u m = none → ∀ H', Same H H' → Q .non H')
theorem sc_check_counts : FnScope (["unknowns", "marks"] : List Str) (["unknowns", "marks"] : List Str) (defScope (top 14)) := ⟨rfl, rfl, rfl, by decide +kernel, rfl, by decide +kernel, by decide +kernel⟩
theorem ok_check_counts (D : Df K mg "check_counts" (top 14)) (T : Bt mg) (TM : TmD K mg) (cM : Ct K mg "MOST_MARKS_bounds" (([12, 12, 9, 7] : List Int).map V.int)) : CalX P w K mg base (L2.CX P w) "check_counts" 3 ["unknowns", "marks"] (spCounts mg) := by
  obtain ⟨aM, g_MOST_MARKS_bounds, hM⟩ := cM.ex
  refine D.okX sc_check_counts (fun _ _ _ _ _ _ us hl => match us, hl with | [_, _], _ => rfl) (fun vs H Q E h => by obtain ⟨_, _, rfl, _⟩ := h; rfl) (fun f cdv A outer s H vs Q E hr h => ?_)
  have nd := sc_check_counts.nd
  have TK := takes_of (X := cxOf (L2.CX P w) P w K mg base ["unknowns", "marks"] "check_counts" (defScope (top 14)) f cdv A outer s H E) rfl rfl rfl rfl
  refine ⟨_, (pss_cons (ps_if (pt_cmpR op_ge (pv 0) (pk_len T (pa_cons (pk_globT g_MOST_MARKS_bounds) pa_nil)) (nomark _)) (pss_one (ps_raiseTm TM hr TK (pa_cons pe_str pa_nil))) pss_nil)
    (pss_one (ps_if (pt_cmpR op_gt (pv 1) (pe_ix ix_tup (pk_globT g_MOST_MARKS_bounds) (pv 0) (fun _ _ => rfl)) (nomark _)) (pss_one (ps_raiseTm TM hr TK (pa_cons pe_str pa_nil))) pss_nil))), ?_⟩
  obtain ⟨u, m, rfl, hE, hQ⟩ := h
  have cM := fun H => ct_ints hM H
  refine q_when (et_test (ev_cmpI (f := fun i j => decide (i ≥ j)) (ev_var (R := rInt) rfl rfl) (ev_lenT (ev_c (cM H))))) (fun c H1 e1 => ?_) (fun c H1 e1 => ?_)
  · have hu : 4 ≤ u := by have := of_decide_eq_true c; simp at this; omega
    exact s_raise ev_str ((hE _ (by unfold cntz; rw [if_pos hu])).mono e1)
  · have hu : ¬ 4 ≤ u := by have := of_decide_eq_false c; simp at this; omega
    have ha : atI ([12, 12, 9, 7] : List Int) (u : Int) = some ((mostM u : Nat) : Int) := by
      have : u = 0 ∨ u = 1 ∨ u = 2 ∨ u = 3 := by omega
      rcases this with rfl | rfl | rfl | rfl <;> rfl
    refine s_when (et_test (ev_cmpI (f := fun i j => decide (i > j)) (ev_var (R := rInt) rfl rfl) (ev_ixT (R := rInt) (ev_c (cM H1)) (ev_var (R := rInt) rfl rfl) ha))) (fun c2 H2 e2 => ?_) (fun c2 H2 e2 => ?_)
    · have := of_decide_eq_true c2
      exact s_raise ev_str ((hE _ (by unfold cntz; rw [if_neg hu, if_pos (by omega)])).mono (e1.trans e2))
    · have := of_decide_eq_false c2
      exact hQ (by unfold cntz; rw [if_neg hu, if_neg (by omega)]) H2 (e1.trans e2)
def spChk (K : PySem.W.Frag) (mg : Str → Option Value) (n : Nat) : Sp := fun vs H Q E => ∃ (v : V) (ss : List Say), vs = [v] ∧ rT K (rSy K) H v ss ∧ (∀ s ∈ ss, s.ht < n) ∧ (ss.map Say.leaves).sum ≤ 1000 ∧ ss.length ≤ 10 ∧
  (∀ x, cntz (unks ss).length (ss.map Say.marks).sum = some x → Thr mg H E x) ∧ (cntz (unks ss).length (ss.map Say.marks).sum = none → ∀ u H', Same H H' → rT K rStr H' u (unks ss) → Q u H')
theorem sum_nat (l : List Say) : ((l.map Say.marks).sum : Int) = (l.map fun s => (s.marks : Int)).sum := by
  induction l with
  | nil => rfl
  | cons a l ih => simp only [List.map_cons, List.sum_cons, ← ih]; omega
theorem sc_check_bounds : FnScope (["sayings", "names", "saying"] : List Str) (["sayings"] : List Str) (defScope (top 15)) := ⟨rfl, rfl, rfl, by decide +kernel, rfl, by decide +kernel, by decide +kernel⟩
theorem ok_check_bounds (D : Df K mg "check_bounds" (top 15)) (T : Bt mg) {n : Nat} (C_unknowns_of : Cal P w K mg base "unknowns_of" (n + 2) ["sayings"] (spUnks K n)) (C_check_counts : CalX P w K mg base (L2.CX P w) "check_counts" 3 ["unknowns", "marks"] (spCounts mg)) (C_marks_in : Cal P w K mg base "marks_in" (n + 1) ["saying"] (spMarks K n)) :
    CalX P w K mg base (L2.CX P w) "check_bounds" (n + 4) ["sayings"] (spChk K mg n) := by
  refine D.okX sc_check_bounds (fun _ _ _ _ _ _ us hl => match us, hl with | [_], _ => rfl) (fun vs H Q E h => by obtain ⟨_, _, rfl, _⟩ := h; rfl) (fun f cdv A outer s H vs Q E hr h => ?_)
  have nd := sc_check_bounds.nd
  have TK := takes_of (X := cxOf (L2.CX P w) P w K mg base ["sayings", "names", "saying"] "check_bounds" (defScope (top 15)) f cdv A outer s H E) rfl rfl rfl rfl
  refine ⟨_, (pss_cons (ps_set (i := 1) nd rfl (Or.inl rfl) (pk_call C_unknowns_of hr (pa_cons (pv 0) pa_nil)))
    (pss_cons (ps_expr (pk_callS C_check_counts hr TK (pa_cons (pk_len T (pa_cons (pv 1) pa_nil)) (pa_cons (pk_sum T (pa_cons (pe_lc (own := [("saying", 2)]) rfl nd (pi_tup (pv 0)) (blkOk_by (by walk_at "blk")) (fun _ _ _ _ _ => (pg_name (i := 2) nd rfl (Or.inl rfl))) (fun _ _ _ _ _ => pts_nil) (fun _ _ _ _ _ => (pk_call C_marks_in hr (pa_cons (pv 2) pa_nil)))) pa_nil)) pa_nil))))
    (pss_one (ps_ret (pv 1))))), ?_⟩
  obtain ⟨v, ss, rfl, h1, hh, hz, hl, hE, hQ⟩ := h
  refine q_set (R := rT K rStr) (ev_call1 (ev_var rfl h1) ⟨hh, hz⟩) (fun vn H1 e1 rn => ?_)
  refine q_drop2X (R := rInt) (S := rInt) (ev_lenT (ev_var rfl rn)) (ev_sum (ev_lc (R := rSy K) (S := rInt) (fun s => (s.marks : Int)) (ii_tup (ev_var rfl (Mo.up (R := rT K (rSy K)) e1 h1))) (fun _ _ _ e => Le.of e) (by omega) (fun v => rfl) (fun s hs v H' e r => ev_call1 (ev_var rfl r) (hh s hs)))) (fun u1 u2 H3 e3 r1 r2 => ?_)
  cases r1
  cases r2
  refine ⟨(unks ss).length, (ss.map Say.marks).sum, by rw [sum_nat], fun x hx => (hE x hx).mono (e1.trans e3), fun hn H4 e4 => ?_⟩
  exact s_ret (R := rT K rStr) (ev_var rfl (Mo.up (R := rT K rStr) (e3.trans e4) rn)) (fun u H5 e5 r => hQ hn u H5 ((e1.trans (e3.trans e4)).trans e5) r)
end
end Hf


/-! ## Tr3 -/
set_option Elab.async false
set_option linter.all false
set_option maxRecDepth 100000
set_option maxHeartbeats 400000
namespace Hf
open PySem PySem.Spec
/-! ### the unknowns of two sayings, plain -/
theorem note_sub : ∀ (s : Say) (l : List Str) (x : Str), x ∈ l → x ∈ s.note l
  | .yes, l, x, h => h
  | .no, l, x, h => h
  | .unk y, l, x, h => by
    simp only [Say.note]
    split
    · exact h
    · exact List.mem_append_left _ h
  | .neg a, l, x, h => note_sub a l x h
  | .mk m a b, l, x, h => note_sub b _ x (note_sub a l x h)
theorem note_nodup : ∀ (s : Say) (l : List Str), l.Nodup → (s.note l).Nodup
  | .yes, l, h => h
  | .no, l, h => h
  | .unk y, l, h => by
    simp only [Say.note]
    split
    · exact h
    · rename_i hn
      rw [List.nodup_append]
      refine ⟨h, by simp, fun a ha b hb e => ?_⟩
      rw [List.mem_singleton.mp hb] at e
      exact hn (e ▸ ha)
  | .neg a, l, h => note_nodup a l h
  | .mk m a b, l, h => note_nodup b _ (note_nodup a l h)
theorem in_mono {l m : List Str} (h : ∀ x ∈ l, x ∈ m) : ∀ s : Say, s.In l → s.In m
  | .yes, _ => trivial
  | .no, _ => trivial
  | .unk y, hs => h y hs
  | .neg a, hs => in_mono h a hs
  | .mk k a b, hs => ⟨in_mono h a hs.1, in_mono h b hs.2⟩
theorem note_in : ∀ (s : Say) (l : List Str), s.In (s.note l)
  | .yes, _ => trivial
  | .no, _ => trivial
  | .unk y, l => by
    show y ∈ (Say.unk y).note l
    simp only [Say.note]
    split
    · assumption
    · exact List.mem_append_right _ (List.mem_singleton.mpr rfl)
  | .neg a, l => note_in a l
  | .mk m a b, l => ⟨in_mono (note_sub b _) a (note_in a l), note_in b _⟩
theorem note_occ : ∀ (s : Say) (l : List Str) (x : Str), x ∈ s.note l → x ∈ l ∨ 1 ≤ s.occ x
  | .yes, l, x, h => .inl h
  | .no, l, x, h => .inl h
  | .unk y, l, x, h => by
    simp only [Say.note] at h
    split at h
    · exact .inl h
    · rcases List.mem_append.mp h with z | z
      · exact .inl z
      · rw [List.mem_singleton.mp z]; exact .inr (by simp [Say.occ])
  | .neg a, l, x, h => note_occ a l x h
  | .mk m a b, l, x, h => by
    rcases note_occ b _ x h with z | z
    · rcases note_occ a l x z with y | y
      · exact .inl y
      · exact .inr (by simp only [Say.occ]; omega)
    · exact .inr (by simp only [Say.occ]; omega)
theorem occ_le (x : Str) : ∀ s : Say, s.occ x ≤ s.leaves
  | .yes => by simp [Say.occ, Say.leaves]
  | .no => by simp [Say.occ, Say.leaves]
  | .unk y => by simp only [Say.occ, Say.leaves]; split <;> omega
  | .neg a => occ_le x a
  | .mk m a b => by
    have := occ_le x a
    have := occ_le x b
    simp only [Say.occ, Say.leaves]
    omega
theorem occ_sum : ∀ (s : Say) (ns : List Str), ns.Nodup → (ns.map fun x => s.occ x).sum ≤ s.leaves
  | .yes, ns, _ => by
    have : ∀ l : List Str, (l.map fun x => Say.yes.occ x).sum = 0 := fun l => by induction l with
      | nil => rfl
      | cons a l ih => rw [List.map_cons, List.sum_cons, ih]; rfl
    rw [this]; exact Nat.zero_le _
  | .no, ns, _ => by
    have : ∀ l : List Str, (l.map fun x => Say.no.occ x).sum = 0 := fun l => by induction l with
      | nil => rfl
      | cons a l ih => rw [List.map_cons, List.sum_cons, ih]; rfl
    rw [this]; exact Nat.zero_le _
  | .unk y, ns, nd => by
    show _ ≤ 1
    have z : ∀ l : List Str, y ∉ l → (l.map fun x => (Say.unk y).occ x).sum = 0 := fun l => by induction l with
      | nil => intro _; rfl
      | cons a l ih =>
        intro h
        rw [List.map_cons, List.sum_cons, ih (fun q => h (List.mem_cons_of_mem _ q))]
        simp only [Say.occ]
        rw [if_neg (fun e => h (by rw [e]; exact List.mem_cons_self))]
    induction ns with
    | nil => simp
    | cons a l ih =>
      obtain ⟨na, nd'⟩ := List.nodup_cons.mp nd
      rw [List.map_cons, List.sum_cons]
      by_cases e : y = a
      · subst e
        rw [z l na]
        simp [Say.occ]
      · have := ih nd'
        simp only [Say.occ, if_neg e]
        simp only [Say.occ] at this
        omega
  | .neg a, ns, nd => occ_sum a ns nd
  | .mk m a b, ns, nd => by
    have h1 := occ_sum a ns nd
    have h2 := occ_sum b ns nd
    have : ∀ l : List Str, (l.map fun x => (Say.mk m a b).occ x).sum = (l.map fun x => a.occ x).sum + (l.map fun x => b.occ x).sum := fun l => by induction l with
      | nil => rfl
      | cons c l ih =>
        rw [List.map_cons, List.sum_cons, ih, List.map_cons, List.map_cons, List.sum_cons, List.sum_cons]
        simp only [Say.occ]
        omega
    rw [this]
    simp only [Say.leaves]
    omega
/-! ### two sayings that the bounds allow -/
abbrev nms (f g : Say) : List Str := unks [f, g]
theorem nms_nodup (f g : Say) : (nms f g).Nodup := note_nodup g _ (note_nodup f [] List.nodup_nil)
theorem nms_inf (f g : Say) : f.In (nms f g) := in_mono (note_sub g _) f (note_in f [])
theorem nms_ing (f g : Say) : g.In (nms f g) := note_in g _
structure PairOk (n : Nat) (f g : Say) : Prop where
  h : (Say.mk .same f g).ht < n
  sz : (stepsOf (.mk .same f g)).length ≤ 5000
  lv : f.leaves + g.leaves ≤ 900
def cz (f g : Say) : Option Str := cntz (nms f g).length (f.marks + g.marks)
theorem cz_none {f g : Say} (h : cz f g = none) : (nms f g).length ≤ 3 ∧ f.marks + g.marks ≤ mostM (nms f g).length := by
  unfold cz cntz at h
  split at h
  · cases h
  · split at h
    · cases h
    · exact ⟨by omega, by omega⟩
theorem mostM_lb (n : Nat) : mostM n + 2 = lbN n := match n with
  | 0 => rfl
  | 1 => rfl
  | 2 => rfl
  | _ + 3 => rfl
theorem mostM_le (n : Nat) : mostM n ≤ 12 := by unfold mostM; split <;> decide
theorem pair_sok {f g : Say} (h : cz f g = none) : Sok (nms f g) (.mk .same f g) := by
  obtain ⟨h1, h2⟩ := cz_none h
  refine ⟨nms_nodup f g, h1, ⟨nms_inf f g, nms_ing f g⟩, ?_, ?_⟩
  · rw [← mostM_lb]
    simp only [Say.leaves]
    have := leaves_marks f
    have := leaves_marks g
    omega
  · have := mostM_le (nms f g).length
    simp only [Say.marks]
    omega
/-! ### the bound -/
def boundF (f g : Say) : Int := (nms f g).foldl (fun b x => b * mOcc f g x) (Kf (nms f g).length)
def boundN (f g : Say) : Nat := (boundF f g).toNat
theorem foldl_mul (l : List Int) : ∀ a : Int, l.foldl (fun a b => a * b) a = a * l.foldl (fun a b => a * b) 1 := by
  induction l with
  | nil => intro a; simp
  | cons b l ih =>
    intro a
    rw [List.foldl_cons, List.foldl_cons, ih, ih (1 * b), Int.one_mul, Int.mul_assoc]
theorem bound_det (f g : Say) : boundF f g = detB (mOccs (nms f g) f g) := by
  unfold boundF detB mOccs prod
  rw [List.length_map, ← foldl_mul, List.foldl_map]
theorem mOcc_pos (f g : Say) (x : Str) : 1 ≤ mOcc f g x := by unfold mOcc; omega
theorem mOcc_le (f g : Say) (x : Str) : mOcc f g x ≤ max 1 ((max f.leaves g.leaves : Nat) : Int) := by
  have := occ_le x f
  have := occ_le x g
  unfold mOcc
  omega
theorem fold_pos (f g : Say) : ∀ (l : List Str) (a : Int), 0 < a → 0 < l.foldl (fun b x => b * mOcc f g x) a
  | [], a, h => h
  | x :: l, a, h => fold_pos f g l _ (Int.mul_pos h (by have := mOcc_pos f g x; omega))
theorem bound_pos (f g : Say) : 0 < boundF f g := fold_pos f g _ _ (by unfold Kf; split <;> decide)
theorem prod3 : ∀ a : Fin 8, ∀ b : Fin 8, ∀ c : Fin 8, 1 ≤ a.val → 1 ≤ b.val → 1 ≤ c.val → a.val + b.val + c.val ≤ 7 → 4 * a.val * b.val * c.val ≤ 48 := by decide +kernel
theorem leaves_pos : ∀ s : Say, 1 ≤ s.leaves := fun s => by rw [leaves_marks]; omega
theorem bound_small {f g : Say} (h : cz f g = none) (h3 : ¬ ((nms f g).length = 3 ∧ 5 < f.marks + g.marks)) : boundF f g ≤ 1000 ∧ (boundN f g + 1) ^ (nms f g).length ≤ 1000000 := by
  obtain ⟨h1, h2⟩ := cz_none h
  have l1 := leaves_marks f
  have l2 := leaves_marks g
  have lf := leaves_pos f
  have lg := leaves_pos g
  have nd := nms_nodup f g
  have s1 := occ_sum f _ nd
  have s2 := occ_sum g _ nd
  have op : ∀ x ∈ nms f g, 1 ≤ f.occ x ∨ 1 ≤ g.occ x := fun x hx => by
    rcases note_occ g _ x hx with z | z
    · rcases note_occ f [] x z with y | y
      · simp at y
      · exact .inl y
    · exact .inr z
  have h5 : (nms f g).length = 3 → f.marks + g.marks ≤ 5 := fun e => by
    apply Classical.byContradiction
    intro hn
    exact h3 ⟨e, by omega⟩
  clear h3
  unfold boundN boundF
  generalize nms f g = ns at *
  have ml : ∀ x, mOcc f g x ≤ max 1 ((max f.leaves g.leaves : Nat) : Int) := mOcc_le f g
  match ns, h1, h2, h5, s1, s2, op with
  | [], _, _, _, _, _, _ => exact ⟨show (1 : Int) ≤ 1000 by decide, show ((1 : Int).toNat + 1) ^ 0 ≤ 1000000 by decide⟩
  | [x], _, h2, _, _, _, _ =>
    have a := ml x
    have p := mOcc_pos f g x
    simp only [List.length_singleton, List.foldl_cons, List.foldl_nil, Kf, Int.one_mul, Nat.pow_one, mostM] at *
    omega
  | [x, y], _, h2, _, _, _, _ =>
    have a := ml x
    have b := ml y
    have p := mOcc_pos f g x
    have p2 := mOcc_pos f g y
    simp only [List.length_cons, List.length_nil, List.foldl_cons, List.foldl_nil, Kf, mostM] at *
    have hb : (2 * mOcc f g x) * mOcc f g y ≤ 22 * 11 := Int.le_trans (Int.mul_le_mul_of_nonneg_right (by omega) (by omega)) (Int.mul_le_mul_of_nonneg_left (by omega) (by decide))
    have hp : 0 ≤ (2 * mOcc f g x) * mOcc f g y := Int.mul_nonneg (by omega) (by omega)
    refine ⟨by omega, ?_⟩
    have : ((2 * mOcc f g x) * mOcc f g y).toNat + 1 ≤ 243 := by omega
    exact Nat.le_trans (Nat.pow_le_pow_left this 2) (by decide)
  | [x, y, z], _, h2, h5, s1, s2, op =>
    have hm : f.marks + g.marks ≤ 5 := h5 rfl
    clear h5
    have ox := op x (by simp)
    have oy := op y (by simp)
    have oz := op z (by simp)
    simp only [List.length_cons, List.length_nil, List.foldl_cons, List.foldl_nil, List.map_cons, List.map_nil, List.sum_cons, List.sum_nil, Kf, mostM] at *
    have m1 : mOcc f g x ≤ (f.occ x + g.occ x : Nat) := by unfold mOcc; omega
    have m2 : mOcc f g y ≤ (f.occ y + g.occ y : Nat) := by unfold mOcc; omega
    have m3 : mOcc f g z ≤ (f.occ z + g.occ z : Nat) := by unfold mOcc; omega
    have p1 := mOcc_pos f g x
    have p2 := mOcc_pos f g y
    have p3 := mOcc_pos f g z
    obtain ⟨a, ha⟩ := Int.eq_ofNat_of_zero_le (show 0 ≤ mOcc f g x by omega)
    obtain ⟨b, hb⟩ := Int.eq_ofNat_of_zero_le (show 0 ≤ mOcc f g y by omega)
    obtain ⟨c, hc⟩ := Int.eq_ofNat_of_zero_le (show 0 ≤ mOcc f g z by omega)
    have hz := prod3 ⟨a, by omega⟩ ⟨b, by omega⟩ ⟨c, by omega⟩ (by show 1 ≤ a; omega) (by show 1 ≤ b; omega) (by show 1 ≤ c; omega) (by show a + b + c ≤ 7; omega)
    have hz : 4 * a * b * c ≤ 48 := hz
    rw [ha, hb, hc]
    have e : (4 : Int) * ((a : Nat) : Int) * ((b : Nat) : Int) * ((c : Nat) : Int) = ((4 * a * b * c : Nat) : Int) := by push_cast; rfl
    rw [e]
    refine ⟨by omega, ?_⟩
    have : (((4 * a * b * c : Nat) : Int)).toNat + 1 ≤ 49 := by omega
    exact Nat.le_trans (Nat.pow_le_pow_left this 3) (by decide)
/-! ### the search -/
def foundAt (f g : Say) (i : Nat) : Option (Nat × List (Int × Int)) := (firstRow (stepsOf f) (stepsOf g) (nms f g) (i + 1)).map fun row => (i + 1, row.map fun y => lowestF y ((i + 1 : Nat) : Int))
def srch (f g : Say) (B : Nat) : Option (Nat × List (Int × Int)) := (List.range B).findSome? (foundAt f g)
theorem firstRow_some {f g : Say} {m : Nat} {row : Vec} (h : firstRow (stepsOf f) (stepsOf g) (nms f g) m = some row) : OnGrid (nms f g).length (m : Int) row ∧ PartsAt (nms f g) f g (m : Int) row := by
  unfold firstRow at h
  have h1 := List.mem_of_find?_eq_some h
  have h2 := List.find?_some h
  have h2 : (!decide (numOf (stepsOf f) (tbF ((nms f g).zip row)) m = numOf (stepsOf g) (tbF ((nms f g).zip row)) m)) = true := h2
  rw [numOf_val, numOf_val] at h2
  obtain ⟨g1, g2⟩ := mem_grid.mp h1
  exact ⟨⟨g1, g2⟩, by unfold PartsAt; simpa using h2⟩
theorem firstRow_none {f g : Say} {m : Nat} (h : firstRow (stepsOf f) (stepsOf g) (nms f g) m = none) {row : Vec} (hg : OnGrid (nms f g).length (m : Int) row) : ¬ PartsAt (nms f g) f g (m : Int) row := fun hp => by
  unfold firstRow at h
  rw [List.find?_eq_none] at h
  have := h row (mem_grid.mpr ⟨hg.1, hg.2⟩)
  have : ¬ (!decide (numOf (stepsOf f) (tbF ((nms f g).zip row)) m = numOf (stepsOf g) (tbF ((nms f g).zip row)) m)) = true := this
  rw [numOf_val, numOf_val] at this
  unfold PartsAt at hp
  exact this (by simpa using hp)
theorem grid_pt {n m : Nat} (hm : 0 < m) {row : Vec} (h : OnGrid n (m : Int) row) : Pt n (faces n) (m : Int) row := ⟨by omega, h.1, fun c hc => by
  obtain ⟨i, hi, e | e⟩ := mem_faces.mp hc
  · subst e; rw [dot_faceLo]
    exact (h.2 _ (getD_mem (by rw [h.1]; exact hi))).1
  · subst e; rw [dot_faceHi]
    have := (h.2 _ (getD_mem (by rw [h.1]; exact hi))).2
    omega⟩
theorem same_lt {d a b : Int} (h : a ≠ b) : mkv .same d a b < d := by
  simp only [mkv]
  split <;> omega
/-- alike sayings: nothing is found -/
theorem alike_none {f g : Say} (h : cz f g = none) (hb : (belowF (nms f g) (.mk .same f g)).isNone = true) (B : Nat) : srch f g B = none := by
  unfold srch
  rw [List.findSome?_eq_none_iff]
  intro i hi
  unfold foundAt
  cases hr : firstRow (stepsOf f) (stepsOf g) (nms f g) (i + 1) with
  | none => rfl
  | some row =>
    obtain ⟨h1, h2⟩ := firstRow_some hr
    have := below_some (pair_sok h) (grid_pt (by omega) h1) (same_lt h2)
    rw [Option.isSome_iff_exists] at this
    obtain ⟨z, hz⟩ := this
    rw [hz] at hb
    cases hb
end Hf


/-! ## Fa15 -/
set_option Elab.async false
set_option linter.all false
set_option maxRecDepth 100000
set_option maxHeartbeats 400000

namespace Hf
open PySem PySem.Spec PyProof.Rows L2 RZ
/-! ### sayings built -/
section
variable {K : PySem.W.Frag} {σ : L2.St} {H : Hp} {t0 t1 t2 ta tb : TE} {m : Mk} {s t : Say} {x : Str}
theorem ev_mkS (h0 : EvR t0 σ H rMk m) (h1 : EvR t1 σ H (rSy K) s) (h2 : EvR t2 σ H (rSy K) t) : EvR (tTup (tCons t0 (tCons t1 (tCons t2 tNil)))) σ H (rSy K) (.mk m s t) := fun H1 e Q q =>
  ev_trip (K := K) h0 h1 h2 H1 e Q fun v H2 e2 ⟨a, u, w, z, e0, h3, h4, h5, h6⟩ => q v H2 e2 ⟨a, w, z, e0, by cases h4; exact h3, h5, h6⟩
theorem ev_negS (h1 : EvR t1 σ H (rSy K) s) : EvR (tTup (tCons (tC (.str "not")) (tCons t1 tNil))) σ H (rSy K) (.neg s) := fun H1 e Q q =>
  ev_pair (K := K) (R := rStr) (S := rSy K) (x := "not") ev_str h1 H1 e Q fun v H2 e2 ⟨a, u, w, e0, h3, h4, h5⟩ => q v H2 e2 ⟨a, w, e0, by cases h4; exact h3, h5⟩
theorem ev_unkS (h1 : EvR t1 σ H rStr x) : EvR (tTup (tCons (tC (.str "unknown")) (tCons t1 tNil))) σ H (rSy K) (.unk x) := fun H1 e Q q =>
  ev_pair (K := K) (R := rStr) (S := rStr) (x := "unknown") ev_str h1 H1 e Q fun v H2 e2 ⟨a, u, w, e0, h3, h4, h5⟩ => q v H2 e2 ⟨a, e0, by cases h4; cases h5; exact h3⟩
theorem ev_yesS : EvR (tTup (tCons (tC (.str "yes")) tNil)) σ H (rSy K) .yes := fun H1 e Q q =>
  ev_tup (K := K) (R := rStr) (xs := ["yes"]) (ei_cons ev_str ei_nil) (by decide) H1 e Q fun v H2 e2 ⟨a, vs, e0, h3, h4⟩ => q v H2 e2 ⟨a, e0, by rw [h4.hstrs] at h3; exact h3⟩
theorem ev_noS : EvR (tTup (tCons (tC (.str "no")) tNil)) σ H (rSy K) .no := fun H1 e Q q =>
  ev_tup (K := K) (R := rStr) (xs := ["no"]) (ei_cons ev_str ei_nil) (by decide) H1 e Q fun v H2 e2 ⟨a, vs, e0, h3, h4⟩ => q v H2 e2 ⟨a, e0, by rw [h4.hstrs] at h3; exact h3⟩
theorem ev_mkc (m : Mk) : EvR (tC (.str m.s)) σ H rMk m := fun H1 _ _ q => q _ H1 (Same.refl H1) rfl
end
section
variable {K : PySem.W.Frag} {σ : L2.St} {H : Hp} {ta tb : TE} {α β : Type} {R : Rl α} {S : Rl β} {x : α} {y : β} {D : Ends} {tu : TS} {sp : Sp}
theorem q_drop1L (h1 : EvR ta σ H R x) (q : ∀ u H', Same H H' → R H' u x → sp [u] H' (fun _ H2 => tu D σ H2) E0) : tSeq (tDrop (tCall sp [] E0 (tCons ta tNil))) tu D σ H := h1 H (Same.refl H) _ fun u H1 e1 r => q u H1 e1 r
end
theorem pair_ht {n : Nat} {f g : Say} (h : PairOk n f g) : f.ht < n ∧ g.ht < n := by
  have := h.h
  simp only [Say.ht] at this
  omega
theorem sum2 (f g : Say) : (([f, g] : List Say).map Say.marks).sum = f.marks + g.marks := by simp
section
variable {P : Program} {w : World} {K : PySem.W.Frag} {mg : Str → Option Value} {base : Heap}
/-! ### parting, are_alike -/
def spPart (K : PySem.W.Frag) (n : Nat) : Sp := sp2 (rSy K) (rSy K) (fun f g => PairOk n f g ∧ cz f g = none) (rOpt (rT K (r2 K rInt rInt))) (fun f g => belowF (nms f g) (.mk .same f g))
theorem sc_parting : FnScope (["first", "second"] : List Str) (["first", "second"] : List Str) (defScope (top 56)) := ⟨rfl, rfl, rfl, by decide +kernel, rfl, by decide +kernel, by decide +kernel⟩
theorem ok_parting (D : Df K mg "parting" (top 56)) {n : Nat} (C_check_bounds : CalX P w K mg base (L2.CX P w) "check_bounds" (n + 4) ["sayings"] (spChk K mg n)) (C_point_below : Cal P w K mg base "point_below" (n + 7) ["saying"] (spBelow K n)) : Cal P w K mg base "parting" (n + 8) ["first", "second"] (spPart K n) := by
  refine D.ok sc_parting (fun _ _ _ _ _ _ us hl => match us, hl with | [_, _], _ => rfl) (sp2_len) (fun f cdv A outer s H vs Q E hr h => ?_)
  have nd := sc_parting.nd
  refine ⟨_, (pss_cons (ps_expr (pk_callL C_check_bounds hr (pa_cons (pe_tup (pa_cons (pv 0) (pa_cons (pv 1) pa_nil))) pa_nil)))
    (pss_one (ps_ret (pk_call C_point_below hr (pa_cons (pe_tup (pa_cons pe_str (pa_cons (pv 0) (pa_cons (pv 1) pa_nil)))) pa_nil))))), ?_⟩
  obtain ⟨v1, v2, f', g, rfl, h1, h2, ⟨po, hc⟩, q⟩ := h
  have hh := pair_ht po
  have lv := po.lv
  refine q_drop1L (R := rT K (rSy K)) (x := [f', g]) (ev_tup (ei_cons (ev_var rfl h1) (ei_cons (ev_var rfl h2) ei_nil)) (by simp)) (fun u H1 e1 r => ⟨u, [f', g], rfl, r, fun s hs => ?_, by simp; omega, by simp, fun x hx => ?_, fun _ u' H2 e2 _ => ?_⟩)
  · simp at hs
    rcases hs with rfl | rfl
    · exact hh.1
    · exact hh.2
  · rw [sum2] at hx
    have : cz f' g = some x := hx
    rw [hc] at this; cases this
  · have e12 := e1.trans e2
    exact s_ret (R := rOpt (rT K (r2 K rInt rInt))) (x := belowF (nms f' g) (.mk .same f' g)) (ev_call1 (ev_mkS (ev_mkc .same) (ev_var rfl (Mo.up (R := rSy K) e12 h1)) (ev_var rfl (Mo.up (R := rSy K) e12 h2))) ⟨pair_sok hc, po.h, po.sz⟩) (fun v H' e r => q v H' (e12.trans e) r)
def spAlike (K : PySem.W.Frag) (n : Nat) : Sp := sp2 (rSy K) (rSy K) (fun f g => PairOk n f g ∧ cz f g = none) rBl (fun f g => (belowF (nms f g) (.mk .same f g)).isNone)
theorem sc_are_alike : FnScope (["first", "second"] : List Str) (["first", "second"] : List Str) (defScope (top 57)) := ⟨rfl, rfl, rfl, by decide +kernel, rfl, by decide +kernel, by decide +kernel⟩
theorem ok_are_alike (D : Df K mg "are_alike" (top 57)) {n : Nat} (C_parting : Cal P w K mg base "parting" (n + 8) ["first", "second"] (spPart K n)) : Cal P w K mg base "are_alike" (n + 9) ["first", "second"] (spAlike K n) := by
  refine D.ok sc_are_alike (fun _ _ _ _ _ _ us hl => match us, hl with | [_, _], _ => rfl) (sp2_len) (fun f cdv A outer s H vs Q E hr h => ?_)
  have nd := sc_are_alike.nd
  refine ⟨_, (pss_one (ps_ret (pe_cmpR op_isN (pk_call C_parting hr (pa_cons (pv 0) (pa_cons (pv 1) pa_nil))) pe_non (nomark _)))), ?_⟩
  obtain ⟨v1, v2, f', g, rfl, h1, h2, po, q⟩ := h
  exact s_ret (R := rBl) (x := (belowF (nms f' g) (.mk .same f' g)).isNone) (ev_isN (R := rOpt (rT K (r2 K rInt rInt))) (ev_call2 (ev_var rfl h1) (ev_var rfl h2) po) (fun H v r => by
    cases hb : belowF (nms f' g) (.mk .same f' g) with
    | none => rw [hb] at r; rw [show v = .non from r]; rfl
    | some z => rw [hb] at r; exact decide_eq_false r.1)) (fun v H' e r => q v H' e r)
/-! ### denominator_bound -/
def spDen (K : PySem.W.Frag) (mg : Str → Option Value) (n : Nat) : Sp := fun vs H Q E => ∃ (v1 v2 : V) (f g : Say), vs = [v1, v2] ∧ rSay K H v1 f ∧ rSay K H v2 g ∧ PairOk n f g ∧ (∀ x, cz f g = some x → Thr mg H E x) ∧ (cz f g = none → ∀ H', Same H H' → Q (.int (boundF f g)) H')
theorem spDen_len {n : Nat} (vs : List V) (H : Hp) (Q : VK) (E : XK) (h : spDen K mg n vs H Q E) : vs.length = 2 := by obtain ⟨_, _, _, _, rfl, _⟩ := h; rfl
theorem sc_denominator_bound : FnScope (["first", "second", "names", "bound", "name"] : List Str) (["first", "second"] : List Str) (defScope (top 61)) := ⟨rfl, rfl, rfl, by decide +kernel, rfl, by decide +kernel, by decide +kernel⟩
theorem ok_denominator_bound (D : Df K mg "denominator_bound" (top 61)) (T : Bt mg) (cF : Ct K mg "FACTORS" (([1, 1, 2, 4] : List Int).map V.int)) {n : Nat} (C_check_bounds : CalX P w K mg base (L2.CX P w) "check_bounds" (n + 4) ["sayings"] (spChk K mg n)) (C_unknowns_of : Cal P w K mg base "unknowns_of" (n + 2) ["sayings"] (spUnks K n)) (C_occurrences : Cal P w K mg base "occurrences" (n + 1) ["saying", "name"] (spOcc K n)) :
    CalX P w K mg base (L2.CX P w) "denominator_bound" (n + 5) ["first", "second"] (spDen K mg n) := by
  obtain ⟨aF, g_FACTORS, hF⟩ := cF.ex
  refine D.okX sc_denominator_bound (fun _ _ _ _ _ _ us hl => match us, hl with | [_, _], _ => rfl) spDen_len (fun f cdv A outer s H vs Q E hr h => ?_)
  have nd := sc_denominator_bound.nd
  have TK := takes_of (X := cxOf (L2.CX P w) P w K mg base ["first", "second", "names", "bound", "name"] "denominator_bound" (defScope (top 61)) f cdv A outer s H E) rfl rfl rfl rfl
  refine ⟨_, (pss_cons (ps_expr (pk_callS C_check_bounds hr TK (pa_cons (pe_tup (pa_cons (pv 0) (pa_cons (pv 1) pa_nil))) pa_nil)))
    (pss_cons (ps_set (i := 2) nd rfl (Or.inl rfl) (pk_call C_unknowns_of hr (pa_cons (pe_tup (pa_cons (pv 0) (pa_cons (pv 1) pa_nil))) pa_nil)))
    (pss_cons (ps_set (i := 3) nd rfl (Or.inl rfl) (pe_ix ix_tup (pk_globT g_FACTORS) (pk_len T (pa_cons (pv 2) pa_nil)) (fun _ _ => rfl)))
    (pss_cons (ps_for (passes_of rfl) rfl (pi_tup (pv 2)) (pg_name (i := 4) nd rfl (Or.inl rfl)) (pss_one (ps_set (i := 3) nd rfl (Or.inl rfl) (pe_op op_mul (pv 3) (pk_max3 T (pa_cons pe_int (pa_cons (pk_call C_occurrences hr (pa_cons (pv 0) (pa_cons (pv 4) pa_nil))) (pa_cons (pk_call C_occurrences hr (pa_cons (pv 1) (pa_cons (pv 4) pa_nil))) pa_nil))))))))
    (pss_one (ps_ret (pv 3))))))), ?_⟩
  obtain ⟨v1, v2, f', g, rfl, h1, h2, po, hE, hQ⟩ := h
  have hh := pair_ht po
  have lv := po.lv
  have h12 : ∀ s ∈ [f', g], s.ht < n := fun s hs => by
    simp at hs
    rcases hs with rfl | rfl
    · exact hh.1
    · exact hh.2
  refine q_drop1X (R := rT K (rSy K)) (x := [f', g]) (ev_tup (ei_cons (ev_var rfl h1) (ei_cons (ev_var rfl h2) ei_nil)) (by simp)) (fun u H1 e1 r => ⟨u, [f', g], rfl, r, h12, by simp; omega, by simp, fun x hx => ?_, fun hn u' H2 e2 _ => ?_⟩)
  · rw [sum2] at hx
    exact (hE x hx).mono e1
  · rw [sum2] at hn
    have hn : cz f' g = none := hn
    have e12 := e1.trans e2
    refine q_set (R := rT K rStr) (x := nms f' g) (ev_call1 (ev_tup (xs := [f', g]) (ei_cons (ev_var rfl (Mo.up (R := rSy K) e12 h1)) (ei_cons (ev_var rfl (Mo.up (R := rSy K) e12 h2)) ei_nil)) (by simp)) ⟨h12, by simp; omega⟩) (fun vn H3 e3 rn => ?_)
    have n3 := (cz_none hn).1
    have ha : atI ([1, 1, 2, 4] : List Int) ((nms f' g).length : Int) = some (Kf (nms f' g).length) := by
      have : (nms f' g).length = 0 ∨ (nms f' g).length = 1 ∨ (nms f' g).length = 2 ∨ (nms f' g).length = 3 := by omega
      rcases this with e | e | e | e <;> rw [e] <;> rfl
    refine q_set (R := rInt) (ev_ixT (R := rInt) (ev_c (ct_ints hF H3)) (ev_lenT (ev_var rfl rn)) ha) (fun vb H4 e4 rb => ?_)
    cases rb
    have e14 := e12.trans (e3.trans e4)
    refine q_for (I := fun H5 i σ' H' => ∃ x4, σ' = [some v1, some v2, some vn, some (.int (((nms f' g).take i).foldl (fun b x => b * mOcc f' g x) (Kf (nms f' g).length))), x4] ∧ Same H5 H') (ii_tup (ev_var rfl (Mo.up e4 rn))) (fun H5 e5 => ⟨_, rfl, Same.refl _⟩) (fun H5 i σ' H' e5 z => ?_) (fun H5 i x σ' H' v' H'' e5 hx z e6 r => ?_) (fun H5 σ' H' e5 z => ?_)
    · obtain ⟨_, _, sb⟩ := z
      exact Le.of sb
    · obtain ⟨x4, rfl, sb⟩ := z
      have e0 := ((e14.trans e5).trans sb).trans e6
      have ml := mOcc_le f' g x
      have mp := mOcc_pos f' g x
      refine s_set (R := rInt) (ev_mul (ev_var (R := rInt) rfl rfl) (EvR.to (x' := mOcc f' g x) (ev_max3 (ev_int (i := 1)) (ev_call2 (ev_var rfl (Mo.up (R := rSy K) e0 h1)) (ev_var rfl r) hh.1) (ev_call2 (ev_var rfl (Mo.up (R := rSy K) e0 h2)) (ev_var rfl r) hh.2)) rfl) (.inr ⟨by omega, by omega⟩)) (fun v H6 e7 r6 => ⟨some v', ?_, (sb.trans e6).trans e7⟩)
      cases r6
      rw [List.take_add_one, hx, Option.toList_some, List.foldl_append]
      rfl
    · obtain ⟨x4, rfl, sb⟩ := z
      rw [List.take_length]
      refine s_ret (R := rInt) (ev_var (R := rInt) rfl rfl) (fun v H6 e7 r6 => ?_)
      cases r6
      exact hQ hn H6 (((e14.trans e5).trans sb).trans e7)
/-! ### least_parting -/
def lz (f g : Say) : Option Str := match cz f g with
  | some x => some x
  | none => if (nms f g).length = 3 ∧ 5 < f.marks + g.marks then some "marks" else none
abbrev rFound (K : PySem.W.Frag) : Rl (Option (Nat × List (Int × Int))) := rOpt (r2 K rNat (rT K (r2 K rInt rInt)))
def spLeast2 (K : PySem.W.Frag) (mg : Str → Option Value) (n : Nat) : Sp := fun vs H Q E => ∃ (v1 v2 : V) (f g : Say), vs = [v1, v2] ∧ rSay K H v1 f ∧ rSay K H v2 g ∧ PairOk n f g ∧ (∀ x, lz f g = some x → Thr mg H E x) ∧ (lz f g = none → ∀ u H', Same H H' → rFound K H' u (srch f g (boundN f g)) → Q u H')
theorem spLeast2_len {n : Nat} (vs : List V) (H : Hp) (Q : VK) (E : XK) (h : spLeast2 K mg n vs H Q E) : vs.length = 2 := by obtain ⟨_, _, _, _, rfl, _⟩ := h; rfl
theorem steps_same (f g : Say) : (stepsOf (Say.mk .same f g)).length = (stepsOf f).length + ((stepsOf g).length + 1) := by
  show (stepsOf f ++ (stepsOf g ++ [Say.mk .same f g])).length = _
  simp
theorem steps_unk {ns : List Str} {s : Say} (h : s.In ns) : ∀ x, Say.unk x ∈ stepsOf s → x ∈ ns := fun x hx => in_steps s h _ hx
theorem ok0_steps (s : Say) : okRun 0 (stepsOf s) := by
  have := ok_steps s 0 [] rfl
  rw [List.append_nil] at this
  exact this
theorem sc_least_parting : FnScope (["first", "second", "bound", "names", "one", "two", "most", "row", "number"] : List Str) (["first", "second"] : List Str) (defScope (top 66)) := ⟨rfl, rfl, rfl, by decide +kernel, rfl, by decide +kernel, by decide +kernel⟩
theorem ok_least_parting (D : Df K mg "least_parting" (top 66)) (T : Bt mg) (TM : TmD K mg) (g_MOST_MARKS_partings : ∃ t, mg "MOST_MARKS_partings" = some (.int 5 t)) {n : Nat} (C_denominator_bound : CalX P w K mg base (L2.CX P w) "denominator_bound" (n + 5) ["first", "second"] (spDen K mg n)) (C_unknowns_of : Cal P w K mg base "unknowns_of" (n + 2) ["sayings"] (spUnks K n)) (C_marks_in : Cal P w K mg base "marks_in" (n + 1) ["saying"] (spMarks K n))
    (C_are_alike : Cal P w K mg base "are_alike" (n + 9) ["first", "second"] (spAlike K n)) (C_steps_of : Cal P w K mg base "steps_of" (n + 1) ["saying"] (spSteps K n)) (C__first_on_grid : Cal P w K mg base "_first_on_grid" 3 ["first", "second", "names", "most"] (spFirst K)) (C_lowest : Cal P w K mg base "lowest" 2 ["above", "below"] (spLowest K)) :
    CalX P w K mg base (L2.CX P w) "least_parting" (n + 10) ["first", "second"] (spLeast2 K mg n) := by
  obtain ⟨tk5, g_MOST_MARKS_partings⟩ := g_MOST_MARKS_partings
  refine D.okX sc_least_parting (fun _ _ _ _ _ _ us hl => match us, hl with | [_, _], _ => rfl) spLeast2_len (fun f cdv A outer s H vs Q E hr h => ?_)
  have nd := sc_least_parting.nd
  have TK := takes_of (X := cxOf (L2.CX P w) P w K mg base ["first", "second", "bound", "names", "one", "two", "most", "row", "number"] "least_parting" (defScope (top 66)) f cdv A outer s H E) rfl rfl rfl rfl
  refine ⟨_, (pss_cons (ps_set (i := 2) nd rfl (Or.inl rfl) (pk_callS C_denominator_bound hr TK (pa_cons (pv 0) (pa_cons (pv 1) pa_nil))))
    (pss_cons (ps_set (i := 3) nd rfl (Or.inl rfl) (pk_call C_unknowns_of hr (pa_cons (pe_tup (pa_cons (pv 0) (pa_cons (pv 1) pa_nil))) pa_nil)))
    (pss_cons (ps_if (PW.pt (pw_and (pt_cmpR op_eq (pk_len T (pa_cons (pv 3) pa_nil)) pe_int (nomark _)) (pw_and1 (pt_cmpR op_gt (pe_op op_add (pk_call C_marks_in hr (pa_cons (pv 0) pa_nil)) (pk_call C_marks_in hr (pa_cons (pv 1) pa_nil))) (pk_globI g_MOST_MARKS_partings) (nomark _))))) (pss_one (ps_raiseTm TM hr TK (pa_cons pe_str pa_nil))) pss_nil)
    (pss_cons (ps_if (pt_val (pk_call C_are_alike hr (pa_cons (pv 0) (pa_cons (pv 1) pa_nil)))) (pss_one (ps_ret pe_non)) pss_nil)
    (pss_cons (ps_par (i := 4) (j := 5) rfl nd rfl rfl (by decide) rfl rfl (pa_cons (pk_call C_steps_of hr (pa_cons (pv 0) pa_nil)) (pa_cons (pk_call C_steps_of hr (pa_cons (pv 1) pa_nil)) pa_nil)) (by rfl))
    (pss_cons (ps_for (passes_of rfl) rfl (pi_range2 rfl T.range (pa_cons pe_int (pa_cons (pe_op op_add (pv 2) pe_int) pa_nil))) (pg_name (i := 6) nd rfl (Or.inr rfl)) (pss_cons (ps_set (i := 7) nd rfl (Or.inl rfl) (pk_call C__first_on_grid hr (pa_cons (pv 4) (pa_cons (pv 5) (pa_cons (pv 3) (pa_cons (pv 6) pa_nil))))))
    (pss_one (ps_if (pt_cmpR op_notN (pv 7) pe_non (nomark _)) (pss_one (ps_ret (pe_tup (pa_cons (pv 6) (pa_cons (pk_tuple T (pa_cons (pe_lc (own := [("number", 8)]) rfl nd (pi_tup (pv 7)) (blkOk_by (by walk_at "blk")) (fun _ _ _ _ _ => (pg_name (i := 8) nd rfl (Or.inl rfl))) (fun _ _ _ _ _ => pts_nil) (fun _ _ _ _ _ => (pk_call C_lowest hr (pa_cons (pv 8) (pa_cons (pv 6) pa_nil))))) pa_nil)) pa_nil))))) pss_nil))))
    (pss_one (ps_ret pe_non)))))))), ?_⟩
  obtain ⟨v1, v2, f', g, rfl, h1, h2, po, hE, hQ⟩ := h
  have hh := pair_ht po
  have lv := po.lv
  have sz := po.sz
  rw [steps_same] at sz
  have h12 : ∀ s ∈ [f', g], s.ht < n := fun s hs => by
    simp at hs
    rcases hs with rfl | rfl
    · exact hh.1
    · exact hh.2
  refine q_set2X (R := rSy K) (S := rSy K) (ev_var rfl h1) (ev_var rfl h2) (fun u w H1 e1 r1 r2' => ⟨u, w, f', g, rfl, r1, r2', po, fun x hx => (hE x (by unfold lz; rw [hx])).mono e1, fun hn H2 e2 => ?_⟩)
  have e12 := e1.trans e2
  refine q_set (R := rT K rStr) (x := nms f' g) (ev_call1 (ev_tup (xs := [f', g]) (ei_cons (ev_var rfl (Mo.up (R := rSy K) e12 h1)) (ei_cons (ev_var rfl (Mo.up (R := rSy K) e12 h2)) ei_nil)) (by simp)) ⟨h12, by simp; omega⟩) (fun vn H3 e3 rn => ?_)
  have e13 := e12.trans e3
  refine q_when (et_and (et_test (ev_eqI (ev_lenT (ev_var rfl rn)) ev_int)) (fun _ => et_test (ev_cmpI (f := fun i j => decide (i > j)) (ev_add (ev_call1 (ev_var rfl (Mo.up (R := rSy K) e13 h1)) hh.1) (ev_call1 (ev_var rfl (Mo.up (R := rSy K) e13 h2)) hh.2)) (ev_int (i := 5))))) (fun c H4 e4 => ?_) (fun c H4 e4 => ?_)
  · rw [Bool.and_eq_true] at c
    have c1 := of_decide_eq_true c.1
    have c2 := of_decide_eq_true c.2
    exact s_raise ev_str ((hE _ (by unfold lz; rw [hn]; exact if_pos ⟨by omega, by omega⟩)).mono (e13.trans e4))
  have h3 : ¬ ((nms f' g).length = 3 ∧ 5 < f'.marks + g.marks) := fun z => by
    rw [decide_eq_true (show ((nms f' g).length : Int) = 3 by omega), decide_eq_true (show (f'.marks : Int) + (g.marks : Int) > 5 by omega)] at c
    cases c
  have ln : lz f' g = none := by unfold lz; rw [hn]; exact if_neg h3
  have e14 := e13.trans e4
  refine q_when (et_test (ev_call2 (ev_var rfl (Mo.up (R := rSy K) e14 h1)) (ev_var rfl (Mo.up (R := rSy K) e14 h2)) ⟨po, hn⟩)) (fun c H5 e5 => ?_) (fun c H5 e5 => ?_)
  · refine s_ret (R := rV) ev_non (fun v H6 e6 r => hQ ln v H6 ((e14.trans e5).trans e6) ?_)
    rw [alike_none hn c]
    exact r
  have e15 := e14.trans e5
  refine q_par (R := rL (rSy K)) (S := rL (rSy K)) (x := stepsOf f') (y := stepsOf g) (EvR.imp (ev_call1N (ev_var rfl (Mo.up (R := rSy K) e15 h1)) ⟨hh.1, by omega⟩) (fun _ _ _ h => h.rl)) (EvR.imp (ev_call1N (ev_var rfl (Mo.up (R := rSy K) e15 h2)) ⟨hh.2, by omega⟩) (fun _ _ _ h => h.rl)) (fun u1 u2 H6 e6 r4 r5 => ?_)
  have e16 := e15.trans e6
  have rn6 := Mo.up (R := rT K rStr) ((e4.trans e5).trans e6) rn
  have bs := bound_small hn h3
  have bp := bound_pos f' g
  have bN : ((boundN f' g : Nat) : Int) = boundF f' g := by unfold boundN; omega
  have n3 := (cz_none hn).1
  let F := foundAt f' g
  refine q_for (I := fun H7 i σ' H' => ∃ x6 x7, σ' = [some v1, some v2, some (.int (boundF f' g)), some vn, some u1, some u2, x6, x7, none] ∧ Same H7 H' ∧ ((List.range (boundN f' g)).take i).findSome? F = none) (ii_range2 (i := 1) (j := boundF f' g + 1) ev_int (ev_add (ev_var (R := rInt) rfl rfl) ev_int) ⟨by decide, by decide, by omega, by omega⟩)
    (fun H7 e7 => ⟨_, _, rfl, Same.refl _, rfl⟩) (fun H7 i σ' H' e7 z => ?_) (fun H7 i x σ' H' v' H'' e7 hx z e8 r => ?_) (fun H7 σ' H' e7 z => ?_)
  · obtain ⟨_, _, _, sb, _⟩ := z
    exact Le.of sb
  · obtain ⟨x6, x7, rfl, sb, none_⟩ := z
    have hi : i < boundN f' g := by
      have := (List.getElem?_eq_some_iff.mp hx).1
      rw [ivs_len] at this
      omega
    rw [ivs_get (by omega)] at hx
    cases hx
    cases r
    have e0 := (e7.trans sb).trans e8
    have hri : (List.range (boundN f' g))[i]? = some i := by simp [hi]
    have snoc : ((List.range (boundN f' g)).take (i + 1)).findSome? F = F i := by
      rw [List.take_add_one, hri, Option.toList_some, List.findSome?_append, none_]
      cases hb : F i <;> simp [hb]
    have ei : (1 : Int) + (i : Nat) = ((i + 1 : Nat) : Int) := by omega
    rw [ei]
    have fp : FirP (stepsOf f') (stepsOf g) (nms f' g) (i + 1) := ⟨by omega, by omega, ok0_steps f', ok0_steps g, steps_unk (nms_inf f' g), steps_unk (nms_ing f' g), nms_nodup f' g, n3, Nat.le_trans (Nat.pow_le_pow_left (by omega) _) bs.2, by omega⟩
    refine q_set (R := rOpt (rVc K)) (x := firstRow (stepsOf f') (stepsOf g) (nms f' g) (i + 1)) (ev_call4 (R := rL (rSy K)) (S := rL (rSy K)) (T := rT K rStr) (U := rNat) (ev_var rfl (Mo.up e0 r4)) (ev_var rfl (Mo.up e0 r5)) (ev_var rfl (Mo.up e0 rn6)) (ev_nat (n := i + 1) (ev_var (R := rInt) rfl rfl)) fp) (fun v7 H8 e9 r7 => ?_)
    cases hfr : firstRow (stepsOf f') (stepsOf g) (nms f' g) (i + 1) with
    | none =>
      rw [hfr] at r7
      have r7 : v7 = .non := r7
      subst r7
      have hF : F i = none := by show foundAt f' g i = none; unfold foundAt; rw [hfr]; rfl
      refine s_when (b := false) (et_test (EvR.to (ev_notN (R := rV) (x := V.non) (b := true) (ev_var rfl rfl) (fun H v r => by rw [show v = V.non from r]; rfl)) rfl)) (fun c _ _ => absurd c (by decide)) (fun _ H9 e10 => ?_)
      exact ⟨_, _, rfl, ((sb.trans e8).trans e9).trans e10, by rw [snoc, hF]⟩
    | some row =>
      rw [hfr] at r7
      obtain ⟨ne7, r7⟩ := r7
      obtain ⟨g1, g2⟩ := firstRow_some hfr
      have hF : F i = some (i + 1, row.map fun y => lowestF y ((i + 1 : Nat) : Int)) := by show foundAt f' g i = _; unfold foundAt; rw [hfr]; rfl
      refine s_when (b := true) (et_test (EvR.to (ev_notN (R := rV) (x := v7) (b := false) (ev_var rfl rfl) (fun H v r => by rw [show v = v7 from r]; exact decide_eq_false ne7)) rfl)) (fun _ H9 e10 => ?_) (fun c _ _ => absurd c (by decide))
      have rl := g1.1
      refine s_ret (R := r2 K rNat (rT K (r2 K rInt rInt))) (x := (i + 1, row.map fun y => lowestF y ((i + 1 : Nat) : Int))) (ev_pair (ev_nat (n := i + 1) (ev_var (R := rInt) rfl rfl)) (ev_tupL (ev_lc (R := rInt) (S := r2 K rInt rInt) (fun y => lowestF y ((i + 1 : Nat) : Int)) (ii_tup (ev_var rfl (Mo.up (R := rVc K) e10 r7))) (fun _ _ _ e => Le.of e) (by omega) (fun v => rfl) (fun y hy v H' e r => ev_call2 (ev_var rfl r) (ev_var (R := rInt) rfl rfl) ⟨by omega, by omega⟩)))) (fun v H10 e11 r => hQ ln v H10 ((((e16.trans e0).trans e9).trans e10).trans e11) ?_)
      have hs : srch f' g (boundN f' g) = some (i + 1, row.map fun y => lowestF y ((i + 1 : Nat) : Int)) := by
        unfold srch
        have ea : List.range (boundN f' g) = (List.range (boundN f' g)).take (i + 1) ++ (List.range (boundN f' g)).drop (i + 1) := (List.take_append_drop _ _).symm
        rw [ea, List.findSome?_append, snoc, hF]
        rfl
      rw [hs]
      refine ⟨fun z => ?_, r⟩
      obtain ⟨a, _, _, e, _⟩ := r
      rw [z] at e; cases e
  · obtain ⟨x6, x7, rfl, sb, none_⟩ := z
    have hlen : (ivs 1 ((boundF f' g + 1) - 1).toNat).length = boundN f' g := by rw [ivs_len]; omega
    rw [hlen] at none_
    have : ((List.range (boundN f' g)).take (boundN f' g)) = List.range (boundN f' g) := List.take_of_length_le (by simp)
    rw [this] at none_
    refine s_ret (R := rV) ev_non (fun v H8 e9 r => hQ ln v H8 (((e16.trans e7).trans sb).trans e9) ?_)
    have hs : srch f' g (boundN f' g) = none := none_
    rw [hs]
    exact r
end
end Hf


/-! ## Fa16 -/
set_option Elab.async false
set_option linter.all false
set_option maxRecDepth 100000
set_option maxHeartbeats 400000

namespace Hf
open PySem PySem.Spec PyProof.Rows L2 RZ
/-! ### isinstance, comparisons of data -/
section
variable {X : Cx} {pos : Pos}
theorem pk_tInt (T : Bt X.mg) (hg : Gl X "int" := by rfl) : PE X (.Name "int" pos) (tC (.ty "int")) := pe_bltn hg T.int (by decide +kernel) rfl
theorem pk_tTuple (T : Bt X.mg) (hg : Gl X "tuple" := by rfl) : PE X (.Name "tuple" pos) (tC (.ty "tuple")) := pe_bltn hg T.tuple (by decide +kernel) rfl
theorem pk_tBool (T : Bt X.mg) (hg : Gl X "bool" := by rfl) : PE X (.Name "bool" pos) (tC (.ty "bool")) := pe_bltn hg T.bool (by decide +kernel) rfl
end
theorem ty_tup {K : PySem.W.Frag} {H : Hp} {a : Addr} {xs : List V} (h : SqT K H a xs) : TyX K H (.ref a) (.type "tuple") := by
  rcases h with (h | ⟨o, h⟩) | ⟨o, its, n, h, c, _⟩
  · exact .base (.tup h)
  · exact .fTuple h
  · exact .kTuple h c
section
variable {K : PySem.W.Frag} {σ : L2.St} {H H' : Hp} {ta tb te tc : TE} {α β : Type} {R : Rl α} {S : Rl β} {x : α} {y : β}
theorem ev_isi {t c : String} {b : Bool} (h : EvR te σ H R x) (hT : ∀ H v, R H v x → TyX K H v (.type t)) (hk : kitB t c = some b) : EvR (tCB (rIsi K) (tCons te (tCons (tC (.ty c)) tNil))) σ H rBl b := fun H1 e Q q =>
  h H1 e _ fun v H2 e2 r => ⟨v, .ty c, .type t, .type c, b, rfl, .ty c, hT H2 v r, kit_ty hk, q _ H2 e2 rfl⟩
theorem ev_neD [Mo R] {d e : PyData} (h1 : EvR ta σ H R x) (h2 : EvR tb σ H S y) (c1 : ∀ H v, R H v x → Dp K H v d) (c2 : ∀ H v, S H v y → Dp K H v e) (s1 : SeqAt.shaped d = true) (s2 : SeqAt.shaped e = true) : EvR (tOp (rNeD K) ta tb) σ H rBl (!PyData.eqv d e) :=
  ev_op h1 h2 fun v u H1 _ r1 r2 Q q => ⟨d, e, c1 H1 v r1, c2 H1 u r2, s1, s2, q _ H1 (Same.refl H1) rfl⟩
theorem ev_eqDt [Mo R] {d e : PyData} (h1 : EvR ta σ H R x) (h2 : EvR tb σ H S y) (c1 : ∀ H v, R H v x → Dp K H v d) (c2 : ∀ H v, S H v y → Dp K H v e) (s1 : SeqAt.shaped d = true) (s2 : SeqAt.shaped e = true) : EvR (tOp (rEqD K) ta tb) σ H rBl (PyData.eqv d e) :=
  ev_op h1 h2 fun v u H1 _ r1 r2 Q q => ⟨d, e, c1 H1 v r1, c2 H1 u r2, s1, s2, q _ H1 (Same.refl H1) rfl⟩
/-- len of a saying -/
def _root_.Hf.Say.tl : Say → Nat
  | .yes => 1
  | .no => 1
  | .unk _ => 2
  | .neg _ => 2
  | .mk _ _ _ => 3
theorem ev_lenS {s : Say} (h : EvR ta σ H (rSy K) s) : EvR (tCB (rLenS K) (tCons ta tNil)) σ H rInt (s.tl : Int) :=
  ev_cb (ea_cons h ea_nil) fun vs H1 _ ⟨v, r, e1, h1, e2⟩ Q q => by
    subst e2; subst e1
    obtain ⟨a, us, rfl, h2, h3⟩ := rSay_iff h1
    refine ⟨a, _, rfl, .inr h2, ?_⟩
    have : (V.str s.hd :: us).length = s.tl := by
      cases s with
      | yes => cases h3; rfl
      | no => cases h3; rfl
      | unk x => cases h3; rfl
      | neg s => obtain ⟨u, rfl, _⟩ := h3; rfl
      | mk m s t => obtain ⟨u, w, rfl, _⟩ := h3; rfl
    rw [this]
    exact q _ H1 (Same.refl H1) rfl
theorem ev_int0 {b : Int} (h : EvR ta σ H rInt b) : EvR (tCB rInt1 (tCons ta tNil)) σ H rInt b := ev_int1 h
theorem ev_chain {t1 t2 : Int → Int → Bool} {a b c : Int} (h1 : EvR ta σ H rInt a) (h2 : EvR tb σ H rInt b) (h3 : EvR tc σ H rInt c) : EvR (tChain (rI0 fun i j => .bl (t1 i j)) (rI0 fun i j => .bl (t2 i j)) ta tb tc) σ H rBl (t1 a b && t2 b c) := fun H1 e Q q =>
  h1 H1 e _ fun v1 H2 e2 r1 => h2 H2 (e.trans e2) _ fun v2 H3 e3 r2 => ⟨a, b, r1, r2, t1 a b, rfl, by
    cases ht : t1 a b with
    | true =>
      rw [if_pos rfl]
      exact h3 H3 ((e.trans e2).trans e3) _ fun v3 H4 e4 r3 => ⟨b, c, r2, r3, q _ H4 ((e2.trans e3).trans e4) (by rw [ht]; rfl)⟩
    | false =>
      rw [if_neg (by decide)]
      exact q _ H3 (e2.trans e3) (by rw [ht]; rfl)⟩
theorem ev_dictlz {ns : List Str} {row : Vec} (h1 : EvR ta σ H (rL rStr) ns) (h2 : EvR tb σ H (rT K rInt) row) (nd : ns.Nodup) (hl : ns.length = row.length) (hz : ns.length ≤ 1000) : EvR (tDz (SqL K) K (tCons ta (tCons tb tNil))) σ H rTb (ns.zip row) := fun H1 e Q q =>
  h1 H1 e _ fun v H2 e2 r => h2 H2 (e.trans e2) _ fun u H3 e3 s => by
    obtain ⟨a, va, ea, sa, pa⟩ := Mo.up (R := rL rStr) e3 r
    obtain ⟨b, vb, eb, sb, pb⟩ := s
    subst ea; subst eb
    have m1 : (tbK (ns.zip row)).map (fun kv => kV kv.1) = va := by
      rw [pa.hstrs]
      unfold tbK
      rw [List.map_map]
      have : (ns.zip row).map (fun p => p.1) = ns := by rw [List.map_fst_zip]; omega
      conv => rhs; rw [← this]
      rw [List.map_map]
      rfl
    have m2 : (tbK (ns.zip row)).map (fun kv => kv.2) = vb := by
      rw [pb.hints]
      unfold tbK
      rw [List.map_map]
      have : (ns.zip row).map (fun p => p.2) = row := by rw [List.map_snd_zip]; omega
      conv => rhs; rw [← this]
      rw [List.map_map]
      rfl
    refine ⟨a, b, tbK (ns.zip row), rfl, by rw [m1]; exact SqL.of sa, by rw [m2]; exact sb, by unfold tbK; rw [List.length_map, List.length_zip]; omega, fun p hp => ?_⟩
    have e4 := Same.hnew (o := .dK (mergeK [] (tbK (ns.zip row)))) hp
    refine q _ _ ((e2.trans e3).trans e4) ⟨p, rfl, ?_⟩
    rw [upd_same]
    have := merge_tb (ns.zip row) [] (by rw [List.nil_append, List.map_fst_zip (by omega)]; exact nd)
    rw [show tbK [] = [] from rfl, List.nil_append] at this
    rw [this]
end
section
variable {P : Program} {w : World} {K : PySem.W.Frag} {mg : Str → Option Value} {base : Heap}
/-! ### the law's arithmetic -/
def spLLow (K : PySem.W.Frag) : Sp := sp2 rInt rInt (fun a b => 0 < b ∧ b < 1000000000) (r2 K rInt rInt) lowestF
theorem sc__law_lowest : FnScope (["_law_above", "_law_below", "_law_one", "_law_two"] : List Str) (["_law_above", "_law_below"] : List Str) (defScope (top 74)) := ⟨rfl, rfl, rfl, by decide +kernel, rfl, by decide +kernel, by decide +kernel⟩
theorem ok__law_lowest (D : Df K mg "_law_lowest" (top 74)) (T : Bt mg) : Cal P w K mg base "_law_lowest" 1 ["_law_above", "_law_below"] (spLLow K) := by
  refine D.ok sc__law_lowest (fun _ _ _ _ _ _ us hl => match us, hl with | [_, _], _ => rfl) (sp2_len) (fun f cdv A outer s H vs Q E hr h => ?_)
  have nd := sc__law_lowest.nd
  refine ⟨_, (pss_cons (ps_par (i := 2) (j := 3) rfl nd rfl rfl (by decide) rfl rfl (pa_cons (pk_abs T (pa_cons (pv 0) pa_nil)) (pa_cons (pv 1) pa_nil)) (by rfl))
    (pss_cons (ps_while PassesOwn.never (pt_cmpR op_gt (pv 3) pe_int (nomark _)) (pss_one (ps_par (i := 2) (j := 3) rfl nd rfl rfl (by decide) rfl rfl (pa_cons (pv 3) (pa_cons (pe_op op_modN (pk_int T (pa_cons (pv 2) pa_nil)) (pv 3)) pa_nil)) (by rfl))))
    (pss_one (ps_ret (pe_tup (pa_cons (pe_op op_fdivN (pv 0) (pv 2)) (pa_cons (pe_op op_fdivN (pv 1) (pv 2)) pa_nil))))))), ?_⟩
  obtain ⟨v, u, a, b, rfl, rfl, rfl, ⟨hb, hs⟩, q⟩ := h
  have ab : ∀ i : Int, (if i < 0 then -i else i) = (i.natAbs : Int) := fun i => by split <;> omega
  refine q_par (R := rInt) (S := rInt) (ev_abs (ev_var (R := rInt) rfl rfl)) (ev_var (R := rInt) rfl rfl) (fun x y H1 e1 r1 r2 => ?_)
  cases r1
  cases r2
  rw [ab]
  have g0 : 0 < Int.gcd a b := Int.gcd_pos_of_ne_zero_right _ (by omega)
  have g1 : Int.gcd a b ≤ b.natAbs := Nat.le_of_dvd (by omega) (Nat.gcd_dvd_right _ _)
  refine q_while (W := fun m σ' H' => ∃ x y : Nat, σ' = [some (.int a), some (.int b), some (.int (x : Int)), some (.int (y : Int))] ∧ m = y ∧ Same H H' ∧ Nat.gcd x y = Int.gcd a b) b.natAbs ⟨a.natAbs, b.natAbs, by rw [show ((b.natAbs : Nat) : Int) = b by omega]; rfl, rfl, e1, rfl⟩ (fun m σ' H' z => ?_)
  obtain ⟨x, y, rfl, rfl, e2, hg⟩ := z
  refine ⟨_, et_test (ev_cmpI (f := fun i j => decide (i > j)) (ev_var (R := rInt) rfl rfl) ev_int), fun c H2 e3 => ?_, fun c H2 e3 => ?_⟩
  · have hy : 0 < m := by have := of_decide_eq_true c; omega
    refine s_par (R := rInt) (S := rInt) (ev_var rfl rfl) (ev_mod (ev_int1 (ev_var (R := rInt) rfl rfl)) (ev_var (R := rInt) rfl rfl) (by omega)) (fun u w H3 e4 r1 r2 => ?_)
    cases r1
    cases r2
    refine ⟨x % m, Nat.mod_lt _ hy, m, x % m, ?_, rfl, (e2.trans e3).trans e4, by rw [gcd_step]; exact hg⟩
    rw [Int.fmod_eq_emod_of_nonneg _ (by omega), ← Int.natCast_emod]
    rfl
  · have hy : m = 0 := by have := of_decide_eq_false c; omega
    subst hy
    rw [Nat.gcd_zero_right] at hg
    have hx : CDivN a (x : Int) ∧ CDivN b (x : Int) := by
      have : ((x : Int)) ≠ 0 ∧ ((x : Int)).natAbs < 1073741824 := by omega
      exact ⟨this, this⟩
    refine s_ret (R := r2 K rInt rInt) (x := lowestF a b) (EvR.to (ev_pair (ev_fdiv (ev_var (R := rInt) rfl rfl) (ev_var (R := rInt) rfl rfl) hx.1) (ev_fdiv (ev_var (R := rInt) rfl rfl) (ev_var (R := rInt) rfl rfl) hx.2)) ?_) (fun v H3 e4 r => q v H3 ((e2.trans e3).trans e4) r)
    unfold lowestF
    rw [if_neg (by omega), hg]
def spLRows (K : PySem.W.Frag) : Sp := sp2 rNat rNat (fun n m => n ≤ 3 ∧ (m + 1) ^ n ≤ 1000000 ∧ m ≤ 1000000) (rL (rVc K)) gridF
theorem sc__law_rows : FnScope (["_law_size", "_law_whole_here", "_law_rows_here", "_law_k", "_law_later", "_law_row", "_law_number"] : List Str) (["_law_size", "_law_whole_here"] : List Str) (defScope (top 75)) := ⟨rfl, rfl, rfl, by decide +kernel, rfl, by decide +kernel, by decide +kernel⟩
theorem ok__law_rows (D : Df K mg "_law_rows" (top 75)) (T : Bt mg) : Cal P w K mg base "_law_rows" 1 ["_law_size", "_law_whole_here"] (spLRows K) := by
  refine D.ok sc__law_rows (fun _ _ _ _ _ _ us hl => match us, hl with | [_, _], _ => rfl) (sp2_len) (fun f cdv A outer s H vs Q E hr h => ?_)
  have nd := sc__law_rows.nd
  refine ⟨_, (pss_cons (ps_set (i := 2) nd rfl (Or.inl rfl) (pe_lst (pa_cons (pe_tup pa_nil) pa_nil)))
    (pss_cons (ps_for PassesOwn.never rfl (pi_range1 rfl T.range (pa_cons (pv 0) pa_nil)) (pg_name (i := 3) nd rfl (Or.inl rfl)) (pss_cons (ps_set (i := 4) nd rfl (Or.inl rfl) (pe_lst pa_nil))
    (pss_cons (ps_for PassesOwn.never rfl (pi_list (pv 2)) (pg_name (i := 5) nd rfl (Or.inr rfl)) (pss_one (ps_set (i := 4) nd rfl (Or.inl rfl) (pe_op op_cat (pv 4) (pe_lc (own := [("_law_number", 6)]) rfl nd (pi_range1 rfl T.range (pa_cons (pe_op op_add (pv 1) pe_int) pa_nil)) (blkOk_by (by walk_at "blk")) (fun _ _ _ _ _ => (pg_name (i := 6) nd rfl (Or.inl rfl))) (fun _ _ _ _ _ => pts_nil) (fun _ _ _ _ _ => (pe_op (bk_op_catA K) (pv 5) (pe_tup (pa_cons (pv 6) pa_nil)))))))))
    (pss_one (ps_set (i := 2) nd rfl (Or.inl rfl) (pv 4))))))
    (pss_one (ps_ret (pv 2))))), ?_⟩
  obtain ⟨v, u, n, m, rfl, rfl, rfl, ⟨hn, hz, hm⟩, q⟩ := h
  refine q_set (R := rL (rVc K)) (x := [[]]) (ev_lst (ei_cons (ev_tup ei_nil (by decide)) ei_nil) (by decide)) (fun vc H1 e1 rc => ?_)
  refine q_for (I := fun H2 i σ' H' => ∃ vc x3 x4 x5, σ' = [some (.int (n : Int)), some (.int (m : Int)), some vc, x3, x4, x5, none] ∧ Same H2 H' ∧ rL (rVc K) H' vc (gridF i m)) (ii_range1 (ev_var (R := rInt) rfl rfl) (by omega))
    (fun H2 e2 => ⟨_, _, _, _, rfl, Same.refl _, Mo.up e2 rc⟩) (fun H2 i σ' H' e2 z => ?_) (fun H2 i x σ' H' v' H'' e2 hx z e3 r => ?_) (fun H2 σ' H' e2 z => ?_)
  · obtain ⟨_, _, _, _, _, sb, _⟩ := z
    exact Le.of sb
  · obtain ⟨vc, x3, x4, x5, rfl, sb, rc⟩ := z
    have hi : i < n := by
      have := (List.getElem?_eq_some_iff.mp hx).1
      rw [ivs_len] at this
      omega
    have gl := grid_len m (i + 1)
    have gz : (m + 1) ^ (i + 1) ≤ 1000000 := Nat.le_trans (Nat.pow_le_pow_right (by omega) (by omega)) hz
    let mk1 := fun (row : Vec) => (ivs 0 (m + 1)).map fun k => row ++ [k]
    have hg : gridF (i + 1) m = (gridF i m).flatMap mk1 := rfl
    refine q_set (R := rL (rVc K)) (x := []) (ev_lst ei_nil (by decide)) (fun v4 H3 e4 r4 => ?_)
    have rc3 := Mo.up (R := rL (rVc K)) (e3.trans e4) rc
    refine q_for (I := fun H5 j σ' H' => ∃ v4 x5, σ' = [some (.int (n : Int)), some (.int (m : Int)), some vc, some v', some v4, x5, none] ∧ Same H5 H' ∧ rL (rVc K) H' v4 (((gridF i m).take j).flatMap mk1)) (ii_lst (R := rVc K) (ev_var rfl rc3))
      (fun H5 e5 => ⟨_, _, rfl, Same.refl _, Mo.up e5 r4⟩) (fun H5 j σ' H' e5 z => ?_) (fun H5 j row σ' H' w' H'' e5 hy z e6 s => ?_) (fun H5 σ' H' e5 z => ?_)
    · obtain ⟨_, _, _, sb, _⟩ := z
      exact sb
    · obtain ⟨v4, x5, rfl, sb5, r4⟩ := z
      have rlen := (mem_grid.mp (List.mem_of_getElem? hy)).1
      have fl := flat_le (f := mk1) (gridF i m) (j + 1)
      rw [flat_take_snoc hy, List.length_append, ← hg, gl] at fl
      have ml : (mk1 row).length = m + 1 := by show ((ivs 0 (m + 1)).map _).length = _; rw [List.length_map, ivs_len]
      refine s_set (R := rL (rVc K)) (x := ((gridF i m).take (j + 1)).flatMap mk1) (EvR.to (ev_cat (ev_var rfl (Mo.up e6 r4)) (ev_lc (R := rInt) (S := rVc K) (fun k => row ++ [k]) (ii_rangeN (m := m + 1) (EvR.to (ev_add (i := (m : Int)) (j := 1) (ev_var (R := rInt) rfl rfl) ev_int) (by omega)) (by omega)) (fun _ _ _ e => Le.of e) (by rw [ivs_len]; omega) (fun v => rfl) (fun k hk v H' e r => ev_catA (ev_var rfl (Mo.up (R := rVc K) e s)) (ev_tup (ei_cons (ev_var rfl r) ei_nil) (by simp)) (by simp; omega))) (by show _ + (mk1 row).length ≤ _; omega)) (by rw [flat_take_snoc hy])) (fun v H6 e7 r6 => ⟨_, _, rfl, (sb5.trans e6).trans e7, r6⟩)
    · obtain ⟨v4, x5, rfl, sb5, r4⟩ := z
      rw [List.take_length] at r4
      refine s_set (R := rL (rVc K)) (x := gridF (i + 1) m) (ev_var rfl r4) (fun v H6 e7 r6 => ⟨_, _, _, _, rfl, (((sb.trans e3).trans e4).trans (e5.trans sb5)).trans e7, r6⟩)
  · obtain ⟨vc, x3, x4, x5, rfl, sb, rc⟩ := z
    rw [ivs_len] at rc
    have ht : ((n : Int)).toNat = n := by omega
    rw [ht] at rc
    exact s_ret (R := rL (rVc K)) (ev_var rfl rc) (fun v H' e r => q v H' (((e1.trans e2).trans sb).trans e) r)
def spLWhole : Sp := sp1 rInt (fun _ => True) rBl (fun _ => true)
theorem sc__law_whole : FnScope (["_law_value"] : List Str) (["_law_value"] : List Str) (defScope (top 76)) := ⟨rfl, rfl, rfl, by decide +kernel, rfl, by decide +kernel, by decide +kernel⟩
theorem ok__law_whole (D : Df K mg "_law_whole" (top 76)) (T : Bt mg) : Cal P w K mg base "_law_whole" 1 ["_law_value"] spLWhole := by
  refine D.ok sc__law_whole (fun _ _ _ _ _ _ us hl => match us, hl with | [_], _ => rfl) (sp1_len) (fun f cdv A outer s H vs Q E hr h => ?_)
  have nd := sc__law_whole.nd
  refine ⟨_, (pss_one (ps_ret (pe_and (pk_isinstance T (pa_cons (pv 0) (pa_cons (pk_tInt T) pa_nil))) (pe_one (pe_not (pk_isinstance T (pa_cons (pv 0) (pa_cons (pk_tBool T) pa_nil)))))))), ?_⟩
  obtain ⟨v, i, rfl, h1, _, q⟩ := h
  have ty : ∀ H v, rInt H v i → TyX K H v (.type "int") := fun H v r => by rw [show v = .int i from r]; exact .base (.int i)
  exact s_ret (R := rBl) (x := true) (ev_andV (a := true) (b := true) (ev_isi (ev_var rfl h1) ty (by decide +kernel)) (fun _ => ev_notV (a := false) (ev_isi (ev_var rfl h1) ty (by decide +kernel)))) (fun v H' e r => q v H' e r)
/-! ### the law's walks over sayings -/
def spLMarks (K : PySem.W.Frag) (n : Nat) : Sp := sp1 (rSy K) (fun s => s.ht < n) rInt (fun s => (s.marks : Int))
theorem tl3 (s : Say) : decide ((s.tl : Int) = 3) = s.isMk := by cases s <;> rfl
theorem sc__law_marks : FnScope (["_law_saying_here", "_law_inner"] : List Str) (["_law_saying_here"] : List Str) (defScope (top 77)) := ⟨rfl, rfl, rfl, by decide +kernel, rfl, by decide +kernel, by decide +kernel⟩
theorem ok__law_marks1 (D : Df K mg "_law_marks" (top 77)) (T : Bt mg) {n : Nat} (C__law_marks : Cal P w K mg base "_law_marks" (n + 1) ["_law_saying_here"] (spLMarks K n)) : Cal P w K mg base "_law_marks" (n + 2) ["_law_saying_here"] (spLMarks K (n + 1)) := by
  refine D.ok sc__law_marks (fun _ _ _ _ _ _ us hl => match us, hl with | [_], _ => rfl) (sp1_len) (fun f cdv A outer s H vs Q E hr h => ?_)
  have nd := sc__law_marks.nd
  refine ⟨_, (pss_cons (ps_if (pt_cmpR op_eq (pe_ix ix_tup (pv 0) pe_int (fun _ _ => rfl)) pe_str (nomark _)) (pss_one (ps_ret pe_int)) pss_nil)
    (pss_one (ps_ret (pe_op op_add (pk_sum T (pa_cons (pe_lc (own := [("_law_inner", 1)]) rfl nd (pi_tup (pe_slice sl_tupA (pv 0) (po_some pe_int) po_none)) (blkOk_by (by walk_at "blk")) (fun _ _ _ _ _ => (pg_name (i := 1) nd rfl (Or.inl rfl))) (fun _ _ _ _ _ => pts_nil) (fun _ _ _ _ _ => (pk_call C__law_marks hr (pa_cons (pv 1) pa_nil)))) pa_nil)) (pe_ifExp (pt_cmpR op_eq (pk_len T (pa_cons (pv 0) pa_nil)) pe_int (nomark _)) pe_int pe_int))))), ?_⟩
  obtain ⟨v, s, rfl, h1, hs, q⟩ := h
  refine q_when (et_test (ev_eqS (ev_hd (ev_var rfl h1)) ev_str)) (fun c H1 e1 => ?_) (fun c H1 e1 => ?_)
  · obtain ⟨y, rfl⟩ := hd_unk c
    exact s_ret (R := rInt) ev_int (fun v H' e r => q v H' (e1.trans e) r)
  · have nu := hd_not_unk c
    have h1' := Mo.up (R := rSy K) e1 h1
    refine s_ret (R := rInt) (x := (s.marks : Int)) (EvR.to (ev_add (ev_sum (ev_lc (R := rSy K) (fun s => (s.marks : Int)) (ii_tup (ev_rest (ev_var rfl h1') nu)) (fun _ _ _ e => Le.of e) (Nat.le_trans (parts_len s) (by decide)) (fun v => rfl)
      (fun x hx v H' e r => ev_call1 (ev_var rfl r) (by have := parts_ht hx; omega)))) (ev_if (x1 := (1 : Int)) (x2 := 0) (et_test (ev_eqI (ev_lenS (ev_var rfl h1')) ev_int)) (fun _ => ev_int) (fun _ => ev_int))) ?_) (fun v H' e r => q v H' (e1.trans e) r)
    rw [tl3, Int.add_comm]
    exact marks_parts s
theorem ok__law_marks (D : Df K mg "_law_marks" (top 77)) (T : Bt mg) : ∀ n, Cal P w K mg base "_law_marks" (n + 1) ["_law_saying_here"] (spLMarks K n)
  | 0 => D.vac (fun _ _ _ _ _ _ us hl => match us, hl with | [_], _ => rfl) (fun vs H Q E h => by obtain ⟨_, _, _, _, z, _⟩ := h; omega)
  | n + 1 => ok__law_marks1 D T (ok__law_marks D T n)
def spLOften (K : PySem.W.Frag) (n : Nat) : Sp := sp2 (rSy K) rStr (fun s _ => s.ht < n) rInt (fun s x => (s.occ x : Int))
theorem sc__law_often : FnScope (["_law_saying_here", "_law_name", "_law_inner"] : List Str) (["_law_saying_here", "_law_name"] : List Str) (defScope (top 83)) := ⟨rfl, rfl, rfl, by decide +kernel, rfl, by decide +kernel, by decide +kernel⟩
theorem ok__law_often1 (D : Df K mg "_law_often" (top 83)) (T : Bt mg) {n : Nat} (C__law_often : Cal P w K mg base "_law_often" (n + 1) ["_law_saying_here", "_law_name"] (spLOften K n)) : Cal P w K mg base "_law_often" (n + 2) ["_law_saying_here", "_law_name"] (spLOften K (n + 1)) := by
  refine D.ok sc__law_often (fun _ _ _ _ _ _ us hl => match us, hl with | [_, _], _ => rfl) (sp2_len) (fun f cdv A outer s H vs Q E hr h => ?_)
  have nd := sc__law_often.nd
  refine ⟨_, (pss_cons (ps_if (pt_cmpR op_eq (pe_ix ix_tup (pv 0) pe_int (fun _ _ => rfl)) pe_str (nomark _)) (pss_one (ps_ret (pe_ifExp (pt_cmpR op_eq (pe_ix ix_tup (pv 0) pe_int (fun _ _ => rfl)) (pv 1) (nomark _)) pe_int pe_int))) pss_nil)
    (pss_one (ps_ret (pk_sum T (pa_cons (pe_lc (own := [("_law_inner", 2)]) rfl nd (pi_tup (pe_slice sl_tupA (pv 0) (po_some pe_int) po_none)) (blkOk_by (by walk_at "blk")) (fun _ _ _ _ _ => (pg_name (i := 2) nd rfl (Or.inl rfl))) (fun _ _ _ _ _ => pts_nil) (fun _ _ _ _ _ => (pk_call C__law_often hr (pa_cons (pv 2) (pa_cons (pv 1) pa_nil))))) pa_nil))))), ?_⟩
  obtain ⟨v, u, s, x, rfl, h, hx, hs, q⟩ := h
  refine q_when (et_test (ev_eqS (ev_hd (ev_var rfl h)) ev_str)) (fun c H1 e1 => ?_) (fun c H1 e1 => ?_)
  · obtain ⟨y, rfl⟩ := hd_unk c
    refine s_ret (R := rInt) (EvR.to (ev_if (x1 := (1 : Int)) (x2 := 0) (et_test (ev_eqS (ev_nm (ev_var rfl (Mo.up (R := rSy K) e1 h))) (ev_var rfl hx))) (fun _ => ev_int) (fun _ => ev_int)) ?_) (fun v H' e r => q v H' (e1.trans e) r)
    simp only [Say.occ]
    by_cases z : y = x
    · rw [if_pos z, if_pos (decide_eq_true z)]; rfl
    · rw [if_neg z, decide_eq_false z]; rfl
  · have nu := hd_not_unk c
    refine s_ret (R := rInt) (EvR.to (ev_sum (ev_lc (R := rSy K) (fun s => (s.occ x : Int)) (ii_tup (ev_rest (ev_var rfl (Mo.up (R := rSy K) e1 h)) nu)) (fun _ _ _ e => Le.of e) (Nat.le_trans (parts_len s) (by decide)) (fun v => rfl)
      (fun y hy v H' e r => ev_call2 (ev_var rfl r) (ev_var rfl hx) (by have := parts_ht hy; omega)))) (occ_parts nu)) (fun v H' e r => q v H' (e1.trans e) r)
theorem ok__law_often (D : Df K mg "_law_often" (top 83)) (T : Bt mg) : ∀ n, Cal P w K mg base "_law_often" (n + 1) ["_law_saying_here", "_law_name"] (spLOften K n)
  | 0 => D.vac (fun _ _ _ _ _ _ us hl => match us, hl with | [_, _], _ => rfl) (fun vs H Q E h => by obtain ⟨_, _, _, _, _, _, _, z, _⟩ := h; omega)
  | n + 1 => ok__law_often1 D T (ok__law_often D T n)
def spLNames (K : PySem.W.Frag) (n : Nat) : Sp := sp2 (rSy K) (rL rStr) (fun s l => s.ht < n ∧ l.length + s.leaves ≤ 1000) (rL rStr) (fun s l => s.note l)
theorem sc__law_names_in : FnScope (["_law_saying_here", "_law_found_here", "_law_inner"] : List Str) (["_law_saying_here", "_law_found_here"] : List Str) (defScope (top 72)) := ⟨rfl, rfl, rfl, by decide +kernel, rfl, by decide +kernel, by decide +kernel⟩
theorem ok__law_names_in1 (D : Df K mg "_law_names_in" (top 72)) {n : Nat} (C__law_names_in : Cal P w K mg base "_law_names_in" (n + 1) ["_law_saying_here", "_law_found_here"] (spLNames K n)) : Cal P w K mg base "_law_names_in" (n + 2) ["_law_saying_here", "_law_found_here"] (spLNames K (n + 1)) := by
  refine D.ok sc__law_names_in (fun _ _ _ _ _ _ us hl => match us, hl with | [_, _], _ => rfl) (sp2_len) (fun f cdv A outer s H vs Q E hr h => ?_)
  have nd := sc__law_names_in.nd
  refine ⟨_, (pss_cons (ps_if (pt_cmpR op_eq (pe_ix ix_tup (pv 0) pe_int (fun _ _ => rfl)) pe_str (nomark _)) (pss_one (ps_ret (pe_ifExp (pt_cmpR op_in_seq (pe_ix ix_tup (pv 0) pe_int (fun _ _ => rfl)) (pv 1) rfl) (pv 1) (pe_op op_cat (pv 1) (pe_lst (pa_cons (pe_ix ix_tup (pv 0) pe_int (fun _ _ => rfl)) pa_nil)))))) pss_nil)
    (pss_cons (ps_for PassesOwn.never rfl (pi_tup (pe_slice sl_tupA (pv 0) (po_some pe_int) po_none)) (pg_name (i := 2) nd rfl (Or.inl rfl)) (pss_one (ps_set (i := 1) nd rfl (Or.inl rfl) (pk_call C__law_names_in hr (pa_cons (pv 2) (pa_cons (pv 1) pa_nil))))))
    (pss_one (ps_ret (pv 1))))), ?_⟩
  obtain ⟨v, u, s, l, rfl, h, hl, ⟨hs, hz⟩, q⟩ := h
  refine q_when (et_test (ev_eqS (ev_hd (ev_var rfl h)) ev_str)) (fun c H1 e1 => ?_) (fun c H1 e1 => ?_)
  · obtain ⟨y, rfl⟩ := hd_unk c
    have h1 := Mo.up (R := rSy K) e1 h
    have hl1 := Mo.up (R := rL rStr) e1 hl
    refine s_ret (R := rL rStr) (EvR.to (ev_if (x1 := l) (x2 := l ++ [y]) (et_test (ev_inL (ev_nm (ev_var rfl h1)) (ev_var rfl hl1))) (fun _ => ev_var rfl hl1) (fun _ => ev_cat (ev_var rfl hl1) (ev_lst (ei_cons (ev_nm (ev_var rfl h1)) ei_nil) (by simp)) (by simp only [List.length_singleton]; simp only [Say.leaves] at hz; omega))) ?_) (fun v H' e r => q v H' (e1.trans e) r)
    simp only [Say.note]
    by_cases z : y ∈ l
    · rw [if_pos z, if_pos (decide_eq_true z)]
    · rw [if_neg z, decide_eq_false z]; rfl
  · have nu := hd_not_unk c
    have np := note_parts nu l
    refine q_for (I := fun H2 i σ' H' => ∃ v1 x2, σ' = [some v, some v1, x2] ∧ Same H2 H' ∧ rL rStr H' v1 ((s.parts.take i).foldl (fun l p => p.note l) l)) (ii_tup (ev_rest (ev_var rfl (Mo.up (R := rSy K) e1 h)) nu)) (fun H2 e2 => ⟨_, _, rfl, Same.refl _, Mo.up (e1.trans e2) hl⟩) (fun H2 i σ' H' e2 z => ?_) (fun H2 i x σ' H' v' H'' e2 hx z e3 r => ?_) (fun H2 σ' H' e2 z => ?_)
    · obtain ⟨_, _, _, sb, _⟩ := z
      exact Le.of sb
    · obtain ⟨v1, x2, rfl, sb, rl⟩ := z
      have hm : x ∈ s.parts := List.mem_of_getElem? hx
      have a := notes_len (s.parts.take i) l
      have b := take_sum Say.leaves s.parts i x hx
      have c : (s.parts.map Say.leaves).sum ≤ s.leaves := by cases s <;> simp [Say.parts, Say.leaves]
      refine s_set (R := rL rStr) (ev_call2 (ev_var rfl r) (ev_var rfl (Mo.up e3 rl)) ⟨by have := parts_ht hm; omega, by omega⟩) (fun v H3 e4 r4 => ⟨_, _, rfl, (sb.trans e3).trans e4, ?_⟩)
      rw [List.take_add_one, hx, Option.toList_some, List.foldl_append]
      exact r4
    · obtain ⟨v1, x2, rfl, sb, rl⟩ := z
      rw [List.take_length, np] at rl
      exact s_ret (R := rL rStr) (ev_var rfl rl) (fun v H3 e r => q v H3 (((e1.trans e2).trans sb).trans e) r)
theorem ok__law_names_in (D : Df K mg "_law_names_in" (top 72)) : ∀ n, Cal P w K mg base "_law_names_in" (n + 1) ["_law_saying_here", "_law_found_here"] (spLNames K n)
  | 0 => D.vac (fun _ _ _ _ _ _ us hl => match us, hl with | [_, _], _ => rfl) (fun vs H Q E h => by obtain ⟨_, _, _, _, _, _, _, ⟨z, _⟩, _⟩ := h; omega)
  | n + 1 => ok__law_names_in1 D (ok__law_names_in D n)
end
end Hf


/-! ## Fa17 -/
set_option Elab.async false
set_option linter.all false
set_option maxRecDepth 100000
set_option maxHeartbeats 400000

namespace Hf
open PySem PySem.Spec PyProof.Rows L2 RZ
section
variable {P : Program} {w : World} {K : PySem.W.Frag} {mg : Str → Option Value} {base : Heap}
/-! ### the law's value of a saying -/
def spGraded (K : PySem.W.Frag) (n : Nat) : Sp := sp3 (rSy K) rTb rInt (fun s tb _ => s.ht < n ∧ s.In (tb.map (·.1))) rInt (fun s tb D => val (tbF tb) D s)
theorem in_lookup {tb : Tb} {x : Str} (h : x ∈ tb.map (·.1)) : ∃ y, tb.lookup x = some y := by
  induction tb with
  | nil => simp at h
  | cons p tb ih =>
    rw [List.lookup_cons]
    cases e : x == p.1 with
    | true => exact ⟨p.2, rfl⟩
    | false =>
      rcases List.mem_cons.mp h with z | z
      · rw [z] at e; simp at e
      · exact ih z
theorem hd_one {s : Say} (h : ∀ x, s ≠ .unk x) (c : decide (s.hd ∈ (["yes", "no"] : List Str)) = true) : s = .yes ∨ s = .no := by
  cases s with
  | yes => exact .inl rfl
  | no => exact .inr rfl
  | unk x => exact absurd rfl (h x)
  | neg a => exact absurd (of_decide_eq_true c) (by simp [Say.hd]; decide)
  | mk m a b => exact absurd (of_decide_eq_true c) (by cases m <;> simp [Say.hd, Mk.s] <;> decide)
theorem sc__law_graded : FnScope (["_law_saying_here", "_law_table", "_law_whole_here", "_law_one", "_law_two"] : List Str) (["_law_saying_here", "_law_table", "_law_whole_here"] : List Str) (defScope (top 73)) := ⟨rfl, rfl, rfl, by decide +kernel, rfl, by decide +kernel, by decide +kernel⟩
theorem ok__law_graded1 (D : Df K mg "_law_graded" (top 73)) (T : Bt mg) {n : Nat} (C__law_graded : Cal P w K mg base "_law_graded" (n + 1) ["_law_saying_here", "_law_table", "_law_whole_here"] (spGraded K n)) : Cal P w K mg base "_law_graded" (n + 2) ["_law_saying_here", "_law_table", "_law_whole_here"] (spGraded K (n + 1)) := by
  refine D.ok sc__law_graded (fun _ _ _ _ _ _ us hl => match us, hl with | [_, _, _], _ => rfl) (sp3_len) (fun f cdv A outer s H vs Q E hr h => ?_)
  have nd := sc__law_graded.nd
  refine ⟨_, (pss_cons (ps_if (pt_cmpR op_eq (pe_ix ix_tup (pv 0) pe_int (fun _ _ => rfl)) pe_str (nomark _)) (pss_one (ps_ret (pe_dget (hu_of hr) (pv 1) (pe_ix ix_tup (pv 0) pe_int (fun _ _ => rfl)) (fun _ _ => rfl)))) pss_nil)
    (pss_cons (ps_if (pt_cmpR op_in_seq (pe_ix ix_tup (pv 0) pe_int (fun _ _ => rfl)) (pe_tup (pa_cons pe_str (pa_cons pe_str pa_nil))) rfl) (pss_one (ps_ret (pe_ifExp (pt_cmpR op_eq (pe_ix ix_tup (pv 0) pe_int (fun _ _ => rfl)) pe_str (nomark _)) (pv 2) pe_int))) pss_nil)
    (pss_cons (ps_set (i := 3) nd rfl (Or.inl rfl) (pk_call C__law_graded hr (pa_cons (pe_ix ix_tup (pv 0) pe_int (fun _ _ => rfl)) (pa_cons (pv 1) (pa_cons (pv 2) pa_nil)))))
    (pss_cons (ps_if (pt_cmpR op_eq (pe_ix ix_tup (pv 0) pe_int (fun _ _ => rfl)) pe_str (nomark _)) (pss_one (ps_ret (pe_op op_sub (pv 2) (pv 3)))) pss_nil)
    (pss_cons (ps_set (i := 4) nd rfl (Or.inl rfl) (pk_call C__law_graded hr (pa_cons (pe_ix ix_tup (pv 0) pe_int (fun _ _ => rfl)) (pa_cons (pv 1) (pa_cons (pv 2) pa_nil)))))
    (pss_cons (ps_if (pt_cmpR op_eq (pe_ix ix_tup (pv 0) pe_int (fun _ _ => rfl)) pe_str (nomark _)) (pss_one (ps_ret (pk_min2 T (pa_cons (pv 2) (pa_cons (pe_op op_add (pv 3) (pv 4)) pa_nil))))) pss_nil)
    (pss_cons (ps_if (pt_cmpR op_eq (pe_ix ix_tup (pv 0) pe_int (fun _ _ => rfl)) pe_str (nomark _)) (pss_one (ps_ret (pk_max2 T (pa_cons pe_int (pa_cons (pe_op op_sub (pe_op op_add (pv 3) (pv 4)) (pv 2)) pa_nil))))) pss_nil)
    (pss_cons (ps_if (pt_cmpR op_eq (pe_ix ix_tup (pv 0) pe_int (fun _ _ => rfl)) pe_str (nomark _)) (pss_one (ps_ret (pk_min2 T (pa_cons (pv 2) (pa_cons (pe_op op_add (pe_op op_sub (pv 2) (pv 3)) (pv 4)) pa_nil))))) pss_nil)
    (pss_cons (ps_if (pt_cmpR op_in_seq (pe_ix ix_tup (pv 0) pe_int (fun _ _ => rfl)) (pe_tup (pa_cons pe_str (pa_cons pe_str pa_nil))) rfl) (pss_one (ps_ret (pe_ifExp (pt_cmpR op_eq (pe_ix ix_tup (pv 0) pe_int (fun _ _ => rfl)) pe_str (nomark _)) (pk_min2 T (pa_cons (pv 3) (pa_cons (pv 4) pa_nil))) (pk_max2 T (pa_cons (pv 3) (pa_cons (pv 4) pa_nil)))))) pss_nil)
    (pss_one (ps_ret (pe_op op_sub (pv 2) (pk_abs T (pa_cons (pe_op op_sub (pv 3) (pv 4)) pa_nil)))))))))))))), ?_⟩
  obtain ⟨v1, v2, v3, s, tb, d, rfl, h1, h2, rfl, ⟨hs, hin⟩, q⟩ := h
  refine q_when (et_test (ev_eqS (ev_hd (ev_var rfl h1)) ev_str)) (fun c H1 e1 => ?_) (fun c H1 e1 => ?_)
  · obtain ⟨x, rfl⟩ := hd_unk c
    obtain ⟨y, hy⟩ := in_lookup hin
    refine s_ret (R := rInt) (ev_dget (ev_var rfl (Mo.up e1 h2)) (ev_nm (ev_var rfl (Mo.up (R := rSy K) e1 h1))) hy) (fun v H' e r => q v H' (e1.trans e) ?_)
    show rInt H' v (tbF tb x)
    unfold tbF
    rw [hy]
    exact r
  have nu := hd_not_unk c
  have h1a := Mo.up (R := rSy K) e1 h1
  refine q_when (et_test (ev_inT (ev_hd (ev_var rfl h1a)) (ev_tup (ei_cons ev_str (ei_cons ev_str ei_nil)) (by decide)))) (fun c2 H2 e2 => ?_) (fun c2 H2 e2 => ?_)
  · refine s_ret (R := rInt) (EvR.to (ev_if (x1 := d) (x2 := 0) (et_test (ev_eqS (ev_hd (ev_var rfl (Mo.up (R := rSy K) e2 h1a))) ev_str)) (fun _ => ev_var (R := rInt) rfl rfl) (fun _ => ev_int)) ?_) (fun v H' e r => q v H' ((e1.trans e2).trans e) r)
    rcases hd_one nu c2 with rfl | rfl <;> rfl
  have e12 := e1.trans e2
  have h1b := Mo.up (R := rSy K) e12 h1
  have h2b := Mo.up (R := rTb) e12 h2
  cases s with
  | yes => exact absurd c2 (by decide)
  | no => exact absurd c2 (by decide)
  | unk x => exact absurd rfl (nu x)
  | neg a =>
    simp only [Say.ht] at hs
    refine q_set (R := rInt) (ev_call3 (R := rSy K) (S := rTb) (T := rInt) (ev_p1 (ev_var rfl h1b)) (ev_var rfl h2b) (ev_var (R := rInt) (x := d) rfl rfl) ⟨by omega, hin⟩) (fun u3 H3 e3 r3 => ?_)
    cases r3
    refine q_when (et_test (ev_eqS (ev_hd (ev_var rfl (Mo.up (R := rSy K) e3 h1b))) ev_str)) (fun _ H4 e4 => ?_) (fun c _ _ => absurd (show (Say.neg a).hd = ("not" : Str) from rfl) (of_decide_eq_false c))
    exact s_ret (R := rInt) (ev_sub (ev_var (R := rInt) rfl rfl) (ev_var (R := rInt) rfl rfl)) (fun v H' e r => q v H' ((e12.trans (e3.trans e4)).trans e) r)
  | mk m a b =>
    have hs' : a.ht < n ∧ b.ht < n := by simp only [Say.ht] at hs; omega
    refine q_set (R := rInt) (ev_call3 (R := rSy K) (S := rTb) (T := rInt) (ev_m1 (ev_var rfl h1b)) (ev_var rfl h2b) (ev_var (R := rInt) (x := d) rfl rfl) ⟨hs'.1, hin.1⟩) (fun u3 H3 e3 r3 => ?_)
    cases r3
    have h1c := Mo.up (R := rSy K) e3 h1b
    refine q_when (et_test (ev_eqS (ev_hd (ev_var rfl h1c)) ev_str)) (fun c _ _ => absurd (show m.s = ("not" : Str) from of_decide_eq_true c) (by cases m <;> decide)) (fun _ H4 e4 => ?_)
    have h1d := Mo.up (R := rSy K) e4 h1c
    refine q_set (R := rInt) (ev_call3 (R := rSy K) (S := rTb) (T := rInt) (ev_m2 (ev_var rfl h1d)) (ev_var rfl (Mo.up (R := rTb) (e3.trans e4) h2b)) (ev_var (R := rInt) (x := d) rfl rfl) ⟨hs'.2, hin.2⟩) (fun u5 H5 e5 r5 => ?_)
    cases r5
    have e15 := e12.trans ((e3.trans e4).trans e5)
    have h1e := Mo.up (R := rSy K) e5 h1d
    generalize hA : val (tbF tb) d a = A1 at *
    generalize hB : val (tbF tb) d b = B1 at *
    have hv : val (tbF tb) d (.mk m a b) = mkv m d A1 B1 := by rw [← hA, ← hB]; rfl
    have q' : ∀ u H', Same H5 H' → rInt H' u (mkv m d A1 B1) → Q u H' := fun u H' e r => q u H' (e15.trans e) (by show rInt H' u (val (tbF tb) d (.mk m a b)); rw [hv]; exact r)
    refine q_when (et_test (ev_eqS (ev_hd (ev_var rfl h1e)) ev_str)) (fun c H6 e6 => ?_) (fun c1 H6 e6 => ?_)
    · cases mk_is (k := .plus) c
      exact s_ret (R := rInt) (ev_min2 (ev_var (R := rInt) rfl rfl) (ev_add (ev_var (R := rInt) rfl rfl) (ev_var (R := rInt) rfl rfl))) (fun v H' e r => q' v H' (e6.trans e) r)
    refine q_when (et_test (ev_eqS (ev_hd (ev_var rfl (Mo.up (R := rSy K) e6 h1e))) ev_str)) (fun c H7 e7 => ?_) (fun c2 H7 e7 => ?_)
    · cases mk_is (k := .times) c
      exact s_ret (R := rInt) (ev_max2 ev_int (ev_sub (ev_add (ev_var (R := rInt) rfl rfl) (ev_var (R := rInt) rfl rfl)) (ev_var (R := rInt) rfl rfl))) (fun v H' e r => q' v H' ((e6.trans e7).trans e) r)
    have h1f := Mo.up (R := rSy K) (e6.trans e7) h1e
    refine q_when (et_test (ev_eqS (ev_hd (ev_var rfl h1f)) ev_str)) (fun c H8 e8 => ?_) (fun c3 H8 e8 => ?_)
    · cases mk_is (k := .leads) c
      exact s_ret (R := rInt) (ev_min2 (ev_var (R := rInt) rfl rfl) (ev_add (ev_sub (ev_var (R := rInt) rfl rfl) (ev_var (R := rInt) rfl rfl)) (ev_var (R := rInt) rfl rfl))) (fun v H' e r => q' v H' (((e6.trans e7).trans e8).trans e) r)
    have e68 := (e6.trans e7).trans e8
    have h1g := Mo.up (R := rSy K) e68 h1e
    refine q_when (et_test (ev_inT (ev_hd (ev_var rfl h1g)) (ev_tup (ei_cons ev_str (ei_cons ev_str ei_nil)) (by decide)))) (fun c H9 e9 => ?_) (fun c4 H9 e9 => ?_)
    · refine s_ret (R := rInt) (x := mkv m d A1 B1) (ev_if' (et_test (ev_eqS (ev_hd (ev_var rfl (Mo.up (R := rSy K) e9 h1g))) ev_str)) (fun cc => ?_) (fun cc => ?_)) (fun v H' e r => q' v H' ((e68.trans e9).trans e) r)
      · cases mk_is (k := .and) cc
        exact ev_min2 (ev_var (R := rInt) rfl rfl) (ev_var (R := rInt) rfl rfl)
      · have hm : m = .or := by
          have p4 := mk_isnt (k := .and) cc
          have := of_decide_eq_true c
          cases m <;> first | rfl | contradiction | exact absurd this (by decide)
        subst hm
        exact ev_max2 (ev_var (R := rInt) rfl rfl) (ev_var (R := rInt) rfl rfl)
    · have hm : m = .same := by
        have p1 := mk_isnt (k := .plus) c1
        have p2 := mk_isnt (k := .times) c2
        have p3 := mk_isnt (k := .leads) c3
        cases m <;> first | rfl | contradiction | exact absurd c4 (by decide)
      subst hm
      exact s_ret (R := rInt) (ev_sub (ev_var (R := rInt) rfl rfl) (ev_abs (ev_sub (ev_var (R := rInt) rfl rfl) (ev_var (R := rInt) rfl rfl)))) (fun v H' e r => q' v H' ((e68.trans e9).trans e) r)
theorem ok__law_graded (D : Df K mg "_law_graded" (top 73)) (T : Bt mg) : ∀ n, Cal P w K mg base "_law_graded" (n + 1) ["_law_saying_here", "_law_table", "_law_whole_here"] (spGraded K n)
  | 0 => D.vac (fun _ _ _ _ _ _ us hl => match us, hl with | [_, _, _], _ => rfl) (fun vs H Q E h => by obtain ⟨_, _, _, _, _, _, _, _, _, _, ⟨z, _⟩, _⟩ := h; omega)
  | n + 1 => ok__law_graded1 D T (ok__law_graded D T n)
/-! ### _law_bound, _law_parts, _law_found -/
def boundL (ns : List Str) (f g : Say) : Int := ns.foldl (fun b x => b * mOcc f g x) (Kf ns.length)
def spLBound (K : PySem.W.Frag) (n : Nat) : Sp := sp3 (rL rStr) (rSy K) (rSy K) (fun ns f g => ns.length ≤ 3 ∧ f.ht < n ∧ g.ht < n ∧ f.leaves + g.leaves ≤ 900) rInt boundL
theorem lst4 {a b c d : Int} {n : Nat} (h : n ≤ 3) : atI ([a, b, c, d] : List Int) (n : Int) = some (match n with
  | 0 => a
  | 1 => b
  | 2 => c
  | _ => d) := by
  have : n = 0 ∨ n = 1 ∨ n = 2 ∨ n = 3 := by omega
  rcases this with rfl | rfl | rfl | rfl <;> rfl
theorem Kf_match {n : Nat} (h : n ≤ 3) : (match n with
  | 0 => (1 : Int)
  | 1 => 1
  | 2 => 2
  | _ => 4) = Kf n := by
  have : n = 0 ∨ n = 1 ∨ n = 2 ∨ n = 3 := by omega
  rcases this with rfl | rfl | rfl | rfl <;> rfl
theorem sc__law_bound : FnScope (["_law_names", "_law_first", "_law_second", "_law_found_here", "_law_name"] : List Str) (["_law_names", "_law_first", "_law_second"] : List Str) (defScope (top 84)) := ⟨rfl, rfl, rfl, by decide +kernel, rfl, by decide +kernel, by decide +kernel⟩
theorem ok__law_bound (D : Df K mg "_law_bound" (top 84)) (T : Bt mg) {n : Nat} (C__law_often : Cal P w K mg base "_law_often" (n + 1) ["_law_saying_here", "_law_name"] (spLOften K n)) : Cal P w K mg base "_law_bound" (n + 2) ["_law_names", "_law_first", "_law_second"] (spLBound K n) := by
  refine D.ok sc__law_bound (fun _ _ _ _ _ _ us hl => match us, hl with | [_, _, _], _ => rfl) (sp3_len) (fun f cdv A outer s H vs Q E hr h => ?_)
  have nd := sc__law_bound.nd
  refine ⟨_, (pss_cons (ps_set (i := 3) nd rfl (Or.inl rfl) (pe_ix ix_list (pe_lst (pa_cons pe_int (pa_cons pe_int (pa_cons pe_int (pa_cons pe_int pa_nil))))) (pk_len T (pa_cons (pv 0) pa_nil)) (fun _ _ => rfl)))
    (pss_cons (ps_for PassesOwn.never rfl (pi_list (pv 0)) (pg_name (i := 4) nd rfl (Or.inl rfl)) (pss_one (ps_set (i := 3) nd rfl (Or.inl rfl) (pe_op op_mul (pv 3) (pk_max3 T (pa_cons pe_int (pa_cons (pk_call C__law_often hr (pa_cons (pv 1) (pa_cons (pv 4) pa_nil))) (pa_cons (pk_call C__law_often hr (pa_cons (pv 2) (pa_cons (pv 4) pa_nil))) pa_nil))))))))
    (pss_one (ps_ret (pv 3))))), ?_⟩
  obtain ⟨v1, v2, v3, ns, f', g, rfl, h1, h2, h3, ⟨n3, hf, hg, lv⟩, q⟩ := h
  refine q_set (R := rInt) (x := Kf ns.length) (EvR.to (ev_ixL (R := rInt) (ev_lst (xs := [1, 1, 2, 4]) (ei_cons ev_int (ei_cons ev_int (ei_cons ev_int (ei_cons ev_int ei_nil)))) (by decide)) (ev_lenL (ev_var rfl h1)) (lst4 n3)) (Kf_match n3)) (fun vb H1 e1 rb => ?_)
  cases rb
  refine q_for (I := fun H2 i σ' H' => ∃ x4, σ' = [some v1, some v2, some v3, some (.int ((ns.take i).foldl (fun b x => b * mOcc f' g x) (Kf ns.length))), x4] ∧ Same H2 H') (ii_lst (R := rStr) (ev_var rfl (Mo.up e1 h1))) (fun H2 e2 => ⟨_, rfl, Same.refl _⟩) (fun H2 i σ' H' e2 z => ?_) (fun H2 i x σ' H' v' H'' e2 hx z e3 r => ?_) (fun H2 σ' H' e2 z => ?_)
  · obtain ⟨_, _, sb⟩ := z
    exact sb
  · obtain ⟨x4, rfl, sb⟩ := z
    have e0 := ((e1.trans e2).trans sb).trans e3
    have ml := mOcc_le f' g x
    have mp := mOcc_pos f' g x
    refine s_set (R := rInt) (ev_mul (ev_var (R := rInt) rfl rfl) (EvR.to (x' := mOcc f' g x) (ev_max3 (ev_int (i := 1)) (ev_call2 (ev_var rfl (Mo.up (R := rSy K) e0 h2)) (ev_var rfl r) hf) (ev_call2 (ev_var rfl (Mo.up (R := rSy K) e0 h3)) (ev_var rfl r) hg)) rfl) (.inr ⟨by omega, by omega⟩)) (fun v H6 e7 r6 => ⟨some v', ?_, (sb.trans e3).trans e7⟩)
    cases r6
    rw [List.take_add_one, hx, Option.toList_some, List.foldl_append]
    rfl
  · obtain ⟨x4, rfl, sb⟩ := z
    rw [List.take_length]
    exact s_ret (R := rInt) (x := boundL ns f' g) (ev_var (R := rInt) rfl rfl) (fun v H6 e7 r6 => q v H6 (((e1.trans e2).trans sb).trans e7) r6)
structure LPar (n : Nat) (ns : List Str) (f g : Say) : Prop where
  nd : ns.Nodup
  n3 : ns.length ≤ 3
  hf : f.ht < n
  hg : g.ht < n
  inf : f.In ns
  ing : g.In ns
def partsB (ns : List Str) (row : Vec) (m : Nat) (f g : Say) : Bool := !decide (val (tab ns row) m f = val (tab ns row) m g)
def spLParts (K : PySem.W.Frag) (n : Nat) : Sp := fun vs H Q _ => ∃ (v1 v2 v4 v5 : V) (m : Nat) (ns : List Str) (row : Vec) (f g : Say), vs = [v1, v2, .int (m : Int), v4, v5] ∧ rL rStr H v1 ns ∧ rVc K H v2 row ∧ rSay K H v4 f ∧ rSay K H v5 g ∧ LPar n ns f g ∧ row.length = ns.length ∧ ∀ H', Same H H' → Q (.bl (partsB ns row m f g)) H'
theorem spLParts_len {n : Nat} (vs : List V) (H : Hp) (Q : VK) (E : XK) (h : spLParts K n vs H Q E) : vs.length = 5 := by obtain ⟨_, _, _, _, _, _, _, _, _, rfl, _⟩ := h; rfl
theorem sc__law_parts : FnScope (["_law_names", "_law_row", "_law_whole_here", "_law_first", "_law_second", "_law_table"] : List Str) (["_law_names", "_law_row", "_law_whole_here", "_law_first", "_law_second"] : List Str) (defScope (top 85)) := ⟨rfl, rfl, rfl, by decide +kernel, rfl, by decide +kernel, by decide +kernel⟩
theorem ok__law_parts (D : Df K mg "_law_parts" (top 85)) (T : Bt mg) {n : Nat} (C__law_graded : Cal P w K mg base "_law_graded" (n + 1) ["_law_saying_here", "_law_table", "_law_whole_here"] (spGraded K n)) : Cal P w K mg base "_law_parts" (n + 2) ["_law_names", "_law_row", "_law_whole_here", "_law_first", "_law_second"] (spLParts K n) := by
  refine D.ok sc__law_parts (fun _ _ _ _ _ _ us hl => match us, hl with | [_, _, _, _, _], _ => rfl) (spLParts_len) (fun f cdv A outer s H vs Q E hr h => ?_)
  have nd := sc__law_parts.nd
  refine ⟨_, (pss_cons (ps_set (i := 5) nd rfl (Or.inl rfl) (pk_dictlz T rfl (pa_cons (pv 0) (pa_cons (pv 1) pa_nil))))
    (pss_one (ps_ret (pe_cmpR op_ne (pk_call C__law_graded hr (pa_cons (pv 3) (pa_cons (pv 5) (pa_cons (pv 2) pa_nil)))) (pk_call C__law_graded hr (pa_cons (pv 4) (pa_cons (pv 5) (pa_cons (pv 2) pa_nil)))) (nomark _))))), ?_⟩
  obtain ⟨v1, v2, v4, v5, m, ns, row, f', g, rfl, h1, h2, h4, h5, lp, hl, q⟩ := h
  have n3 := lp.n3
  refine q_set (R := rTb) (x := ns.zip row) (ev_dictlz (ev_var rfl h1) (ev_var rfl h2) lp.nd hl.symm (by omega)) (fun vt H1 e1 rt => ?_)
  have keys : (ns.zip row).map (·.1) = ns := List.map_fst_zip (by omega)
  refine s_ret (R := rBl) (x := partsB ns row m f' g) (ev_neI (ev_call3 (R := rSy K) (S := rTb) (T := rInt) (ev_var rfl (Mo.up (R := rSy K) e1 h4)) (ev_var rfl rt) (ev_var (R := rInt) (x := (m : Int)) rfl rfl) ⟨lp.hf, by rw [keys]; exact lp.inf⟩) (ev_call3 (R := rSy K) (S := rTb) (T := rInt) (ev_var rfl (Mo.up (R := rSy K) e1 h5)) (ev_var rfl rt) (ev_var (R := rInt) (x := (m : Int)) rfl rfl) ⟨lp.hg, by rw [keys]; exact lp.ing⟩)) (fun v H' e r => ?_)
  cases r
  exact q H' (e1.trans e)
def limL (n : Nat) : Nat := match n with
  | 0 => 2
  | 1 => 24
  | 2 => 10
  | _ => 4
def foundL (ns : List Str) (f g : Say) (i : Nat) : Option (Nat × List (Int × Int)) := ((gridF ns.length (i + 1)).find? fun row => partsB ns row (i + 1) f g).map fun row => (i + 1, row.map fun y => lowestF y ((i + 1 : Nat) : Int))
def dueL (ns : List Str) (f g : Say) : Option (Nat × List (Int × Int)) := (List.range (limL ns.length)).findSome? (foundL ns f g)
def spLFound (K : PySem.W.Frag) (n : Nat) : Sp := sp3 (rL rStr) (rSy K) (rSy K) (fun ns f g => LPar n ns f g) (rFound K) dueL
theorem lim_pow {n i : Nat} (h : n ≤ 3) (hi : i < limL n) : (i + 1 + 1) ^ n ≤ 1000000 ∧ i < 24 := by
  have : n = 0 ∨ n = 1 ∨ n = 2 ∨ n = 3 := by omega
  rcases this with rfl | rfl | rfl | rfl
  · simp only [limL] at hi; exact ⟨by simp, by omega⟩
  · simp only [limL] at hi; exact ⟨by simp; omega, by omega⟩
  · simp only [limL] at hi; exact ⟨Nat.le_trans (Nat.pow_le_pow_left (show i + 1 + 1 ≤ 11 by omega) 2) (by decide), by omega⟩
  · simp only [limL] at hi; exact ⟨Nat.le_trans (Nat.pow_le_pow_left (show i + 1 + 1 ≤ 5 by omega) 3) (by decide), by omega⟩
theorem lim_at {n : Nat} (h : n ≤ 3) : atI ([2, 24, 10, 4] : List Int) (n : Int) = some ((limL n : Nat) : Int) := by
  have : n = 0 ∨ n = 1 ∨ n = 2 ∨ n = 3 := by omega
  rcases this with rfl | rfl | rfl | rfl <;> rfl
theorem ev_call5P {n : Nat} {σ : L2.St} {H : Hp} {t1 t2 t3 t4 t5 : TE} {ns : List Str} {row : Vec} {m : Nat} {f g : Say} (h1 : EvR t1 σ H (rL rStr) ns) (h2 : EvR t2 σ H (rVc K) row) (h3 : EvR t3 σ H rNat m) (h4 : EvR t4 σ H (rSy K) f) (h5 : EvR t5 σ H (rSy K) g) (lp : LPar n ns f g) (hl : row.length = ns.length) :
    EvR (tCall (spLParts K n) [] E0 (tCons t1 (tCons t2 (tCons t3 (tCons t4 (tCons t5 tNil)))))) σ H rBl (partsB ns row m f g) := fun H1 e Q q =>
  h1 H1 e _ fun v1 H2 e2 r1 => h2 H2 (e.trans e2) _ fun v2 H3 e3 r2 => h3 H3 ((e.trans e2).trans e3) _ fun v3 H4 e4 r3 => h4 H4 (((e.trans e2).trans e3).trans e4) _ fun v4 H5 e5 r4 => h5 H5 ((((e.trans e2).trans e3).trans e4).trans e5) _ fun v5 H6 e6 r5 => by
    cases r3
    exact ⟨v1, v2, v4, v5, m, ns, row, f, g, rfl, Mo.up ((e3.trans e4).trans (e5.trans e6)) r1, Mo.up (R := rVc K) (e4.trans (e5.trans e6)) r2, Mo.up (R := rSy K) e6 r4, r5, lp, hl, fun H' e' => q _ H' ((((e2.trans e3).trans e4).trans (e5.trans e6)).trans e') rfl⟩
theorem sc__law_found : FnScope (["_law_names", "_law_first", "_law_second", "_law_whole_here", "_law_row", "_law_number"] : List Str) (["_law_names", "_law_first", "_law_second"] : List Str) (defScope (top 86)) := ⟨rfl, rfl, rfl, by decide +kernel, rfl, by decide +kernel, by decide +kernel⟩
theorem ok__law_found (D : Df K mg "_law_found" (top 86)) (T : Bt mg) {n : Nat} (C__law_rows : Cal P w K mg base "_law_rows" 1 ["_law_size", "_law_whole_here"] (spLRows K)) (C__law_parts : Cal P w K mg base "_law_parts" (n + 2) ["_law_names", "_law_row", "_law_whole_here", "_law_first", "_law_second"] (spLParts K n)) (C__law_lowest : Cal P w K mg base "_law_lowest" 1 ["_law_above", "_law_below"] (spLLow K)) :
    Cal P w K mg base "_law_found" (n + 3) ["_law_names", "_law_first", "_law_second"] (spLFound K n) := by
  refine D.ok sc__law_found (fun _ _ _ _ _ _ us hl => match us, hl with | [_, _, _], _ => rfl) (sp3_len) (fun f cdv A outer s H vs Q E hr h => ?_)
  have nd := sc__law_found.nd
  refine ⟨_, (pss_cons (ps_for PassesOwn.never rfl (pi_range2 rfl T.range (pa_cons pe_int (pa_cons (pe_op op_add (pe_ix ix_list (pe_lst (pa_cons pe_int (pa_cons pe_int (pa_cons pe_int (pa_cons pe_int pa_nil))))) (pk_len T (pa_cons (pv 0) pa_nil)) (fun _ _ => rfl)) pe_int) pa_nil))) (pg_name (i := 3) nd rfl (Or.inr rfl)) (pss_one (ps_for PassesOwn.never rfl (pi_list (pk_call C__law_rows hr (pa_cons (pk_len T (pa_cons (pv 0) pa_nil)) (pa_cons (pv 3) pa_nil)))) (pg_name (i := 4) nd rfl (Or.inl rfl)) (pss_one (ps_if (pt_val (pk_call C__law_parts hr (pa_cons (pv 0) (pa_cons (pv 4) (pa_cons (pv 3) (pa_cons (pv 1) (pa_cons (pv 2) pa_nil))))))) (pss_one (ps_ret (pe_tup (pa_cons (pv 3) (pa_cons (pk_tuple T (pa_cons (pe_lc (own := [("_law_number", 5)]) rfl nd (pi_tup (pv 4)) (blkOk_by (by walk_at "blk")) (fun _ _ _ _ _ => (pg_name (i := 5) nd rfl (Or.inl rfl))) (fun _ _ _ _ _ => pts_nil) (fun _ _ _ _ _ => (pk_call C__law_lowest hr (pa_cons (pv 5) (pa_cons (pv 3) pa_nil))))) pa_nil)) pa_nil))))) pss_nil)))))
    (pss_one (ps_ret pe_non))), ?_⟩
  obtain ⟨v1, v2, v3, ns, f', g, rfl, h1, h2, h3, lp, q⟩ := h
  have n3 := lp.n3
  let F := foundL ns f' g
  refine q_for (I := fun H2 i σ' H' => ∃ x3 x4, σ' = [some v1, some v2, some v3, x3, x4, none] ∧ Same H2 H' ∧ ((List.range (limL ns.length)).take i).findSome? F = none) (ii_range2 (i := 1) (j := ((limL ns.length : Nat) : Int) + 1) ev_int (ev_add (ev_ixL (R := rInt) (ev_lst (xs := [2, 24, 10, 4]) (ei_cons ev_int (ei_cons ev_int (ei_cons ev_int (ei_cons ev_int ei_nil)))) (by decide)) (ev_lenL (ev_var rfl h1)) (lim_at n3)) ev_int) ⟨by decide, by decide, by omega, by unfold limL; split <;> decide⟩)
    (fun H2 e2 => ⟨_, _, rfl, Same.refl _, rfl⟩) (fun H2 i σ' H' e2 z => ?_) (fun H2 i x σ' H' v' H'' e2 hx z e3 r => ?_) (fun H2 σ' H' e2 z => ?_)
  · obtain ⟨_, _, _, sb, _⟩ := z
    exact Le.of sb
  · obtain ⟨x3, x4, rfl, sb, none_⟩ := z
    have hi : i < limL ns.length := by
      have := (List.getElem?_eq_some_iff.mp hx).1
      rw [ivs_len] at this
      omega
    rw [ivs_get (by omega)] at hx
    cases hx
    cases r
    have e0 := (e2.trans sb).trans e3
    have hri : (List.range (limL ns.length))[i]? = some i := by simp [hi]
    have snoc : ((List.range (limL ns.length)).take (i + 1)).findSome? F = F i := by
      rw [List.take_add_one, hri, Option.toList_some, List.findSome?_append, none_]
      cases hb : F i <;> simp [hb]
    have ei : (1 : Int) + (i : Nat) = ((i + 1 : Nat) : Int) := by omega
    rw [ei]
    have lpw := lim_pow n3 hi
    let G := fun (row : Vec) => partsB ns row (i + 1) f' g
    refine s_for (I := fun H5 j σ' H' => ∃ x4, σ' = [some v1, some v2, some v3, some (.int ((i + 1 : Nat) : Int)), x4, none] ∧ Same H5 H' ∧ ((gridF ns.length (i + 1)).take j).find? G = none) (ii_lst (R := rVc K) (xs := gridF ns.length (i + 1)) (ev_call2 (R := rNat) (S := rNat) (x := ns.length) (y := i + 1) (ev_lenL (ev_var rfl (Mo.up e0 h1))) (ev_nat (n := i + 1) (ev_var (R := rInt) rfl rfl)) ⟨n3, lpw.1, by omega⟩))
      (fun H5 e5 => ⟨_, rfl, Same.refl _, rfl⟩) (fun H5 j σ' H' e5 z => ?_) (fun H5 j row σ' H' w' H'' e5 hy z e6 s => ?_) (fun H5 σ' H' e5 z => ?_)
    · obtain ⟨_, _, sb, _⟩ := z
      exact sb
    · obtain ⟨x4, rfl, sb5, none5⟩ := z
      have hl := (mem_grid.mp (List.mem_of_getElem? hy)).1
      have e06 := e0.trans ((e5.trans sb5).trans e6)
      have snoc5 : ((gridF ns.length (i + 1)).take (j + 1)).find? G = if G row = true then some row else none := by
        rw [List.take_add_one, hy, Option.toList_some, List.find?_append, none5]
        by_cases c : G row = true
        · simp [c]
        · simp [c]
      refine s_when (et_test (ev_call5P (ev_var rfl (Mo.up e06 h1)) (ev_var rfl s) (ev_nat (n := i + 1) (ev_var (R := rInt) rfl rfl)) (ev_var rfl (Mo.up (R := rSy K) e06 h2)) (ev_var rfl (Mo.up (R := rSy K) e06 h3)) lp hl)) (fun c H7 e7 => ?_) (fun c H7 e7 => ?_)
      · have c' : G row = true := c
        refine s_ret (R := r2 K rNat (rT K (r2 K rInt rInt))) (x := (i + 1, row.map fun y => lowestF y ((i + 1 : Nat) : Int))) (ev_pair (ev_nat (n := i + 1) (ev_var (R := rInt) rfl rfl)) (ev_tupL (ev_lc (R := rInt) (S := r2 K rInt rInt) (fun y => lowestF y ((i + 1 : Nat) : Int)) (ii_tup (ev_var rfl (Mo.up (R := rVc K) e7 s))) (fun _ _ _ e => Le.of e) (by omega) (fun v => rfl) (fun y hy v H' e r => ev_call2 (ev_var rfl r) (ev_var (R := rInt) rfl rfl) ⟨by omega, by omega⟩)))) (fun v H10 e11 r => q v H10 ((e06.trans e7).trans e11) ?_)
        have hG : (gridF ns.length (i + 1)).find? G = some row := by
          have ea : gridF ns.length (i + 1) = (gridF ns.length (i + 1)).take (j + 1) ++ (gridF ns.length (i + 1)).drop (j + 1) := (List.take_append_drop _ _).symm
          rw [ea, List.find?_append, snoc5, if_pos c']
          rfl
        have hF : F i = some (i + 1, row.map fun y => lowestF y ((i + 1 : Nat) : Int)) := by show Option.map _ ((gridF ns.length (i + 1)).find? G) = _; rw [hG]; rfl
        have hs : dueL ns f' g = some (i + 1, row.map fun y => lowestF y ((i + 1 : Nat) : Int)) := by
          unfold dueL
          have ea : List.range (limL ns.length) = (List.range (limL ns.length)).take (i + 1) ++ (List.range (limL ns.length)).drop (i + 1) := (List.take_append_drop _ _).symm
          rw [ea, List.findSome?_append, snoc, hF]
          rfl
        rw [hs]
        refine ⟨fun z => ?_, r⟩
        obtain ⟨a, _, _, e, _⟩ := r
        rw [z] at e; cases e
      · have c' : ¬ G row = true := fun z => by
          have : G row = false := c
          rw [this] at z; cases z
        exact ⟨_, rfl, ((sb5.trans e6).trans e7), by rw [snoc5, if_neg c']⟩
    · obtain ⟨x4, rfl, sb5, none5⟩ := z
      rw [List.take_length] at none5
      have hF : F i = none := by show Option.map _ ((gridF ns.length (i + 1)).find? G) = _; rw [none5]; rfl
      exact ⟨_, _, rfl, (((sb.trans e3).trans e5).trans sb5), by rw [snoc, hF]⟩
  · obtain ⟨x3, x4, rfl, sb, none_⟩ := z
    have hlen : (ivs 1 ((((limL ns.length : Nat) : Int) + 1) - 1).toNat).length = limL ns.length := by rw [ivs_len]; omega
    rw [hlen] at none_
    have : ((List.range (limL ns.length)).take (limL ns.length)) = List.range (limL ns.length) := List.take_of_length_le (by simp)
    rw [this] at none_
    refine s_ret (R := rV) ev_non (fun v H8 e9 r => q v H8 ((e2.trans sb).trans e9) ?_)
    have hs : dueL ns f' g = none := none_
    rw [hs]
    exact r
end
end Hf


/-! ## Fa18 -/
set_option Elab.async false
set_option linter.all false
set_option maxRecDepth 100000
set_option maxHeartbeats 400000

namespace Hf
open PySem PySem.Spec PyProof.Rows L2 RZ
/-! ### points -/
/-- a fraction in lowest terms between 0 and 1 -/
structure Frac (p : Int × Int) : Prop where
  lo : 0 ≤ p.1
  le : p.1 ≤ p.2
  pos : 0 < p.2
  sm : p.2 < 1000000000
  cop : Int.gcd p.1 p.2 = 1
theorem lowest_frac {y m : Int} (h0 : 0 ≤ y) (h1 : y ≤ m) (hm : 0 < m) (hs : m < 1000000000) : Frac (lowestF y m) ∧ (lowestF y m).1 * m = y * (lowestF y m).2 := by
  have g0 : 0 < Int.gcd y m := Int.gcd_pos_of_ne_zero_right _ (by omega)
  have e : lowestF y m = (y.fdiv (Int.gcd y m : Nat), m.fdiv (Int.gcd y m : Nat)) := by unfold lowestF; rw [if_neg (by omega)]
  obtain ⟨a, ha⟩ := Int.gcd_dvd_left y m
  obtain ⟨b, hb⟩ := Int.gcd_dvd_right y m
  generalize hg : Int.gcd y m = g at *
  have gp : (0 : Int) < (g : Int) := by omega
  have f1 : y.fdiv (g : Nat) = a := by rw [ha, Int.fdiv_eq_ediv_of_nonneg _ (by omega)]; exact Int.mul_ediv_cancel_left a (by omega)
  have f2 : m.fdiv (g : Nat) = b := by rw [hb, Int.fdiv_eq_ediv_of_nonneg _ (by omega)]; exact Int.mul_ediv_cancel_left b (by omega)
  have a0 : 0 ≤ a := by
    apply Classical.byContradiction
    intro hn
    have := Int.mul_neg_of_pos_of_neg gp (show a < 0 by omega)
    omega
  have b0 : 0 < b := by
    apply Classical.byContradiction
    intro hn
    have := Int.mul_nonpos_of_nonneg_of_nonpos (Int.le_of_lt gp) (show b ≤ 0 by omega)
    omega
  have ab : a ≤ b := by
    apply Classical.byContradiction
    intro hn
    have := Int.mul_lt_mul_of_pos_left (show b < a by omega) gp
    omega
  have bm : b ≤ m := by
    have := Int.mul_le_mul_of_nonneg_right (show (1 : Int) ≤ g by omega) (Int.le_of_lt b0)
    omega
  rw [e, f1, f2]
  refine ⟨⟨a0, ab, b0, by show b < _; omega, ?_⟩, ?_⟩
  · show Int.gcd a b = 1
    have h2 : Int.gcd ((g : Int) * a) ((g : Int) * b) = g := by rw [← ha, ← hb]; exact hg
    rw [Int.gcd_mul_left] at h2
    have h3 : g * Int.gcd a b = g * 1 := by rw [Nat.mul_one]; simpa using h2
    exact Nat.eq_of_mul_eq_mul_left g0 h3
  · show a * m = y * b
    rw [hb, ha]
    grind
theorem lowest_id {p : Int × Int} (h : Frac p) : lowestF p.1 p.2 = p := by
  unfold lowestF
  have := h.pos
  rw [if_neg (by omega), h.cop]
  show (p.1.fdiv 1, p.2.fdiv 1) = p
  rw [Int.fdiv_one, Int.fdiv_one]
abbrev rPt (K : PySem.W.Frag) : Rl (List (Int × Int)) := rT K (r2 K rInt rInt)
theorem dp_pair {K : PySem.W.Frag} {H : Hp} {v : V} {p : Int × Int} (h : r2 K rInt rInt H v p) : Dp K H v (.tuple [.int p.1, .int p.2]) := by
  obtain ⟨a, u, w, e, h1, h2, h3⟩ := h
  subst e
  cases h2
  cases h3
  exact .tup h1 (.cons (.int _) (.cons (.int _) .nil))
section
variable {P : Program} {w : World} {K : PySem.W.Frag} {mg : Str → Option Value} {base : Heap}
theorem ty_rT {α : Type} {R : Rl α} {H : Hp} {v : V} {xs : List α} (h : rT K R H v xs) : TyX K H v (.type "tuple") := by
  obtain ⟨a, vs, e, h1, _⟩ := h
  subst e
  exact ty_tup h1
theorem ty_r2 {α β : Type} {R : Rl α} {S : Rl β} {H : Hp} {v : V} {p : α × β} (h : r2 K R S H v p) : TyX K H v (.type "tuple") := by
  obtain ⟨a, u, w, e, h1, _⟩ := h
  subst e
  exact ty_tup h1
theorem ev_len2 {σ : L2.St} {H : Hp} {ta : TE} {α β : Type} {R : Rl α} {S : Rl β} {p : α × β} (h : EvR ta σ H (r2 K R S) p) : EvR (tCB (rLenS K) (tCons ta tNil)) σ H rInt 2 :=
  ev_cb (P := fun H' vs => ∃ v, vs = [v] ∧ r2 K R S H' v p) (fun H1 e _ q => h H1 e _ fun v H2 e2 r => q _ H2 e2 ⟨v, rfl, r⟩) fun vs H1 _ ⟨v, e1, h1⟩ Q q => by
    subst e1
    obtain ⟨a, u, w, rfl, h2, _⟩ := h1
    exact ⟨a, _, rfl, .inr h2, q _ H1 (Same.refl H1) rfl⟩
/-- a pair, walked as a tuple of ints -/
theorem pair_rT {H : Hp} {v : V} {p : Int × Int} (h : r2 K rInt rInt H v p) : rT K rInt H v [p.1, p.2] := by
  obtain ⟨a, u, w, e, h1, h2, h3⟩ := h
  exact ⟨a, _, e, h1, .cons h2 (.cons h3 .nil)⟩
def spLPoint (K : PySem.W.Frag) : Sp := sp2 (rL rStr) (rPt K) (fun ns pts => pts.length = ns.length ∧ ns.length ≤ 3 ∧ ∀ p ∈ pts, Frac p) rBl (fun _ _ => true)
theorem sc__law_point_right : FnScope (["_law_names", "_law_point", "_law_pair_here", "_law_part"] : List Str) (["_law_names", "_law_point"] : List Str) (defScope (top 79)) := ⟨rfl, rfl, rfl, by decide +kernel, rfl, by decide +kernel, by decide +kernel⟩
theorem ok__law_point_right (D : Df K mg "_law_point_right" (top 79)) (T : Bt mg) (C__law_whole : Cal P w K mg base "_law_whole" 1 ["_law_value"] spLWhole) (C__law_lowest : Cal P w K mg base "_law_lowest" 1 ["_law_above", "_law_below"] (spLLow K)) : Cal P w K mg base "_law_point_right" 2 ["_law_names", "_law_point"] (spLPoint K) := by
  refine D.ok sc__law_point_right (fun _ _ _ _ _ _ us hl => match us, hl with | [_, _], _ => rfl) (sp2_len) (fun f cdv A outer s H vs Q E hr h => ?_)
  have nd := sc__law_point_right.nd
  refine ⟨_, (pss_cons (ps_if (PW.pt (pw_or (pt_not (pt_val (pk_isinstance T (pa_cons (pv 1) (pa_cons (pk_tTuple T) pa_nil))))) (pw_or1 (pt_cmpR op_ne (pk_len T (pa_cons (pv 1) pa_nil)) (pk_len T (pa_cons (pv 0) pa_nil)) (nomark _))))) (pss_one (ps_ret pe_bl)) pss_nil)
    (pss_cons (ps_for PassesOwn.never rfl (pi_tup (pv 1)) (pg_name (i := 2) nd rfl (Or.inl rfl)) (pss_cons (ps_if (PW.pt (pw_or (pt_not (pt_val (pk_isinstance T (pa_cons (pv 2) (pa_cons (pk_tTuple T) pa_nil))))) (pw_or (pt_cmpR op_ne (pk_len T (pa_cons (pv 2) pa_nil)) pe_int (nomark _)) (pw_or1 (pt_not (pt_val (pk_all T (pa_cons (pe_lc (own := [("_law_part", 3)]) rfl nd (pi_tup (pv 2)) (blkOk_by (by walk_at "blk")) (fun _ _ _ _ _ => (pg_name (i := 3) nd rfl (Or.inl rfl))) (fun _ _ _ _ _ => pts_nil) (fun _ _ _ _ _ => (pk_call C__law_whole hr (pa_cons (pv 3) pa_nil)))) pa_nil)))))))) (pss_one (ps_ret pe_bl)) pss_nil)
    (pss_one (ps_if (PW.pt (pw_or (pt_not (pt_chain op_le op_le pe_int (pe_ix ix_tup (pv 2) pe_int (fun _ _ => rfl)) (pe_ix ix_tup (pv 2) pe_int (fun _ _ => rfl)))) (pw_or (pt_cmpR op_lt (pe_ix ix_tup (pv 2) pe_int (fun _ _ => rfl)) pe_int (nomark _)) (pw_or1 (pt_cmpR (op_neD hr.units) (pk_call C__law_lowest hr (pa_cons (pe_ix ix_tup (pv 2) pe_int (fun _ _ => rfl)) (pa_cons (pe_ix ix_tup (pv 2) pe_int (fun _ _ => rfl)) pa_nil))) (pv 2) (nomark _)))))) (pss_one (ps_ret pe_bl)) pss_nil))))
    (pss_one (ps_ret pe_bl)))), ?_⟩
  obtain ⟨v1, v2, ns, pts, rfl, h1, h2, ⟨hl, n3, hf⟩, q⟩ := h
  refine q_when (b := false) (EvT.to (et_or (et_not (et_test (ev_isi (c := "tuple") (b := true) (ev_var rfl h2) (fun H v r => ty_rT r) (by decide +kernel)))) (fun _ => et_test (ev_neI (ev_lenT (ev_var rfl h2)) (ev_lenL (ev_var rfl h1))))) (by rw [decide_eq_true (show (pts.length : Int) = (ns.length : Int) by omega)]; rfl)) (fun c _ _ => absurd c (by decide)) (fun _ H1 e1 => ?_)
  refine q_for (I := fun H2 i σ' H' => ∃ x2, σ' = [some v1, some v2, x2, none] ∧ Same H2 H') (ii_tup (ev_var rfl (Mo.up (R := rPt K) e1 h2))) (fun H2 e2 => ⟨_, rfl, Same.refl _⟩) (fun H2 i σ' H' e2 z => ?_) (fun H2 i p σ' H' v' H'' e2 hx z e3 r => ?_) (fun H2 σ' H' e2 z => ?_)
  · obtain ⟨_, _, sb⟩ := z
    exact Le.of sb
  · obtain ⟨x2, rfl, sb⟩ := z
    have fr := hf p (List.mem_of_getElem? hx)
    have rt := pair_rT r
    refine q_when (b := false) (EvT.to (et_or (et_not (et_test (ev_isi (c := "tuple") (b := true) (ev_var rfl r) (fun H v r => ty_r2 r) (by decide +kernel)))) (fun _ => et_or (et_test (ev_neI (ev_len2 (ev_var rfl r)) ev_int)) (fun _ => et_not (et_test (ev_all (ev_lc (R := rInt) (S := rBl) (fun _ => true) (ii_tup (ev_var rfl rt)) (fun _ _ _ e => Le.of e) (by simp) (fun v => rfl) (fun y hy v H' e r => ev_call1 (ev_var rfl r) trivial))))))) rfl) (fun c _ _ => absurd c (by decide)) (fun _ H3 e4 => ?_)
    have r3 := Mo.up (R := r2 K rInt rInt) e4 r
    have p1 := ev_fst (K := K) (R := rInt) (S := rInt) (p := p) (ta := tVar 2) (σ := [some v1, some v2, some v', none]) (H := H3) (ev_var rfl r3)
    have p2 := ev_snd (K := K) (R := rInt) (S := rInt) (p := p) (ta := tVar 2) (σ := [some v1, some v2, some v', none]) (H := H3) (ev_var rfl r3)
    have lo := fr.lo
    have le := fr.le
    have pos := fr.pos
    have sm := fr.sm
    refine s_when (b := false) (EvT.to (et_or (et_not (et_test (ev_chain (t1 := fun i j => decide (i ≤ j)) (t2 := fun i j => decide (i ≤ j)) ev_int p1 p2))) (fun _ => et_or (et_test (ev_cmpI (f := fun i j => decide (i < j)) p2 ev_int)) (fun _ => et_test (ev_neD (K := K) (R := r2 K rInt rInt) (S := r2 K rInt rInt) (x := lowestF p.1 p.2) (y := p) (d := .tuple [.int p.1, .int p.2]) (e := .tuple [.int p.1, .int p.2]) (ev_call2 p1 p2 ⟨pos, sm⟩) (ev_var rfl r3) (fun H v r => by rw [lowest_id fr] at r; exact dp_pair r) (fun H v r => dp_pair r) (by rfl) (by rfl))))) ?_) (fun c _ _ => absurd c (by decide)) (fun _ H4 e5 => ⟨_, rfl, ((sb.trans e3).trans e4).trans e5⟩)
    rw [decide_eq_true lo, decide_eq_true le, decide_eq_false (show ¬ p.2 < 1 by omega)]
    show (false || (false || !(PyData.eqv (.tuple [.int p.1, .int p.2]) (.tuple [.int p.1, .int p.2])))) = false
    have : PyData.eqv (.tuple [.int p.1, .int p.2]) (.tuple [.int p.1, .int p.2]) = true := by
      show ((p.1 == p.1) && ((p.2 == p.2) && true)) = true
      simp
    rw [this]
    rfl
  · obtain ⟨x2, rfl, sb⟩ := z
    exact s_ret (R := rBl) (x := true) ev_bl (fun v H4 e5 r => q v H4 (((e1.trans e2).trans sb).trans e5) r)
/-! ### _law_late -/
theorem ev_natI {σ : L2.St} {H : Hp} {te : TE} {n : Nat} (h : EvR te σ H rNat n) : EvR te σ H rInt (n : Int) := fun H1 e Q q => h H1 e Q fun v H2 e2 r => q v H2 e2 r
structure LateP (n : Nat) (ns : List Str) (m : Nat) (row : Vec) (b : Int) (f g : Say) : Prop where
  lp : LPar n ns f g
  gr : OnGrid ns.length (m : Int) row
  pa : PartsAt ns f g (m : Int) row
  lo : limL ns.length < m
  hi : (m : Int) ≤ b
  sm : m < 1000000000
def spLLate (K : PySem.W.Frag) (n : Nat) : Sp := fun vs H Q _ => ∃ (v1 v2 v4 v5 : V) (b : Int) (m : Nat) (ns : List Str) (row : Vec) (f g : Say), vs = [v1, v2, .int b, v4, v5] ∧ rL rStr H v1 ns ∧ r2 K rNat (rPt K) H v2 (m, row.map fun y => lowestF y (m : Int)) ∧ rSay K H v4 f ∧ rSay K H v5 g ∧ LateP n ns m row b f g ∧ ∀ H', Same H H' → Q (.bl true) H'
theorem spLLate_len {n : Nat} (vs : List V) (H : Hp) (Q : VK) (E : XK) (h : spLLate K n vs H Q E) : vs.length = 5 := by obtain ⟨_, _, _, _, _, _, _, _, _, _, rfl, _⟩ := h; rfl
theorem lim_pos (n : Nat) : 1 ≤ limL n := by unfold limL; split <;> decide
theorem sc__law_late : FnScope (["_law_names", "_law_told", "_law_bound_here", "_law_first", "_law_second", "_law_row", "_law_pair_here", "_law_number"] : List Str) (["_law_names", "_law_told", "_law_bound_here", "_law_first", "_law_second"] : List Str) (defScope (top 87)) := ⟨rfl, rfl, rfl, by decide +kernel, rfl, by decide +kernel, by decide +kernel⟩
theorem ok__law_late (D : Df K mg "_law_late" (top 87)) (T : Bt mg) {n : Nat} (C__law_whole : Cal P w K mg base "_law_whole" 1 ["_law_value"] spLWhole) (C__law_point_right : Cal P w K mg base "_law_point_right" 2 ["_law_names", "_law_point"] (spLPoint K)) (C__law_parts : Cal P w K mg base "_law_parts" (n + 2) ["_law_names", "_law_row", "_law_whole_here", "_law_first", "_law_second"] (spLParts K n)) :
    Cal P w K mg base "_law_late" (n + 3) ["_law_names", "_law_told", "_law_bound_here", "_law_first", "_law_second"] (spLLate K n) := by
  refine D.ok sc__law_late (fun _ _ _ _ _ _ us hl => match us, hl with | [_, _, _, _, _], _ => rfl) (spLLate_len) (fun f cdv A outer s H vs Q E hr h => ?_)
  have nd := sc__law_late.nd
  refine ⟨_, (pss_cons (ps_if (PW.pt (pw_or (pt_not (pt_val (pk_isinstance T (pa_cons (pv 1) (pa_cons (pk_tTuple T) pa_nil))))) (pw_or (pt_cmpR op_ne (pk_len T (pa_cons (pv 1) pa_nil)) pe_int (nomark _)) (pw_or1 (pt_not (pt_val (pk_call C__law_whole hr (pa_cons (pe_ix ix_tup (pv 1) pe_int (fun _ _ => rfl)) pa_nil)))))))) (pss_one (ps_ret pe_bl)) pss_nil)
    (pss_cons (ps_if (PW.pt (pw_or (pt_not (pt_chain op_lt op_le (pe_ix ix_list (pe_lst (pa_cons pe_int (pa_cons pe_int (pa_cons pe_int (pa_cons pe_int pa_nil))))) (pk_len T (pa_cons (pv 0) pa_nil)) (fun _ _ => rfl)) (pe_ix ix_tup (pv 1) pe_int (fun _ _ => rfl)) (pv 2))) (pw_or1 (pt_not (pt_val (pk_call C__law_point_right hr (pa_cons (pv 0) (pa_cons (pe_ix ix_tup (pv 1) pe_int (fun _ _ => rfl)) pa_nil)))))))) (pss_one (ps_ret pe_bl)) pss_nil)
    (pss_cons (ps_set (i := 5) nd rfl (Or.inl rfl) (pk_tuple T (pa_cons (pe_lc (own := [("_law_pair_here", 6)]) rfl nd (pi_tup (pe_ix ix_tup (pv 1) pe_int (fun _ _ => rfl))) (blkOk_by (by walk_at "blk")) (fun _ _ _ _ _ => (pg_name (i := 6) nd rfl (Or.inl rfl))) (fun _ _ _ _ _ => pts_nil) (fun _ _ _ _ _ => (pe_op op_fdivN (pe_op op_mul (pe_ix (bk_ix_tup K) (pv 6) pe_int (fun _ _ => rfl)) (pe_ix (bk_ix_tup K) (pv 1) pe_int (fun _ _ => rfl))) (pe_ix (bk_ix_tup K) (pv 6) pe_int (fun _ _ => rfl))))) pa_nil)))
    (pss_cons (ps_if (pt_not (pt_val (pk_all T (pa_cons (pe_lc (own := [("_law_pair_here", 6), ("_law_number", 7)]) (g := gTup K 2 (gCons (gName 6) (gCons (gName 7) gNil))) rfl nd (pi_zipA rfl T.zip (pa_cons (pe_ix ix_tup (pv 1) pe_int (fun _ _ => rfl)) (pa_cons (pv 5) pa_nil))) (blkOk_by (by walk_at "blk")) (fun _ _ _ _ _ => (pg_tup rfl (pgs_cons (pg_name (i := 6) nd rfl (Or.inl rfl)) (pgs_cons (pg_name (i := 7) nd rfl (Or.inl rfl)) pgs_nil)))) (fun _ _ _ _ _ => pts_nil) (fun _ _ _ _ _ => (pe_cmpR op_eq (pe_op op_mul (pe_ix (bk_ix_tup K) (pv 6) pe_int (fun _ _ => rfl)) (pe_ix (bk_ix_tup K) (pv 1) pe_int (fun _ _ => rfl))) (pe_op op_mul (pv 7) (pe_ix (bk_ix_tup K) (pv 6) pe_int (fun _ _ => rfl))) (nomark _)))) pa_nil)))) (pss_one (ps_ret pe_bl)) pss_nil)
    (pss_one (ps_ret (pk_call C__law_parts hr (pa_cons (pv 0) (pa_cons (pv 5) (pa_cons (pe_ix ix_tup (pv 1) pe_int (fun _ _ => rfl)) (pa_cons (pv 3) (pa_cons (pv 4) pa_nil)))))))))))), ?_⟩
  obtain ⟨v1, v2, v4, v5, b, m, ns, row, f', g, rfl, h1, h2, h4, h5, lt, q⟩ := h
  have n3 := lt.lp.n3
  have hlo := lt.lo
  have hhi := lt.hi
  have hsm := lt.sm
  have lp0 := lim_pos ns.length
  have hrl := lt.gr.1
  have fr : ∀ y ∈ row, Frac (lowestF y (m : Int)) ∧ (lowestF y (m : Int)).1 * (m : Int) = y * (lowestF y (m : Int)).2 := fun y hy => lowest_frac (lt.gr.2 y hy).1 (lt.gr.2 y hy).2 (by omega) (by omega)
  have frp : ∀ p ∈ row.map (fun y => lowestF y (m : Int)), Frac p ∧ ∃ y ∈ row, p = lowestF y (m : Int) := fun p hp => by
    obtain ⟨y, hy, rfl⟩ := List.mem_map.mp hp
    exact ⟨(fr y hy).1, y, hy, rfl⟩
  have p0 : ∀ {σ : L2.St} {H' : Hp} {v : V}, σ[1]? = some (some v) → r2 K rNat (rPt K) H' v (m, row.map fun y => lowestF y (m : Int)) → EvR (tOp (rIxT K) (tVar 1) (tC (.int 0))) σ H' rInt (m : Int) := fun hσ r => ev_natI (ev_fst (K := K) (R := rNat) (S := rPt K) (p := (m, row.map fun y => lowestF y (m : Int))) (ev_var hσ r))
  have p1 : ∀ {σ : L2.St} {H' : Hp} {v : V}, σ[1]? = some (some v) → r2 K rNat (rPt K) H' v (m, row.map fun y => lowestF y (m : Int)) → EvR (tOp (rIxT K) (tVar 1) (tC (.int 1))) σ H' (rPt K) (row.map fun y => lowestF y (m : Int)) := fun hσ r => ev_snd (K := K) (R := rNat) (S := rPt K) (p := (m, row.map fun y => lowestF y (m : Int))) (ev_var hσ r)
  refine q_when (b := false) (EvT.to (et_or (et_not (et_test (ev_isi (c := "tuple") (b := true) (ev_var rfl h2) (fun H v r => ty_r2 r) (by decide +kernel)))) (fun _ => et_or (et_test (ev_neI (ev_len2 (ev_var rfl h2)) ev_int)) (fun _ => et_not (et_test (ev_call1 (p0 rfl h2) trivial))))) rfl) (fun c _ _ => absurd c (by decide)) (fun _ H1 e1 => ?_)
  have h2a := Mo.up (R := r2 K rNat (rPt K)) e1 h2
  refine q_when (b := false) (EvT.to (et_or (et_not (et_test (ev_chain (t1 := fun i j => decide (i < j)) (t2 := fun i j => decide (i ≤ j)) (ev_ixL (R := rInt) (ev_lst (xs := [2, 24, 10, 4]) (ei_cons ev_int (ei_cons ev_int (ei_cons ev_int (ei_cons ev_int ei_nil)))) (by decide)) (ev_lenL (ev_var rfl (Mo.up e1 h1))) (lim_at n3)) (p0 rfl h2a) (ev_var (R := rInt) (x := b) rfl rfl)))) (fun _ => et_not (et_test (ev_call2 (ev_var rfl (Mo.up e1 h1)) (p1 rfl h2a) ⟨by rw [List.length_map]; exact hrl, n3, fun p hp => (frp p hp).1⟩)))) (by rw [decide_eq_true (show ((limL ns.length : Nat) : Int) < (m : Int) by omega), decide_eq_true hhi]; rfl)) (fun c _ _ => absurd c (by decide)) (fun _ H2 e2 => ?_)
  have e12 := e1.trans e2
  have h2b := Mo.up (R := r2 K rNat (rPt K)) e12 h2
  have pl : (row.map fun y => lowestF y (m : Int)).length ≤ 1000000 := by rw [List.length_map, hrl]; omega
  have hrow : (row.map fun y => lowestF y (m : Int)).map (fun p => (p.1 * (m : Int)).fdiv p.2) = row := by
    rw [List.map_map]
    conv => rhs; rw [← List.map_id row]
    apply List.map_congr_left
    intro y hy
    obtain ⟨f1, f2⟩ := fr y hy
    show ((lowestF y (m : Int)).1 * (m : Int)).fdiv (lowestF y (m : Int)).2 = y
    have := f1.pos
    rw [f2, Int.fdiv_eq_ediv_of_nonneg _ (by omega)]
    exact Int.mul_ediv_cancel y (by omega)
  refine q_set (R := rVc K) (x := row) (EvR.to (ev_tupL (ev_lc (R := r2 K rInt rInt) (S := rInt) (fun p => (p.1 * (m : Int)).fdiv p.2) (ii_tup (p1 rfl h2b)) (fun _ _ _ e => Le.of e) pl (fun v => rfl) (fun p hp v H' e r => ev_fdiv (ev_mul (ev_fst (R := rInt) (S := rInt) (ev_var rfl r)) (p0 rfl (Mo.up (R := r2 K rNat (rPt K)) e h2b)) (.inr ⟨by omega, by omega⟩)) (ev_snd (R := rInt) (S := rInt) (ev_var rfl r)) ?_))) hrow) (fun vr H3 e3 rr => ?_)
  · have f1 := (frp p hp).1
    have := f1.pos
    have := f1.sm
    exact ⟨by omega, by omega⟩
  have h2c := Mo.up (R := r2 K rNat (rPt K)) e3 h2b
  have all_ : (((row.map fun y => lowestF y (m : Int)).zip row).map fun z => decide (z.1.1 * (m : Int) = z.2 * z.1.2)).all id = true := by
    rw [List.all_map, List.all_eq_true]
    intro z hz
    rw [List.zip_map_left] at hz
    obtain ⟨w, hw, rfl⟩ := List.mem_map.mp hz
    have hy : w.1 = w.2 := by
      have : ∀ (l : Vec) (w : Int × Int), w ∈ l.zip l → w.1 = w.2 := fun l => by
        induction l with
        | nil => intro w hw; simp at hw
        | cons a l ih =>
          intro w hw
          rcases List.mem_cons.mp hw with rfl | hw
          · rfl
          · exact ih w hw
      exact this row w hw
    have hm1 : w.1 ∈ row := (List.of_mem_zip (a := w.1) (b := w.2) hw).1
    have := (fr w.1 hm1).2
    show decide ((lowestF w.1 (m : Int)).1 * (m : Int) = w.2 * (lowestF w.1 (m : Int)).2) = true
    rw [← hy]
    exact decide_eq_true this
  refine q_when (b := false) (EvT.to (et_not (et_test (ev_all (ev_lcP (R := r2 K rInt rInt) (T := rInt) (S := rBl) (fun z => decide (z.1.1 * (m : Int) = z.2 * z.1.2)) (ii_zipT (p1 rfl h2c) (ev_var rfl rr)) (fun _ _ _ e => Le.of e) (by rw [List.length_zip]; omega) (fun u v => rfl) (fun z hz u v H' e r1 r2' => ev_eqI (ev_mul (ev_fst (R := rInt) (S := rInt) (ev_var rfl r1)) (p0 rfl (Mo.up (R := r2 K rNat (rPt K)) e h2c)) (.inr ⟨by omega, by omega⟩)) (ev_mul (ev_var rfl r2') (ev_snd (R := rInt) (S := rInt) (ev_var rfl r1)) ?_)))))) (by rw [all_]; rfl)) (fun c _ _ => absurd c (by decide)) (fun _ H4 e4 => ?_)
  · have f1 := (frp z.1 (List.of_mem_zip (a := z.1) (b := z.2) hz).1).1
    have := f1.pos
    have := f1.sm
    exact .inr ⟨by omega, by omega⟩
  have e14 := (e12.trans e3).trans e4
  have hp : partsB ns row m f' g = true := by
    have := lt.pa
    unfold PartsAt at this
    unfold partsB
    rw [decide_eq_false this]
    rfl
  refine s_ret (R := rBl) (x := partsB ns row m f' g) (ev_call5P (ev_var rfl (Mo.up e14 h1)) (ev_var rfl (Mo.up (R := rVc K) e4 rr)) (fun H1 e Q q => p0 rfl (Mo.up (R := r2 K rNat (rPt K)) e4 h2c) H1 e Q fun v H2 e2 r => q v H2 e2 r) (ev_var rfl (Mo.up (R := rSy K) e14 h4)) (ev_var rfl (Mo.up (R := rSy K) e14 h5)) lt.lp hrl) (fun v H5 e5 r => ?_)
  rw [hp] at r
  cases r
  exact q H5 (e14.trans e5)
end
end Hf


/-! ## Fa19 -/
set_option Elab.async false
set_option linter.all false
set_option maxRecDepth 100000
set_option maxHeartbeats 400000

namespace Hf
open PySem PySem.Spec PyProof.Rows L2 RZ
/-! ### the script's numbers -/
def mdK (l s c p : V) : List (L2.Key × V) := [(Sum.inr "left", l), (Sum.inr "seed", s), (Sum.inr "cells", c), (Sum.inr "spot", p)]
theorem md_left (l s c p : V) : valV (mdK l s c p) (Sum.inr "left") = some l := rfl
theorem md_seed (l s c p : V) : valV (mdK l s c p) (Sum.inr "seed") = some s := rfl
theorem md_cells (l s c p : V) : valV (mdK l s c p) (Sum.inr "cells") = some c := rfl
theorem md_spot (l s c p : V) : valV (mdK l s c p) (Sum.inr "spot") = some p := rfl
theorem put_left (l s c p v : V) : putK (mdK l s c p) (Sum.inr "left") v = mdK v s c p := rfl
theorem put_spot (l s c p v : V) : putK (mdK l s c p) (Sum.inr "spot") v = mdK l s c v := rfl
/-- the dict of draws, at most k drawn -/
def Md (H : Hp) (a : Addr) (k : Nat) : Prop := ∃ (L S p : Int) (c : Addr) (cells : List Int), H a = some (.dK (mdK (.int L) (.int S) (.ref c) (.int p))) ∧ c ≠ a ∧ H c = some (.lst (cells.map V.int)) ∧ cells ≠ [] ∧ cells.length ≤ 1000 ∧ 0 ≤ L ∧ (0 ≤ S ∧ S < 2147483648) ∧ 0 ≤ p ∧ p ≤ k
theorem Md.up {H H' : Hp} {a : Addr} {k : Nat} (h : Md H a k) (e : Same H H') : Md H' a k := by
  obtain ⟨L, S, p, c, cells, h1, h2, h3, r⟩ := h
  exact ⟨L, S, p, c, cells, e _ _ h1, h2, e _ _ h3, r⟩
theorem Md.le {H H' : Hp} {a : Addr} {k : Nat} (h : Md H a k) (sb : SameB a H H') : Le H H' := by
  obtain ⟨L, S, p, c, cells, h1, _⟩ := h
  exact sb.le h1 (fun z => z)
section
variable {K : PySem.W.Frag} {σ : L2.St} {H : Hp} {ta tb tv te : TE} {a : Addr} {x : Str} {v : V} {i : Int} {kvs : List (L2.Key × V)} {D : Ends} {tu : TS}
theorem ev_vi (h : EvR te σ H rV (.int i)) : EvR te σ H rInt i := fun H1 e Q q => h H1 e Q fun v H2 e2 r => q v H2 e2 r
theorem ev_dgV (ha : EvR ta σ H rV (.ref a)) (hH : H a = some (.dK kvs)) (hv : valV kvs (Sum.inr x) = some v) : EvR (tDGet ta (tC (.str x))) σ H rV v := fun H1 e Q q =>
  ha H1 e _ fun u H2 e2 r => by
    cases r
    refine ⟨a, v, rfl, ?_, q v H2 e2 rfl⟩
    have := DGet.k (k := Sum.inr x) ((e.trans e2) _ _ hH)
    rw [hv] at this
    exact this
theorem q_dput (hv : EvR tv σ H rInt i) (ha : EvR ta σ H rV (.ref a)) (hH : H a = some (.dK kvs)) (hz : kvs.length ≤ 100) (q : ∀ H', SameB a H H' → H' a = some (.dK (putK kvs (Sum.inr x) (.int i))) → tu D σ H') : tSeq (sDPut ta (tC (.str x)) tv) tu D σ H :=
  hv H (Same.refl H) _ fun v H1 e1 r1 => ha H1 e1 _ fun u H2 e2 r2 => by
    cases r1
    cases r2
    refine ⟨a, _, rfl, DPut.k (k := Sum.inr x) ((e1.trans e2) _ _ hH) (Nat.lt_of_le_of_lt hz (by decide)), q _ ((SameB.of (e1.trans e2)).trans SameB.upd) upd_same⟩
end
theorem fmod_in {i j : Int} (h : 0 < j) : 0 ≤ i.fmod j ∧ i.fmod j < j := by
  rw [Int.fmod_eq_emod_of_nonneg _ (by omega)]
  exact ⟨Int.emod_nonneg _ (by omega), Int.emod_lt_of_pos _ h⟩
section
variable {P : Program} {w : World} {K : PySem.W.Frag} {mg : Str → Option Value} {base : Heap}
def spDraw : Sp := fun vs H Q _ => ∃ (a : Addr) (below : Int) (k : Nat), vs = [.ref a, .int below] ∧ Md H a k ∧ 0 < below ∧ below ≤ 1000 ∧ k ≤ 100000 ∧ ∀ (d : Int) (H' : Hp), SameB a H H' → Md H' a (k + 1) → 0 ≤ d → d < below → Q (.int d) H'
theorem spDraw_len (vs : List V) (H : Hp) (Q : VK) (E : XK) (h : spDraw vs H Q E) : vs.length = 2 := by obtain ⟨_, _, _, rfl, _⟩ := h; rfl
theorem sc__law_draw : FnScope (["_law_m", "_law_below", "_law_found_here", "_law_spot", "_law_cells", "_law_added", "_law_cell", "_law_blend"] : List Str) (["_law_m", "_law_below"] : List Str) (defScope (top 69)) := ⟨rfl, rfl, rfl, by decide +kernel, rfl, by decide +kernel, by decide +kernel⟩
theorem ok__law_draw (D : Df K mg "_law_draw" (top 69)) (T : Bt mg) : Cal P w K mg base "_law_draw" 1 ["_law_m", "_law_below"] spDraw := by
  refine D.ok sc__law_draw (fun _ _ _ _ _ _ us hl => match us, hl with | [_, _], _ => rfl) (spDraw_len) (fun f cdv A outer s H vs Q E hr h => ?_)
  have nd := sc__law_draw.nd
  refine ⟨_, (pss_cons (ps_if (pt_cmpR op_gt (pe_dget (hu_of hr) (pv 0) pe_str (fun _ _ => rfl)) pe_int (nomark _)) (pss_cons (ps_set (i := 2) nd rfl (Or.inl rfl) (pe_op op_modN (pk_int T (pa_cons (pe_dget (hu_of hr) (pv 0) pe_str (fun _ _ => rfl)) pa_nil)) (pv 1)))
    (pss_cons (ps_dput (hu_of hr) (pv 0) pe_str (pe_op op_fdivN (pe_dget (hu_of hr) (pv 0) pe_str (fun _ _ => rfl)) (pv 1)) rfl)
    (pss_one (ps_ret (pv 2))))) pss_nil)
    (pss_cons (ps_set (i := 3) nd rfl (Or.inl rfl) (pe_dget (hu_of hr) (pv 0) pe_str (fun _ _ => rfl)))
    (pss_cons (ps_dput (hu_of hr) (pv 0) pe_str (pe_op op_add (pv 3) pe_int) rfl)
    (pss_cons (ps_par (i := 4) (j := 5) rfl nd rfl rfl (by decide) rfl rfl (pa_cons (pe_dget (hu_of hr) (pv 0) pe_str (fun _ _ => rfl)) (pa_cons (pe_op op_add (pe_dget (hu_of hr) (pv 0) pe_str (fun _ _ => rfl)) (pe_op op_mul (pe_op op_mul pe_int (pv 3)) (pv 3))) pa_nil)) (by rfl))
    (pss_cons (ps_set (i := 6) nd rfl (Or.inl rfl) (pe_ix ix_list (pv 4) (pe_op op_modN (pk_int T (pa_cons (pv 3) pa_nil)) (pk_len T (pa_cons (pv 4) pa_nil))) (fun _ _ => rfl)))
    (pss_cons (ps_set (i := 7) nd rfl (Or.inl rfl) (pe_op op_modN (pk_int T (pa_cons (pe_op op_add (pe_op op_mul (pv 6) (pe_op op_add (pe_op op_mul pe_int (pv 3)) pe_int)) (pv 5)) pa_nil)) pe_int))
    (pss_cons (ps_set (i := 7) nd rfl (Or.inl rfl) (pe_op op_modN (pk_int T (pa_cons (pe_op op_add (pe_op op_add (pe_op op_mul (pv 7) (pv 7)) (pe_op op_mul pe_int (pv 3))) (pe_dget (hu_of hr) (pv 0) pe_str (fun _ _ => rfl))) pa_nil)) pe_int))
    (pss_one (ps_ret (pe_op op_modN (pe_op op_fdivN (pe_op op_modN (pk_int T (pa_cons (pe_op op_add (pe_op op_mul (pv 7) pe_int) (pv 3)) pa_nil)) pe_int) pe_int) (pv 1))))))))))), ?_⟩
  obtain ⟨a, bl, k, rfl, md, b0, b1, hk, q⟩ := h
  obtain ⟨L, S, p, c, cells, h1, hc, h3, hne, hz, hL, ⟨hS, hS2⟩, hp, hpk⟩ := md
  have va : ∀ {σ : L2.St} {H' : Hp}, σ[0]? = some (some (.ref a)) → EvR (tVar 0) σ H' rV (.ref a) := fun hσ => ev_var hσ rfl
  have dv : CDivN 0 bl := ⟨by omega, by omega⟩
  refine q_when (et_test (ev_cmpI (f := fun i j => decide (i > j)) (ev_vi (ev_dgV (va rfl) h1 (md_left _ _ _ _))) ev_int)) (fun cc H1 e1 => ?_) (fun cc H1 e1 => ?_)
  · have h1a := e1 _ _ h1
    refine q_set (R := rInt) (ev_mod (ev_int1 (ev_vi (ev_dgV (va rfl) h1a (md_left _ _ _ _)))) (ev_var (R := rInt) (x := bl) rfl rfl) (by omega)) (fun v2 H2 e2 r2 => ?_)
    cases r2
    refine q_dput (ev_fdiv (ev_vi (ev_dgV (va rfl) (e2 _ _ h1a) (md_left _ _ _ _))) (ev_var (R := rInt) (x := bl) rfl rfl) ⟨by omega, by omega⟩) (va rfl) (e2 _ _ h1a) (show 4 ≤ 100 by decide) (fun H3 sb3 h3' => ?_)
    rw [put_left] at h3'
    have fi := fmod_in (i := L) b0
    refine s_ret (R := rInt) (ev_var (R := rInt) rfl rfl) (fun v H4 e4 r => ?_)
    cases r
    refine q _ H4 ((SameB.of (e1.trans e2)).trans (sb3.trans (SameB.of e4))) ⟨L.fdiv bl, S, p, c, cells, e4 _ _ h3', hc, e4 _ _ (sb3 _ _ hc ((e1.trans e2) _ _ h3)), hne, hz, ?_, ⟨hS, hS2⟩, hp, by omega⟩ fi.1 fi.2
    rw [Int.fdiv_eq_ediv_of_nonneg _ (by omega)]
    exact Int.ediv_nonneg hL (by omega)
  · have h1a := e1 _ _ h1
    refine q_set (R := rInt) (ev_vi (ev_dgV (va rfl) h1a (md_spot _ _ _ _))) (fun v3 H2 e2 r3 => ?_)
    cases r3
    refine q_dput (ev_add (ev_var (R := rInt) (x := p) rfl rfl) ev_int) (va rfl) (e2 _ _ h1a) (show 4 ≤ 100 by decide) (fun H3 sb3 h3' => ?_)
    rw [put_spot] at h3'
    have hc3 := sb3 _ _ hc ((e1.trans e2) _ _ h3)
    refine q_par (R := rV) (S := rInt) (ev_dgV (va rfl) h3' (md_cells _ _ _ _)) (ev_add (ev_vi (ev_dgV (va rfl) h3' (md_seed _ _ _ _))) (ev_mul (ev_mul (ev_int (i := 40503)) (ev_var (R := rInt) (x := p) rfl rfl) (.inl ⟨by decide, by decide⟩)) (ev_var (R := rInt) (x := p) rfl rfl) (.inr ⟨by omega, by omega⟩))) (fun u4 u5 H4 e4 r4 r5 => ?_)
    cases r4
    cases r5
    have rc : rL rInt H4 (.ref c) cells := ⟨c, _, rfl, e4 _ _ hc3, paired_map (F := rInt _) (g := V.int) (fun _ => rfl) _⟩
    have cl : 0 < cells.length := List.length_pos_iff.mpr hne
    have fi := fmod_in (i := p) (j := (cells.length : Int)) (by omega)
    obtain ⟨n, hn⟩ := Int.eq_ofNat_of_zero_le fi.1
    have hat : atI cells (p.fmod (cells.length : Int)) = some (cells.getD n 0) := by
      rw [hn]
      exact atD (by omega)
    refine q_set (R := rInt) (ev_ixL (R := rInt) (ev_var rfl rc) (ev_mod (ev_int1 (ev_var (R := rInt) (x := p) rfl rfl)) (ev_lenL (ev_var rfl rc)) (by omega)) hat) (fun v6 H5 e5 r6 => ?_)
    cases r6
    refine q_set (R := rInt) (ev_mod (ev_int1 (ev_add (ev_mul (ev_var (R := rInt) rfl rfl) (ev_add (ev_mul (ev_int (i := 2)) (ev_var (R := rInt) (x := p) rfl rfl) (.inl ⟨by decide, by decide⟩)) ev_int) (.inr ⟨by omega, by omega⟩)) (ev_var (R := rInt) rfl rfl))) (ev_int (i := 2147483647)) (by decide)) (fun v7 H6 e6 r7 => ?_)
    cases r7
    generalize hb1 : ((cells.getD n 0) * (2 * p + 3) + (S + 40503 * p * p)).fmod 2147483647 = bl1
    have fb := fmod_in (i := (cells.getD n 0) * (2 * p + 3) + (S + 40503 * p * p)) (j := 2147483647) (by decide)
    rw [hb1] at fb
    have h6 := (e4.trans (e5.trans e6)) _ _ h3'
    refine q_set (R := rInt) (ev_mod (ev_int1 (ev_add (ev_add (ev_mul (ev_var (R := rInt) (x := bl1) rfl rfl) (ev_var (R := rInt) (x := bl1) rfl rfl) (.inr ⟨by omega, by omega⟩)) (ev_mul (ev_int (i := 69621)) (ev_var (R := rInt) (x := p) rfl rfl) (.inl ⟨by decide, by decide⟩))) (ev_vi (ev_dgV (va rfl) h6 (md_seed _ _ _ _))))) (ev_int (i := 2147483629)) (by decide)) (fun v8 H7 e7 r8 => ?_)
    cases r8
    generalize (bl1 * bl1 + 69621 * p + S).fmod 2147483629 = bl2
    refine s_ret (R := rInt) (ev_mod (ev_fdiv (ev_mod (ev_int1 (ev_add (ev_mul (ev_var (R := rInt) (x := bl2) rfl rfl) (ev_int (i := 48271)) (.inr ⟨by decide, by decide⟩)) (ev_var (R := rInt) (x := p) rfl rfl))) (ev_int (i := 2147483647)) (by decide)) (ev_int (i := 11)) ⟨by decide, by decide⟩) (ev_var (R := rInt) (x := bl) rfl rfl) (by omega)) (fun v H8 e8 r => ?_)
    cases r
    have fi2 := fmod_in (i := ((bl2 * 48271 + p).fmod 2147483647).fdiv 11) b0
    have e48 := (e4.trans (e5.trans e6)).trans (e7.trans e8)
    exact q _ H8 ((SameB.of (e1.trans e2)).trans (sb3.trans (SameB.of e48))) ⟨L, S, p + 1, c, cells, e48 _ _ h3', hc, e48 _ _ hc3, hne, hz, hL, ⟨hS, hS2⟩, by omega, by omega⟩ fi2.1 fi2.2
/-- some[draw(m, len(some))], some a list -/
def spOf : Sp := fun vs H Q _ => ∃ (a b : Addr) (us : List V) (k : Nat), vs = [.ref a, .ref b] ∧ Md H a k ∧ b ≠ a ∧ H b = some (.lst us) ∧ us ≠ [] ∧ us.length ≤ 1000 ∧ k ≤ 100000 ∧ ∀ (u : V) (H' : Hp), SameB a H H' → Md H' a (k + 1) → u ∈ us → Q u H'
theorem spOf_len (vs : List V) (H : Hp) (Q : VK) (E : XK) (h : spOf vs H Q E) : vs.length = 2 := by obtain ⟨_, _, _, _, rfl, _⟩ := h; rfl
theorem sc__law_of : FnScope (["_law_m", "_law_some"] : List Str) (["_law_m", "_law_some"] : List Str) (defScope (top 70)) := ⟨rfl, rfl, rfl, by decide +kernel, rfl, by decide +kernel, by decide +kernel⟩
theorem ok__law_of (D : Df K mg "_law_of" (top 70)) (T : Bt mg) (C__law_draw : Cal P w K mg base "_law_draw" 1 ["_law_m", "_law_below"] spDraw) : Cal P w K mg base "_law_of" 2 ["_law_m", "_law_some"] spOf := by
  refine D.ok sc__law_of (fun _ _ _ _ _ _ us hl => match us, hl with | [_, _], _ => rfl) (spOf_len) (fun f cdv A outer s H vs Q E hr h => ?_)
  have nd := sc__law_of.nd
  refine ⟨_, (pss_one (ps_ret (pe_ix ix_list (pv 1) (pk_call C__law_draw hr (pa_cons (pv 0) (pa_cons (pk_len T (pa_cons (pv 1) pa_nil)) pa_nil))) (fun _ _ => rfl)))), ?_⟩
  obtain ⟨a, b, us, k, rfl, md, hb, hH, hne, hz, hk, q⟩ := h
  have ul : 0 < us.length := List.length_pos_iff.mpr hne
  refine ⟨_, rfl, _, rfl, _, rfl, b, us, rfl, .inl (SqL.of hH), a, (us.length : Int), k, rfl, md, by omega, by omega, hk, fun d H' sb md' d0 d1 => ?_⟩
  obtain ⟨n, hn⟩ := Int.eq_ofNat_of_zero_le d0
  subst hn
  have hb' := sb _ _ hb hH
  refine ⟨b, us, (n : Int), us[n]'(by omega), rfl, rfl, SqL.of hb', atN (by omega), ?_⟩
  exact q _ H' sb md' (List.getElem_mem _)
end
end Hf


/-! ## Fa20 -/
set_option Elab.async false
set_option linter.all false
set_option maxRecDepth 100000
set_option maxHeartbeats 400000

namespace Hf
open PySem PySem.Spec PyProof.Rows L2 RZ
section
variable {K : PySem.W.Frag} {σ : L2.St} {H : Hp} {t1 t2 t3 te ta tb : TE} {t : TT} {Q : VK} {a : Addr} {k : Nat} {bl : Int} {D : Ends}
theorem eb_draw (h1 : EvR t1 σ H rV (.ref a)) (h2 : EvR t2 σ H rInt bl) (md : Md H a k) (b0 : 0 < bl) (b1 : bl ≤ 1000) (hk : k ≤ 100000) (q : ∀ (d : Int) H', SameB a H H' → Md H' a (k + 1) → 0 ≤ d → d < bl → Q (.int d) H') : tCall spDraw [] E0 (tCons t1 (tCons t2 tNil)) σ H Q :=
  h1 H (Same.refl H) _ fun v1 H1 e1 r1 => h2 H1 e1 _ fun v2 H2 e2 r2 => by
    cases r1
    cases r2
    exact ⟨a, bl, k, rfl, (md.up (e1.trans e2)), b0, b1, hk, fun d H' sb md' d0 d1 => q d H' ((SameB.of (e1.trans e2)).trans sb) md' d0 d1⟩
theorem t_if {b : Bool} (h : EvT t σ H b) (h1 : b = true → ∀ H', Same H H' → ta σ H' Q) (h2 : b = false → ∀ H', Same H H' → tb σ H' Q) : tIf t ta tb σ H Q := h H (Same.refl H) _ fun H2 e2 => by
  cases b with
  | true => exact h1 rfl H2 e2
  | false => exact h2 rfl H2 e2
theorem t_if0 (h : te σ H fun v H' => ∃ d : Int, v = .int d ∧ (d = 0 → ta σ H' Q) ∧ (d ≠ 0 → tb σ H' Q)) (hm : ∀ (Q1 Q2 : VK), (∀ v H', Q1 v H' → Q2 v H') → te σ H Q1 → te σ H Q2) : tIf (tTest (tOp rEq te (tC (.int 0)))) ta tb σ H Q :=
  hm _ _ (fun v H' ⟨d, e, q1, q2⟩ => by
    subst e
    refine ⟨rfl, _, rfl, ?_⟩
    by_cases z : d = 0
    · subst z; exact q1 rfl
    · have : (V.int d == V.int 0) = false := by simpa using z
      have e2 : decide (V.int d = V.int 0) = false := by simpa using z
      first
        | (rw [e2]; exact q2 z)
        | (rw [this]; exact q2 z)
        | exact q2 z) h
end
/-- a list of names at b -/
def Nm (H : Hp) (b : Addr) (ns : List Str) : Prop := H b = some (.lst (ns.map V.str))
theorem Nm.rl {H : Hp} {b : Addr} {ns : List Str} (h : Nm H b ns) : rL rStr H (.ref b) ns := ⟨b, _, rfl, h, paired_map (F := rStr _) (g := V.str) (fun _ => rfl) _⟩
structure SayG (ns : List Str) (n : Nat) (s : Say) : Prop where
  inn : s.In ns
  mr : s.marks = n
  ht : s.ht ≤ 2 * n + 1
  sz : (stepsOf s).length ≤ 4 * n + 2
theorem mul_str {m : Mk} {V' : V} (h : V' = V.str m.s) : V' = V.str m.s := h
section
variable {P : Program} {w : World} {K : PySem.W.Frag} {mg : Str → Option Value} {base : Heap}
def spSaying (K : PySem.W.Frag) (N : Nat) : Sp := fun vs H Q _ => ∃ (a b : Addr) (ns : List Str) (n k : Nat), vs = [.ref a, .ref b, .int (n : Int)] ∧ Md H a k ∧ b ≠ a ∧ Nm H b ns ∧ ns ≠ [] ∧ ns.length ≤ 1000 ∧ n < N ∧ n ≤ 100 ∧ k + (6 * n + 3) ≤ 50000 ∧ ∀ (u : V) (H' : Hp) (s : Say), SameB a H H' → Md H' a (k + (6 * n + 3)) → rSay K H' u s → SayG ns n s → Q u H'
theorem spSaying_len {N : Nat} (vs : List V) (H : Hp) (Q : VK) (E : XK) (h : spSaying K N vs H Q E) : vs.length = 3 := by obtain ⟨_, _, _, _, _, rfl, _⟩ := h; rfl
theorem Md.mono {H : Hp} {a : Addr} {k j : Nat} (h : Md H a k) (hj : k ≤ j) : Md H a j := by
  obtain ⟨L, S, p, c, cells, h1, h2, h3, h4, h5, h6, h7, h8, h9⟩ := h
  exact ⟨L, S, p, c, cells, h1, h2, h3, h4, h5, h6, h7, h8, by omega⟩
theorem sc__law_saying : FnScope (["_law_m", "_law_names", "_law_size", "_law_way", "_law_made", "_law_left", "_law_mark", "_law_first"] : List Str) (["_law_m", "_law_names", "_law_size"] : List Str) (defScope (top 71)) := ⟨rfl, rfl, rfl, by decide +kernel, rfl, by decide +kernel, by decide +kernel⟩
theorem ok__law_saying1 (D : Df K mg "_law_saying" (top 71)) (T : Bt mg) (C__law_draw : Cal P w K mg base "_law_draw" 1 ["_law_m", "_law_below"] spDraw) (C__law_of : Cal P w K mg base "_law_of" 2 ["_law_m", "_law_some"] spOf) {N : Nat} (C__law_saying : Cal P w K mg base "_law_saying" (N + 3) ["_law_m", "_law_names", "_law_size"] (spSaying K N)) : Cal P w K mg base "_law_saying" (N + 4) ["_law_m", "_law_names", "_law_size"] (spSaying K (N + 1)) := by
  refine D.ok sc__law_saying (fun _ _ _ _ _ _ us hl => match us, hl with | [_, _, _], _ => rfl) (spSaying_len) (fun f cdv A outer s H vs Q E hr h => ?_)
  have nd := sc__law_saying.nd
  refine ⟨_, (pss_cons (ps_if (pt_cmpR op_eq (pv 2) pe_int (nomark _)) (pss_cons (ps_set (i := 3) nd rfl (Or.inl rfl) (pk_call C__law_draw hr (pa_cons (pv 0) (pa_cons pe_int pa_nil))))
    (pss_one (ps_set (i := 4) nd rfl (Or.inl rfl) (pe_ifExp (pt_cmpR op_eq (pv 3) pe_int (nomark _)) (pe_tup (pa_cons pe_str pa_nil)) (pe_ifExp (pt_cmpR op_eq (pv 3) pe_int (nomark _)) (pe_tup (pa_cons pe_str pa_nil)) (pe_tup (pa_cons pe_str (pa_cons (pk_call C__law_of hr (pa_cons (pv 0) (pa_cons (pv 1) pa_nil))) pa_nil)))))))) (pss_cons (ps_set (i := 5) nd rfl (Or.inl rfl) (pk_call C__law_draw hr (pa_cons (pv 0) (pa_cons (pv 2) pa_nil))))
    (pss_cons (ps_set (i := 6) nd rfl (Or.inl rfl) (pk_call C__law_of hr (pa_cons (pv 0) (pa_cons (pe_lst (pa_cons pe_str (pa_cons pe_str (pa_cons pe_str (pa_cons pe_str (pa_cons pe_str (pa_cons pe_str (pa_cons pe_str (pa_cons pe_str (pa_cons pe_str pa_nil)))))))))) pa_nil))))
    (pss_cons (ps_set (i := 7) nd rfl (Or.inl rfl) (pk_call C__law_saying hr (pa_cons (pv 0) (pa_cons (pv 1) (pa_cons (pv 5) pa_nil)))))
    (pss_one (ps_set (i := 4) nd rfl (Or.inl rfl) (pe_tup (pa_cons (pv 6) (pa_cons (pv 7) (pa_cons (pk_call C__law_saying hr (pa_cons (pv 0) (pa_cons (pv 1) (pa_cons (pe_op op_sub (pe_op op_sub (pv 2) pe_int) (pv 5)) pa_nil)))) pa_nil))))))))))
    (pss_one (ps_ret (pe_ifExp (pt_cmpR op_eq (pk_call C__law_draw hr (pa_cons (pv 0) (pa_cons pe_int pa_nil))) pe_int (nomark _)) (pe_tup (pa_cons pe_str (pa_cons (pv 4) pa_nil))) (pv 4))))), ?_⟩
  obtain ⟨a, b, ns, n, k, rfl, md, hb, hn, hne, hz, hN, h100, hk, q⟩ := h
  have va : ∀ {σ : L2.St} {H' : Hp}, σ[0]? = some (some (.ref a)) → EvR (tVar 0) σ H' rV (.ref a) := fun hσ => ev_var hσ rfl
  -- the end: 'not' before it, or not
  have fin : ∀ (σ : L2.St) (Hx : Hp) (u : V) (s : Say), σ[0]? = some (some (.ref a)) → σ[4]? = some (some u) → SameB a H Hx → Md Hx a (k + (6 * n + 2)) → rSay K Hx u s → s.In ns → s.marks = n → s.ht ≤ 2 * n → (stepsOf s).length ≤ 4 * n + 1 → tRet (tIf (tTest (tOp rEq (tCall spDraw [] E0 (tCons (tVar 0) (tCons (tC (.int 5)) tNil))) (tC (.int 0)))) (tTup (tCons (tC (.str "not")) (tCons (tVar 4) tNil))) (tVar 4)) { nx := fun _ H' => Q .non H', rt := Q } σ Hx := fun σ Hx u s h0 h4 sb mdx rs i1 i2 i3 i4 => by
    refine t_if0 (eb_draw (va h0) ev_int mdx (by decide) (by decide) (by omega) fun d H1 sb1 md1 d0 d1 => ⟨d, rfl, fun _ => ?_, fun _ => ?_⟩) (fun Q1 Q2 hq ht => ?_)
    · have le := mdx.le sb1
      refine ev_negS (K := K) (ev_var h4 (Mt.up (R := rSy K) le rs)) H1 (Same.refl H1) _ fun v H2 e2 r => q v H2 (.neg s) ((sb.trans sb1).trans (SameB.of e2)) ((md1.up e2).mono (by omega)) r ⟨i1, i2, ?_, ?_⟩
      · simp only [Say.ht]; omega
      · show (stepsOf s ++ [Say.neg s]).length ≤ _
        simp; omega
    · have le := mdx.le sb1
      exact ev_var (R := rSy K) h4 (Mt.up (R := rSy K) le rs) H1 (Same.refl H1) _ fun v H2 e2 r => q v H2 s ((sb.trans sb1).trans (SameB.of e2)) ((md1.up e2).mono (by omega)) r ⟨i1, i2, by omega, by omega⟩
    · obtain ⟨v1, g1, a', b', k', g2, g3, g4, g5, g6, g7⟩ := ht
      exact ⟨v1, g1, a', b', k', g2, g3, g4, g5, g6, fun d H' x1 x2 x3 x4 => hq _ _ (g7 d H' x1 x2 x3 x4)⟩
  refine q_if (et_test (ev_eqI (ev_var (R := rInt) (x := (n : Int)) rfl rfl) ev_int)) (fun c H1 e1 => ?_) (fun c H1 e1 => ?_)
  · have n0 : n = 0 := by have := of_decide_eq_true c; omega
    subst n0
    refine eb_draw (va rfl) ev_int (md.up e1) (by decide) (by decide) (by omega) fun d H2 sb2 md2 d0 d1 => ?_
    have sb02 := (SameB.of e1).trans sb2
    refine t_if (et_test (ev_eqI (ev_var (R := rInt) (x := d) rfl rfl) ev_int)) (fun _ H3 e3 => ?_) (fun _ H3 e3 => t_if (et_test (ev_eqI (ev_var (R := rInt) (x := d) rfl rfl) ev_int)) (fun _ H4 e4 => ?_) (fun _ H4 e4 => ?_))
    · exact ev_yesS (K := K) H3 (Same.refl H3) _ fun v H4 e4 r => fin _ H4 v .yes rfl rfl ((sb02.trans (SameB.of e3)).trans (SameB.of e4)) ((md2.up (e3.trans e4)).mono (by omega)) r trivial rfl (by simp [Say.ht]) (by simp [stepsOf])
    · exact ev_noS (K := K) H4 (Same.refl H4) _ fun v H5 e5 r => fin _ H5 v .no rfl rfl ((sb02.trans (SameB.of (e3.trans e4))).trans (SameB.of e5)) ((md2.up ((e3.trans e4).trans e5)).mono (by omega)) r trivial rfl (by simp [Say.ht]) (by simp [stepsOf])
    · have nm4 : Nm H4 b ns := (e3.trans e4) _ _ (sb02 _ _ hb hn)
      refine ⟨_, rfl, _, rfl, a, b, _, k + 1, rfl, md2.up (e3.trans e4), hb, nm4, by simp [hne], by rw [List.length_map]; exact hz, by omega, fun u H5 sb5 md5 hu => ?_⟩
      obtain ⟨x, hx, rfl⟩ := List.mem_map.mp hu
      refine ⟨by show 2 ≤ sizeLine; decide, fun p hp => ?_⟩
      have e6 := Same.hnew (o := .tup [.str "unknown", .str x]) hp
      exact fin _ _ (.ref p) (.unk x) rfl rfl (((sb02.trans (SameB.of (e3.trans e4))).trans sb5).trans (SameB.of e6)) ((md5.up e6).mono (by omega)) ⟨p, rfl, SqT.of upd_same⟩ hx rfl (by simp [Say.ht]) (by simp [stepsOf])
  · have n0 : 0 < n := by have := of_decide_eq_false c; omega
    refine eb_draw (bl := (n : Int)) (va rfl) (ev_var (R := rInt) rfl rfl) (md.up e1) (by omega) (by omega) (by omega) fun d H2 sb2 md2 d0 d1 => ?_
    obtain ⟨l, hl⟩ := Int.eq_ofNat_of_zero_le d0
    subst hl
    have sb02 := (SameB.of e1).trans sb2
    have nm2 : Nm H2 b ns := sb02 _ _ hb hn
    -- the mark
    refine ⟨_, rfl, (by show 9 ≤ sizeLine; decide), fun p hp => ?_⟩
    have e3 := Same.hnew (o := .lst [.str "plus", .str "times", .str "leads", .str "and", .str "or", .str "same", .str "plus", .str "times", .str "leads"]) hp
    have hpa : p ≠ a := by
      obtain ⟨_, _, _, _, _, ha, _⟩ := md2
      exact fun z => by subst z; rw [hp] at ha; cases ha
    refine ⟨a, p, _, k + 1, rfl, md2.up e3, hpa, upd_same, by simp, by simp, by omega, fun u H4 sb4 md4 hu => ?_⟩
    have hm : ∃ m : Mk, u = .str m.s := by
      simp only [List.mem_cons, List.not_mem_nil, or_false] at hu
      rcases hu with rfl | rfl | rfl | rfl | rfl | rfl | rfl | rfl | rfl
      · exact ⟨.plus, rfl⟩
      · exact ⟨.times, rfl⟩
      · exact ⟨.leads, rfl⟩
      · exact ⟨.and, rfl⟩
      · exact ⟨.or, rfl⟩
      · exact ⟨.same, rfl⟩
      · exact ⟨.plus, rfl⟩
      · exact ⟨.times, rfl⟩
      · exact ⟨.leads, rfl⟩
    obtain ⟨m, rfl⟩ := hm
    have sb04 := (sb02.trans (SameB.of e3)).trans sb4
    have nm4 : Nm H4 b ns := sb04 _ _ hb hn
    -- the first
    refine ⟨_, rfl, _, rfl, _, rfl, a, b, ns, l, k + 2, rfl, md4, hb, nm4, hne, hz, by omega, by omega, by omega, fun u5 H5 s5 sb5 md5 r5 g5 => ?_⟩
    have sb05 := sb04.trans sb5
    have nm5 : Nm H5 b ns := sb05 _ _ hb hn
    -- the second, within the tuple
    refine ⟨_, rfl, _, rfl, _, rfl, _, rfl, _, rfl, (n : Int), 1, rfl, rfl, _, rfl, (n : Int) - 1, (l : Int), rfl, rfl, a, b, ns, n - 1 - l, k + 2 + (6 * l + 3), (by rw [show (((n - 1 - l : Nat)) : Int) = (n : Int) - 1 - (l : Int) by omega]; rfl), md5, hb, nm5, hne, hz, by omega, by omega, by omega, fun u6 H6 s6 sb6 md6 r6 g6 => ?_⟩
    refine ⟨by show 3 ≤ sizeLine; decide, fun p2 hp2 => ?_⟩
    have e7 := Same.hnew (o := .tup [.str m.s, u5, u6]) hp2
    have le6 := md5.le sb6
    have i1 := g5.mr
    have i2 := g6.mr
    have i3 := g5.ht
    have i4 := g6.ht
    have i5 := g5.sz
    have i6 := g6.sz
    refine fin _ _ (.ref p2) (.mk m s5 s6) rfl rfl ((sb05.trans sb6).trans (SameB.of e7)) ((md6.up e7).mono (by omega)) ⟨p2, u5, u6, rfl, SqT.of upd_same, Mt.up (R := rSy K) (le6.trans (Le.of e7)) r5, Mt.up (R := rSy K) (Le.of e7) r6⟩ ⟨g5.inn, g6.inn⟩ ?_ ?_ ?_
    · simp only [Say.marks]; omega
    · simp only [Say.ht]; omega
    · show (stepsOf s5 ++ (stepsOf s6 ++ [Say.mk m s5 s6])).length ≤ _
      simp; omega
theorem ok__law_saying (D : Df K mg "_law_saying" (top 71)) (T : Bt mg) (C__law_draw : Cal P w K mg base "_law_draw" 1 ["_law_m", "_law_below"] spDraw) (C__law_of : Cal P w K mg base "_law_of" 2 ["_law_m", "_law_some"] spOf) : ∀ N, Cal P w K mg base "_law_saying" (N + 3) ["_law_m", "_law_names", "_law_size"] (spSaying K N)
  | 0 => D.vac (fun _ _ _ _ _ _ us hl => match us, hl with | [_, _, _], _ => rfl) (fun vs H Q E h => by obtain ⟨_, _, _, _, _, _, _, _, _, _, _, z, _⟩ := h; omega)
  | N + 1 => ok__law_saying1 D T C__law_draw C__law_of (ok__law_saying D T C__law_draw C__law_of N)
end
end Hf


/-! ## Fa21 -/
set_option Elab.async false
set_option linter.all false
set_option maxRecDepth 100000
set_option maxHeartbeats 400000

namespace Hf
open PySem PySem.Spec PyProof.Rows L2 RZ
def alikeL (A B C : Say) : List (Say × Say) :=
  [(.mk .plus A B, .mk .plus B A), (A, .neg (.neg A)), (.mk .leads A B, .mk .plus (.neg A) B), (.mk .and A B, .mk .times A (.mk .leads A B)), (.mk .or A B, .mk .leads (.mk .leads A B) B), (.mk .times A B, .neg (.mk .leads A (.neg B))), (.mk .same A B, .mk .and (.mk .leads A B) (.mk .leads B A)),
   (.mk .plus A (.mk .plus B C), .mk .plus (.mk .plus A B) C), (.mk .leads A (.mk .leads B C), .mk .leads (.mk .times A B) C), (.mk .times (.mk .or A B) C, .mk .or (.mk .times A C) (.mk .times B C))]
structure PairG (ns : List Str) (f g : Say) : Prop where
  inf : f.In ns
  ing : g.In ns
  h1 : f.ht ≤ 60
  h2 : g.ht ≤ 60
  s1 : (stepsOf f).length ≤ 1000
  s2 : (stepsOf g).length ≤ 1000
structure Sm3 (ns : List Str) (A : Say) : Prop where
  inn : A.In ns
  ht : A.ht ≤ 10
  sz : (stepsOf A).length ≤ 50
theorem alike_g {ns : List Str} {A B C : Say} (a : Sm3 ns A) (b : Sm3 ns B) (c : Sm3 ns C) : ∀ p ∈ alikeL A B C, PairG ns p.1 p.2 := by
  have a1 := a.inn; have a2 := a.ht; have a3 := a.sz
  have b1 := b.inn; have b2 := b.ht; have b3 := b.sz
  have c1 := c.inn; have c2 := c.ht; have c3 := c.sz
  intro p hp
  simp only [alikeL, List.mem_cons, List.not_mem_nil, or_false] at hp
  rcases hp with rfl | rfl | rfl | rfl | rfl | rfl | rfl | rfl | rfl | rfl <;>
  (constructor <;> first
    | (simp only [Say.In]; exact ⟨a1, b1⟩) | (simp only [Say.In]; exact ⟨b1, a1⟩) | exact a1
    | (simp only [Say.In]; exact ⟨a1, a1, b1⟩) | (simp only [Say.In]; exact ⟨⟨a1, b1⟩, b1⟩) | (simp only [Say.In]; exact ⟨⟨a1, b1⟩, b1, a1⟩)
    | (simp only [Say.In]; exact ⟨a1, b1, c1⟩) | (simp only [Say.In]; exact ⟨⟨a1, b1⟩, c1⟩) | (simp only [Say.In]; exact ⟨⟨a1, c1⟩, b1, c1⟩)
    | (simp only [Say.ht]; omega)
    | (simp only [stepsOf, List.length_append, List.length_cons, List.length_nil]; omega))
theorem alike_m {A B C : Say} (a : A.marks = 0) (b : B.marks = 0) (c : C.marks = 0) : ∀ p ∈ alikeL A B C, p.1.marks + p.2.marks ≤ 5 := by
  intro p hp
  simp only [alikeL, List.mem_cons, List.not_mem_nil, or_false] at hp
  rcases hp with rfl | rfl | rfl | rfl | rfl | rfl | rfl | rfl | rfl | rfl <;> (simp only [Say.marks]; omega)
section
variable {P : Program} {w : World} {K : PySem.W.Frag} {mg : Str → Option Value} {base : Heap}
def spLAlike (K : PySem.W.Frag) : Sp := fun vs H Q _ => ∃ (a : Addr) (v1 v2 v3 : V) (A B C : Say) (k : Nat), vs = [.ref a, v1, v2, v3] ∧ Md H a k ∧ rSay K H v1 A ∧ rSay K H v2 B ∧ rSay K H v3 C ∧ k ≤ 50000 ∧ ∀ (u : V) (H' : Hp) (p : Say × Say), SameB a H H' → Md H' a (k + 1) → r2 K (rSy K) (rSy K) H' u p → p ∈ alikeL A B C → Q u H'
theorem spLAlike_len (vs : List V) (H : Hp) (Q : VK) (E : XK) (h : spLAlike K vs H Q E) : vs.length = 4 := by obtain ⟨_, _, _, _, _, _, _, _, rfl, _⟩ := h; rfl
theorem sc__law_alike : FnScope (["_law_m", "_law_one", "_law_two", "_law_three", "_law_leads", "_law_some"] : List Str) (["_law_m", "_law_one", "_law_two", "_law_three"] : List Str) (defScope (top 81)) := ⟨rfl, rfl, rfl, by decide +kernel, rfl, by decide +kernel, by decide +kernel⟩
theorem ok__law_alike (D : Df K mg "_law_alike" (top 81)) (C__law_draw : Cal P w K mg base "_law_draw" 1 ["_law_m", "_law_below"] spDraw) : Cal P w K mg base "_law_alike" 2 ["_law_m", "_law_one", "_law_two", "_law_three"] (spLAlike K) := by
  refine D.ok sc__law_alike (fun _ _ _ _ _ _ us hl => match us, hl with | [_, _, _, _], _ => rfl) (spLAlike_len) (fun f cdv A outer s H vs Q E hr h => ?_)
  have nd := sc__law_alike.nd
  refine ⟨_, (pss_cons (ps_set (i := 4) nd rfl (Or.inl rfl) (pe_tup (pa_cons pe_str (pa_cons (pv 1) (pa_cons (pv 2) pa_nil)))))
    (pss_cons (ps_set (i := 5) nd rfl (Or.inl rfl) (pe_lst (pa_cons (pe_tup (pa_cons (pe_tup (pa_cons pe_str (pa_cons (pv 1) (pa_cons (pv 2) pa_nil)))) (pa_cons (pe_tup (pa_cons pe_str (pa_cons (pv 2) (pa_cons (pv 1) pa_nil)))) pa_nil))) (pa_cons (pe_tup (pa_cons (pv 1) (pa_cons (pe_tup (pa_cons pe_str (pa_cons (pe_tup (pa_cons pe_str (pa_cons (pv 1) pa_nil))) pa_nil))) pa_nil))) pa_nil))))
    (pss_cons (ps_set (i := 5) nd rfl (Or.inl rfl) (pe_op op_cat (pv 5) (pe_lst (pa_cons (pe_tup (pa_cons (pv 4) (pa_cons (pe_tup (pa_cons pe_str (pa_cons (pe_tup (pa_cons pe_str (pa_cons (pv 1) pa_nil))) (pa_cons (pv 2) pa_nil)))) pa_nil))) (pa_cons (pe_tup (pa_cons (pe_tup (pa_cons pe_str (pa_cons (pv 1) (pa_cons (pv 2) pa_nil)))) (pa_cons (pe_tup (pa_cons pe_str (pa_cons (pv 1) (pa_cons (pv 4) pa_nil)))) pa_nil))) pa_nil)))))
    (pss_cons (ps_set (i := 5) nd rfl (Or.inl rfl) (pe_op op_cat (pv 5) (pe_lst (pa_cons (pe_tup (pa_cons (pe_tup (pa_cons pe_str (pa_cons (pv 1) (pa_cons (pv 2) pa_nil)))) (pa_cons (pe_tup (pa_cons pe_str (pa_cons (pv 4) (pa_cons (pv 2) pa_nil)))) pa_nil))) (pa_cons (pe_tup (pa_cons (pe_tup (pa_cons pe_str (pa_cons (pv 1) (pa_cons (pv 2) pa_nil)))) (pa_cons (pe_tup (pa_cons pe_str (pa_cons (pe_tup (pa_cons pe_str (pa_cons (pv 1) (pa_cons (pe_tup (pa_cons pe_str (pa_cons (pv 2) pa_nil))) pa_nil)))) pa_nil))) pa_nil))) pa_nil)))))
    (pss_cons (ps_set (i := 5) nd rfl (Or.inl rfl) (pe_op op_cat (pv 5) (pe_lst (pa_cons (pe_tup (pa_cons (pe_tup (pa_cons pe_str (pa_cons (pv 1) (pa_cons (pv 2) pa_nil)))) (pa_cons (pe_tup (pa_cons pe_str (pa_cons (pv 4) (pa_cons (pe_tup (pa_cons pe_str (pa_cons (pv 2) (pa_cons (pv 1) pa_nil)))) pa_nil)))) pa_nil))) pa_nil))))
    (pss_cons (ps_set (i := 5) nd rfl (Or.inl rfl) (pe_op op_cat (pv 5) (pe_lst (pa_cons (pe_tup (pa_cons (pe_tup (pa_cons pe_str (pa_cons (pv 1) (pa_cons (pe_tup (pa_cons pe_str (pa_cons (pv 2) (pa_cons (pv 3) pa_nil)))) pa_nil)))) (pa_cons (pe_tup (pa_cons pe_str (pa_cons (pe_tup (pa_cons pe_str (pa_cons (pv 1) (pa_cons (pv 2) pa_nil)))) (pa_cons (pv 3) pa_nil)))) pa_nil))) pa_nil))))
    (pss_cons (ps_set (i := 5) nd rfl (Or.inl rfl) (pe_op op_cat (pv 5) (pe_lst (pa_cons (pe_tup (pa_cons (pe_tup (pa_cons pe_str (pa_cons (pv 1) (pa_cons (pe_tup (pa_cons pe_str (pa_cons (pv 2) (pa_cons (pv 3) pa_nil)))) pa_nil)))) (pa_cons (pe_tup (pa_cons pe_str (pa_cons (pe_tup (pa_cons pe_str (pa_cons (pv 1) (pa_cons (pv 2) pa_nil)))) (pa_cons (pv 3) pa_nil)))) pa_nil))) pa_nil))))
    (pss_cons (ps_set (i := 5) nd rfl (Or.inl rfl) (pe_op op_cat (pv 5) (pe_lst (pa_cons (pe_tup (pa_cons (pe_tup (pa_cons pe_str (pa_cons (pe_tup (pa_cons pe_str (pa_cons (pv 1) (pa_cons (pv 2) pa_nil)))) (pa_cons (pv 3) pa_nil)))) (pa_cons (pe_tup (pa_cons pe_str (pa_cons (pe_tup (pa_cons pe_str (pa_cons (pv 1) (pa_cons (pv 3) pa_nil)))) (pa_cons (pe_tup (pa_cons pe_str (pa_cons (pv 2) (pa_cons (pv 3) pa_nil)))) pa_nil)))) pa_nil))) pa_nil))))
    (pss_one (ps_ret (pe_ix ix_list (pv 5) (pk_call C__law_draw hr (pa_cons (pv 0) (pa_cons pe_int pa_nil))) (fun _ _ => rfl)))))))))))), ?_⟩
  obtain ⟨a, v1, v2, v3, A1, B1, C1, k, rfl, md, h1, h2, h3, hk, q⟩ := h
  refine q_set (R := rSy K) (x := .mk .leads A1 B1) (ev_mkS (ev_mkc .leads) (ev_var rfl h1) (ev_var rfl h2)) (fun v4 H1 e1 r4 => ?_)
  have E1 : ∀ {σ : L2.St} {Hx : Hp}, Same H Hx → σ[1]? = some (some v1) → EvR (tVar 1) σ Hx (rSy K) A1 := fun e hσ => ev_var hσ (Mo.up (R := rSy K) e h1)
  have E2 : ∀ {σ : L2.St} {Hx : Hp}, Same H Hx → σ[2]? = some (some v2) → EvR (tVar 2) σ Hx (rSy K) B1 := fun e hσ => ev_var hσ (Mo.up (R := rSy K) e h2)
  have E3 : ∀ {σ : L2.St} {Hx : Hp}, Same H Hx → σ[3]? = some (some v3) → EvR (tVar 3) σ Hx (rSy K) C1 := fun e hσ => ev_var hσ (Mo.up (R := rSy K) e h3)
  have E4 : ∀ {σ : L2.St} {Hx : Hp}, Same H1 Hx → σ[4]? = some (some v4) → EvR (tVar 4) σ Hx (rSy K) (.mk .leads A1 B1) := fun e hσ => ev_var hσ (Mo.up (R := rSy K) e r4)
  let R := r2 K (rSy K) (rSy K)
  refine q_set (R := rL R) (ev_lst (ei_cons (ev_pair (ev_mkS (ev_mkc .plus) (E1 e1 rfl) (E2 e1 rfl)) (ev_mkS (ev_mkc .plus) (E2 e1 rfl) (E1 e1 rfl))) (ei_cons (ev_pair (E1 e1 rfl) (ev_negS (ev_negS (E1 e1 rfl)))) ei_nil)) (by simp)) (fun v5 H2 e2 r5 => ?_)
  have e12 := e1.trans e2
  refine q_set (R := rL R) (ev_cat (ev_var rfl r5) (ev_lst (ei_cons (ev_pair (E4 e2 rfl) (ev_mkS (ev_mkc .plus) (ev_negS (E1 e12 rfl)) (E2 e12 rfl))) (ei_cons (ev_pair (ev_mkS (ev_mkc .and) (E1 e12 rfl) (E2 e12 rfl)) (ev_mkS (ev_mkc .times) (E1 e12 rfl) (E4 e2 rfl))) ei_nil)) (by simp)) (by simp)) (fun v6 H3 e3 r6 => ?_)
  have e13 := e12.trans e3
  have e23 := e2.trans e3
  refine q_set (R := rL R) (ev_cat (ev_var rfl r6) (ev_lst (ei_cons (ev_pair (ev_mkS (ev_mkc .or) (E1 e13 rfl) (E2 e13 rfl)) (ev_mkS (ev_mkc .leads) (E4 e23 rfl) (E2 e13 rfl))) (ei_cons (ev_pair (ev_mkS (ev_mkc .times) (E1 e13 rfl) (E2 e13 rfl)) (ev_negS (ev_mkS (ev_mkc .leads) (E1 e13 rfl) (ev_negS (E2 e13 rfl))))) ei_nil)) (by simp)) (by simp)) (fun v7 H4 e4 r7 => ?_)
  have e14 := e13.trans e4
  have e24 := e23.trans e4
  refine q_set (R := rL R) (ev_cat (ev_var rfl r7) (ev_lst (ei_cons (ev_pair (ev_mkS (ev_mkc .same) (E1 e14 rfl) (E2 e14 rfl)) (ev_mkS (ev_mkc .and) (E4 e24 rfl) (ev_mkS (ev_mkc .leads) (E2 e14 rfl) (E1 e14 rfl)))) ei_nil) (by simp)) (by simp)) (fun v8 H5 e5 r8 => ?_)
  have e15 := e14.trans e5
  refine q_set (R := rL R) (ev_cat (ev_var rfl r8) (ev_lst (ei_cons (ev_pair (ev_mkS (ev_mkc .plus) (E1 e15 rfl) (ev_mkS (ev_mkc .plus) (E2 e15 rfl) (E3 e15 rfl))) (ev_mkS (ev_mkc .plus) (ev_mkS (ev_mkc .plus) (E1 e15 rfl) (E2 e15 rfl)) (E3 e15 rfl))) ei_nil) (by simp)) (by simp)) (fun v9 H6 e6 r9 => ?_)
  have e16 := e15.trans e6
  refine q_set (R := rL R) (ev_cat (ev_var rfl r9) (ev_lst (ei_cons (ev_pair (ev_mkS (ev_mkc .leads) (E1 e16 rfl) (ev_mkS (ev_mkc .leads) (E2 e16 rfl) (E3 e16 rfl))) (ev_mkS (ev_mkc .leads) (ev_mkS (ev_mkc .times) (E1 e16 rfl) (E2 e16 rfl)) (E3 e16 rfl))) ei_nil) (by simp)) (by simp)) (fun v10 H7 e7 r10 => ?_)
  have e17 := e16.trans e7
  refine q_set (R := rL R) (x := alikeL A1 B1 C1) (EvR.to (ev_cat (ev_var rfl r10) (ev_lst (ei_cons (ev_pair (ev_mkS (ev_mkc .times) (ev_mkS (ev_mkc .or) (E1 e17 rfl) (E2 e17 rfl)) (E3 e17 rfl)) (ev_mkS (ev_mkc .or) (ev_mkS (ev_mkc .times) (E1 e17 rfl) (E3 e17 rfl)) (ev_mkS (ev_mkc .times) (E2 e17 rfl) (E3 e17 rfl)))) ei_nil) (by simp)) (by simp)) rfl) (fun v11 H8 e8 r11 => ?_)
  have e18 := e17.trans e8
  obtain ⟨p, vs, rfl, hp, hv⟩ := r11
  have hl := hv.hlen
  have md8 := md.up e18
  have hpa : p ≠ a := by
    obtain ⟨_, _, _, _, _, ha, _⟩ := md8
    exact fun z => by subst z; rw [hp] at ha; cases ha
  refine ⟨_, rfl, eb_draw (ev_var rfl rfl) (ev_int (i := 10)) md8 (by decide) (by decide) (by omega) fun d H9 sb9 md9 d0 d1 => ?_⟩
  obtain ⟨n, hn⟩ := Int.eq_ofNat_of_zero_le d0
  subst hn
  have hl10 : vs.length = 10 := hl
  have le := md8.le sb9
  obtain ⟨y, hy, ry⟩ := hv.hgetL (i := n) (a := vs[n]'(by omega)) (List.getElem?_eq_getElem (by omega))
  refine ⟨p, vs, (n : Int), vs[n]'(by omega), rfl, rfl, SqL.of (sb9 _ _ hpa hp), atN (by omega), ?_⟩
  exact q _ H9 y ((SameB.of e18).trans sb9) md9 (Mt.up le ry) (List.mem_of_getElem? hy)
end
end Hf


/-! ## Fa22 -/
set_option Elab.async false
set_option linter.all false
set_option maxRecDepth 100000
set_option maxHeartbeats 400000

namespace Hf
open PySem PySem.Spec PyProof.Rows L2 RZ
/-! ### the names drawn -/
theorem filter_one {x : Str} : ∀ (L : List Str), L.Nodup → x ∈ L → (L.filter fun y => !decide (y = x)).length + 1 = L.length ∧ (L.filter fun y => !decide (y = x)).Nodup
  | [], _, h => by simp at h
  | y :: L, nd, h => by
    obtain ⟨ny, nd'⟩ := List.nodup_cons.mp nd
    by_cases e : y = x
    · subst e
      have : L.filter (fun z => !decide (z = y)) = L := by
        rw [List.filter_eq_self]
        intro z hz
        have : z ≠ y := fun q => ny (q ▸ hz)
        simpa using this
      rw [List.filter_cons]
      simp [this, nd']
    · have hx : x ∈ L := by
        rcases List.mem_cons.mp h with z | z
        · exact absurd z.symm e
        · exact z
      obtain ⟨h1, h2⟩ := filter_one L nd' hx
      rw [List.filter_cons]
      have : (!decide (y = x)) = true := by simpa using e
      rw [if_pos this]
      refine ⟨by rw [List.length_cons, List.length_cons]; omega, List.nodup_cons.mpr ⟨fun q => ny (List.mem_filter.mp q).1, h2⟩⟩
section
variable {P : Program} {w : World} {K : PySem.W.Frag} {mg : Str → Option Value} {base : Heap}
def spDrawn : Sp := fun vs H Q _ => ∃ (a : Addr) (n k : Nat), vs = [.ref a, .int (n : Int)] ∧ Md H a k ∧ 1 ≤ n ∧ n ≤ 3 ∧ k ≤ 1000 ∧ ∀ (b : Addr) (H' : Hp) (ns : List Str), SameB a H H' → Md H' a (k + (n + 1)) → b ≠ a → Nm H' b ns → ns.length = n → Q (.ref b) H'
theorem spDrawn_len (vs : List V) (H : Hp) (Q : VK) (E : XK) (h : spDrawn vs H Q E) : vs.length = 2 := by obtain ⟨_, _, _, rfl, _⟩ := h; rfl
theorem SameB.same2 {a l : Addr} {H0 H H' : Hp} (s : SameB a H0 H) (hl : H0 l = none) (t : SameB l H H') : SameB a H0 H' := fun b o n e => t b o (ne_of_none e hl) (s b o n e)
theorem sc__law_drawn_names : FnScope (["_law_m", "_law_size", "_law_left", "_law_found_here", "_law_k", "_law_name"] : List Str) (["_law_m", "_law_size"] : List Str) (defScope (top 78)) := ⟨rfl, rfl, rfl, by decide +kernel, rfl, by decide +kernel, by decide +kernel⟩
theorem ok__law_drawn_names (D : Df K mg "_law_drawn_names" (top 78)) (T : Bt mg) (C__law_draw : Cal P w K mg base "_law_draw" 1 ["_law_m", "_law_below"] spDraw) (C__law_of : Cal P w K mg base "_law_of" 2 ["_law_m", "_law_some"] spOf) : Cal P w K mg base "_law_drawn_names" 3 ["_law_m", "_law_size"] spDrawn := by
  refine D.ok sc__law_drawn_names (fun _ _ _ _ _ _ us hl => match us, hl with | [_, _], _ => rfl) (spDrawn_len) (fun f cdv A outer s H vs Q E hr h => ?_)
  have nd := sc__law_drawn_names.nd
  refine ⟨_, (pss_cons (ps_set (i := 2) nd rfl (Or.inl rfl) (pk_call C__law_of hr (pa_cons (pv 0) (pa_cons (pe_lst (pa_cons (pe_lst (pa_cons pe_str (pa_cons pe_str (pa_cons pe_str (pa_cons pe_str pa_nil))))) (pa_cons (pe_lst (pa_cons pe_str (pa_cons pe_str (pa_cons pe_str (pa_cons pe_str pa_nil))))) (pa_cons (pe_lst (pa_cons pe_str (pa_cons pe_str (pa_cons pe_str (pa_cons pe_str pa_nil))))) pa_nil)))) pa_nil))))
    (pss_cons (ps_set (i := 3) nd rfl (Or.inr rfl) (pe_lst pa_nil))
    (pss_cons (ps_for PassesOwn.never rfl (pi_range1 rfl T.range (pa_cons (pv 1) pa_nil)) (pg_name (i := 4) nd rfl (Or.inl rfl)) (pss_cons (ps_expr (pe_bm PySem.F.plainAttrs_list PySem.F.slot_list_append PySem.F.type_list_append mt_append (pv 3) (pa_cons (pe_ix ix_list (pv 2) (pk_call C__law_draw hr (pa_cons (pv 0) (pa_cons (pk_len T (pa_cons (pv 2) pa_nil)) pa_nil))) (fun _ _ => rfl)) pa_nil)))
    (pss_one (ps_setLc (i := 2) (own := [("_law_name", 5)]) rfl nd rfl rfl (sw_true rfl rfl rfl (by decide +kernel)) (pi_list (pv 2)) (blkOk_by (by walk_at "blk")) (fun _ _ _ _ _ => (pg_name (i := 5) nd rfl (Or.inl rfl))) (fun _ _ _ _ _ => (pts_one (pt_cmpR op_ne (pv 5) (pe_ix (bk_ix_list K) (pv 3) (pe_un un_neg pe_int) (fun _ _ => rfl)) (nomark _)))) (fun _ _ _ _ _ => (pv 5))))))
    (pss_one (ps_ret (pv 3)))))), ?_⟩
  obtain ⟨a, n, k, rfl, md, n1, n3, hk, q⟩ := h
  -- three lists of names, one is taken
  refine ⟨_, rfl, by show 4 ≤ sizeLine; decide, fun p1 hp1 => ⟨by show 4 ≤ sizeLine; decide, fun p2 hp2 => ⟨by show 4 ≤ sizeLine; decide, fun p3 hp3 => ⟨by show 3 ≤ sizeLine; decide, fun p4 hp4 => ?_⟩⟩⟩⟩
  have s1 := Same.hnew (o := .lst [.str "x", .str "y", .str "z", .str "u"]) hp1
  have s2 := Same.hnew (o := .lst [.str "b2", .str "a", .str "b", .str "zz"]) hp2
  have s3 := Same.hnew (o := .lst [.str "yess", .str "orr", .str "p", .str "not1"]) hp3
  have s4 := Same.hnew (o := .lst [.ref p1, .ref p2, .ref p3]) hp4
  have s14 := ((s1.trans s2).trans s3).trans s4
  have md4 := md.up s14
  have ne : ∀ {l : Addr} {o : HO} {Hx : Hp}, Md Hx a k → Hx l = none → l ≠ a := fun m hl z => by
    obtain ⟨_, _, _, _, _, ha, _⟩ := m
    subst z
    rw [hl] at ha
    cases ha
  have m0 := md.up s1
  have m1 := m0.up s2
  have m2 := m1.up s3
  have np1 := ne (o := .lst []) md hp1
  have np2 := ne (o := .lst []) m0 hp2
  have np3 := ne (o := .lst []) m1 hp3
  have np4 := ne (o := .lst []) m2 hp4
  refine ⟨a, p4, _, k, rfl, md4, np4, upd_same, by simp, by simp, by omega, fun u H1 sb1 md1 hu => ?_⟩
  have left : ∃ (pl : Addr) (L : List Str), u = .ref pl ∧ pl ≠ a ∧ Nm H1 pl L ∧ L.Nodup ∧ L.length = 4 := by
    simp only [List.mem_cons, List.not_mem_nil, or_false] at hu
    rcases hu with rfl | rfl | rfl
    · exact ⟨p1, ["x", "y", "z", "u"], rfl, np1, sb1 _ _ np1 (((s2.trans s3).trans s4) _ _ upd_same), by decide, rfl⟩
    · exact ⟨p2, ["b2", "a", "b", "zz"], rfl, np2, sb1 _ _ np2 ((s3.trans s4) _ _ upd_same), by decide, rfl⟩
    · exact ⟨p3, ["yess", "orr", "p", "not1"], rfl, np3, sb1 _ _ np3 (s4 _ _ upd_same), by decide, rfl⟩
  obtain ⟨pl, L, rfl, npl, nml, ndl, hl4⟩ := left
  have sb01 : SameB a H H1 := (SameB.of s14).trans sb1
  refine q_new fun l hl => ?_
  have sl := Same.hnew (o := .lst []) hl
  have nla : l ≠ a := by
    obtain ⟨_, _, _, _, _, ha, _⟩ := md1
    exact fun z => by subst z; rw [hl] at ha; cases ha
  have hl0 : H l = none ∨ True := .inr trivial
  refine q_for (I := fun H2 i σ' H' => ∃ (pl : Addr) (L F : List Str) (x4 : Option V), σ' = [some (.ref a), some (.int (n : Int)), some (.ref pl), some (.ref l), x4, none] ∧ (∀ b o, b ≠ a → b ≠ l → H1 b = some o → H' b = some o) ∧ Md H' a (k + 1 + i) ∧ pl ≠ a ∧ pl ≠ l ∧ Nm H' pl L ∧ L.Nodup ∧ L.length + i = 4 ∧ Nm H' l F ∧ F.length = i ∧ Le H2 H') (ii_range1 (ev_var (R := rInt) (x := (n : Int)) rfl rfl) (by omega))
    (fun H2 e2 => ⟨pl, L, [], _, rfl, fun b o _ _ e => e2 _ _ (sl _ _ e), md1.up (sl.trans e2), npl, (fun z => by subst z; have h : H1 pl = some (.lst (L.map V.str)) := nml; rw [hl] at h; cases h), (sl.trans e2) _ _ nml, ndl, by omega, e2 _ _ upd_same, rfl, Le.refl _⟩) (fun H2 i σ' H' e2 z => ?_) (fun H2 i x σ' H' v' H'' e2 hx z e3 r => ?_) (fun H2 σ' H' e2 z => ?_)
  · obtain ⟨_, _, _, _, _, _, _, _, _, _, _, _, _, _, le⟩ := z
    exact le
  · obtain ⟨pl, L, F, x4, rfl, keep, mdi, npa, npl2, nmL, ndL, hlen, nmF, hF, leI⟩ := z
    have hi : i < n := by
      have := (List.getElem?_eq_some_iff.mp hx).1
      rw [ivs_len] at this
      omega
    have md3 := mdi.up e3
    have nmL3 : Nm H'' pl L := e3 _ _ nmL
    have nmF3 : Nm H'' l F := e3 _ _ nmF
    have Lpos : 0 < L.length := by omega
    -- found.append(left[draw(m, len(left))])
    refine ⟨_, rfl, .inl ⟨rfl, _, SqL.of nmF3⟩, _, rfl, eb_draw (ev_var rfl rfl) (ev_lenL (ev_var rfl nmL3.rl)) md3 (by omega) (by omega) (by omega) fun d H4 sb4 md4 d0 d1 => ?_⟩
    obtain ⟨j, hj⟩ := Int.eq_ofNat_of_zero_le d0
    subst hj
    have hjl : j < L.length := by omega
    have nmL4 : Nm H4 pl L := sb4 _ _ npa nmL3
    have nmF4 : Nm H4 l F := sb4 _ _ nla nmF3
    have le4 := md3.le sb4
    refine ⟨pl, L.map V.str, (j : Int), .str L[j], rfl, rfl, SqL.of nmL4, by rw [atN (by rw [List.length_map]; exact hjl)]; simp, l, F.map V.str, .str L[j], rfl, rfl, nmF4, ?_, ?_⟩
    · rw [List.length_map, hF]; exact Nat.lt_of_lt_of_le hi (Nat.le_trans n3 (by decide))
    generalize hH5 : upd H4 l (.lst (F.map V.str ++ [.str L[j]])) = H5
    have nmF5 : Nm H5 l (F ++ [L[j]]) := by
      show H5 l = _
      rw [← hH5, upd_same, List.map_append]; rfl
    have sb5 : SameB l H4 H5 := by rw [← hH5]; exact SameB.upd
    have nmL5 : Nm H5 pl L := sb5 _ _ npl2 nmL4
    have hcl : ∃ c, c ≠ l ∧ True := ⟨a, fun z => nla z.symm, trivial⟩
    have md5 : Md H5 a (k + 1 + i + 1) := by
      obtain ⟨L', S, p, c, cells, g1, g2, g3, g4⟩ := md4
      refine ⟨L', S, p, c, cells, sb5 _ _ (fun z => nla z.symm) g1, g2, sb5 _ _ (fun z => ?_) g3, g4⟩
      subst z
      rw [nmF4] at g3
      have g3 : (F.map V.str) = cells.map V.int := by simpa using g3
      cases F with
      | nil => cases cells with
        | nil => exact g4.1 rfl
        | cons _ _ => cases g3
      | cons x F => cases cells with
        | nil => cases g3
        | cons y cells => cases g3
    have le5 : Le H4 H5 := sb5.le nmF4 (fun z => z)
    have fm := filter_one L ndL (List.getElem_mem hjl)
    have last : atI (F ++ [L[j]]) (-1) = some L[j] := atm1 _ _
    refine s_set (R := rL rStr) (x := L.filter fun y => !decide (y = L[j])) (EvR.to (ev_lcF (R := rStr) (S := rStr) (KP := Same) (fun y => !decide (y = L[j])) (fun y => y) (ii_lst (ev_var rfl nmL5.rl)) (fun _ _ _ e => e) (by omega) (fun v => rfl)
      (fun y hy v H' e r => et_test (ev_neS (ev_var (R := rStr) rfl r) (ev_ixL (R := rStr) (ev_var rfl (Mo.up e nmF5.rl)) (ev_neg ev_int) last))) (fun y hy _ v H' e r => ev_var rfl r)) (by rw [List.map_id'])) (fun v6 H6 e6 r6 => ?_)
    obtain ⟨pl6, vs6, rfl, h61, h62⟩ := r6
    rw [h62.hstrs] at h61
    have npl6 : pl6 ≠ l := fun z => by
      subst z
      have := e6 _ _ nmF5
      rw [h61] at this
      have e : (L.filter fun y => !decide (y = L[j])).map V.str = (F ++ [L[j]]).map V.str := by simpa using this
      have inj : ∀ (a b : List Str), a.map V.str = b.map V.str → a = b := fun a => by
        induction a with
        | nil => intro b h; cases b with
          | nil => rfl
          | cons _ _ => cases h
        | cons x a ih => intro b h; cases b with
          | nil => cases h
          | cons y b => simp only [List.map_cons, List.cons.injEq, V.str.injEq] at h; rw [h.1, ih b h.2]
      have e := inj _ _ e
      have hm : L[j] ∈ L.filter fun y => !decide (y = L[j]) := by rw [e]; simp
      have := (List.mem_filter.mp hm).2
      simp at this
    have npa6 : pl6 ≠ a := fun z => by
      subst z
      obtain ⟨_, _, _, _, _, ha, _⟩ := md5.up e6
      rw [h61] at ha
      cases ha
    refine ⟨pl6, _, F ++ [L[j]], _, rfl, fun b o b1 b2 e => e6 _ _ (sb5 _ _ b2 (sb4 _ _ b1 (e3 _ _ (keep b o b1 b2 e)))), md5.up e6, npa6, npl6, h61, fm.2, by omega, e6 _ _ nmF5, by simp [hF], ((leI.trans (Le.of e3)).trans le4).trans (le5.trans (Le.of e6))⟩
  · obtain ⟨pl, L, F, x4, rfl, keep, mdi, npa, npl2, nmL, ndL, hlen, nmF, hF, leI⟩ := z
    rw [ivs_len] at hF mdi
    have ht : ((n : Int)).toNat = n := by omega
    rw [ht] at hF mdi
    refine ⟨_, rfl, q l H' F (fun b o hb e => ?_) (mdi.mono (by omega)) nla nmF hF⟩
    have h1 := sb01 b o hb e
    exact keep b o hb (ne_of_none h1 hl) h1
end
end Hf


/-! ## Fa23 -/
set_option Elab.async false
set_option linter.all false
set_option maxRecDepth 100000
set_option maxHeartbeats 400000

namespace Hf
open PySem PySem.Spec PyProof.Rows L2 RZ
theorem at_last {α : Type} {xs : List α} (h : xs ≠ []) : ∃ x ∈ xs, atI xs (-1) = some x := by
  have e := List.dropLast_concat_getLast h
  refine ⟨xs.getLast h, List.getLast_mem h, ?_⟩
  have h2 := atm1 xs.dropLast (xs.getLast h)
  rw [e] at h2
  exact h2
theorem at_first {α : Type} {xs : List α} (h : xs ≠ []) : ∃ x ∈ xs, atI xs 0 = some x := by
  cases xs with
  | nil => exact absurd rfl h
  | cons x t => exact ⟨x, List.mem_cons_self, at0⟩
theorem q_lcB {α : Type} {R : Rl α} {KP : Hp → Hp → Prop} {wi : TI} {g : TG} {tt : TT} {te : TE} {vs : List Nat} {σ : L2.St} {H : Hp} {xs : List α} {D : Ends} {tu : TS} {n : Nat} (h : EvI KP wi σ H R xs) (Pv : Hp → Addr → Nat → Hp → Prop) (h0 : ∀ H4 Dl, Same H H4 → H4 Dl = none → Pv H4 Dl 0 (upd H4 Dl (.lst []))) (hk : ∀ H4 Dl i H', Same H H4 → H4 Dl = none → Pv H4 Dl i H' → KP H4 H')
    (hs : ∀ H4 Dl i x v Hx Hy, Same H H4 → H4 Dl = none → xs[i]? = some x → Pv H4 Dl i Hx → Same Hx Hy → R Hy v x → g v (wipe σ vs) Hy fun σ2 H2 => wipe σ2 vs = wipe σ vs ∧ tt σ2 H2 fun b H3 => if b = true then te σ2 H3 fun y H5 => ∃ acc, H5 Dl = some (.lst acc) ∧ acc.length < sizeLine ∧ Pv H4 Dl (i + 1) (upd H5 Dl (.lst (acc ++ [y]))) else Pv H4 Dl (i + 1) H3)
    (hd : ∀ H4 Dl H', Same H H4 → H4 Dl = none → Pv H4 Dl xs.length H' → tu D (σ.set n (some (.ref Dl))) H') : tSeq (tAsg (tLc wi g tt te vs) (gName n)) tu D σ H :=
  h H (Same.refl H) _ fun J H4 e4 wk => fun Dl hD => lc_go wk (Pv := Pv H4 Dl) (h0 H4 Dl e4 hD) (fun i H' p => hk H4 Dl i H' e4 hD p) (fun i x v Hx Hy hx p e r => hs H4 Dl i x v Hx Hy e4 hD hx p e r) (fun H' p => hd H4 Dl H' e4 hD p)
theorem it_t' {σ : L2.St} {H : Hp} {A B : L2.Hp → Prop} (h : true = true) (x : A H) : tYes σ H (fun b H3 => if b = true then A H3 else B H3) := by show (if true = true then A H else B H); rw [if_pos rfl]; exact x
theorem tl_mk {s : Say} (h : decide ((s.tl : Int) = 3) = true) : ∃ m x y, s = .mk m x y := by
  cases s with
  | mk m x y => exact ⟨m, x, y, rfl⟩
  | yes => exact absurd h (by decide)
  | no => exact absurd h (by decide)
  | unk x => exact absurd (of_decide_eq_true h) (by simp [Say.tl])
  | neg x => exact absurd (of_decide_eq_true h) (by simp [Say.tl])
section
variable {K : PySem.W.Frag} {σ : L2.St} {H : Hp} {t0 t1 t2 t3 : TE} {Q : VK} {a : Addr} {k : Nat} {A B C : Say}
theorem eb_alike (h0 : EvR t0 σ H rV (.ref a)) (h1 : EvR t1 σ H (rSy K) A) (h2 : EvR t2 σ H (rSy K) B) (h3 : EvR t3 σ H (rSy K) C) (md : Md H a k) (hk : k ≤ 50000) (q : ∀ u H' p, SameB a H H' → Md H' a (k + 1) → r2 K (rSy K) (rSy K) H' u p → p ∈ alikeL A B C → Q u H') :
    tCall (spLAlike K) [] E0 (tCons t0 (tCons t1 (tCons t2 (tCons t3 tNil)))) σ H Q :=
  h0 H (Same.refl H) _ fun v0 H0 e0 r0 => h1 H0 e0 _ fun v1 H1 e1 r1 => h2 H1 (e0.trans e1) _ fun v2 H2 e2 r2' => h3 H2 ((e0.trans e1).trans e2) _ fun v3 H3 e3 r3 => by
    cases r0
    have e03 := ((e0.trans e1).trans e2).trans e3
    exact ⟨a, v1, v2, v3, A, B, C, k, rfl, md.up e03, Mo.up (R := rSy K) (e2.trans e3) r1, Mo.up (R := rSy K) e3 r2', r3, hk, fun u H' p sb md' r hp => q u H' p ((SameB.of e03).trans sb) md' r hp⟩
end
section
variable {P : Program} {w : World} {K : PySem.W.Frag} {mg : Str → Option Value} {base : Heap}
def spLPair (K : PySem.W.Frag) : Sp := fun vs H Q _ => ∃ (a b : Addr) (ns : List Str) (k : Nat), vs = [.ref a, .ref b] ∧ Md H a k ∧ b ≠ a ∧ Nm H b ns ∧ 1 ≤ ns.length ∧ ns.length ≤ 3 ∧ k ≤ 10000 ∧
  ∀ (u : V) (H' : Hp) (f g : Say), SameB a H H' → Md H' a (k + 100) → r2 K (rSy K) (rSy K) H' u (f, g) → PairG ns f g → f.marks + g.marks ≤ mostM ns.length → Q u H'
theorem spLPair_len (vs : List V) (H : Hp) (Q : VK) (E : XK) (h : spLPair K vs H Q E) : vs.length = 2 := by obtain ⟨_, _, _, _, rfl, _⟩ := h; rfl
theorem sayg_pair {ns : List Str} {n : Nat} {s : Say} (h : SayG ns n s) (hn : n ≤ 10) : s.In ns ∧ s.ht ≤ 60 ∧ (stepsOf s).length ≤ 1000 := ⟨h.inn, by have := h.ht; omega, by have := h.sz; omega⟩
theorem sc__law_pair : FnScope (["_law_m", "_law_names", "_law_most", "_law_way", "_law_first", "_law_parts_here", "_law_second", "_law_turn"] : List Str) (["_law_m", "_law_names"] : List Str) (defScope (top 82)) := ⟨rfl, rfl, rfl, by decide +kernel, rfl, by decide +kernel, by decide +kernel⟩
theorem ok__law_pair (D : Df K mg "_law_pair" (top 82)) (T : Bt mg) (C__law_draw : Cal P w K mg base "_law_draw" 1 ["_law_m", "_law_below"] spDraw) (C__law_of : Cal P w K mg base "_law_of" 2 ["_law_m", "_law_some"] spOf) (C__law_saying : Cal P w K mg base "_law_saying" 13 ["_law_m", "_law_names", "_law_size"] (spSaying K 10)) (C__law_alike : Cal P w K mg base "_law_alike" 2 ["_law_m", "_law_one", "_law_two", "_law_three"] (spLAlike K))
    (C__law_marks : Cal P w K mg base "_law_marks" 65 ["_law_saying_here"] (spLMarks K 64)) : Cal P w K mg base "_law_pair" 70 ["_law_m", "_law_names"] (spLPair K) := by
  refine D.ok sc__law_pair (fun _ _ _ _ _ _ us hl => match us, hl with | [_, _], _ => rfl) (spLPair_len) (fun f cdv A outer s H vs Q E hr h => ?_)
  have nd := sc__law_pair.nd
  refine ⟨_, (pss_cons (ps_set (i := 2) nd rfl (Or.inl rfl) (pe_ix ix_list (pe_lst (pa_cons pe_int (pa_cons pe_int (pa_cons pe_int pa_nil)))) (pe_op op_sub (pk_len T (pa_cons (pv 1) pa_nil)) pe_int) (fun _ _ => rfl)))
    (pss_cons (ps_set (i := 3) nd rfl (Or.inl rfl) (pk_call C__law_draw hr (pa_cons (pv 0) (pa_cons pe_int pa_nil))))
    (pss_cons (ps_if (pt_cmpR op_eq (pv 3) pe_int (nomark _)) (pss_cons (ps_set (i := 4) nd rfl (Or.inl rfl) (pk_call C__law_saying hr (pa_cons (pv 0) (pa_cons (pv 1) (pa_cons (pk_call C__law_draw hr (pa_cons (pv 0) (pa_cons (pe_op op_fdivN (pv 2) pe_int) pa_nil))) pa_nil)))))
    (pss_one (ps_ret (pe_tup (pa_cons (pv 4) (pa_cons (pk_call C__law_saying hr (pa_cons (pv 0) (pa_cons (pv 1) (pa_cons (pk_call C__law_draw hr (pa_cons (pv 0) (pa_cons (pe_op op_fdivN (pv 2) pe_int) pa_nil))) pa_nil)))) pa_nil)))))) pss_nil)
    (pss_cons (ps_setLc (i := 5) (own := [("_law_turn", 7)]) rfl nd rfl rfl (sw_true rfl rfl rfl (by decide +kernel)) (pi_range1 rfl T.range (pa_cons pe_int pa_nil)) (blkOk_by (by walk_at "blk")) (fun _ _ _ _ _ => (pg_name (i := 7) nd rfl (Or.inl rfl))) (fun _ _ _ _ _ => pts_nil) (fun _ _ _ _ _ => (pk_call C__law_saying hr (pa_cons (pv 0) (pa_cons (pv 1) (pa_cons (pk_call C__law_draw hr (pa_cons (pv 0) (pa_cons pe_int pa_nil))) pa_nil))))))
    (pss_cons (ps_asg (pk_call C__law_alike hr (pa_cons (pv 0) (pa_cons (pe_ix ix_list (pv 5) pe_int (fun _ _ => rfl)) (pa_cons (pe_ix ix_list (pv 5) pe_int (fun _ _ => rfl)) (pa_cons (pe_ix ix_list (pv 5) pe_int (fun _ _ => rfl)) pa_nil))))) (pg_tup rfl (pgs_cons (pg_name (i := 4) nd rfl (Or.inl rfl)) (pgs_cons (pg_name (i := 6) nd rfl (Or.inl rfl)) pgs_nil))))
    (pss_cons (ps_if (pt_cmpR op_gt (pe_op op_add (pk_call C__law_marks hr (pa_cons (pv 4) pa_nil)) (pk_call C__law_marks hr (pa_cons (pv 6) pa_nil))) (pv 2) (nomark _)) (pss_one (ps_asg (pk_call C__law_alike hr (pa_cons (pv 0) (pa_cons (pe_tup (pa_cons pe_str (pa_cons (pe_ix ix_list (pv 1) (pe_un un_neg pe_int) (fun _ _ => rfl)) pa_nil))) (pa_cons (pe_tup (pa_cons pe_str (pa_cons (pe_ix ix_list (pv 1) pe_int (fun _ _ => rfl)) pa_nil))) (pa_cons (pe_tup (pa_cons pe_str (pa_cons (pe_tup (pa_cons pe_str (pa_cons (pe_ix ix_list (pv 1) (pe_un un_neg pe_int) (fun _ _ => rfl)) pa_nil))) pa_nil))) pa_nil))))) (pg_tup rfl (pgs_cons (pg_name (i := 4) nd rfl (Or.inl rfl)) (pgs_cons (pg_name (i := 6) nd rfl (Or.inl rfl)) pgs_nil))))) pss_nil)
    (pss_cons (ps_if (PW.pt (pw_and (pt_cmpR op_eq (pv 3) pe_int (nomark _)) (pw_and1 (pt_cmpR op_eq (pk_len T (pa_cons (pv 6) pa_nil)) pe_int (nomark _))))) (pss_one (ps_set (i := 6) nd rfl (Or.inl rfl) (pe_tup (pa_cons (pk_call C__law_of hr (pa_cons (pv 0) (pa_cons (pe_lst (pa_cons pe_str (pa_cons pe_str (pa_cons pe_str (pa_cons pe_str pa_nil))))) pa_nil))) (pa_cons (pe_ix ix_tup (pv 6) pe_int (fun _ _ => rfl)) (pa_cons (pe_ix ix_tup (pv 6) pe_int (fun _ _ => rfl)) pa_nil)))))) pss_nil)
    (pss_one (ps_ret (pe_tup (pa_cons (pv 4) (pa_cons (pv 6) pa_nil)))))))))))), ?_⟩
  obtain ⟨a, b, ns, k, rfl, md, hb, hn, n1, n3, hk, q⟩ := h
  have hne : ns ≠ [] := fun z => by rw [z] at n1; simp at n1
  have va : ∀ {σ : L2.St} {H' : Hp}, σ[0]? = some (some (.ref a)) → EvR (tVar 0) σ H' rV (.ref a) := fun hσ => ev_var hσ rfl
  have hat : atI ([12, 9, 7] : List Int) ((ns.length : Int) - 1) = some ((mostM ns.length : Nat) : Int) := by
    have : ns.length = 1 ∨ ns.length = 2 ∨ ns.length = 3 := by omega
    rcases this with e | e | e <;> rw [e] <;> rfl
  obtain ⟨hf, hfe, hf3, hf6, hfm⟩ : ∃ hf : Nat, ((mostM ns.length : Nat) : Int).fdiv 2 = (hf : Int) ∧ 3 ≤ hf ∧ hf ≤ 6 ∧ 2 * (hf - 1) ≤ mostM ns.length := by
    have : ns.length = 1 ∨ ns.length = 2 ∨ ns.length = 3 := by omega
    rcases this with e | e | e <;> rw [e]
    · exact ⟨6, by decide, by decide, by decide, by decide⟩
    · exact ⟨4, by decide, by decide, by decide, by decide⟩
    · exact ⟨3, by decide, by decide, by decide, by decide⟩
  have m7 : 7 ≤ mostM ns.length := by unfold mostM; split <;> decide
  refine q_set (R := rInt) (ev_ixL (R := rInt) (ev_lst (xs := [12, 9, 7]) (ei_cons ev_int (ei_cons ev_int (ei_cons ev_int ei_nil))) (by decide)) (ev_sub (ev_lenL (ev_var rfl hn.rl)) ev_int) hat) (fun v2 H1 e1 r2 => ?_)
  cases r2
  refine eb_draw (va rfl) (ev_int (i := 4)) (md.up e1) (by decide) (by decide) (by omega) fun way H2 sb2 md2 w0 w1 => ?_
  have sb02 := (SameB.of e1).trans sb2
  have nm2 : Nm H2 b ns := sb02 _ _ hb hn
  -- a draw, then a saying
  have drs : ∀ (σ : L2.St) (Hx : Hp) (Q' : VK) (j : Nat), σ[0]? = some (some (.ref a)) → σ[1]? = some (some (.ref b)) → σ[2]? = some (some (.int ((mostM ns.length : Nat) : Int))) → Md Hx a j → Nm Hx b ns → j ≤ 20000 → (∀ u H' s n, SameB a Hx H' → Md H' a (j + 40) → rSay K H' u s → SayG ns n s → n < hf → Q' u H') → tCall (spSaying K 10) [] E0 (tCons (tVar 0) (tCons (tVar 1) (tCons (tCall spDraw [] E0 (tCons (tVar 0) (tCons (tOp (rI CDivN fun i j => .int (i.fdiv j)) (tVar 2) (tC (.int 2))) tNil))) tNil))) σ Hx Q' := fun σ Hx Q' j h0 h1 h2 mdx nmx hj hq =>
    ⟨_, h0, _, h1, eb_draw (bl := (hf : Int)) (va h0) (EvR.to (ev_fdiv (ev_var (R := rInt) h2 rfl) (ev_int (i := 2)) ⟨by decide, by decide⟩) hfe) mdx (by omega) (by omega) (by omega) fun d H3 sb3 md3 d0 d1 => by
      obtain ⟨n, hn'⟩ := Int.eq_ofNat_of_zero_le d0
      subst hn'
      exact ⟨a, b, ns, n, j + 1, rfl, md3, hb, sb3 _ _ hb nmx, hne, by omega, by omega, by omega, by omega, fun u H' s sb' md' r g => hq u H' s n (sb3.trans sb') (md'.mono (by omega)) r g (by omega)⟩⟩
  refine q_when (et_test (ev_eqI (ev_var (R := rInt) (x := way) rfl rfl) ev_int)) (fun c H3 e3 => ?_) (fun c H3 e3 => ?_)
  · have md3 := md2.up e3
    have nm3 : Nm H3 b ns := e3 _ _ nm2
    refine drs _ H3 _ (k + 1) rfl rfl rfl md3 nm3 (by omega) fun u4 H4 s4 n4 sb4 md4 r4 g4 l4 => ?_
    have nm4 : Nm H4 b ns := sb4 _ _ hb nm3
    refine ⟨_, rfl, drs _ H4 _ (k + 1 + 40) rfl rfl rfl md4 nm4 (by omega) fun u5 H5 s5 n5 sb5 md5 r5 g5 l5 => ⟨by show 2 ≤ sizeLine; decide, fun p hp => ?_⟩⟩
    have e6 := Same.hnew (o := .tup [u4, u5]) hp
    have le5 := md4.le sb5
    have p4 := sayg_pair g4 (by omega)
    have p5 := sayg_pair g5 (by omega)
    refine q _ _ s4 s5 (((sb02.trans (SameB.of e3)).trans sb4).trans (sb5.trans (SameB.of e6))) ((md5.up e6).mono (by omega)) ⟨p, u4, u5, rfl, SqT.of upd_same, Mt.up (R := rSy K) (le5.trans (Le.of e6)) r4, Mt.up (R := rSy K) (Le.of e6) r5⟩ ⟨p4.1, p5.1, p4.2.1, p5.2.1, p4.2.2, p5.2.2⟩ ?_
    rw [g4.mr, g5.mr]; omega
  -- the end, from first and second on
  have tail2 : ∀ (Hx : Hp) (σ : L2.St) (u4 u6 : V) (f' g : Say), σ[4]? = some (some u4) → σ[6]? = some (some u6) → SameB a H Hx → Md Hx a (k + 100) → rSay K Hx u4 f' → rSay K Hx u6 g → PairG ns f' g → f'.marks + g.marks ≤ mostM ns.length → tRet (tTup (tCons (tVar 4) (tCons (tVar 6) tNil))) { nx := fun _ H' => Q .non H', rt := Q } σ Hx := fun Hx σ u4 u6 f' g h4 h6 sb mdx r4 r6 pg mm =>
    s_ret (R := r2 K (rSy K) (rSy K)) (x := (f', g)) (ev_pair (ev_var (R := rSy K) h4 r4) (ev_var (R := rSy K) h6 r6)) (fun v H' e r => q v H' f' g (sb.trans (SameB.of e)) (mdx.up e) r pg mm)
  have tail1 : ∀ (Hx : Hp) (u4 u5 u6 : V) (f' g : Say), SameB a H Hx → Md Hx a (k + 90) → rSay K Hx u4 f' → rSay K Hx u6 g → PairG ns f' g → f'.marks + g.marks ≤ mostM ns.length →
      tSeq (tIfS (tAnd (tTest (tOp rEq (tVar 3) (tC (.int 1)))) (tTest (tOp rEq (tCB (rLenS K) (tCons (tVar 6) tNil)) (tC (.int 3))))) (tAsg (tTup (tCons (tCall spOf [] E0 (tCons (tVar 0) (tCons (tLst (tCons (tC (.str "plus")) (tCons (tC (.str "and")) (tCons (tC (.str "leads")) (tCons (tC (.str "same")) tNil))))) tNil))) (tCons (tOp (rIxT K) (tVar 6) (tC (.int 1))) (tCons (tOp (rIxT K) (tVar 6) (tC (.int 2))) tNil)))) (gName 6)) tNext) (tRet (tTup (tCons (tVar 4) (tCons (tVar 6) tNil))))
        { nx := fun _ H' => Q .non H', rt := Q } [some (.ref a), some (.ref b), some (.int ((mostM ns.length : Nat) : Int)), some (.int way), some u4, some u5, some u6, none] Hx := fun Hx u4 u5 u6 f' g sb mdx r4 r6 pg mm => by
    refine q_when (et_and (et_test (ev_eqI (ev_var (R := rInt) (x := way) rfl rfl) ev_int)) (fun _ => et_test (ev_eqI (ev_lenS (ev_var (R := rSy K) rfl r6)) ev_int))) (fun c H4 e4 => ?_) (fun c H4 e4 => ?_)
    · rw [Bool.and_eq_true] at c
      obtain ⟨m, x, y, rfl⟩ := tl_mk c.2
      have md4 := mdx.up e4
      refine ⟨_, rfl, (by show 4 ≤ sizeLine; decide), fun p hp => ?_⟩
      have e5 := Same.hnew (o := .lst [.str "plus", .str "and", .str "leads", .str "same"]) hp
      have hpa : p ≠ a := by
        obtain ⟨_, _, _, _, _, ha, _⟩ := md4
        exact fun z => by subst z; rw [hp] at ha; cases ha
      refine ⟨a, p, _, k + 90, rfl, md4.up e5, hpa, upd_same, by simp, by simp, by omega, fun u H5 sb5 md5 hu => ?_⟩
      have hm : ∃ m : Mk, u = .str m.s := by
        simp only [List.mem_cons, List.not_mem_nil, or_false] at hu
        rcases hu with rfl | rfl | rfl | rfl
        · exact ⟨.plus, rfl⟩
        · exact ⟨.and, rfl⟩
        · exact ⟨.leads, rfl⟩
        · exact ⟨.same, rfl⟩
      obtain ⟨m', rfl⟩ := hm
      have le5 : Le Hx H5 := (Le.of (e4.trans e5)).trans ((md4.up e5).le sb5)
      have r6' := Mt.up (R := rSy K) le5 r6
      obtain ⟨pa, ux, uy, eu, g1, g2, g3⟩ := r6'
      refine ⟨_, rfl, pa, _, 1, ux, eu, rfl, g1, rfl, _, rfl, pa, _, 2, uy, eu, rfl, g1, rfl, by show 3 ≤ sizeLine; decide, fun p2 hp2 => ?_⟩
      have e6 := Same.hnew (o := .tup [.str m'.s, ux, uy]) hp2
      refine tail2 _ _ u4 (.ref p2) f' (.mk m' x y) rfl rfl (((sb.trans (SameB.of (e4.trans e5))).trans sb5).trans (SameB.of e6)) ((md5.up e6).mono (by omega)) (Mt.up (R := rSy K) (le5.trans (Le.of e6)) r4) ⟨p2, ux, uy, rfl, SqT.of upd_same, Mt.up (R := rSy K) (Le.of e6) g2, Mt.up (R := rSy K) (Le.of e6) g3⟩ ⟨pg.inf, pg.ing, pg.h1, pg.h2, pg.s1, ?_⟩ mm
      have := pg.s2
      simp only [stepsOf, List.length_append, List.length_cons, List.length_nil] at this ⊢
      exact this
    · exact tail2 _ _ u4 u6 f' g rfl rfl (sb.trans (SameB.of e4)) ((mdx.up e4).mono (by omega)) (Mo.up (R := rSy K) e4 r4) (Mo.up (R := rSy K) e4 r6) pg mm
  have md3 := md2.up e3
  have nm3 : Nm H3 b ns := e3 _ _ nm2
  have sb03 := sb02.trans (SameB.of e3)
  -- three parts
  refine q_lcB (ii_range1 (j := 3) ev_int (by decide) (by decide)) (Pv := fun H4 Dl i H' => ∃ (acc : List V) (ss : List Say), H' Dl = some (.lst acc) ∧ ss.length = i ∧ Paired (rSy K H') acc ss ∧ (∀ s ∈ ss, Sm3 ns s) ∧ Md H' a (k + 1 + 10 * i) ∧ (∀ x o, x ≠ a → H4 x = some o → H' x = some o) ∧ Le H4 H') (fun H4 Dl e4 hD => ?_) (fun H4 Dl i H' e4 hD pv => ?_) (fun H4 Dl i x v Hx Hy e4 hD hx pv eh hr => ?_) (fun H4 Dl H' e4 hD pv => ?_)
  · have e5 := Same.hnew (o := .lst []) hD
    exact ⟨[], [], upd_same, rfl, .nil, fun s hs => by simp at hs, ((md3.up e4).up e5).mono (by omega), fun x o _ h => e5 _ _ h, Le.of e5⟩
  · obtain ⟨_, _, _, _, _, _, _, _, le⟩ := pv
    exact le
  · obtain ⟨acc, ss, h1, h2, h3, h4, h5, h6, h7⟩ := pv
    have hi : i < 3 := by
      have := (List.getElem?_eq_some_iff.mp hx).1
      rw [ivs_len] at this
      exact this
    have mdy := h5.up eh
    have nmy : Nm Hy b ns := eh _ _ (h6 _ _ hb (e4 _ _ nm3))
    have hDa : Dl ≠ a := by
      obtain ⟨_, _, _, _, _, ha, _⟩ := md3.up e4
      exact fun z => by subst z; rw [hD] at ha; cases ha
    refine ⟨rfl, ?_⟩
    refine it_t' (Eq.refl true) ?_
    refine ⟨_, rfl, _, rfl, eb_draw (bl := 2) (va rfl) (ev_int (i := 2)) mdy (by decide) (by decide) (by omega) fun d H5 sb5 md5 d0 d1 => ?_⟩
    obtain ⟨n, hn'⟩ := Int.eq_ofNat_of_zero_le d0
    subst hn'
    refine ⟨a, b, ns, n, k + 1 + 10 * i + 1, rfl, md5, hb, sb5 _ _ hb nmy, hne, by omega, by omega, by omega, by omega, fun u H6 s sb6 md6 r g => ?_⟩
    have sby := sb5.trans sb6
    have ley := mdy.le sby
    have h16 := sby _ _ hDa (eh _ _ h1)
    have le7 : Le H6 (upd H6 Dl (.lst (acc ++ [u]))) := (Le.refl H6).mut h16 (fun z => z)
    have hl := h3.hlen
    have sb7 : SameB Dl H6 (upd H6 Dl (.lst (acc ++ [u]))) := SameB.upd
    have md7 : Md (upd H6 Dl (.lst (acc ++ [u]))) a (k + 1 + 10 * (i + 1)) := by
      obtain ⟨L', S, p, c, cells, g1, g2, g3, g4, g5, g6, g7, g8, g9⟩ := md6
      refine ⟨L', S, p, c, cells, sb7 _ _ (Ne.symm hDa) g1, g2, sb7 _ _ (fun z => ?_) g3, g4, g5, g6, g7, g8, by omega⟩
      subst z
      rw [h16] at g3
      have g3 : acc = cells.map V.int := by simpa using g3
      cases h3 with
      | nil => cases cells with
        | nil => exact g4 rfl
        | cons _ _ => cases g3
      | cons q1 q2 => cases cells with
        | nil => cases g3
        | cons y cells =>
          have e := (List.cons.inj g3).1
          have q1' := Mt.up (R := rSy K) ((Le.of eh).trans ley) q1
          obtain ⟨aa, _, e2, _⟩ := rSay_iff q1'
          rw [e] at e2; cases e2
    refine ⟨acc, h16, by rw [hl, h2]; exact Nat.lt_of_lt_of_le hi (by decide), acc ++ [u], ss ++ [s], upd_same, by simp [h2], ?_, ?_, md7, fun x o h8 h9 => ?_, ((h7.trans (Le.of eh)).trans ley).trans le7⟩
    · exact (h3.himp fun _ _ z => Mt.up (R := rSy K) (((Le.of eh).trans ley).trans le7) z).happ (.cons (Mt.up (R := rSy K) le7 r) .nil)
    · intro s' hs'
      rcases List.mem_append.mp hs' with z | z
      · exact h4 s' z
      · rw [List.mem_singleton.mp z]
        exact ⟨g.inn, by have := g.ht; omega, by have := g.sz; omega⟩
    · have : x ≠ Dl := ne_of_none h9 hD
      rw [upd_ne this]
      exact sby _ _ h8 (eh _ _ (h6 _ _ h8 h9))
  · obtain ⟨acc, ss, h1, h2, h3, h4, h5, h6, h7⟩ := pv
    rw [ivs_len] at h2 h5
    have h2 : ss.length = 3 := h2
    obtain ⟨A1, B1, C1, rfl⟩ : ∃ A B C, ss = [A, B, C] := by
      match ss, h2 with
      | [A, B, C], _ => exact ⟨A, B, C, rfl⟩
    have h5 : Md H' a (k + 1 + 10 * 3) := h5
    have rl : rL (rSy K) H' (.ref Dl) [A1, B1, C1] := ⟨Dl, acc, rfl, h1, h3⟩
    have sA := h4 A1 (by simp)
    have sB := h4 B1 (by simp)
    have sC := h4 C1 (by simp)
    have sb0' : SameB a H H' := fun x o hx h => h6 _ _ hx (e4 _ _ (sb03 _ _ hx h))
    refine eb_alike (va rfl) (ev_ixL (ev_var rfl rl) (ev_int (i := 0)) rfl) (ev_ixL (ev_var rfl rl) (ev_int (i := 1)) rfl) (ev_ixL (ev_var rfl rl) (ev_int (i := 2)) rfl) h5 (by omega) fun u H5 p sb5 md5 r hp => ?_
    refine g_tup2 r fun u4 u6 r4 r6 => ?_
    have pg := alike_g sA sB sC p hp
    have nm5 : Nm H5 b ns := sb5 _ _ hb (sb0' _ _ hb hn)
    have sb05 := sb0'.trans sb5
    refine q_when (et_test (ev_cmpI (f := fun i j => decide (i > j)) (ev_add (ev_call1 (ev_var (R := rSy K) (x := p.1) rfl r4) (by have := pg.h1; omega)) (ev_call1 (ev_var (R := rSy K) (x := p.2) rfl r6) (by have := pg.h2; omega))) (ev_var (R := rInt) (x := ((mostM ns.length : Nat) : Int)) rfl rfl))) (fun c H6 e6 => ?_) (fun c H6 e6 => ?_)
    · obtain ⟨xl, hxl, al⟩ := at_last hne
      obtain ⟨xf, hxf, af⟩ := at_first hne
      have md6 := md5.up e6
      have nm6 : Nm H6 b ns := e6 _ _ nm5
      have el : ∀ {σ : L2.St}, σ[1]? = some (some (.ref b)) → EvR (tTup (tCons (tC (.str "unknown")) (tCons (tOp (rIxL K) (tVar 1) (tUn (rU fun i => .int (-i)) (tC (.int 1)))) tNil))) σ H6 (rSy K) (.unk xl) := fun hσ => ev_unkS (ev_ixL (R := rStr) (ev_var hσ nm6.rl) (ev_neg ev_int) al)
      refine eb_alike (A := .unk xl) (B := .unk xf) (C := .neg (.unk xl)) (va rfl) (el rfl) (ev_unkS (ev_ixL (R := rStr) (ev_var rfl nm6.rl) (ev_int (i := 0)) af)) (ev_negS (el rfl)) md6 (by omega) fun u H7 p' sb7 md7 r hp' => ?_
      refine g_tup2 r fun u4 u6 r4 r6 => ?_
      have s1 : Sm3 ns (.unk xl) := ⟨hxl, by simp [Say.ht], by simp [stepsOf]⟩
      have s2 : Sm3 ns (.unk xf) := ⟨hxf, by simp [Say.ht], by simp [stepsOf]⟩
      have s3 : Sm3 ns (.neg (.unk xl)) := ⟨hxl, by simp [Say.ht], by simp [stepsOf]⟩
      have pg' := alike_g s1 s2 s3 p' hp'
      have mm := alike_m (A := .unk xl) (B := .unk xf) (C := .neg (.unk xl)) rfl rfl rfl p' hp'
      exact tail1 H7 u4 (.ref Dl) u6 p'.1 p'.2 ((sb05.trans (SameB.of e6)).trans sb7) (md7.mono (by omega)) r4 r6 pg' (by omega)
    · have mm := of_decide_eq_false c
      exact tail1 H6 u4 (.ref Dl) u6 p.1 p.2 (sb05.trans (SameB.of e6)) ((md5.up e6).mono (by omega)) (Mo.up (R := rSy K) e6 r4) (Mo.up (R := rSy K) e6 r6) pg (by omega)
end
end Hf


/-! ## Fa24 -/
set_option Elab.async false
set_option linter.all false
set_option maxRecDepth 100000
set_option maxHeartbeats 400000

namespace Hf
open PySem PySem.Spec PyProof.Rows L2 RZ
/-! ### a chain -/
def chainL (m : Mk) (ns : List Str) : Nat → Say
  | 0 => .unk (ns.getD 0 "")
  | n + 1 => .mk m (chainL m ns n) (.unk (ns.getD ((n + 1) % ns.length) ""))
section
variable {P : Program} {w : World} {K : PySem.W.Frag} {mg : Str → Option Value} {base : Heap}
def spLChain (K : PySem.W.Frag) : Sp := fun vs H Q _ => ∃ (m : Mk) (v1 : V) (n : Nat) (ns : List Str), vs = [.str m.s, v1, .int (n : Int)] ∧ rL rStr H v1 ns ∧ ns ≠ [] ∧ ns.length ≤ 10 ∧ n ≤ 10 ∧ ∀ u H', Same H H' → rSay K H' u (chainL m ns n) → Q u H'
theorem spLChain_len (vs : List V) (H : Hp) (Q : VK) (E : XK) (h : spLChain K vs H Q E) : vs.length = 3 := by obtain ⟨_, _, _, _, rfl, _⟩ := h; rfl
theorem at_getD {ns : List Str} {j : Nat} (h : j < ns.length) : atI ns (j : Int) = some (ns.getD j "") := by
  rw [atN h, List.getD_eq_getElem?_getD, List.getElem?_eq_getElem h]; rfl
theorem sc__law_chain : FnScope (["_law_mark", "_law_names", "_law_count", "_law_made", "_law_k"] : List Str) (["_law_mark", "_law_names", "_law_count"] : List Str) (defScope (top 80)) := ⟨rfl, rfl, rfl, by decide +kernel, rfl, by decide +kernel, by decide +kernel⟩
theorem ok__law_chain (D : Df K mg "_law_chain" (top 80)) (T : Bt mg) : Cal P w K mg base "_law_chain" 1 ["_law_mark", "_law_names", "_law_count"] (spLChain K) := by
  refine D.ok sc__law_chain (fun _ _ _ _ _ _ us hl => match us, hl with | [_, _, _], _ => rfl) (spLChain_len) (fun f cdv A outer s H vs Q E hr h => ?_)
  have nd := sc__law_chain.nd
  refine ⟨_, (pss_cons (ps_set (i := 3) nd rfl (Or.inl rfl) (pe_tup (pa_cons pe_str (pa_cons (pe_ix ix_list (pv 1) pe_int (fun _ _ => rfl)) pa_nil))))
    (pss_cons (ps_for PassesOwn.never rfl (pi_range1 rfl T.range (pa_cons (pv 2) pa_nil)) (pg_name (i := 4) nd rfl (Or.inl rfl)) (pss_one (ps_set (i := 3) nd rfl (Or.inl rfl) (pe_tup (pa_cons (pv 0) (pa_cons (pv 3) (pa_cons (pe_tup (pa_cons pe_str (pa_cons (pe_ix ix_list (pv 1) (pe_op op_modN (pe_op op_add (pv 4) pe_int) (pk_len T (pa_cons (pv 1) pa_nil))) (fun _ _ => rfl)) pa_nil))) pa_nil)))))))
    (pss_one (ps_ret (pv 3))))), ?_⟩
  obtain ⟨m, v1, n, ns, rfl, h1, hne, hl, hn, q⟩ := h
  have pos : 0 < ns.length := List.length_pos_iff.mpr hne
  refine q_set (R := rSy K) (x := chainL m ns 0) (ev_unkS (ev_ixL (R := rStr) (ev_var rfl h1) (ev_int (i := 0)) (at_getD (j := 0) pos))) (fun v3 H1 e1 r3 => ?_)
  refine q_for (I := fun H2 i σ' H' => ∃ u3 x4, σ' = [some (.str m.s), some v1, some (.int (n : Int)), some u3, x4] ∧ rSay K H' u3 (chainL m ns i) ∧ Same H2 H') (ii_range1 (ev_var (R := rInt) (x := (n : Int)) rfl rfl) (by omega)) (fun H2 e2 => ⟨_, _, rfl, Mo.up (R := rSy K) e2 r3, Same.refl _⟩) (fun H2 i σ' H' e2 z => ?_) (fun H2 i x σ' H' v' H'' e2 hx z e3 r => ?_) (fun H2 σ' H' e2 z => ?_)
  · obtain ⟨_, _, _, _, sb⟩ := z
    exact Le.of sb
  · obtain ⟨u3, x4, rfl, g3, sb⟩ := z
    have e0 := ((e1.trans e2).trans sb).trans e3
    have hi : i < n := by
      have := (List.getElem?_eq_some_iff.mp hx).1
      rw [ivs_len] at this
      omega
    have hx' : x = (i : Int) := by
      rw [ivs_get (by omega)] at hx
      have := Option.some.inj hx
      omega
    subst hx'
    cases r
    have hat : atI ns (((i : Int) + 1).fmod (ns.length : Int)) = some (ns.getD ((i + 1) % ns.length) "") := by
      rw [← at_getD (Nat.mod_lt (i + 1) pos)]
      congr 1
    refine s_set (R := rSy K) (x := chainL m ns (i + 1)) (ev_mkS (ev_var (R := rMk) (x := m) rfl rfl) (ev_var rfl (Mo.up (R := rSy K) e3 g3)) (ev_unkS (ev_ixL (R := rStr) (ev_var rfl (Mo.up e0 h1)) (ev_mod (ev_add (ev_var (R := rInt) (x := (i : Int)) rfl rfl) ev_int) (ev_lenL (ev_var rfl (Mo.up e0 h1))) (by omega)) hat))) (fun v H6 e7 r6 => ⟨v, some (.int (i : Int)), rfl, r6, (sb.trans e3).trans e7⟩)
  · obtain ⟨u3, x4, rfl, g3, sb⟩ := z
    rw [ivs_len] at g3
    have ht : ((n : Int)).toNat = n := by omega
    rw [ht] at g3
    exact s_ret (R := rSy K) (x := chainL m ns n) (ev_var rfl g3) (fun v H6 e7 r6 => q v H6 (((e1.trans e2).trans sb).trans e7) r6)
end
section
variable {K : PySem.W.Frag} {σ : L2.St} {H : Hp} {t1 : TE}
theorem ev_chainS {m : Mk} {n : Nat} {ns : List Str} (h1 : EvR t1 σ H (rL rStr) ns) (hne : ns ≠ []) (hl : ns.length ≤ 10) (hn : n ≤ 10) : EvR (tCall (spLChain K) [] E0 (tCons (tC (.str m.s)) (tCons t1 (tCons (tC (.int (n : Int))) tNil)))) σ H (rSy K) (chainL m ns n) := fun H0 e Q q =>
  h1 H0 e _ fun v1 H1 e1 r1 => ⟨m, v1, n, ns, rfl, r1, hne, hl, hn, fun u H' e2 r => q u H' (e1.trans e2) r⟩
end
/-! ### the draws begun -/
section
variable {K : PySem.W.Frag} {σ : L2.St} {H H' : Hp} {ta tb te tl : TE} {t u : TT} {v : V} {α β γ δ : Type} {R : Rl α} {S : Rl β} {T : Rl γ} {x : α} {y : β} {D : Ends} {ts tz tu : TS} {xs : List α}
theorem ii_lstS [Mo R] (h : EvR tl σ H (rS K R) xs) : EvI Same (iList K tl) σ H R xs := fun H1 e Rq q => h H1 e _ fun v H2 e2 ⟨a, vs, h1, h2, h3⟩ => by
  have up : ∀ {H' : Hp}, Same H2 H' → SqL K H' a vs := fun l => l.seq h2
  refine ⟨a, h1, ⟨vs, h2⟩, q _ H2 e2 ⟨fun i H' l hi => ?_, fun H' l => ⟨vs, up l, Nat.le_of_eq h3.hlen⟩, fun i H' v H'' l hi y => ?_⟩⟩
  · have hi' : i < vs.length := by rw [h3.hlen]; exact hi
    exact ⟨vs, vs[i], up l, List.getElem?_eq_getElem hi'⟩
  · obtain ⟨e, y⟩ := y
    subst e
    obtain ⟨x, hx, r⟩ := h3.hgetL (y vs (up l))
    exact ⟨Same.refl _, x, hx, Mo.up l r⟩
theorem ev_pow {i j : Int} (ha : EvR ta σ H rInt i) (hb : EvR tb σ H rInt j) (hc : CPow i j) : EvR (tOp (rI CPow fun i j => .int (i ^ j.toNat)) ta tb) σ H rInt (i ^ j.toNat) :=
  ev_op ha hb fun v u H1 _ r1 r2 Q q => by
    cases r1
    cases r2
    exact ⟨_, _, rfl, rfl, hc, q _ H1 (Same.refl H1) rfl⟩
theorem paired_ints {Hx : Hp} : ∀ {vs : List V} {xs : List Int}, Paired (rInt Hx) vs xs → vs = xs.map V.int
  | _, _, .nil => rfl
  | _, _, .cons h t => by rw [paired_ints t, show _ = V.int _ from h]; rfl
theorem Same.over {p : Addr} {o : HO} (e : Same H H') (h : H p = none) : Same H (upd H' p o) := fun b o' hb => by
  have : b ≠ p := ne_of_none hb h
  rw [upd_ne this]
  exact e _ _ hb
end
section
variable {P : Program} {w : World} {K : PySem.W.Frag} {mg : Str → Option Value} {base : Heap}
def spBegun (K : PySem.W.Frag) : Sp := fun vs H Q _ => ∃ (v0 : V) (k : Nat) (xs : List Int), vs = [v0, .int (k : Int)] ∧ rS K rInt H v0 xs ∧ xs.length ≤ 63 ∧ k < 3 ∧ ∀ (a : Addr) (H' : Hp), H a = none → Same H H' → Md H' a 0 → Q (.ref a) H'
theorem spBegun_len (vs : List V) (H : Hp) (Q : VK) (E : XK) (h : spBegun K vs H Q E) : vs.length = 2 := by obtain ⟨_, _, _, rfl, _⟩ := h; rfl
theorem sc__law_begun : FnScope (["_law_script", "_law_k", "_law_cells", "_law_great", "_law_begun_here", "_law_cell"] : List Str) (["_law_script", "_law_k"] : List Str) (defScope (top 68)) := ⟨rfl, rfl, rfl, by decide +kernel, rfl, by decide +kernel, by decide +kernel⟩
theorem ok__law_begun (D : Df K mg "_law_begun" (top 68)) (T : Bt mg) : Cal P w K mg base "_law_begun" 1 ["_law_script", "_law_k"] (spBegun K) := by
  refine D.ok sc__law_begun (fun _ _ _ _ _ _ us hl => match us, hl with | [_, _], _ => rfl) (spBegun_len) (fun f cdv A outer s H vs Q E hr h => ?_)
  have nd := sc__law_begun.nd
  refine ⟨_, (pss_cons (ps_set (i := 2) nd rfl (Or.inl rfl) (pe_op op_cat (pe_slice sl_list (pv 0) (po_some (pv 1)) po_none) (pe_slice sl_list (pv 0) po_none (po_some (pv 1)))))
    (pss_cons (ps_setLc (i := 3) (own := [("_law_cell", 5)]) rfl nd rfl rfl (sw_true rfl rfl rfl (by decide +kernel)) (pi_list (pv 0)) (blkOk_by (by walk_at "blk")) (fun _ _ _ _ _ => (pg_name (i := 5) nd rfl (Or.inl rfl))) (fun _ _ _ _ _ => (pts_one (pt_cmpR op_ge (pv 5) (pe_op op_pow pe_int pe_int) (nomark _)))) (fun _ _ _ _ _ => (pv 5)))
    (pss_cons (ps_set (i := 4) nd rfl (Or.inl rfl) (pe_op op_add pe_int (pe_op op_mul pe_int (pv 1))))
    (pss_cons (ps_for PassesOwn.never rfl (pi_list (pv 2)) (pg_name (i := 5) nd rfl (Or.inl rfl)) (pss_one (ps_set (i := 4) nd rfl (Or.inl rfl) (pe_op op_modN (pk_int T (pa_cons (pe_op op_add (pe_op op_mul (pv 4) pe_int) (pv 5)) pa_nil)) pe_int))))
    (pss_one (ps_ret (pe_disp (pps_cons pe_str (pe_ifExp (pt_cmpR op_lt (pv 1) (pk_len T (pa_cons (pv 3) pa_nil)) (nomark _)) (pe_ix ix_list (pv 3) (pv 1) (fun _ _ => rfl)) pe_int) (pps_cons pe_str (pv 4) (pps_cons pe_str (pe_op op_cat (pv 2) (pe_lst (pa_cons (pe_op op_add (pe_op op_mul pe_int (pv 1)) pe_int) pa_nil))) (pps_cons pe_str pe_int pps_nil)))) (by rfl) (by rfl) (fun z => by cases z) (by decide)))))))), ?_⟩
  obtain ⟨v0, k, xs, rfl, h0, hl, hk, q⟩ := h
  have cl : ∀ lo hi : Option Int, (cutA xs lo hi).length ≤ 63 := fun lo hi => by
    unfold cutA
    rw [List.length_take, List.length_drop]
    omega
  refine q_set (R := rL rInt) (ev_cat (ev_slS (ev_var rfl h0) (eo_some (ev_var (R := rInt) (x := (k : Int)) rfl rfl)) eo_none) (ev_slS (ev_var rfl h0) eo_none (eo_some (ev_var (R := rInt) (x := (k : Int)) rfl rfl))) (by have := cl (some (k : Int)) none; have := cl none (some (k : Int)); omega)) (fun v2 H1 e1 r2 => ?_)
  generalize hC : cutA xs (some (k : Int)) none ++ cutA xs none (some (k : Int)) = cells at *
  have hCl : cells.length ≤ 126 := by
    rw [← hC, List.length_append]
    have := cl (some (k : Int)) none; have := cl none (some (k : Int)); omega
  refine q_set (R := rL rInt) (ev_lcF (R := rInt) (S := rInt) (KP := Same) (fun y => decide (y ≥ 10 ^ 18)) (fun y => y) (ii_lstS (ev_var rfl (Mo.up (R := rS K rInt) e1 h0))) (fun _ _ _ e => e) (by omega) (fun v => rfl)
      (fun y hy v H' e r => et_test (ev_cmpI (f := fun i j => decide (i ≥ j)) (ev_var (R := rInt) rfl r) (ev_pow (ev_int (i := 10)) (ev_int (i := 18)) ⟨by decide, by decide, by decide⟩))) (fun y hy _ v H' e r => ev_var rfl r)) (fun v3 H2 e2 r3 => ?_)
  rw [List.map_id'] at r3
  generalize hG : xs.filter (fun y => decide (y ≥ 10 ^ 18)) = great at *
  have hGp : ∀ y ∈ great, 0 ≤ y := fun y hy => by
    rw [← hG] at hy
    have := of_decide_eq_true (List.mem_filter.mp hy).2
    omega
  have hGl : great.length ≤ 63 := by
    rw [← hG]
    exact Nat.le_trans (List.length_filter_le _ _) hl
  refine q_set (R := rInt) (x := 53 + 8 * (k : Int)) (ev_add ev_int (ev_mul (ev_int (i := 8)) (ev_var (R := rInt) (x := (k : Int)) rfl rfl) (.inl ⟨by decide, by decide⟩))) (fun v4 H3 e3 r4 => ?_)
  cases r4
  have e13 := (e1.trans e2).trans e3
  refine q_for (I := fun H4 i σ' H' => ∃ (S : Int) (x5 : Option V), σ' = [some v0, some (.int (k : Int)), some v2, some v3, some (.int S), x5] ∧ (0 ≤ S ∧ S < 2147483647) ∧ Same H4 H') (ii_lst (R := rInt) (ev_var rfl (Mo.up (e2.trans e3) r2))) (fun H4 e4 => ⟨_, _, rfl, ⟨by omega, by omega⟩, Same.refl _⟩) (fun H2 i σ' H' e2 z => ?_) (fun H2 i x σ' H' v' H'' e2 hx z e3 r => ?_) (fun H4 σ' H' e4 z => ?_)
  · obtain ⟨_, _, _, _, sb⟩ := z
    exact sb
  · obtain ⟨S, x5, rfl, ⟨s0, s1⟩, sb⟩ := z
    have fi := fmod_in (i := S * 48271 + x) (j := 2147483647) (by decide)
    refine s_set (R := rInt) (ev_mod (ev_int1 (ev_add (ev_mul (ev_var (R := rInt) (x := S) rfl rfl) (ev_int (i := 48271)) (.inr ⟨by decide, by decide⟩)) (ev_var (R := rInt) rfl r))) (ev_int (i := 2147483647)) (by decide)) (fun v H6 e7 r6 => ?_)
    cases r6
    exact ⟨_, some v', rfl, fi, (sb.trans e3).trans e7⟩
  · obtain ⟨S, x5, rfl, ⟨s0, s1⟩, sb⟩ := z
    have e03 := e13
    have e24 := (e2.trans e3).trans (e4.trans sb)
    have e34 := e3.trans (e4.trans sb)
    have E0 := e13.trans (e4.trans sb)
    show tRet _ _ _ _
    refine fun p hp => ?_
    have ep := Same.hnew (o := .dK []) hp
    have lf : EvR (tIf (tTest (tOp (rI0 fun i j => .bl (decide (i < j))) (tVar 1) (tCB (rLenS K) (tCons (tVar 3) tNil)))) (tOp (rIxL K) (tVar 3) (tVar 1)) (tC (.int 0))) [some v0, some (.int (k : Int)), some v2, some v3, some (.int S), x5] (upd H' p (.dK [])) rInt (great.getD k 0) := by
      refine ev_if' (b := decide (((k : Nat) : Int) < (great.length : Int))) (et_test (ev_cmpI (f := fun i j => decide (i < j)) (ev_var (R := rInt) rfl rfl) (ev_lenL (ev_var rfl (Mo.up (e34.trans ep) r3))))) (fun c => ?_) (fun c => ?_)
      · have c := of_decide_eq_true c
        exact ev_ixL (R := rInt) (ev_var rfl (Mo.up (e34.trans ep) r3)) (ev_var (R := rInt) (x := (k : Int)) rfl rfl) (by rw [atN (by omega), List.getD_eq_getElem?_getD, List.getElem?_eq_getElem (by omega)]; rfl)
      · have c := of_decide_eq_false c
        have : great.getD k 0 = 0 := by rw [List.getD_eq_getElem?_getD, List.getElem?_eq_none (by omega)]; rfl
        rw [this]
        exact ev_int
    have lp : 0 ≤ great.getD k 0 := by
      rw [List.getD_eq_getElem?_getD]
      cases h : great[k]? with
      | none => exact Int.le_refl _
      | some y => exact hGp y (List.mem_of_getElem? h)
    refine lf _ (Same.refl _) _ fun vl H5 e5 rl => ?_
    cases rl
    refine ⟨_, rfl, ?_⟩
    refine (ev_cat (ev_var rfl (Mo.up ((e24.trans ep).trans e5) r2)) (ev_lst (xs := [41 * (k : Int) + 13]) (ei_cons (ev_add (ev_mul (ev_int (i := 41)) (ev_var (R := rInt) (x := (k : Int)) rfl rfl) (.inl ⟨by decide, by decide⟩)) (ev_int (i := 13))) ei_nil) (by simp)) (by simp; omega)) _ (Same.refl _) _ fun vc H6 e6 rc => ?_
    obtain ⟨c, us, rfl, c1, c2⟩ := rc
    have eu := paired_ints c2
    subst eu
    have hp6 : H6 p = some (.dK []) := (e5.trans e6) _ _ upd_same
    have ncp : c ≠ p := fun z => by subst z; rw [hp6] at c1; cases c1
    refine ⟨hp6, [(Sum.inr "left", .int (great.getD k 0)), (Sum.inr "seed", .int S), (Sum.inr "cells", .ref c), (Sum.inr "spot", .int 0)], rfl, (by show 4 ≤ 15; decide), ?_⟩
    have eH := (E0.trans (Same.over (o := .dK (mdK (.int (great.getD k 0)) (.int S) (.ref c) (.int 0))) (ep.trans (e5.trans e6)) hp))
    refine q p _ (E0.hback hp) eH ⟨_, S, 0, c, _, upd_same, ncp, (by rw [upd_ne ncp]; exact c1), by simp, by simp; omega, lp, ⟨s0, by omega⟩, by decide, by decide⟩
end
end Hf


/-! ## Fa25 -/
set_option Elab.async false
set_option linter.all false
set_option maxRecDepth 100000
set_option maxHeartbeats 400000

namespace Hf
open PySem PySem.Spec PyProof.Rows L2 RZ
/-! ### what is read as data -/
mutual
theorem dp_up {K : PySem.W.Frag} {H H' : Hp} (e : Same H H') : ∀ (d : PyData) (v : V), Dp K H v d → Dp K H' v d
  | .none, _, h => by cases h; exact .non
  | .bool b, _, h => by cases h; exact .bl b
  | .int i, _, h => by cases h; exact .int i
  | .str x, _, h => by cases h; exact .str x
  | .list ds, _, h => by
    cases h with
    | lst h1 h2 => exact .lst (e.seq h1) (dpa_up e ds _ h2)
  | .tuple ds, _, h => by
    cases h with
    | tup h1 h2 => exact .tup ((Le.of e).seqT h1) (dpa_up e ds _ h2)
theorem dpa_up {K : PySem.W.Frag} {H H' : Hp} (e : Same H H') : ∀ (ds : List PyData) (vs : List V), DpAll K H vs ds → DpAll K H' vs ds
  | [], _, h => by cases h; exact .nil
  | d :: ds, _, h => by
    cases h with
    | cons h1 h2 => exact .cons (dp_up e d _ h1) (dpa_up e ds _ h2)
end
def rD (K : PySem.W.Frag) : Rl PyData := fun H v d => Dp K H v d
instance {K : PySem.W.Frag} : Mo (rD K) := ⟨fun e h => dp_up e _ _ h⟩
def foundD : Option (Nat × List (Int × Int)) → PyData
  | none => .none
  | some (d, ps) => .tuple [.int (d : Int), .tuple (ps.map fun p => .tuple [.int p.1, .int p.2])]
theorem dpa_pairs {K : PySem.W.Frag} {H : Hp} : ∀ {vs : List V} {ps : List (Int × Int)}, Paired (r2 K rInt rInt H) vs ps → DpAll K H vs (ps.map fun p => .tuple [.int p.1, .int p.2])
  | _, _, .nil => .nil
  | _, _, .cons h t => .cons (dp_pair h) (dpa_pairs t)
theorem dp_found {K : PySem.W.Frag} {H : Hp} {v : V} : ∀ {x : Option (Nat × List (Int × Int))}, rFound K H v x → Dp K H v (foundD x)
  | none, h => by
    have h : v = .non := h
    subst h
    exact .non
  | some (d, ps), h => by
    obtain ⟨_, a, u, w, e, h1, h2, b, vs, e2, h3, h4⟩ := h
    subst e
    have e2 : w = .ref b := e2
    subst e2
    have h2 : u = .int ((d : Nat) : Int) := h2
    subst h2
    exact .tup h1 (.cons (.int _) (.cons (.tup h3 (dpa_pairs h4)) .nil))
def wordD (f g : Say) (way : Nat) : PyData := if way = 0 then (match cz f g with
  | some x => .str x
  | none => .int (boundF f g)) else (match lz f g with
  | some x => .str x
  | none => foundD (srch f g (boundN f g)))
section
variable {P : Program} {w : World} {K : PySem.W.Frag} {mg : Str → Option Value} {base : Heap}
def spWord (K : PySem.W.Frag) (n : Nat) : Sp := fun vs H Q _ => ∃ (v0 v1 : V) (way : Nat) (f g : Say), vs = [v0, v1, .int (way : Int)] ∧ rSay K H v0 f ∧ rSay K H v1 g ∧ PairOk n f g ∧ ∀ u H', Same H H' → Dp K H' u (wordD f g way) → Q u H'
theorem spWord_len {n : Nat} (vs : List V) (H : Hp) (Q : VK) (E : XK) (h : spWord K n vs H Q E) : vs.length = 3 := by obtain ⟨_, _, _, _, _, rfl, _⟩ := h; rfl
theorem sc__law_word : FnScope (["_law_first", "_law_second", "_law_way", "_law_found_here", "e"] : List Str) (["_law_first", "_law_second", "_law_way"] : List Str) (defScope (top 88)) := ⟨rfl, rfl, rfl, by decide +kernel, rfl, by decide +kernel, by decide +kernel⟩
theorem ok__law_word (D : Df K mg "_law_word" (top 88)) (TM : TmD K mg) {n : Nat} (C_denominator_bound : CalX P w K mg base (L2.CX P w) "denominator_bound" (n + 5) ["first", "second"] (spDen K mg n)) (C_least_parting : CalX P w K mg base (L2.CX P w) "least_parting" (n + 10) ["first", "second"] (spLeast2 K mg n)) : Cal P w K mg base "_law_word" (n + 11) ["_law_first", "_law_second", "_law_way"] (spWord K n) := by
  refine D.ok sc__law_word (fun _ _ _ _ _ _ us hl => match us, hl with | [_, _, _], _ => rfl) (spWord_len) (fun f cdv A outer s H vs Q E hr h => ?_)
  have nd := sc__law_word.nd
  refine ⟨_, (pss_cons (ps_try_as (i := 4) (tb := fun W => tAsg (tIf (tTest (tOp rEq (tVar 2) (tC (.int 0)))) (tCallS (spDen K mg n) (WE W) (tCons (tVar 0) (tCons (tVar 1) tNil))) (tCallS (spLeast2 K mg n) (WE W) (tCons (tVar 0) (tCons (tVar 1) tNil)))) (gName 3)) (ts := fun a cls d => tAsg (tXf a cls d (tmA mg) "what" (tVar 4)) (gName 3)) (Wout := fun _ _ _ _ => False) rfl rfl nd rfl rfl ⟨rfl, by decide, Or.inl TM.gl⟩ takes0
      (fun W pn xe tk _ => pss_one (ps_set (i := 3) nd rfl (Or.inl rfl) (pe_ifExp (pt_cmpR op_eq (pv 2) pe_int (nomark _)) (pk_callS C_denominator_bound hr tk (pa_cons (pv 0) (pa_cons (pv 1) pa_nil))) (pk_callS C_least_parting hr tk (pa_cons (pv 0) (pa_cons (pv 1) pa_nil))))))
      (fun a oe cls d pn hz hf => pss_one (ps_set (i := 3) nd rfl (Or.inl rfl) (pe_xf TM.xf TM.nw hz hf (pv 4)))))
    (pss_one (ps_ret (pv 3)))), ?_⟩
  obtain ⟨v0, v1, way, f', g, rfl, h0, h1, pk, q⟩ := h
  have ret : ∀ (H' : Hp) (u : V) (d : PyData), Same H H' → Dp K H' u d → d = wordD f' g way → tRet (tVar 3) { nx := fun _ H' => Q .non H', rt := Q } [some v0, some v1, some (.int (way : Int)), some u, none] H' := fun H' u d e hd ed =>
    s_ret (R := rD K) (x := d) (ev_var rfl hd) (fun v H2 e2 r => q v H2 (e.trans e2) (ed ▸ r))
  have thr : ∀ (H1 : Hp) (x : Str), Same H H1 → wordD f' g way = .str x → Thr mg H1 (fun cls d H' => wAs K (.ref (tmA mg)) 4 (fun a cls d => tAsg (tXf a cls d (tmA mg) "what" (tVar 4)) (gName 3)) (fun _ _ _ _ => False) { nx := tRet (tVar 3) { nx := fun _ H' => Q .non H', rt := Q }, rt := Q } cls d [some v0, some v1, some (.int (way : Int)), none, none] H') x := fun H1 x e ex H' d e' hd => by
    refine ⟨true, TM.te, fun _ a ha => ?_, fun z => by cases z⟩
    refine ⟨_, rfl, rfl, rfl, d, _, .str x, rfl, upd_same, rfl, ?_⟩
    exact ret _ (.str x) (.str x) ((e.trans e').trans (Same.hnew hd)) (.str x) ex.symm
  refine t_if (b := decide ((way : Int) = 0)) (et_test (ev_eqI (ev_var (R := rInt) (x := (way : Int)) rfl rfl) ev_int)) (fun c H1 e1 => ?_) (fun c H1 e1 => ?_)
  · have c := of_decide_eq_true c
    have w0 : way = 0 := by omega
    refine ⟨_, rfl, _, rfl, v0, v1, f', g, rfl, Mo.up (R := rSy K) e1 h0, Mo.up (R := rSy K) e1 h1, pk, fun x hx => thr H1 x e1 ?_, fun hx H' e' => ret H' _ (.int (boundF f' g)) (e1.trans e') (.int _) ?_⟩
    · unfold wordD; rw [if_pos w0, hx]
    · unfold wordD; rw [if_pos w0, hx]
  · have c := of_decide_eq_false c
    have w0 : way ≠ 0 := by omega
    refine ⟨_, rfl, _, rfl, v0, v1, f', g, rfl, Mo.up (R := rSy K) e1 h0, Mo.up (R := rSy K) e1 h1, pk, fun x hx => thr H1 x e1 ?_, fun hx u H' e' r => ret H' u _ (e1.trans e') (dp_found r) ?_⟩
    · unfold wordD; rw [if_neg w0, hx]
    · unfold wordD; rw [if_neg w0, hx]
end
section
variable {K : PySem.W.Frag} {σ : L2.St} {H : Hp} {t1 t2 t3 : TE} {f g : Say} {n way : Nat}
theorem ev_word (h1 : EvR t1 σ H (rSy K) f) (h2 : EvR t2 σ H (rSy K) g) (h3 : EvR t3 σ H rInt (way : Int)) (pk : PairOk n f g) : EvR (tCall (spWord K n) [] E0 (tCons t1 (tCons t2 (tCons t3 tNil)))) σ H (rD K) (wordD f g way) := fun H0 e Q q =>
  h1 H0 e _ fun v1 H1 e1 r1 => h2 H1 (e.trans e1) _ fun v2 H2 e2 r2 => h3 H2 ((e.trans e1).trans e2) _ fun v3 H3 e3 r3 => by
    cases r3
    exact ⟨v1, v2, way, f, g, rfl, Mo.up (R := rSy K) (e2.trans e3) r1, Mo.up (R := rSy K) e3 r2, pk, fun u H' e4 r => q u H' (((e1.trans e2).trans e3).trans e4) r⟩
end
end Hf


/-! ## Fa26 -/
set_option Elab.async false
set_option linter.all false
set_option maxRecDepth 100000
set_option maxHeartbeats 400000

namespace Hf
open PySem PySem.Spec PyProof.Rows L2 RZ
def five : Say := chainL .plus ["x"] 5
def six : Say := chainL .plus ["x"] 6
def three : Say := chainL .plus ["x", "y", "z"] 3
def two : Say := chainL .plus ["z", "y", "x"] 2
def four : Say := .mk .plus (.unk "u") (.unk "v")
theorem v1 : lz five six = none := by decide +kernel
theorem v2 : cz six five = none := by decide +kernel
theorem v3 : boundF six five = 7 := by decide +kernel
theorem v4 : srch five six (boundN five six) = some (7, [(1, 7)]) := by decide +kernel
theorem v5 : lz three two = none := by decide +kernel
theorem v6 : srch three two (boundN three two) = some (2, [(1, 2), (0, 1), (0, 1)]) := by decide +kernel
theorem v7 : lz three three = some ("marks" : Str) := by decide +kernel
theorem v8 : cz three three = none := by decide +kernel
theorem v9 : boundF three three = 8 := by decide +kernel
theorem v10 : cz three four = some ("unknowns" : Str) := by decide +kernel
theorem v11 : cz six (.mk .plus six six) = some ("marks" : Str) := by decide +kernel
theorem w1 : wordD five six 1 = .tuple [.int 7, .tuple [.tuple [.int 1, .int 7]]] := by
  unfold wordD
  rw [if_neg (by decide), v1, v4]
  rfl
theorem w2 : wordD six five 0 = .int 7 := by
  unfold wordD
  rw [if_pos rfl, v2, v3]
theorem w3 : wordD three two 1 = .tuple [.int 2, .tuple [.tuple [.int 1, .int 2], .tuple [.int 0, .int 1], .tuple [.int 0, .int 1]]] := by
  unfold wordD
  rw [if_neg (by decide), v5, v6]
  rfl
theorem w4 : wordD three three 1 = .str "marks" := by
  unfold wordD
  rw [if_neg (by decide), v7]
theorem w5 : wordD three three 0 = .int 8 := by
  unfold wordD
  rw [if_pos rfl, v8, v9]
theorem word_str {f g : Say} {x : Str} (h : cz f g = some x) (way : Nat) : wordD f g way = .str x := by
  unfold wordD lz
  rw [h]
  split <;> rfl
section
variable {K : PySem.W.Frag} {σ : L2.St} {H : Hp} {te : TE} {ta : TA}
theorem ed_int {i : Int} : EvR (tC (.int i)) σ H (rD K) (.int i) := fun H1 _ _ q => q _ H1 (Same.refl H1) (.int i)
theorem ed_str {x : Str} : EvR (tC (.str x)) σ H (rD K) (.str x) := fun H1 _ _ q => q _ H1 (Same.refl H1) (.str x)
theorem dpa_of {H : Hp} : ∀ {vs : List V} {ds : List PyData}, Paired (rD K H) vs ds → DpAll K H vs ds
  | _, _, .nil => .nil
  | _, _, .cons h t => .cons h (dpa_of t)
theorem ed_tup {ds : List PyData} (h : EvA ta σ H (Items (rD K) ds)) (hz : ds.length ≤ 1000) : EvR (tTup ta) σ H (rD K) (.tuple ds) := fun H1 e _ q =>
  h H1 e _ fun vs H2 e2 r2 => by
    have r2' : Paired (rD K H2) vs ds := r2
    refine ⟨by rw [r2'.hlen]; exact Nat.le_trans hz (by decide), fun p hp => ?_⟩
    have e3 := Same.hnew (o := .tup vs) hp
    exact q _ _ (e2.trans e3) (.tup (SqT.of upd_same) (dpa_up e3 _ _ (dpa_of r2')))
theorem dp_list {H : Hp} {v : V} {ds : List PyData} (h : rL (rD K) H v ds) : Dp K H v (.list ds) := by
  obtain ⟨a, vs, e, h1, h2⟩ := h
  subst e
  exact .lst (SqL.of h1) (dpa_of h2)
theorem dpa_strs {H : Hp} : ∀ {vs : List V} {xs : List Str}, Paired (rStr H) vs xs → DpAll K H vs (xs.map PyData.str)
  | _, _, .nil => .nil
  | _, _, .cons h t => .cons (by rw [show _ = V.str _ from h]; exact .str _) (dpa_strs t)
theorem dp_strs {H : Hp} {v : V} {xs : List Str} (h : rL rStr H v xs) : Dp K H v (.list (xs.map PyData.str)) := by
  obtain ⟨a, vs, e, h1, h2⟩ := h
  subst e
  exact .lst (SqL.of h1) (dpa_strs h2)
theorem d_int {i : Int} {d : PyData} (h : EvR te σ H (rD K) d) (e : d = .int i) : EvR te σ H rInt i := fun H1 e1 Q q => h H1 e1 Q fun v H2 e2 r => q v H2 e2 (by
  subst e
  have r : Dp K H2 v (.int i) := r
  cases r
  rfl)
theorem d_str {x : Str} {d : PyData} (h : EvR te σ H (rD K) d) (e : d = .str x) : EvR te σ H rStr x := fun H1 e1 Q q => h H1 e1 Q fun v H2 e2 r => q v H2 e2 (by
  subst e
  have r : Dp K H2 v (.str x) := r
  cases r
  rfl)
end
section
variable {P : Program} {w : World} {K : PySem.W.Frag} {mg : Str → Option Value} {base : Heap}
def spRight : Sp := fun vs H Q _ => vs = [] ∧ ∀ H', Same H H' → Q (.bl true) H'
theorem spRight_len (vs : List V) (H : Hp) (Q : VK) (E : XK) (h : spRight vs H Q E) : vs.length = 0 := by rw [h.1]; rfl
theorem sc__law_bounds_right : FnScope (["_law_six", "_law_five", "_law_three", "_law_two", "_law_some", "_law_four", "_law_way"] : List Str) ([] : List Str) (defScope (top 89)) := ⟨rfl, rfl, rfl, by decide +kernel, rfl, by decide +kernel, by decide +kernel⟩
theorem ok__law_bounds_right (D : Df K mg "_law_bounds_right" (top 89)) (T : Bt mg) (C__law_chain : Cal P w K mg base "_law_chain" 1 ["_law_mark", "_law_names", "_law_count"] (spLChain K)) (C__law_word : Cal P w K mg base "_law_word" 75 ["_law_first", "_law_second", "_law_way"] (spWord K 64)) : Cal P w K mg base "_law_bounds_right" 76 [] spRight := by
  refine D.ok sc__law_bounds_right (fun _ _ _ _ _ _ us hl => match us, hl with | [], _ => rfl) (spRight_len) (fun f cdv A outer s H vs Q E hr h => ?_)
  have nd := sc__law_bounds_right.nd
  refine ⟨_, (pss_cons (ps_asg (pe_tup (pa_cons (pk_call C__law_chain hr (pa_cons pe_str (pa_cons (pe_lst (pa_cons pe_str pa_nil)) (pa_cons pe_int pa_nil)))) (pa_cons (pk_call C__law_chain hr (pa_cons pe_str (pa_cons (pe_lst (pa_cons pe_str pa_nil)) (pa_cons pe_int pa_nil)))) pa_nil))) (pg_tup rfl (pgs_cons (pg_name (i := 0) nd rfl (Or.inr rfl)) (pgs_cons (pg_name (i := 1) nd rfl (Or.inl rfl)) pgs_nil))))
    (pss_cons (ps_if (PW.pt (pw_or (pt_cmpR (op_neD hr.units) (pk_call C__law_word hr (pa_cons (pv 1) (pa_cons (pv 0) (pa_cons pe_int pa_nil)))) (pe_tup (pa_cons pe_int (pa_cons (pe_tup (pa_cons (pe_tup (pa_cons pe_int (pa_cons pe_int pa_nil))) pa_nil)) pa_nil))) (nomark _)) (pw_or1 (pt_cmpR op_ne (pk_call C__law_word hr (pa_cons (pv 0) (pa_cons (pv 1) (pa_cons pe_int pa_nil)))) pe_int (nomark _))))) (pss_one (ps_ret pe_bl)) pss_nil)
    (pss_cons (ps_asg (pe_tup (pa_cons (pk_call C__law_chain hr (pa_cons pe_str (pa_cons (pe_lst (pa_cons pe_str (pa_cons pe_str (pa_cons pe_str pa_nil)))) (pa_cons pe_int pa_nil)))) (pa_cons (pk_call C__law_chain hr (pa_cons pe_str (pa_cons (pe_lst (pa_cons pe_str (pa_cons pe_str (pa_cons pe_str pa_nil)))) (pa_cons pe_int pa_nil)))) pa_nil))) (pg_tup rfl (pgs_cons (pg_name (i := 2) nd rfl (Or.inr rfl)) (pgs_cons (pg_name (i := 3) nd rfl (Or.inl rfl)) pgs_nil))))
    (pss_cons (ps_set (i := 4) nd rfl (Or.inl rfl) (pe_lst (pa_cons (pk_call C__law_word hr (pa_cons (pv 2) (pa_cons (pv 3) (pa_cons pe_int pa_nil)))) (pa_cons (pk_call C__law_word hr (pa_cons (pv 2) (pa_cons (pv 2) (pa_cons pe_int pa_nil)))) (pa_cons (pk_call C__law_word hr (pa_cons (pv 2) (pa_cons (pv 2) (pa_cons pe_int pa_nil)))) pa_nil)))))
    (pss_cons (ps_if (pt_cmpR (op_neD hr.units) (pv 4) (pe_lst (pa_cons (pe_tup (pa_cons pe_int (pa_cons (pe_tup (pa_cons (pe_tup (pa_cons pe_int (pa_cons pe_int pa_nil))) (pa_cons (pe_tup (pa_cons pe_int (pa_cons pe_int pa_nil))) (pa_cons (pe_tup (pa_cons pe_int (pa_cons pe_int pa_nil))) pa_nil)))) pa_nil))) (pa_cons pe_str (pa_cons pe_int pa_nil)))) (nomark _)) (pss_one (ps_ret pe_bl)) pss_nil)
    (pss_cons (ps_set (i := 5) nd rfl (Or.inr rfl) (pe_tup (pa_cons pe_str (pa_cons (pe_tup (pa_cons pe_str (pa_cons pe_str pa_nil))) (pa_cons (pe_tup (pa_cons pe_str (pa_cons pe_str pa_nil))) pa_nil)))))
    (pss_cons (ps_set (i := 4) nd rfl (Or.inl rfl) (pe_op op_cat (pe_lc (own := [("_law_way", 6)]) rfl nd (pi_range1 rfl T.range (pa_cons pe_int pa_nil)) (blkOk_by (by walk_at "blk")) (fun _ _ _ _ _ => (pg_name (i := 6) nd rfl (Or.inl rfl))) (fun _ _ _ _ _ => pts_nil) (fun _ _ _ _ _ => (pk_call C__law_word hr (pa_cons (pv 2) (pa_cons (pv 5) (pa_cons (pv 6) pa_nil)))))) (pe_lc (own := [("_law_way", 6)]) rfl nd (pi_range1 rfl T.range (pa_cons pe_int pa_nil)) (blkOk_by (by walk_at "blk")) (fun _ _ _ _ _ => (pg_name (i := 6) nd rfl (Or.inl rfl))) (fun _ _ _ _ _ => pts_nil) (fun _ _ _ _ _ => (pk_call C__law_word hr (pa_cons (pv 0) (pa_cons (pe_tup (pa_cons pe_str (pa_cons (pv 0) (pa_cons (pv 0) pa_nil)))) (pa_cons (pv 6) pa_nil))))))))
    (pss_one (ps_ret (pe_cmpR (op_eqD hr.units) (pv 4) (pe_lst (pa_cons pe_str (pa_cons pe_str (pa_cons pe_str (pa_cons pe_str pa_nil))))) (nomark _))))))))))), ?_⟩
  obtain ⟨rfl, q⟩ := h
  have p1 : PairOk 64 five six := ⟨by decide +kernel, by decide +kernel, by decide +kernel⟩
  have p2 : PairOk 64 six five := ⟨by decide +kernel, by decide +kernel, by decide +kernel⟩
  have p3 : PairOk 64 three two := ⟨by decide +kernel, by decide +kernel, by decide +kernel⟩
  have p4 : PairOk 64 three three := ⟨by decide +kernel, by decide +kernel, by decide +kernel⟩
  have p5 : PairOk 64 three four := ⟨by decide +kernel, by decide +kernel, by decide +kernel⟩
  have p6 : PairOk 64 six (.mk .plus six six) := ⟨by decide +kernel, by decide +kernel, by decide +kernel⟩
  refine q_set2 (R := rSy K) (S := rSy K) (p := (six, five)) (ev_pair (ev_chainS (m := .plus) (n := 6) (ns := ["x"]) (ev_lst (ei_cons ev_str ei_nil) (by decide)) (by decide) (by decide) (by decide)) (ev_chainS (m := .plus) (n := 5) (ns := ["x"]) (ev_lst (ei_cons ev_str ei_nil) (by decide)) (by decide) (by decide) (by decide))) (fun u0 u1 H1 e1 r0 r1 => ?_)
  refine q_when (b := false) (EvT.to (et_or (et_test (ev_neD (K := K) (R := rD K) (S := rD K) (ev_word (way := 1) (ev_var rfl r1) (ev_var rfl r0) ev_int p1) (ed_tup (ds := [.int 7, .tuple [.tuple [.int 1, .int 7]]]) (ei_cons ed_int (ei_cons (ed_tup (ei_cons (ed_tup (ei_cons ed_int (ei_cons ed_int ei_nil)) (by simp)) ei_nil) (by simp)) ei_nil)) (by simp)) (fun _ _ h => h) (fun _ _ h => h) (by rw [w1]; rfl) rfl))
    (fun _ => et_test (ev_neI (d_int (ev_word (way := 0) (ev_var rfl r0) (ev_var rfl r1) ev_int p2) w2) (ev_int (i := 7))))) (by rw [w1]; rfl)) (fun c => by cases c) (fun _ H2 e2 => ?_)
  have r0a := Mo.up (R := rSy K) e2 r0
  refine q_set2 (R := rSy K) (S := rSy K) (p := (three, two)) (ev_pair (ev_chainS (m := .plus) (n := 3) (ns := ["x", "y", "z"]) (ev_lst (ei_cons ev_str (ei_cons ev_str (ei_cons ev_str ei_nil))) (by decide)) (by decide) (by decide) (by decide)) (ev_chainS (m := .plus) (n := 2) (ns := ["z", "y", "x"]) (ev_lst (ei_cons ev_str (ei_cons ev_str (ei_cons ev_str ei_nil))) (by decide)) (by decide) (by decide) (by decide))) (fun u2 u3 H3 e3 r2 r3 => ?_)
  have r0b := Mo.up (R := rSy K) e3 r0a
  refine q_set (R := rL (rD K)) (ev_lst (ei_cons (ev_word (way := 1) (ev_var rfl r2) (ev_var rfl r3) ev_int p3) (ei_cons (ev_word (way := 1) (ev_var rfl r2) (ev_var rfl r2) ev_int p4) (ei_cons (ev_word (way := 0) (ev_var rfl r2) (ev_var rfl r2) ev_int p4) ei_nil))) (by simp)) (fun u4 H4 e4 r4 => ?_)
  rw [w3, w4, w5] at r4
  refine q_when (b := false) (EvT.to (et_test (ev_neD (K := K) (R := rL (rD K)) (S := rL (rD K)) (ev_var rfl r4) (ev_lst (xs := [.tuple [.int 2, .tuple [.tuple [.int 1, .int 2], .tuple [.int 0, .int 1], .tuple [.int 0, .int 1]]], .str "marks", .int 8]) (ei_cons (ed_tup (ei_cons ed_int (ei_cons (ed_tup (ei_cons (ed_tup (ei_cons ed_int (ei_cons ed_int ei_nil)) (by simp)) (ei_cons (ed_tup (ei_cons ed_int (ei_cons ed_int ei_nil)) (by simp)) (ei_cons (ed_tup (ei_cons ed_int (ei_cons ed_int ei_nil)) (by simp)) ei_nil))) (by simp)) ei_nil)) (by simp)) (ei_cons ed_str (ei_cons ed_int ei_nil))) (by simp)) (fun _ _ h => dp_list h) (fun _ _ h => dp_list h) (by decide +kernel) (by decide +kernel))) rfl) (fun c => by cases c) (fun _ H5 e5 => ?_)
  have r2a := Mo.up (R := rSy K) (e4.trans e5) r2
  have r0c := Mo.up (R := rSy K) (e4.trans e5) r0b
  refine q_set (R := rSy K) (x := four) (ev_mkS (ev_mkc .plus) (ev_unkS ev_str) (ev_unkS ev_str)) (fun u5 H6 e6 r5 => ?_)
  have r2b := Mo.up (R := rSy K) e6 r2a
  have r0d := Mo.up (R := rSy K) e6 r0c
  have way : ∀ {x : Int} {v : V} {H' : Hp} {σ : L2.St}, x ∈ ivs 0 2 → rInt H' v x → σ[6]? = some (some v) → EvR (tVar 6) σ H' rInt ((x.toNat : Nat) : Int) := fun {x v H' σ} hx r hσ => by
    have : x = ((x.toNat : Nat) : Int) := by
      simp [ivs] at hx
      omega
    exact EvR.to (ev_var (R := rInt) hσ r) this
  refine q_set (R := rL rStr) (x := ["unknowns", "unknowns", "marks", "marks"]) (EvR.to (ev_cat (R := rStr)
      (ev_lc (R := rInt) (S := rStr) (KP := Le) (fun _ => ("unknowns" : Str)) (ii_range1 (j := 2) ev_int (by decide) (by decide)) (fun _ _ _ e => Le.of e) (by rw [ivs_len]; decide) (fun v => rfl) (fun x hx v H' e r => d_str (ev_word (ev_var rfl (Mo.up (R := rSy K) e r2b)) (ev_var rfl (Mo.up (R := rSy K) e r5)) (way hx r rfl) p5) (word_str v10 _)))
      (ev_lc (R := rInt) (S := rStr) (KP := Le) (fun _ => ("marks" : Str)) (ii_range1 (j := 2) ev_int (by decide) (by decide)) (fun _ _ _ e => Le.of e) (by rw [ivs_len]; decide) (fun v => rfl) (fun x hx v H' e r => d_str (ev_word (ev_var rfl (Mo.up (R := rSy K) e r0d)) (ev_mkS (ev_mkc .plus) (ev_var rfl (Mo.up (R := rSy K) e r0d)) (ev_var rfl (Mo.up (R := rSy K) e r0d))) (way hx r rfl) p6) (word_str v11 _))) (by simp [ivs_len])) (by rfl)) (fun u6 H7 e7 r6 => ?_)
  refine s_ret (R := rBl) (x := true) (EvR.to (ev_eqDt (K := K) (R := rL rStr) (S := rL rStr) (x := (["unknowns", "unknowns", "marks", "marks"] : List Str)) (y := (["unknowns", "unknowns", "marks", "marks"] : List Str)) (d := .list ((["unknowns", "unknowns", "marks", "marks"] : List Str).map PyData.str)) (e := .list ((["unknowns", "unknowns", "marks", "marks"] : List Str).map PyData.str)) (ev_var rfl r6) (ev_lst (R := rStr) (xs := ["unknowns", "unknowns", "marks", "marks"]) (ei_cons ev_str (ei_cons ev_str (ei_cons ev_str (ei_cons ev_str ei_nil)))) (by simp)) (fun _ _ h => dp_strs h) (fun _ _ h => dp_strs h) (by decide +kernel) (by decide +kernel)) rfl) (fun v H8 e8 r => ?_)
  cases r
  exact q H8 (((((((e1.trans e2).trans e3).trans e4).trans e5).trans e6).trans e7).trans e8)
end
end Hf


/-! ## Tr4 -/
set_option Elab.async false
set_option linter.all false
set_option maxRecDepth 100000
set_option maxHeartbeats 400000
namespace Hf
open PySem
theorem found_eq (f g : Say) (i : Nat) : foundL (nms f g) f g i = foundAt f g i := by
  unfold foundL foundAt firstRow
  congr 2
  funext row
  unfold partsB
  rw [numOf_val, numOf_val]
theorem find_mono {β : Type} (F : Nat → Option β) {n m : Nat} (h : n ≤ m) {z : β} (e : (List.range n).findSome? F = some z) : (List.range m).findSome? F = some z := by
  obtain ⟨k, rfl⟩ := Nat.exists_eq_add_of_le h
  rw [List.range_add, List.findSome?_append, e]
  rfl
theorem find_some {β : Type} {F : Nat → Option β} {n : Nat} {z : β} (e : (List.range n).findSome? F = some z) : ∃ i, i < n ∧ F i = some z := by
  obtain ⟨i, hi, e⟩ := List.exists_of_findSome?_eq_some e
  exact ⟨i, List.mem_range.mp hi, e⟩
theorem find_none {β : Type} {F : Nat → Option β} {n : Nat} (e : (List.range n).findSome? F = none) {i : Nat} (h : i < n) : F i = none := List.findSome?_eq_none_iff.mp e i (List.mem_range.mpr h)
theorem at_some {f g : Say} {i : Nat} {z : Nat × List (Int × Int)} (h : foundAt f g i = some z) : ∃ row, z = (i + 1, row.map fun y => lowestF y ((i + 1 : Nat) : Int)) ∧ OnGrid (nms f g).length ((i + 1 : Nat) : Int) row ∧ PartsAt (nms f g) f g ((i + 1 : Nat) : Int) row := by
  unfold foundAt at h
  rw [Option.map_eq_some_iff] at h
  obtain ⟨row, h1, h2⟩ := h
  have h3 := firstRow_some h1
  exact ⟨row, h2.symm, h3⟩
theorem boundN_eq (f g : Say) : ((boundN f g : Nat) : Int) = boundF f g := by
  have := bound_pos f g
  unfold boundN
  omega
theorem due_eq (f g : Say) : dueL (nms f g) f g = (List.range (limL (nms f g).length)).findSome? (foundAt f g) := by
  unfold dueL
  congr 1
  funext i
  exact found_eq f g i
/-- what the law finds is what is told -/
theorem due_told {f g : Say} (h : (nms f g).length ≤ 3) {z : Nat × List (Int × Int)} (e : dueL (nms f g) f g = some z) : srch f g (boundN f g) = some z := by
  rw [due_eq] at e
  unfold srch
  by_cases hl : limL (nms f g).length ≤ boundN f g
  · exact find_mono _ hl e
  cases hs : (List.range (boundN f g)).findSome? (foundAt f g) with
  | some z' =>
    have := find_mono (foundAt f g) (m := limL (nms f g).length) (by omega) hs
    rw [e] at this
    exact this.symm
  | none =>
    obtain ⟨i, hi, hz⟩ := find_some e
    obtain ⟨row, _, h1, h2⟩ := at_some hz
    obtain ⟨D, q, d1, d2, d3, d4⟩ := bound_law (nms_nodup f g) h (nms_inf f g) (nms_ing f g) (d := ((i + 1 : Nat) : Int)) (by omega) h1 h2
    rw [← bound_det, ← boundN_eq] at d2
    obtain ⟨k, rfl⟩ := Int.eq_ofNat_of_zero_le (show 0 ≤ D by omega)
    obtain ⟨j, rfl⟩ : ∃ j, k = j + 1 := ⟨k - 1, by omega⟩
    have hn := find_none hs (i := j) (by omega)
    unfold foundAt at hn
    rw [Option.map_eq_none_iff] at hn
    exact absurd d4 (firstRow_none hn d3)
/-- what is told where the law finds nothing -/
theorem told_late {f g : Say} {z : Nat × List (Int × Int)} (e : dueL (nms f g) f g = none) (t : srch f g (boundN f g) = some z) : ∃ row, z.2 = row.map (fun y => lowestF y (z.1 : Int)) ∧ OnGrid (nms f g).length (z.1 : Int) row ∧ PartsAt (nms f g) f g (z.1 : Int) row ∧ limL (nms f g).length < z.1 ∧ (z.1 : Int) ≤ boundF f g := by
  rw [due_eq] at e
  obtain ⟨i, hi, hz⟩ := find_some t
  obtain ⟨row, rfl, h1, h2⟩ := at_some hz
  refine ⟨row, rfl, h1, h2, ?_, ?_⟩
  · apply Classical.byContradiction
    intro hn
    have := find_none e (i := i) (by simp at hn; omega)
    rw [this] at hz
    cases hz
  · rw [← boundN_eq]
    simp
    omega
theorem due_point {f g : Say} {z : Nat × List (Int × Int)} (e : dueL (nms f g) f g = some z) : z.2.length = (nms f g).length ∧ ∀ p ∈ z.2, Frac p := by
  rw [due_eq] at e
  obtain ⟨i, hi, hz⟩ := find_some e
  obtain ⟨row, rfl, h1, h2⟩ := at_some hz
  have hl : limL (nms f g).length ≤ 24 := by unfold limL; split <;> decide
  refine ⟨by rw [List.length_map]; exact h1.1, fun p hp => ?_⟩
  obtain ⟨y, hy, rfl⟩ := List.mem_map.mp hp
  have := h1.2 y hy
  exact (lowest_frac this.1 this.2 (by omega) (by omega)).1
end Hf


/-! ## Fa27 -/
set_option Elab.async false
set_option linter.all false
set_option maxRecDepth 100000
set_option maxHeartbeats 400000

namespace Hf
open PySem PySem.Spec PyProof.Rows L2 RZ
/-! ### what a drawn pair keeps -/
theorem nodup_sub_len {α : Type} [BEq α] [LawfulBEq α] : ∀ {l ns : List α}, l.Nodup → (∀ y ∈ l, y ∈ ns) → l.length ≤ ns.length
  | [], _, _, _ => Nat.zero_le _
  | x :: t, ns, nd, h => by
    obtain ⟨nx, nd'⟩ := List.nodup_cons.mp nd
    have hx := h x List.mem_cons_self
    have := nodup_sub_len (l := t) (ns := ns.erase x) nd' fun y hy => (List.mem_erase_of_ne (fun z => nx (by rw [← z]; exact hy))).mpr (h y (List.mem_cons_of_mem _ hy))
    rw [List.length_erase_of_mem hx] at this
    have pos : 0 < ns.length := List.length_pos_of_mem hx
    rw [List.length_cons]
    omega
theorem note_mem_in {ns : List Str} : ∀ (s : Say) (l : List Str), s.In ns → (∀ y ∈ l, y ∈ ns) → ∀ y ∈ s.note l, y ∈ ns
  | .yes, l, _, h => by simpa [Say.note] using h
  | .no, l, _, h => by simpa [Say.note] using h
  | .unk x, l, hx, h => by
    intro y hy
    simp only [Say.note] at hy
    split at hy
    · exact h y hy
    · rcases List.mem_append.mp hy with z | z
      · exact h y z
      · rw [List.mem_singleton.mp z]; exact hx
  | .neg a, l, hx, h => by
    intro y hy
    simp only [Say.note] at hy
    exact note_mem_in a l hx h y hy
  | .mk m a b, l, hx, h => by
    intro y hy
    simp only [Say.note] at hy
    exact note_mem_in b _ hx.2 (note_mem_in a l hx.1 h) y hy
theorem nms_len {ns : List Str} {f g : Say} (hf : f.In ns) (hg : g.In ns) : (nms f g).length ≤ ns.length :=
  nodup_sub_len (nms_nodup f g) (note_mem_in g (f.note []) hg (note_mem_in f [] hf (by simp)))
theorem most_anti {a b : Nat} (h : a ≤ b) (hb : b ≤ 3) : mostM b ≤ mostM a := by
  have : b = 0 ∨ b = 1 ∨ b = 2 ∨ b = 3 := by omega
  rcases this with rfl | rfl | rfl | rfl
  · have : a = 0 := by omega
    subst this; decide
  · have : a = 0 ∨ a = 1 := by omega
    rcases this with rfl | rfl <;> decide
  · have : a = 0 ∨ a = 1 ∨ a = 2 := by omega
    rcases this with rfl | rfl | rfl <;> decide
  · have : a = 0 ∨ a = 1 ∨ a = 2 ∨ a = 3 := by omega
    rcases this with rfl | rfl | rfl | rfl <;> decide
theorem most_le (n : Nat) : 7 ≤ mostM n ∧ mostM n ≤ 12 := by unfold mostM; split <;> decide
theorem pair_pre {ns : List Str} {f g : Say} (pg : PairG ns f g) (n3 : ns.length ≤ 3) (mm : f.marks + g.marks ≤ mostM ns.length) : PairOk 64 f g ∧ cz f g = none := by
  have h1 := pg.h1; have h2 := pg.h2; have s1 := pg.s1; have s2 := pg.s2
  have l := nms_len pg.inf pg.ing
  have m := most_anti l n3
  have m2 := (most_le ns.length).2
  refine ⟨⟨by simp only [Say.ht]; omega, by rw [steps_same]; omega, by rw [leaves_marks, leaves_marks]; omega⟩, ?_⟩
  unfold cz cntz
  rw [if_neg (by omega), if_neg (by omega)]
theorem lz_of {f g : Say} (h : cz f g = none) (h2 : ¬ ((nms f g).length = 3 ∧ 5 < f.marks + g.marks)) : lz f g = none := by
  unfold lz
  rw [h]
  exact if_neg h2
theorem pair_new (x y z : Str) : PairOk 64 (.mk .plus (.unk x) (.unk y)) (.unk z) ∧ cz (.mk .plus (.unk x) (.unk y)) (.unk z) = none ∧ lz (.mk .plus (.unk x) (.unk y)) (.unk z) = none := by
  have l : (nms (.mk .plus (.unk x) (.unk y)) (.unk z)).length ≤ 3 := by
    have := nms_len (ns := [x, y, z]) (f := .mk .plus (.unk x) (.unk y)) (g := .unk z) ⟨by simp [Say.In], by simp [Say.In]⟩ (by simp [Say.In])
    simpa using this
  have m := (most_le (nms (.mk .plus (.unk x) (.unk y)) (.unk z)).length).1
  have c : cz (.mk .plus (.unk x) (.unk y)) (.unk z) = none := by
    unfold cz cntz
    have e : (Say.mk .plus (.unk x) (.unk y)).marks + (Say.unk z).marks = 1 := rfl
    rw [if_neg (by omega), e, if_neg (by omega)]
  refine ⟨⟨by simp [Say.ht], by simp [stepsOf], by simp [Say.leaves]⟩, c, lz_of c (fun h => ?_)⟩
  have e : (Say.mk .plus (.unk x) (.unk y)).marks + (Say.unk z).marks = 1 := rfl
  omega
theorem list3 {α : Type} : ∀ {l : List α}, l.length ≤ 3 → l = [] ∨ (∃ a, l = [a]) ∨ (∃ a b, l = [a, b]) ∨ ∃ a b c, l = [a, b, c]
  | [], _ => .inl rfl
  | [a], _ => .inr (.inl ⟨a, rfl⟩)
  | [a, b], _ => .inr (.inr (.inl ⟨a, b, rfl⟩))
  | [a, b, c], _ => .inr (.inr (.inr ⟨a, b, c, rfl⟩))
  | _ :: _ :: _ :: _ :: _, h => by simp at h
theorem found_shaped {z : Nat × List (Int × Int)} (h : z.2.length ≤ 3) : SeqAt.shaped (foundD (some z)) = true ∧ PyData.eqv (foundD (some z)) (foundD (some z)) = true := by
  obtain ⟨d, ps⟩ := z
  have pr : ∀ p : Int × Int, PyData.eqv (.tuple [.int p.1, .int p.2]) (.tuple [.int p.1, .int p.2]) = true := fun p => by
    show ((p.1 == p.1) && ((p.2 == p.2) && true)) = true
    simp
  rcases list3 h with e | ⟨a, e⟩ | ⟨a, b, e⟩ | ⟨a, b, c, e⟩ <;> (simp only at e; subst e) <;> refine ⟨rfl, ?_⟩
  · show (((d : Int) == (d : Int)) && (true && true)) = true
    simp
  · show (((d : Int) == (d : Int)) && ((PyData.eqv (.tuple [.int a.1, .int a.2]) (.tuple [.int a.1, .int a.2]) && true) && true)) = true
    rw [pr]; simp
  · show (((d : Int) == (d : Int)) && ((PyData.eqv (.tuple [.int a.1, .int a.2]) (.tuple [.int a.1, .int a.2]) && (PyData.eqv (.tuple [.int b.1, .int b.2]) (.tuple [.int b.1, .int b.2]) && true)) && true)) = true
    rw [pr, pr]; simp
  · show (((d : Int) == (d : Int)) && ((PyData.eqv (.tuple [.int a.1, .int a.2]) (.tuple [.int a.1, .int a.2]) && (PyData.eqv (.tuple [.int b.1, .int b.2]) (.tuple [.int b.1, .int b.2]) && (PyData.eqv (.tuple [.int c.1, .int c.2]) (.tuple [.int c.1, .int c.2]) && true))) && true)) = true
    rw [pr, pr, pr]; simp
end Hf


/-! ## Fa28 -/
set_option Elab.async false
set_option linter.all false
set_option maxRecDepth 100000
set_option maxHeartbeats 400000

namespace Hf
open PySem PySem.Spec PyProof.Rows L2 RZ
section
variable {K : PySem.W.Frag} {mg : Str → Option Value} {σ : L2.St} {H : Hp} {t1 t2 t3 t4 t5 : TE} {t : TT} {D : Ends} {ts tu : TS} {f g : Say} {n : Nat}
theorem q_whenJ {b : Bool} (J : L2.St → Hp → Prop) (h : EvT t σ H b) (h1 : ∀ (tu' : L2.St → Hp → Prop), (∀ σ' H', J σ' H' → tu' σ' H') → b = true → ∀ H', Same H H' → ts { D with nx := tu' } σ H') (h2 : b = false → ∀ H', Same H H' → J σ H') (hJ : ∀ σ' H', J σ' H' → tu D σ' H') : tSeq (tIfS t ts tNext) tu D σ H :=
  q_when h (fun c H' e => h1 (tu D) hJ c H' e) (fun c H' e => hJ _ _ (h2 c H' e))
theorem ev_den (h1 : EvR t1 σ H (rSy K) f) (h2 : EvR t2 σ H (rSy K) g) (pk : PairOk n f g) (z : cz f g = none) : EvR (tCall (spDen K mg n) [] E0 (tCons t1 (tCons t2 tNil))) σ H rInt (boundF f g) := fun H0 e Q q =>
  h1 H0 e _ fun v1 H1 e1 r1 => h2 H1 (e.trans e1) _ fun v2 H2 e2 r2 => ⟨v1, v2, f, g, rfl, Mo.up (R := rSy K) e2 r1, r2, pk, fun x hx => (by rw [z] at hx; cases hx), fun _ H' e3 => q _ H' ((e1.trans e2).trans e3) rfl⟩
theorem ev_least (h1 : EvR t1 σ H (rSy K) f) (h2 : EvR t2 σ H (rSy K) g) (pk : PairOk n f g) (z : lz f g = none) : EvR (tCall (spLeast2 K mg n) [] E0 (tCons t1 (tCons t2 tNil))) σ H (rFound K) (srch f g (boundN f g)) := fun H0 e Q q =>
  h1 H0 e _ fun v1 H1 e1 r1 => h2 H1 (e.trans e1) _ fun v2 H2 e2 r2 => ⟨v1, v2, f, g, rfl, Mo.up (R := rSy K) e2 r1, r2, pk, fun x hx => (by rw [z] at hx; cases hx), fun _ u H' e3 r => q u H' ((e1.trans e2).trans e3) r⟩
theorem ev_late {ns : List Str} {m : Nat} {row : Vec} {b : Int} (h1 : EvR t1 σ H (rL rStr) ns) (h2 : EvR t2 σ H (r2 K rNat (rPt K)) (m, row.map fun y => lowestF y (m : Int))) (h3 : EvR t3 σ H rInt b) (h4 : EvR t4 σ H (rSy K) f) (h5 : EvR t5 σ H (rSy K) g) (lp : LateP n ns m row b f g) :
    EvR (tCall (spLLate K n) [] E0 (tCons t1 (tCons t2 (tCons t3 (tCons t4 (tCons t5 tNil)))))) σ H rBl true := fun H0 e Q q =>
  h1 H0 e _ fun v1 H1 e1 r1 => h2 H1 (e.trans e1) _ fun v2 H2 e2 k2 => h3 H2 ((e.trans e1).trans e2) _ fun v3 H3 e3 r3 => h4 H3 (((e.trans e1).trans e2).trans e3) _ fun v4 H4 e4 r4 => h5 H4 ((((e.trans e1).trans e2).trans e3).trans e4) _ fun v5 H5 e5 r5 => by
    cases r3
    exact ⟨v1, v2, v4, v5, b, m, ns, row, f, g, rfl, Mo.up (((e2.trans e3).trans e4).trans e5) r1, Mo.up (R := r2 K rNat (rPt K)) ((e3.trans e4).trans e5) k2, Mo.up (R := rSy K) e5 r4, r5, lp, fun H' e6 => q _ H' (((((e1.trans e2).trans e3).trans e4).trans e5).trans e6) rfl⟩
end
section
variable {P : Program} {w : World} {K : PySem.W.Frag} {mg : Str → Option Value} {base : Heap}
def spLaw (K : PySem.W.Frag) : Sp := fun vs H Q _ => ∃ (a : Addr) (ns : List Int), vs = [.ref a] ∧ SqL K H a (ns.map V.int) ∧ ns.length ≤ 63 ∧ ∀ H', Q (.bl true) H'
theorem spLaw_len (vs : List V) (H : Hp) (Q : VK) (E : XK) (h : spLaw K vs H Q E) : vs.length = 1 := by obtain ⟨_, _, rfl, _⟩ := h; rfl
theorem rS_map {H : Hp} {a : Addr} {ns : List Int} (h : SqL K H a (ns.map V.int)) : rS K rInt H (.ref a) ns := ⟨a, _, rfl, h, paired_map (F := rInt _) (g := V.int) (fun _ => rfl) _⟩
theorem ev_right {σ : L2.St} {H : Hp} : EvR (tCall spRight [] E0 tNil) σ H rBl true := fun H1 e Q q => ⟨rfl, fun H' e' => q _ H' e' rfl⟩
theorem sc_law : FnScope (["_law_script", "_law_k", "_law_m", "_law_first", "_law_second", "_law_names", "_law_bound_here", "_law_told", "_law_due"] : List Str) (["_law_script"] : List Str) (defScope (top 90)) := ⟨rfl, rfl, rfl, by decide +kernel, rfl, by decide +kernel, by decide +kernel⟩
theorem okF {x : Str} {st : Stmt} {N ps : List Str} {k : Nat} {sp : Sp} {f : Addr} {fd : FuncData} (F : FunD K x x (defArgs st) (defBody st) (defScope st) [] [] f fd) (S : FnScope N ps (defScope st))
    (len : ∀ vs H Q E, sp vs H Q E → vs.length = ps.length)
    (hbody : ∀ (cdv : Value) (A : Around) (outer : List Env) (s : Shared) (H : Hp) (vs : List V) (Q : VK) (E : XK), Room k (A.deeper (envOfC x (defScope st) s.heap.objs.size f cdv)) → sp vs H Q E →
      ∃ t, PSs (cxOf CX0 P w K mg base N x (defScope st) f cdv A outer s H E).nox (defBody st) t ∧ t { nx := fun _ H' => Q .non H', rt := Q } (start N vs) H) : FnOk P w K mg base CX0 (k + 1) f fd ps sp :=
  F.ok S len fun cdv A outer s H vs Q E hr h => by
    obtain ⟨t, h1, h2⟩ := hbody cdv A outer s H vs Q E hr h
    exact ⟨t, PSs.nox h1, h2⟩
theorem ok_law {fL : Addr} {fdL : FuncData} (F : FunD K "law" "law" (defArgs (top 90)) (defBody (top 90)) (defScope (top 90)) [] [] fL fdL) (T : Bt mg) (C__law_bounds_right : Cal P w K mg base "_law_bounds_right" 76 [] spRight) (C__law_begun : Cal P w K mg base "_law_begun" 1 ["_law_script", "_law_k"] (spBegun K)) (C__law_pair : Cal P w K mg base "_law_pair" 70 ["_law_m", "_law_names"] (spLPair K)) (C__law_drawn_names : Cal P w K mg base "_law_drawn_names" 3 ["_law_m", "_law_size"] spDrawn) (C__law_of : Cal P w K mg base "_law_of" 2 ["_law_m", "_law_some"] spOf)
    (C__law_names_in : Cal P w K mg base "_law_names_in" 65 ["_law_saying_here", "_law_found_here"] (spLNames K 64)) (C__law_marks : Cal P w K mg base "_law_marks" 65 ["_law_saying_here"] (spLMarks K 64)) (C__law_bound : Cal P w K mg base "_law_bound" 66 ["_law_names", "_law_first", "_law_second"] (spLBound K 64)) (C_least_parting : CalX P w K mg base (L2.CX P w) "least_parting" 74 ["first", "second"] (spLeast2 K mg 64)) (C__law_found : Cal P w K mg base "_law_found" 67 ["_law_names", "_law_first", "_law_second"] (spLFound K 64))
    (C_denominator_bound : CalX P w K mg base (L2.CX P w) "denominator_bound" 69 ["first", "second"] (spDen K mg 64)) (C__law_late : Cal P w K mg base "_law_late" 67 ["_law_names", "_law_told", "_law_bound_here", "_law_first", "_law_second"] (spLLate K 64)) (C__law_whole : Cal P w K mg base "_law_whole" 1 ["_law_value"] spLWhole) (C__law_point_right : Cal P w K mg base "_law_point_right" 2 ["_law_names", "_law_point"] (spLPoint K)) : FnOk P w K mg base CX0 77 fL fdL ["_law_script"] (spLaw K) := by
  refine okF F sc_law spLaw_len (fun cdv A outer s H vs Q E hr h => ?_)
  have nd := sc_law.nd
  refine ⟨_, (pss_cons (ps_if (pt_not (pt_val (pk_call0 C__law_bounds_right hr))) (pss_one (ps_ret pe_bl)) pss_nil)
    (pss_cons (ps_for PassesOwn.never rfl (pi_range1 rfl T.range (pa_cons pe_int pa_nil)) (pg_name (i := 1) nd rfl (Or.inl rfl)) (pss_cons (ps_set (i := 2) nd rfl (Or.inl rfl) (pk_call C__law_begun hr (pa_cons (pv 0) (pa_cons (pv 1) pa_nil))))
    (pss_cons (ps_asg (pk_call C__law_pair hr (pa_cons (pv 2) (pa_cons (pk_call C__law_drawn_names hr (pa_cons (pv 2) (pa_cons (pk_call C__law_of hr (pa_cons (pv 2) (pa_cons (pe_lst (pa_cons pe_int (pa_cons pe_int (pa_cons pe_int (pa_cons pe_int (pa_cons pe_int (pa_cons pe_int pa_nil))))))) pa_nil))) pa_nil))) pa_nil))) (pg_tup rfl (pgs_cons (pg_name (i := 3) nd rfl (Or.inl rfl)) (pgs_cons (pg_name (i := 4) nd rfl (Or.inl rfl)) pgs_nil))))
    (pss_cons (ps_set (i := 5) nd rfl (Or.inl rfl) (pk_call C__law_names_in hr (pa_cons (pv 4) (pa_cons (pk_call C__law_names_in hr (pa_cons (pv 3) (pa_cons (pe_lst pa_nil) pa_nil))) pa_nil))))
    (pss_cons (ps_if (PW.pt (pw_and (pt_cmpR op_eq (pk_len T (pa_cons (pv 5) pa_nil)) pe_int (nomark _)) (pw_and1 (pt_cmpR op_gt (pe_op op_add (pk_call C__law_marks hr (pa_cons (pv 3) pa_nil)) (pk_call C__law_marks hr (pa_cons (pv 4) pa_nil))) pe_int (nomark _))))) (pss_cons (ps_par (i := 3) (j := 4) rfl nd rfl rfl (by decide) rfl rfl (pa_cons (pe_tup (pa_cons pe_str (pa_cons (pe_tup (pa_cons pe_str (pa_cons (pe_ix ix_list (pv 5) pe_int (fun _ _ => rfl)) pa_nil))) (pa_cons (pe_tup (pa_cons pe_str (pa_cons (pe_ix ix_list (pv 5) pe_int (fun _ _ => rfl)) pa_nil))) pa_nil)))) (pa_cons (pe_tup (pa_cons pe_str (pa_cons (pe_ix ix_list (pv 5) pe_int (fun _ _ => rfl)) pa_nil))) pa_nil)) (by rfl))
    (pss_one (ps_set (i := 5) nd rfl (Or.inl rfl) (pk_call C__law_names_in hr (pa_cons (pv 4) (pa_cons (pk_call C__law_names_in hr (pa_cons (pv 3) (pa_cons (pe_lst pa_nil) pa_nil))) pa_nil)))))) pss_nil)
    (pss_cons (ps_set (i := 6) nd rfl (Or.inl rfl) (pk_call C__law_bound hr (pa_cons (pv 5) (pa_cons (pv 3) (pa_cons (pv 4) pa_nil)))))
    (pss_cons (ps_par (i := 7) (j := 8) rfl nd rfl rfl (by decide) rfl rfl (pa_cons (pk_callL C_least_parting hr (pa_cons (pv 3) (pa_cons (pv 4) pa_nil))) (pa_cons (pk_call C__law_found hr (pa_cons (pv 5) (pa_cons (pv 3) (pa_cons (pv 4) pa_nil)))) pa_nil)) (by rfl))
    (pss_cons (ps_if (pt_cmpR op_ne (pk_callL C_denominator_bound hr (pa_cons (pv 3) (pa_cons (pv 4) pa_nil))) (pv 6) (nomark _)) (pss_one (ps_ret pe_bl)) pss_nil)
    (pss_cons (ps_if (PW.pt (pw_and (pt_cmpR op_isN (pv 8) pe_non (nomark _)) (pw_and (pt_cmpR op_notN (pv 7) pe_non (nomark _)) (pw_and1 (pt_not (pt_val (pk_call C__law_late hr (pa_cons (pv 5) (pa_cons (pv 7) (pa_cons (pv 6) (pa_cons (pv 3) (pa_cons (pv 4) pa_nil)))))))))))) (pss_one (ps_ret pe_bl)) pss_nil)
    (pss_cons (ps_if (PW.pt (pw_and (pt_cmpR op_notN (pv 8) pe_non (nomark _)) (pw_and1 (pt_cmpR (op_neD hr.units) (pv 7) (pv 8) (nomark _))))) (pss_one (ps_ret pe_bl)) pss_nil)
    (pss_one (ps_if (PW.pt (pw_and (pt_cmpR op_notN (pv 8) pe_non (nomark _)) (pw_and1 (PW.pt (pw_or (pt_not (pt_val (pk_call C__law_whole hr (pa_cons (pe_ix ix_tup (pv 7) pe_int (fun _ _ => rfl)) pa_nil)))) (pw_or1 (pt_not (pt_val (pk_call C__law_point_right hr (pa_cons (pv 5) (pa_cons (pe_ix ix_tup (pv 7) pe_int (fun _ _ => rfl)) pa_nil))))))))))) (pss_one (ps_ret pe_bl)) pss_nil))))))))))))
    (pss_one (ps_ret pe_bl)))), ?_⟩
  obtain ⟨as, xs, rfl, hS, hl, q⟩ := h
  have h0 := rS_map hS
  refine q_when (b := false) (et_not (et_test (b := true) ev_right)) (fun c => by cases c) (fun _ H1 e1 => ?_)
  refine q_for (I := fun H2 i σ' H' => ∃ (x1 x2 x3 x4 x5 x6 x7 x8 : Option V), σ' = [some (.ref as), x1, x2, x3, x4, x5, x6, x7, x8] ∧ Same H2 H') (ii_range1 (j := 3) ev_int (by decide) (by decide)) (fun H2 e2 => ⟨_, _, _, _, _, _, _, _, rfl, Same.refl _⟩) (fun H2 i σ' H' e2 z => ?_) (fun H2 i x σ' H' v' H'' e2 hx z e3 r => ?_) (fun H2 σ' H' e2 z => ?_)
  · obtain ⟨_, _, _, _, _, _, _, _, _, sb⟩ := z
    exact Le.of sb
  · obtain ⟨x1, x2, x3, x4, x5, x6, x7, x8, rfl, sb⟩ := z
    have hi : i < 3 := by
      have := (List.getElem?_eq_some_iff.mp hx).1
      rw [ivs_len] at this
      exact this
    have hx' : x = (i : Int) := by
      have hx := hx
      rw [show ((3 : Int)).toNat = 3 from rfl, ivs_get hi] at hx
      have := Option.some.inj hx
      omega
    subst hx'
    cases r
    have h0a : rS K rInt H'' (.ref as) xs := Mo.up (R := rS K rInt) (((e1.trans e2).trans sb).trans e3) h0
    -- the draws
    refine ⟨_, rfl, _, rfl, _, i, xs, rfl, h0a, hl, hi, fun a Ha ha ea md => ?_⟩
    refine ⟨_, rfl, _, rfl, _, rfl, by show 6 ≤ sizeLine; decide, fun p hp => ?_⟩
    have ep := Same.hnew (o := .lst [.int 1, .int 1, .int 2, .int 2, .int 2, .int 3]) hp
    have npa : p ≠ a := by
      obtain ⟨_, _, _, _, _, ha, _⟩ := md
      exact fun z => by subst z; rw [hp] at ha; cases ha
    refine ⟨a, p, _, 0, rfl, md.up ep, npa, upd_same, by simp, by simp, by decide, fun u Hb sbb mdb hu => ?_⟩
    obtain ⟨nn, rfl, n1, n3⟩ : ∃ nn : Nat, u = .int (nn : Int) ∧ 1 ≤ nn ∧ nn ≤ 3 := by
      simp only [List.mem_cons, List.not_mem_nil, or_false] at hu
      rcases hu with rfl | rfl | rfl | rfl | rfl | rfl
      · exact ⟨1, rfl, by decide, by decide⟩
      · exact ⟨1, rfl, by decide, by decide⟩
      · exact ⟨2, rfl, by decide, by decide⟩
      · exact ⟨2, rfl, by decide, by decide⟩
      · exact ⟨2, rfl, by decide, by decide⟩
      · exact ⟨3, rfl, by decide, by decide⟩
    refine ⟨a, nn, 0 + 1, rfl, mdb, n1, n3, by decide, fun b Hc ns sbc mdc hb nm hn => ?_⟩
    refine ⟨a, b, ns, 0 + 1 + (nn + 1), rfl, mdc, hb, nm, by omega, by omega, by omega, fun u5 Hd f' g sbd mdd rp pg mm => ?_⟩
    have eS : Same H'' Hd := fun y o h => sbd y o (ne_of_none h ha) (sbc y o (ne_of_none h ha) (sbb y o (ne_of_none h ha) (ep y o (ea y o h))))
    refine g_tup2 rp fun u3 u4 r3 r4 => ?_
    have h1 := pg.h1
    have h2 := pg.h2
    have hn3 : ns.length ≤ 3 := by omega
    obtain ⟨pk, hcz⟩ := pair_pre pg hn3 mm
    have lv := pk.lv
    have nl := nms_len pg.inf pg.ing
    have ml := (most_le ns.length).2
    refine q_set (R := rL rStr) (x := nms f' g) (ev_call2 (R := rSy K) (S := rL rStr) (x := g) (y := f'.note []) (ev_var rfl r4) (ev_call2 (R := rSy K) (S := rL rStr) (x := f') (y := []) (ev_var rfl r3) (ev_lst ei_nil (by decide)) ⟨by omega, by simp; omega⟩) ⟨by omega, by have := note_len f' []; simp at this; omega⟩) (fun v5 He ee r5 => ?_)
    have r3e := Mo.up (R := rSy K) ee r3
    have r4e := Mo.up (R := rSy K) ee r4
    refine q_whenJ (fun σ' H' => ∃ (f g : Say) (u3 u4 u5 : V) (x1 x2 x6 x7 x8 : Option V), σ' = [some (.ref as), x1, x2, some u3, some u4, some u5, x6, x7, x8] ∧ Same H'' H' ∧ rSay K H' u3 f ∧ rSay K H' u4 g ∧ rL rStr H' u5 (nms f g) ∧ PairOk 64 f g ∧ (nms f g).length ≤ 3 ∧ cz f g = none ∧ lz f g = none)
      (et_and (et_test (ev_eqI (ev_lenL (ev_var rfl r5)) (ev_int (i := 3)))) (fun _ => et_test (ev_cmpI (f := fun i j => decide (i > j)) (ev_add (ev_call1 (ev_var (R := rSy K) (x := f') rfl r3e) (by omega)) (ev_call1 (ev_var (R := rSy K) (x := g) rfl r4e) (by omega))) (ev_int (i := 5))))) (fun tu' hJ c Hf ef => ?_) (fun c Hf ef => ?_) (fun σ' Hf z => ?_)
    · rw [Bool.and_eq_true] at c
      have c1 := of_decide_eq_true c.1
      obtain ⟨y1, y2, y3, hy⟩ : ∃ y1 y2 y3, nms f' g = [y1, y2, y3] := by
        rcases list3 (l := nms f' g) (by omega) with e | ⟨a, e⟩ | ⟨a, b, e⟩ | ⟨a, b, c, e⟩
        · rw [e] at c1; simp at c1
        · rw [e] at c1; simp at c1
        · rw [e] at c1; simp at c1
        · exact ⟨a, b, c, e⟩
      rw [hy] at r5
      have r5f := Mo.up (R := rL rStr) ef r5
      obtain ⟨pk2, cz2, lz2⟩ := pair_new y1 y2 y3
      refine q_par (R := rSy K) (S := rSy K) (x := .mk .plus (.unk y1) (.unk y2)) (y := .unk y3) (ev_mkS (ev_mkc .plus) (ev_unkS (ev_ixL (R := rStr) (ev_var rfl r5f) (ev_int (i := 0)) rfl)) (ev_unkS (ev_ixL (R := rStr) (ev_var rfl r5f) (ev_int (i := 1)) rfl))) (ev_unkS (ev_ixL (R := rStr) (ev_var rfl r5f) (ev_int (i := 2)) rfl)) (fun w3 w4 Hg eg s3 s4 => ?_)
      refine s_set (R := rL rStr) (x := nms (.mk .plus (.unk y1) (.unk y2)) (.unk y3)) (ev_call2 (R := rSy K) (S := rL rStr) (x := .unk y3) (y := (Say.mk .plus (.unk y1) (.unk y2)).note []) (ev_var rfl s4) (ev_call2 (R := rSy K) (S := rL rStr) (x := .mk .plus (.unk y1) (.unk y2)) (y := []) (ev_var rfl s3) (ev_lst ei_nil (by decide)) ⟨by simp [Say.ht], by simp [Say.leaves]⟩) ⟨by simp [Say.ht], by have := note_len (.mk .plus (.unk y1) (.unk y2)) []; simp [Say.leaves] at this ⊢; omega⟩) (fun v5 Hh eh t5 => hJ _ _ ?_)
      refine ⟨_, _, w3, w4, v5, _, _, _, _, _, rfl, ((eS.trans ee).trans ef).trans (eg.trans eh), Mo.up (R := rSy K) eh s3, Mo.up (R := rSy K) eh s4, t5, pk2, ?_, cz2, lz2⟩
      exact (cz_none cz2).1
    · refine ⟨f', g, u3, u4, v5, _, _, _, _, _, rfl, (eS.trans ee).trans ef, Mo.up (R := rSy K) ef r3e, Mo.up (R := rSy K) ef r4e, Mo.up ef r5, pk, by omega, hcz, lz_of hcz (fun z => ?_)⟩
      have t1 : decide (((nms f' g).length : Int) = 3) = true := decide_eq_true (by omega)
      rw [t1, Bool.true_and] at c
      have := of_decide_eq_false c
      omega
    · obtain ⟨f, g, u3, u4, u5, x1, x2, x6, x7, x8, rfl, eA, s3, s4, s5, pk, nl, hcz, hlz⟩ := z
      have hts := pair_ht pk
      have lv := pk.lv
      have lp : LPar 64 (nms f g) f g := ⟨nms_nodup f g, nl, hts.1, hts.2, nms_inf f g, nms_ing f g⟩
      refine q_set (R := rInt) (x := boundF f g) (ev_call3 (R := rL rStr) (S := rSy K) (T := rSy K) (ev_var rfl s5) (ev_var rfl s3) (ev_var rfl s4) ⟨nl, hts.1, hts.2, lv⟩) (fun u6 H6 e6 r6 => ?_)
      cases r6
      have s3a := Mo.up (R := rSy K) e6 s3
      have s4a := Mo.up (R := rSy K) e6 s4
      have s5a := Mo.up (R := rL rStr) e6 s5
      refine q_par (R := rFound K) (S := rFound K) (x := srch f g (boundN f g)) (y := dueL (nms f g) f g) (ev_least (ev_var rfl s3a) (ev_var rfl s4a) pk hlz) (ev_call3 (R := rL rStr) (S := rSy K) (T := rSy K) (ev_var rfl s5a) (ev_var rfl s3a) (ev_var rfl s4a) lp) (fun u7 u8 H7 e7 r7 r8 => ?_)
      have s3b := Mo.up (R := rSy K) e7 s3a
      have s4b := Mo.up (R := rSy K) e7 s4a
      have s5b := Mo.up (R := rL rStr) e7 s5a
      refine q_when (b := false) (EvT.to (et_test (ev_neI (ev_den (ev_var rfl s3b) (ev_var rfl s4b) pk hcz) (ev_var (R := rInt) (x := boundF f g) rfl rfl))) (by simp)) (fun c => by cases c) (fun _ H8 e8 => ?_)
      have s3c := Mo.up (R := rSy K) e8 s3b
      have s4c := Mo.up (R := rSy K) e8 s4b
      have s5c := Mo.up (R := rL rStr) e8 s5b
      have r7c := Mo.up (R := rFound K) e8 r7
      have r8c := Mo.up (R := rFound K) e8 r8
      have e08 := (sb.trans e3).trans (eA.trans ((e6.trans e7).trans e8))
      have isn : ∀ (x : Option (Nat × List (Int × Int))) (H : Hp) (v : V), rFound K H v x → decide (v = .non) = x.isNone := fun x H v h => by
        cases x with
        | none => exact decide_eq_true h
        | some y => exact decide_eq_false h.1
      cases hd : dueL (nms f g) f g with
      | none =>
        rw [hd] at r8c
        have en : ∀ {σ : L2.St} {Hx : Hp}, Same H8 Hx → σ[8]? = some (some u8) → EvR (tOp (fun x y H Q => y = .non ∧ Q (.bl (!decide (x = .non))) H) (tVar 8) (tC .non)) σ Hx rBl false := fun e hσ => ev_notN (R := rFound K) (x := none) (b := true) (ev_var hσ (Mo.up (R := rFound K) e r8c)) (isn none)
        refine q_when (b := false) ?_ (fun c => by cases c) (fun _ H9 e9 => ?_)
        · cases ht : srch f g (boundN f g) with
          | none =>
            rw [ht] at r7c
            exact EvT.to (et_and (b := false) (et_test (ev_isN (R := rFound K) (x := none) (b := true) (ev_var rfl r8c) (isn none))) (fun _ => EvT.to (et_and (b := true) (et_test (ev_notN (R := rFound K) (x := none) (b := true) (ev_var rfl r7c) (isn none))) (fun z => by cases z)) rfl)) rfl
          | some z =>
            rw [ht] at r7c
            obtain ⟨row, hrow, g1, g2, g3, g4⟩ := told_late hd ht
            have bs := (bound_small hcz (fun h => by
              unfold lz at hlz
              rw [hcz] at hlz
              have : (if (nms f g).length = 3 ∧ 5 < f.marks + g.marks then some ("marks" : Str) else none) = none := hlz
              rw [if_pos h] at this
              cases this)).1
            have lt : LateP 64 (nms f g) z.1 row (boundF f g) f g := ⟨lp, g1, g2, g3, g4, by omega⟩
            have r7d : r2 K rNat (rPt K) H8 u7 (z.1, row.map fun y => lowestF y (z.1 : Int)) := by rw [← hrow]; exact r7c.2
            exact EvT.to (et_and (b := false) (et_test (ev_isN (R := rFound K) (x := none) (b := true) (ev_var rfl r8c) (isn none))) (fun _ => EvT.to (et_and (b := false) (et_test (ev_notN (R := rFound K) (x := some z) (b := false) (ev_var rfl r7c) (isn (some z)))) (fun _ => et_not (et_test (ev_late (ev_var rfl s5c) (ev_var (R := r2 K rNat (rPt K)) rfl r7d) (ev_var (R := rInt) (x := boundF f g) rfl rfl) (ev_var rfl s3c) (ev_var rfl s4c) lt)))) rfl)) rfl
        refine q_when (b := false) (EvT.to (et_and (b := true) (et_test (en e9 rfl)) (fun z => by cases z)) rfl) (fun c => by cases c) (fun _ H10 e10 => ?_)
        refine s_when (b := false) (EvT.to (et_and (b := true) (et_test (en (e9.trans e10) rfl)) (fun z => by cases z)) rfl) (fun c => by cases c) (fun _ H11 e11 => ?_)
        exact ⟨_, _, _, _, _, _, _, _, rfl, e08.trans ((e9.trans e10).trans e11)⟩
      | some z =>
        have ht := due_told nl hd
        have dp := due_point hd
        rw [hd] at r8c
        rw [ht] at r7c
        have fs := found_shaped (z := z) (by omega)
        have en : ∀ {σ : L2.St} {Hx : Hp}, Same H8 Hx → σ[8]? = some (some u8) → EvR (tOp (fun x y H Q => y = .non ∧ Q (.bl (!decide (x = .non))) H) (tVar 8) (tC .non)) σ Hx rBl true := fun e hσ => ev_notN (R := rFound K) (x := some z) (b := false) (ev_var hσ (Mo.up (R := rFound K) e r8c)) (isn (some z))
        refine q_when (b := false) (EvT.to (et_and (b := true) (et_test (ev_isN (R := rFound K) (x := some z) (b := false) (ev_var rfl r8c) (isn (some z)))) (fun z => by cases z)) rfl) (fun c => by cases c) (fun _ H9 e9 => ?_)
        refine q_when (b := false) (EvT.to (et_and (et_test (en e9 rfl)) (fun _ => et_test (ev_neD (K := K) (R := rFound K) (S := rFound K) (d := foundD (some z)) (e := foundD (some z)) (ev_var rfl (Mo.up (R := rFound K) e9 r7c)) (ev_var rfl (Mo.up (R := rFound K) e9 r8c)) (fun _ _ h => dp_found h) (fun _ _ h => dp_found h) fs.1 fs.1))) (by rw [fs.2]; rfl)) (fun c => by cases c) (fun _ H10 e10 => ?_)
        have e9' := e9.trans e10
        have r7d := (Mo.up (R := rFound K) e9' r7c).2
        refine s_when (b := false) (EvT.to (et_and (et_test (en e9' rfl)) (fun _ => et_or (et_not (et_test (ev_call1 (R := rInt) (S := rBl) (x := (z.1 : Int)) (ev_natI (ev_fst (R := rNat) (S := rPt K) (p := z) (ev_var rfl r7d))) trivial))) (fun _ => et_not (et_test (ev_call2 (R := rL rStr) (S := rPt K) (x := nms f g) (y := z.2) (ev_var rfl (Mo.up (R := rL rStr) e9' s5c)) (ev_snd (R := rNat) (S := rPt K) (p := z) (ev_var rfl r7d)) ⟨dp.1, nl, dp.2⟩))))) rfl) (fun c => by cases c) (fun _ H11 e11 => ?_)
        exact ⟨_, _, _, _, _, _, _, _, rfl, e08.trans (e9'.trans e11)⟩
  · obtain ⟨x1, x2, x3, x4, x5, x6, x7, x8, rfl, sb⟩ := z
    exact s_ret (R := rBl) (x := true) ev_bl (fun v H' e r => by cases r; exact q H')
end
end Hf


/-! ## Fa29 -/
set_option Elab.async false
set_option linter.all false
set_option maxRecDepth 100000
set_option maxHeartbeats 400000
namespace Hf
open PySem PySem.Spec PyProof.Rows L2 RZ
/-! ### all the defs, one after the other -/
def dfL : List (Str × Nat) := [(("parts_of" : Str), (7 : Nat)), (("marks_in" : Str), (8 : Nat)), (("occurrences" : Str), (11 : Nat)), (("_note_unknowns" : Str), (9 : Nat)), (("unknowns_of" : Str), (10 : Nat)), (("common" : Str), (17 : Nat)), (("lowest" : Str), (18 : Nat)), (("faces" : Str), (20 : Nat)), (("name_form" : Str), (23 : Nat)), (("constant_form" : Str), (24 : Nat)), (("opposite_form" : Str), (25 : Nat)), (("sum_form" : Str), (26 : Nat)), (("raised_form" : Str), (27 : Nat)), (("not_form" : Str), (28 : Nat)), (("question_of" : Str), (29 : Nat)), (("form_by_side" : Str), (30 : Nat)), (("number_at" : Str), (33 : Nat)), (("bounding_forms" : Str), (34 : Nat)), (("whole_cube" : Str), (35 : Nat)), (("_rank" : Str), (36 : Nat)), (("_are_neighbours" : Str), (37 : Nat)), (("_between" : Str), (38 : Nat)), (("cut_cell" : Str), (39 : Nat)), (("point_of" : Str), (40 : Nat)), (("least_corner" : Str), (41 : Nat)), (("side_in" : Str), (42 : Nat)), (("steps_of" : Str), (44 : Nat)), (("steps_along" : Str), (45 : Nat)), (("_stacked" : Str), (46 : Nat)), (("next_question" : Str), (47 : Nat)), (("asked_there" : Str), (48 : Nat)), (("taken_there" : Str), (49 : Nat)), (("events" : Str), (50 : Nat)), (("ends" : Str), (51 : Nat)), (("less_one" : Str), (53 : Nat)), (("point_below" : Str), (54 : Nat)), (("_marked" : Str), (62 : Nat)), (("_number_of" : Str), (63 : Nat)), (("_grid" : Str), (64 : Nat)), (("_first_on_grid" : Str), (65 : Nat)), (("check_counts" : Str), (14 : Nat)), (("check_bounds" : Str), (15 : Nat)), (("parting" : Str), (56 : Nat)), (("are_alike" : Str), (57 : Nat)), (("denominator_bound" : Str), (61 : Nat)), (("least_parting" : Str), (66 : Nat)), (("_law_lowest" : Str), (74 : Nat)), (("_law_rows" : Str), (75 : Nat)), (("_law_whole" : Str), (76 : Nat)), (("_law_marks" : Str), (77 : Nat)), (("_law_often" : Str), (83 : Nat)), (("_law_names_in" : Str), (72 : Nat)), (("_law_graded" : Str), (73 : Nat)), (("_law_bound" : Str), (84 : Nat)), (("_law_parts" : Str), (85 : Nat)), (("_law_found" : Str), (86 : Nat)), (("_law_point_right" : Str), (79 : Nat)), (("_law_late" : Str), (87 : Nat)), (("_law_draw" : Str), (69 : Nat)), (("_law_of" : Str), (70 : Nat)), (("_law_saying" : Str), (71 : Nat)), (("_law_alike" : Str), (81 : Nat)), (("_law_drawn_names" : Str), (78 : Nat)), (("_law_pair" : Str), (82 : Nat)), (("_law_chain" : Str), (80 : Nat)), (("_law_begun" : Str), (68 : Nat)), (("_law_word" : Str), (88 : Nat)), (("_law_bounds_right" : Str), (89 : Nat))]
section
variable {P : Program} {w : World} {K : PySem.W.Frag} {mg : Str → Option Value} {base : Heap}
theorem chain {fL : Addr} {fdL : FuncData} (F : FunD K "law" "law" (defArgs (top 90)) (defBody (top 90)) (defScope (top 90)) [] [] fL fdL) (hD : ∀ q ∈ dfL, Df K mg q.1 (top q.2)) (T : Bt mg) (cP : Ct K mg "PAIRS" (pairsL.map V.str)) (cS : Ct K mg "SIDES" ((["least", "most"] : List Str).map V.str)) (cM : Ct K mg "MOST_MARKS_bounds" (([12, 12, 9, 7] : List Int).map V.int)) (cF : Ct K mg "FACTORS" (([1, 1, 2, 4] : List Int).map V.int))
    (g_MOST_MARKS_partings : ∃ t, mg "MOST_MARKS_partings" = some (.int 5 t)) (CELL : CellD K mg) (TM : TmD K mg) : FnOk P w K mg base CX0 77 fL fdL ["_law_script"] (spLaw K) := by
  have C_parts_of := ok_parts_of (P := P) (w := w) (base := base) (hD ("parts_of", 7) (List.mem_of_getElem? (i := 0) rfl))
  have C_marks_in := ok_marks_in (P := P) (w := w) (base := base) (hD ("marks_in", 8) (List.mem_of_getElem? (i := 1) rfl)) T C_parts_of cP 64
  have C_occurrences := ok_occurrences (P := P) (w := w) (base := base) (hD ("occurrences", 11) (List.mem_of_getElem? (i := 2) rfl)) T C_parts_of 64
  have C__note_unknowns := ok_note_unknowns (P := P) (w := w) (base := base) (hD ("_note_unknowns", 9) (List.mem_of_getElem? (i := 3) rfl)) T C_parts_of 64
  have C_unknowns_of := ok_unknowns_of (P := P) (w := w) (base := base) (hD ("unknowns_of", 10) (List.mem_of_getElem? (i := 4) rfl)) T (n := 64) C__note_unknowns
  have C_common := ok_common (P := P) (w := w) (base := base) (hD ("common", 17) (List.mem_of_getElem? (i := 5) rfl)) T
  have C_lowest := ok_lowest (P := P) (w := w) (base := base) (hD ("lowest", 18) (List.mem_of_getElem? (i := 6) rfl)) C_common
  have C_faces := ok_faces (P := P) (w := w) (base := base) (hD ("faces", 20) (List.mem_of_getElem? (i := 7) rfl)) T
  have C_name_form := ok_name_form (P := P) (w := w) (base := base) (hD ("name_form", 23) (List.mem_of_getElem? (i := 8) rfl)) T
  have C_constant_form := ok_constant_form (P := P) (w := w) (base := base) (hD ("constant_form", 24) (List.mem_of_getElem? (i := 9) rfl))
  have C_opposite_form := ok_opposite_form (P := P) (w := w) (base := base) (hD ("opposite_form", 25) (List.mem_of_getElem? (i := 10) rfl)) T
  have C_sum_form := ok_sum_form (P := P) (w := w) (base := base) (hD ("sum_form", 26) (List.mem_of_getElem? (i := 11) rfl)) T
  have C_raised_form := ok_raised_form (P := P) (w := w) (base := base) (hD ("raised_form", 27) (List.mem_of_getElem? (i := 12) rfl))
  have C_not_form := ok_not_form (P := P) (w := w) (base := base) (hD ("not_form", 28) (List.mem_of_getElem? (i := 13) rfl)) C_opposite_form C_raised_form
  have C_question_of := ok_question_of (P := P) (w := w) (base := base) (hD ("question_of", 29) (List.mem_of_getElem? (i := 14) rfl)) cP C_opposite_form C_raised_form C_sum_form
  have C_form_by_side := ok_form_by_side (P := P) (w := w) (base := base) (hD ("form_by_side", 30) (List.mem_of_getElem? (i := 15) rfl)) T cS C_question_of C_constant_form C_raised_form C_not_form
  have C_number_at := ok_number_at (P := P) (w := w) (base := base) (hD ("number_at", 33) (List.mem_of_getElem? (i := 16) rfl)) T
  have C_bounding_forms := ok_bounding_forms (P := P) (w := w) (base := base) (hD ("bounding_forms", 34) (List.mem_of_getElem? (i := 17) rfl)) T CELL C_faces
  have C_whole_cube := ok_whole_cube (P := P) (w := w) (base := base) (hD ("whole_cube", 35) (List.mem_of_getElem? (i := 18) rfl)) T CELL
  have C__rank := ok__rank (P := P) (w := w) (base := base) (hD ("_rank", 36) (List.mem_of_getElem? (i := 19) rfl)) T
  have C__are_neighbours := ok__are_neighbours (P := P) (w := w) (base := base) (hD ("_are_neighbours", 37) (List.mem_of_getElem? (i := 20) rfl)) T CELL C_bounding_forms C_number_at C__rank
  have C__between := ok__between (P := P) (w := w) (base := base) (hD ("_between", 38) (List.mem_of_getElem? (i := 21) rfl)) T C_common
  have C_cut_cell := ok_cut_cell (P := P) (w := w) (base := base) (hD ("cut_cell", 39) (List.mem_of_getElem? (i := 22) rfl)) T CELL C_number_at C__are_neighbours C__between
  have C_point_of := ok_point_of (P := P) (w := w) (base := base) (hD ("point_of", 40) (List.mem_of_getElem? (i := 23) rfl)) T C_lowest
  have C_least_corner := ok_least_corner (P := P) (w := w) (base := base) (hD ("least_corner", 41) (List.mem_of_getElem? (i := 24) rfl)) CELL C_number_at
  have C_side_in := ok_side_in (P := P) (w := w) (base := base) (hD ("side_in", 42) (List.mem_of_getElem? (i := 25) rfl)) T CELL C_number_at
  have C_steps_of := ok_steps_of (P := P) (w := w) (base := base) (hD ("steps_of", 44) (List.mem_of_getElem? (i := 26) rfl)) C_parts_of 64
  have C_steps_along := ok_steps_along (P := P) (w := w) (base := base) (hD ("steps_along", 45) (List.mem_of_getElem? (i := 27) rfl)) (n := 64) C_steps_of
  have C__stacked := ok__stacked (P := P) (w := w) (base := base) (hD ("_stacked", 46) (List.mem_of_getElem? (i := 28) rfl)) T C_name_form C_not_form C_constant_form
  have C_next_question := ok_next_question (P := P) (w := w) (base := base) (hD ("next_question", 47) (List.mem_of_getElem? (i := 29) rfl)) T cP C__stacked
  have C_asked_there := ok_asked_there (P := P) (w := w) (base := base) (hD ("asked_there", 48) (List.mem_of_getElem? (i := 30) rfl)) C_question_of
  have C_taken_there := ok_taken_there (P := P) (w := w) (base := base) (hD ("taken_there", 49) (List.mem_of_getElem? (i := 31) rfl)) C_form_by_side
  have C_events := ok_events (P := P) (w := w) (base := base) (hD ("events", 50) (List.mem_of_getElem? (i := 32) rfl)) T CELL (n := 64) C_steps_along C_whole_cube C_next_question C_asked_there C_taken_there C_side_in C_cut_cell C_opposite_form
  have C_ends := ok_ends (P := P) (w := w) (base := base) (hD ("ends", 51) (List.mem_of_getElem? (i := 33) rfl)) (n := 64) C_events
  have C_less_one := ok_less_one (P := P) (w := w) (base := base) (hD ("less_one", 53) (List.mem_of_getElem? (i := 34) rfl)) C_raised_form
  have C_point_below := ok_point_below (P := P) (w := w) (base := base) (hD ("point_below", 54) (List.mem_of_getElem? (i := 35) rfl)) (n := 64) C_ends C_unknowns_of C_less_one C_least_corner C_number_at C_point_of
  have C__marked := ok__marked (P := P) (w := w) (base := base) (hD ("_marked", 62) (List.mem_of_getElem? (i := 36) rfl)) T
  have C__number_of := ok__number_of (P := P) (w := w) (base := base) (hD ("_number_of", 63) (List.mem_of_getElem? (i := 37) rfl)) C__marked
  have C__grid := ok__grid (P := P) (w := w) (base := base) (hD ("_grid", 64) (List.mem_of_getElem? (i := 38) rfl)) T
  have C__first_on_grid := ok__first_on_grid (P := P) (w := w) (base := base) (hD ("_first_on_grid", 65) (List.mem_of_getElem? (i := 39) rfl)) T C__grid C__number_of
  have C_check_counts := ok_check_counts (P := P) (w := w) (base := base) (hD ("check_counts", 14) (List.mem_of_getElem? (i := 40) rfl)) T TM cM
  have C_check_bounds := ok_check_bounds (P := P) (w := w) (base := base) (hD ("check_bounds", 15) (List.mem_of_getElem? (i := 41) rfl)) T (n := 64) C_unknowns_of C_check_counts C_marks_in
  have C_parting := ok_parting (P := P) (w := w) (base := base) (hD ("parting", 56) (List.mem_of_getElem? (i := 42) rfl)) (n := 64) C_check_bounds C_point_below
  have C_are_alike := ok_are_alike (P := P) (w := w) (base := base) (hD ("are_alike", 57) (List.mem_of_getElem? (i := 43) rfl)) (n := 64) C_parting
  have C_denominator_bound := ok_denominator_bound (P := P) (w := w) (base := base) (hD ("denominator_bound", 61) (List.mem_of_getElem? (i := 44) rfl)) T cF (n := 64) C_check_bounds C_unknowns_of C_occurrences
  have C_least_parting := ok_least_parting (P := P) (w := w) (base := base) (hD ("least_parting", 66) (List.mem_of_getElem? (i := 45) rfl)) T TM g_MOST_MARKS_partings (n := 64) C_denominator_bound C_unknowns_of C_marks_in C_are_alike C_steps_of C__first_on_grid C_lowest
  have C__law_lowest := ok__law_lowest (P := P) (w := w) (base := base) (hD ("_law_lowest", 74) (List.mem_of_getElem? (i := 46) rfl)) T
  have C__law_rows := ok__law_rows (P := P) (w := w) (base := base) (hD ("_law_rows", 75) (List.mem_of_getElem? (i := 47) rfl)) T
  have C__law_whole := ok__law_whole (P := P) (w := w) (base := base) (hD ("_law_whole", 76) (List.mem_of_getElem? (i := 48) rfl)) T
  have C__law_marks := ok__law_marks (P := P) (w := w) (base := base) (hD ("_law_marks", 77) (List.mem_of_getElem? (i := 49) rfl)) T 64
  have C__law_often := ok__law_often (P := P) (w := w) (base := base) (hD ("_law_often", 83) (List.mem_of_getElem? (i := 50) rfl)) T 64
  have C__law_names_in := ok__law_names_in (P := P) (w := w) (base := base) (hD ("_law_names_in", 72) (List.mem_of_getElem? (i := 51) rfl)) 64
  have C__law_graded := ok__law_graded (P := P) (w := w) (base := base) (hD ("_law_graded", 73) (List.mem_of_getElem? (i := 52) rfl)) T 64
  have C__law_bound := ok__law_bound (P := P) (w := w) (base := base) (hD ("_law_bound", 84) (List.mem_of_getElem? (i := 53) rfl)) T (n := 64) C__law_often
  have C__law_parts := ok__law_parts (P := P) (w := w) (base := base) (hD ("_law_parts", 85) (List.mem_of_getElem? (i := 54) rfl)) T (n := 64) C__law_graded
  have C__law_found := ok__law_found (P := P) (w := w) (base := base) (hD ("_law_found", 86) (List.mem_of_getElem? (i := 55) rfl)) T (n := 64) C__law_rows C__law_parts C__law_lowest
  have C__law_point_right := ok__law_point_right (P := P) (w := w) (base := base) (hD ("_law_point_right", 79) (List.mem_of_getElem? (i := 56) rfl)) T C__law_whole C__law_lowest
  have C__law_late := ok__law_late (P := P) (w := w) (base := base) (hD ("_law_late", 87) (List.mem_of_getElem? (i := 57) rfl)) T (n := 64) C__law_whole C__law_point_right C__law_parts
  have C__law_draw := ok__law_draw (P := P) (w := w) (base := base) (hD ("_law_draw", 69) (List.mem_of_getElem? (i := 58) rfl)) T
  have C__law_of := ok__law_of (P := P) (w := w) (base := base) (hD ("_law_of", 70) (List.mem_of_getElem? (i := 59) rfl)) T C__law_draw
  have C__law_saying := ok__law_saying (P := P) (w := w) (base := base) (hD ("_law_saying", 71) (List.mem_of_getElem? (i := 60) rfl)) T C__law_draw C__law_of 10
  have C__law_alike := ok__law_alike (P := P) (w := w) (base := base) (hD ("_law_alike", 81) (List.mem_of_getElem? (i := 61) rfl)) C__law_draw
  have C__law_drawn_names := ok__law_drawn_names (P := P) (w := w) (base := base) (hD ("_law_drawn_names", 78) (List.mem_of_getElem? (i := 62) rfl)) T C__law_draw C__law_of
  have C__law_pair := ok__law_pair (P := P) (w := w) (base := base) (hD ("_law_pair", 82) (List.mem_of_getElem? (i := 63) rfl)) T C__law_draw C__law_of C__law_saying C__law_alike C__law_marks
  have C__law_chain := ok__law_chain (P := P) (w := w) (base := base) (hD ("_law_chain", 80) (List.mem_of_getElem? (i := 64) rfl)) T
  have C__law_begun := ok__law_begun (P := P) (w := w) (base := base) (hD ("_law_begun", 68) (List.mem_of_getElem? (i := 65) rfl)) T
  have C__law_word := ok__law_word (P := P) (w := w) (base := base) (hD ("_law_word", 88) (List.mem_of_getElem? (i := 66) rfl)) TM (n := 64) C_denominator_bound C_least_parting
  have C__law_bounds_right := ok__law_bounds_right (P := P) (w := w) (base := base) (hD ("_law_bounds_right", 89) (List.mem_of_getElem? (i := 67) rfl)) T C__law_chain C__law_word
  exact ok_law F T C__law_bounds_right C__law_begun C__law_pair C__law_drawn_names C__law_of C__law_names_in C__law_marks C__law_bound C_least_parting C__law_found C_denominator_bound C__law_late C__law_whole C__law_point_right
end
end Hf


/-! ## HdC -/
set_option Elab.async false
set_option linter.all false
set_option maxRecDepth 100000
set_option maxHeartbeats 0
namespace Hf
open PySem PySem.Spec PyProof.Rows L2
section
variable {K : PySem.W.Frag} {h : Heap} {mg : Str → Option Value}
theorem dfOf (X : K.In h) (G : h.Ns mainGlobals mg) (c : He.SaysD HTop.fa HTop.fn K) (i : Nat) {x : Str} {st : Stmt} (h1 : HTop.fn[i]? = some ⟨(x, none), x, x, defArgs st, defBody st, defScope st, [], []⟩) (h2 : HTop.fa[i]? = some (.glo x)) : Df K mg x st := by
  obtain ⟨fd, F⟩ := c.def_ i h1
  exact ⟨⟨_, fd, F, He.glo_ok X G (c.fact i h2)⟩⟩
theorem all_cons {α : Type} {p : α → Prop} {x : α} {l : List α} (h : p x) (t : ∀ q ∈ l, p q) : ∀ q ∈ x :: l, p q := List.forall_mem_cons.mpr ⟨h, t⟩
theorem all_nil {α : Type} {p : α → Prop} : ∀ q ∈ ([] : List α), p q := fun q h => by cases h
theorem dfAll (X : K.In h) (G : h.Ns mainGlobals mg) (c : He.SaysD HTop.fa HTop.fn K) : ∀ q ∈ dfL, Df K mg q.1 (top q.2) := (all_cons (dfOf X G c 0 rfl rfl) (all_cons (dfOf X G c 1 rfl rfl) (all_cons (dfOf X G c 4 rfl rfl) (all_cons (dfOf X G c 2 rfl rfl) (all_cons (dfOf X G c 3 rfl rfl) (all_cons (dfOf X G c 7 rfl rfl) (all_cons (dfOf X G c 8 rfl rfl) (all_cons (dfOf X G c 9 rfl rfl) (all_cons (dfOf X G c 10 rfl rfl) (all_cons (dfOf X G c 11 rfl rfl) (all_cons (dfOf X G c 12 rfl rfl) (all_cons (dfOf X G c 13 rfl rfl) (all_cons (dfOf X G c 14 rfl rfl) (all_cons (dfOf X G c 15 rfl rfl) (all_cons (dfOf X G c 16 rfl rfl) (all_cons (dfOf X G c 17 rfl rfl) (all_cons (dfOf X G c 18 rfl rfl) (all_cons (dfOf X G c 19 rfl rfl) (all_cons (dfOf X G c 20 rfl rfl) (all_cons (dfOf X G c 21 rfl rfl) (all_cons (dfOf X G c 22 rfl rfl) (all_cons (dfOf X G c 23 rfl rfl) (all_cons (dfOf X G c 24 rfl rfl) (all_cons (dfOf X G c 25 rfl rfl) (all_cons (dfOf X G c 26 rfl rfl) (all_cons (dfOf X G c 27 rfl rfl) (all_cons (dfOf X G c 28 rfl rfl) (all_cons (dfOf X G c 29 rfl rfl) (all_cons (dfOf X G c 30 rfl rfl) (all_cons (dfOf X G c 31 rfl rfl) (all_cons (dfOf X G c 32 rfl rfl) (all_cons (dfOf X G c 33 rfl rfl) (all_cons (dfOf X G c 34 rfl rfl) (all_cons (dfOf X G c 35 rfl rfl) (all_cons (dfOf X G c 36 rfl rfl) (all_cons (dfOf X G c 37 rfl rfl) (all_cons (dfOf X G c 41 rfl rfl) (all_cons (dfOf X G c 42 rfl rfl) (all_cons (dfOf X G c 43 rfl rfl) (all_cons (dfOf X G c 44 rfl rfl) (all_cons (dfOf X G c 5 rfl rfl) (all_cons (dfOf X G c 6 rfl rfl) (all_cons (dfOf X G c 38 rfl rfl) (all_cons (dfOf X G c 39 rfl rfl) (all_cons (dfOf X G c 40 rfl rfl) (all_cons (dfOf X G c 45 rfl rfl) (all_cons (dfOf X G c 52 rfl rfl) (all_cons (dfOf X G c 53 rfl rfl) (all_cons (dfOf X G c 54 rfl rfl) (all_cons (dfOf X G c 55 rfl rfl) (all_cons (dfOf X G c 61 rfl rfl) (all_cons (dfOf X G c 50 rfl rfl) (all_cons (dfOf X G c 51 rfl rfl) (all_cons (dfOf X G c 62 rfl rfl) (all_cons (dfOf X G c 63 rfl rfl) (all_cons (dfOf X G c 64 rfl rfl) (all_cons (dfOf X G c 57 rfl rfl) (all_cons (dfOf X G c 65 rfl rfl) (all_cons (dfOf X G c 47 rfl rfl) (all_cons (dfOf X G c 48 rfl rfl) (all_cons (dfOf X G c 49 rfl rfl) (all_cons (dfOf X G c 59 rfl rfl) (all_cons (dfOf X G c 56 rfl rfl) (all_cons (dfOf X G c 60 rfl rfl) (all_cons (dfOf X G c 58 rfl rfl) (all_cons (dfOf X G c 46 rfl rfl) (all_cons (dfOf X G c 66 rfl rfl) (all_cons (dfOf X G c 67 rfl rfl) all_nil))))))))))))))))))))))))))))))))))))))))))))))))))))))))))))))))))))
theorem btAll (X : K.In h) (G : h.Ns mainGlobals mg) (c : He.SaysD HTop.fa HTop.fn K) : Bt mg := ⟨He.free_ok X G (c.fact 69 (f := .free "len") rfl), He.free_ok X G (c.fact 70 (f := .free "sum") rfl), He.free_ok X G (c.fact 71 (f := .free "tuple") rfl), He.free_ok X G (c.fact 72 (f := .free "max") rfl), He.free_ok X G (c.fact 73 (f := .free "min") rfl), He.free_ok X G (c.fact 74 (f := .free "abs") rfl), He.free_ok X G (c.fact 75 (f := .free "range") rfl), He.free_ok X G (c.fact 76 (f := .free "zip") rfl), He.free_ok X G (c.fact 77 (f := .free "dict") rfl), He.free_ok X G (c.fact 78 (f := .free "list") rfl), He.free_ok X G (c.fact 79 (f := .free "all") rfl), He.free_ok X G (c.fact 80 (f := .free "isinstance") rfl), He.free_ok X G (c.fact 81 (f := .free "int") rfl), He.free_ok X G (c.fact 82 (f := .free "bool") rfl)⟩
theorem ctOf (X : K.In h) (G : h.Ns mainGlobals mg) (c : He.SaysD HTop.fa HTop.fn K) (j : Nat) {x : Str} {vs : List He.Dv} {us : List V} (h1 : HTop.fa[j]? = some (.glo x)) (h2 : He.tupB K x vs = true) (e : vs.map (He.Dv.v K) = us) : Ct K mg x us :=
  ⟨⟨_, He.glo_ok X G (c.fact j h1), fun H => e ▸ He.tupB_ok h2 H⟩⟩
theorem facts {P : Program} {w : World} {f : Addr} (X : K.In h) (G : h.Ns mainGlobals mg) (hfa : mg ("law" : Str) = some (.ref f)) (c : He.SaysD HTop.fa HTop.fn K) (xx : HTop.ex K = true) :
    ∃ fd : FuncData, (∀ (s : Shared) (v : Value), BindsTo s fd ⟨[v], []⟩ [("_law_script", v)]) ∧ ∀ base : Heap, K.In base → base.Ns mainGlobals mg → FnOk P w K mg base CX0 77 f fd ["_law_script"] (spLaw K) := by
  unfold HTop.ex at xx
  simp only [Bool.and_eq_true, decide_eq_true_eq] at xx
  obtain ⟨x1, x2, x3, x4, x5, x6, x7, x8, x9, x10, x11, x12⟩ := xx
  obtain ⟨fd, F⟩ := c.def_ 68 (d := HTop.d90) rfl
  obtain ⟨fdC, FC⟩ := c.def_ 69 (d := HTop.dC) rfl
  obtain ⟨fdM, FM⟩ := c.def_ 70 (d := HTop.dM) rfl
  have e := hfa.symm.trans (He.glo_ok X G (c.fact 68 (f := .glo "law") rfl))
  cases e
  have gC := He.glo_ok X G (c.fact 83 (f := .glo "Cell") rfl)
  have gM := He.glo_ok X G (c.fact 84 (f := .glo "TooMany") rfl)
  have aC : cellA mg = He.ga K "Cell" := by unfold cellA; rw [gC]
  have aM : tmA mg = He.ga K "TooMany" := by unfold tmA; rw [gM]
  have CELL : CellD K mg := ⟨aC ▸ gC, aC ▸ He.cls_ok (c.fact 90 (f := .cls "Cell") rfl), aC ▸ He.noat_ok (c.fact 91 (f := .noat "Cell" "size") rfl), aC ▸ He.noat_ok (c.fact 92 (f := .noat "Cell" "path") rfl), aC ▸ He.noat_ok (c.fact 93 (f := .noat "Cell" "corners") rfl), ⟨_, fdC, FC, aC ▸ He.mkr_ok (c.fact 94 (f := .mkr "Cell") rfl)⟩⟩
  have TM : TmD K mg := ⟨aM ▸ gM, aM ▸ ⟨HTop.excB_ok x6, He.eqO_ok x7, x8, x9, x10⟩, aM ▸ xfB_ok x5, aM ▸ He.noat_ok (c.fact 95 (f := .noat "TooMany" "what") rfl), aM ▸ He.exm_ok (c.fact 96 (f := .exm "TooMany" "TooMany" true) rfl), ⟨_, fdM, FM, aM ▸ He.eqO_ok x11, x12⟩⟩
  have b := FunD.bindsA (ps := ["_law_script"]) F fun _ _ _ _ _ _ us hl => match us, hl with | [_], _ => rfl
  exact ⟨fd, fun s v => b s [v] rfl, fun base _ _ => chain F (dfAll X G c) (btAll X G c) (ctOf X G c 85 rfl x1 rfl) (ctOf X G c 86 rfl x2 rfl) (ctOf X G c 87 rfl x3 rfl) (ctOf X G c 88 rfl x4 rfl) (He.int_ok X G (c.fact 89 (f := .int "MOST_MARKS_partings" 5) rfl)) CELL TM⟩
end
end Hf
open PySem PySem.W PySem.Calls PyProof.Rows
theorem PySem.Challenge.cw_halftruths_k14_whole_least_denominators_holds : PySem.Challenge.rw_halftruths_k14_whole_least_denominators.Holds := by
  w_on; o_law
  refine HandSHeadRun.head_any (r := OpenLaw.row PySem.Challenge.rw_halftruths_k14_whole_least_denominators) (q := view (OpenLaw.row PySem.Challenge.rw_halftruths_k14_whole_least_denominators).prog [90]) (H := Hf.HTop.hk) (ob := Hf.HTop.ob) (M := 20000) (loose := Hf.HTop.names) (d := HandSHeadRun.topDef (OpenLaw.row PySem.Challenge.rw_halftruths_k14_whole_least_denominators).prog 90) (kwd := []) Hf.HTop.ob_eq
    (by kernel_rfl) (fun s => by kernel_rfl) Hf.HTop.run (by kernel_rfl) (by kernel_rfl) (by kernel_rfl) (by rfl) (by first | assumption | decide +kernel) (by decide +kernel) ⟨rfl, rfl, rfl, rfl, rfl, by decide +kernel⟩ ?hw ?hc
  case hw => w_witness2
  case hc =>
    refine L2.walk_ofE (l := PySem.Challenge.rw_halftruths_k14_whole_least_denominators) (n := 63) (k := 77) (x := "_law_script") (CX := L2.CX0) rfl (by decide) (by kernel_rfl) ⟨rfl, by decide, by decide⟩ ?F (fun _ _ _ _ z => z)
    intro w mg fa h Y G hmg0
    obtain ⟨K, KX, c, xx⟩ := Y
    have hmg : mg ("law" : PySem.Str) = some (.ref fa) := by
      have e : (HandSHeadRun.topDef (OpenLaw.row PySem.Challenge.rw_halftruths_k14_whole_least_denominators).prog 90).name = ("law" : PySem.Str) := by kernel_rfl
      rw [← e]
      exact hmg0
    obtain ⟨fd, hb, hF⟩ := Hf.facts (P := (PySem.Challenge.rw_halftruths_k14_whole_least_denominators).prog) (w := w) KX G hmg c xx
    exact ⟨K, fd, Hf.spLaw K, KX, hb, fun H a ns hl _ hS => ⟨a, ns, rfl, hS, hl, fun _ => rfl⟩, hF⟩


