import PyProof.Rows.All
import Wide.All
import OpenK.AllK
import Wide.FinOn
import KE.KStateDown
import HandS.ForMost
import HandS.Evl
import HandS.Exc
import HandS.WordsExc
import HandS.Defaults
import HandS.IsInst
import HandS.TupAny
import HandS.TupMul
import HandS.Wide
import HandS.Style
import HandS.Flow
import HandS.Conv
import HandS.Replace
import HandS.Star
import HandS.SortInts
import HandS.More
import HandS.Lambda
import HandS.HeadHook1
import HandS.HeadHook2
import HandS.HeadHook3
import HandS.HeadHook4
import PySem.Challenge.RW_twicewritten_k09_whole_between
import KE.DatumMoreOrd
import KE.RegKSuper
import KE.KExcSuper
import KE.KExcInit
import KE.KExcMake
import HandS.ExcInit
import HandS.ExcValue
import KE.KTryMore
import HandS.ExcIs
import HandS.ExcField
import KE.KExcIs
import HandS.Head0
import HandS.Head1
import HandS.Head2
import HandS.HeadEnd
import HandS.EndTab
import HandS.HeadWalk
import KE.SortKeyHeap
import HandS.SetTxt0
import HandS.Set
import KE.KxIndex
import KE.SortData
import PyProof.ReprRoads
import PyProof.ReprBulk
import KE.DataMinMax
set_option Elab.async false
set_option linter.all false
set_option maxRecDepth 100000
set_option maxHeartbeats 4000000
namespace K9
open PySem PySem.Spec PyProof.Rows L2 Evl
def topS (i : Nat) : Stmt := PySem.Challenge.pw_twicewritten_k09_whole_between.main.body.getD i (.Pass ⟨0, 0, 0, 0⟩)
abbrev s_is_whole : Stmt := topS 13
abbrev N_is_whole : List Str := ["value", "least", "most"]
theorem sc_is_whole : FnScope N_is_whole ["value", "least", "most"] (defScope s_is_whole) := ⟨rfl, rfl, rfl, by decide +kernel, rfl, by decide +kernel, by decide +kernel⟩
abbrev s_is_text : Stmt := topS 14
abbrev N_is_text : List Str := ["value", "sign"]
theorem sc_is_text : FnScope N_is_text ["value"] (defScope s_is_text) := ⟨rfl, rfl, rfl, by decide +kernel, rfl, by decide +kernel, by decide +kernel⟩
abbrev s_need_text : Stmt := topS 15
abbrev N_need_text : List Str := ["text"]
theorem sc_need_text : FnScope N_need_text ["text"] (defScope s_need_text) := ⟨rfl, rfl, rfl, by decide +kernel, rfl, by decide +kernel, by decide +kernel⟩
abbrev s_need_size : Stmt := topS 16
abbrev N_need_size : List Str := ["size"]
theorem sc_need_size : FnScope N_need_size ["size"] (defScope s_need_size) := ⟨rfl, rfl, rfl, by decide +kernel, rfl, by decide +kernel, by decide +kernel⟩
abbrev s_need_two : Stmt := topS 17
abbrev N_need_two : List Str := ["one", "other", "size"]
theorem sc_need_two : FnScope N_need_two ["one", "other", "size"] (defScope s_need_two) := ⟨rfl, rfl, rfl, by decide +kernel, rfl, by decide +kernel, by decide +kernel⟩
abbrev s_copied_of : Stmt := topS 18
abbrev N_copied_of : List Str := ["text", "size", "place"]
theorem sc_copied_of : FnScope N_copied_of ["text", "size", "place"] (defScope s_copied_of) := ⟨rfl, rfl, rfl, by decide +kernel, rfl, by decide +kernel, by decide +kernel⟩
abbrev s_doublings_of : Stmt := topS 19
abbrev N_doublings_of : List Str := ["text", "size", "every", "place"]
theorem sc_doublings_of : FnScope N_doublings_of ["text", "size"] (defScope s_doublings_of) := ⟨rfl, rfl, rfl, by decide +kernel, rfl, by decide +kernel, by decide +kernel⟩
abbrev s_gaps_of : Stmt := topS 22
abbrev N_gaps_of : List Str := ["text", "size", "own", "sign", "near", "far"]
theorem sc_gaps_of : FnScope N_gaps_of ["text", "size"] (defScope s_gaps_of) := ⟨rfl, rfl, rfl, by decide +kernel, rfl, by decide +kernel, by decide +kernel⟩
abbrev s_steps_of : Stmt := topS 23
abbrev N_steps_of : List Str := ["text", "size", "gap"]
theorem sc_steps_of : FnScope N_steps_of ["text", "size"] (defScope s_steps_of) := ⟨rfl, rfl, rfl, by decide +kernel, rfl, by decide +kernel, by decide +kernel⟩
abbrev s_runs_of : Stmt := topS 24
abbrev N_runs_of : List Str := ["text", "size", "found", "gap"]
theorem sc_runs_of : FnScope N_runs_of ["text", "size"] (defScope s_runs_of) := ⟨rfl, rfl, rfl, by decide +kernel, rfl, by decide +kernel, by decide +kernel⟩
abbrev s_laid_out : Stmt := topS 25
abbrev N_laid_out : List Str := ["own_steps", "own_runs", "found", "number", "many"]
theorem sc_laid_out : FnScope N_laid_out ["own_steps", "own_runs"] (defScope s_laid_out) := ⟨rfl, rfl, rfl, by decide +kernel, rfl, by decide +kernel, by decide +kernel⟩
abbrev s_built_of : Stmt := topS 26
abbrev N_built_of : List Str := ["front", "own_steps", "own_runs", "own", "size", "gap", "sign", "number"]
theorem sc_built_of : FnScope N_built_of ["front", "own_steps", "own_runs"] (defScope s_built_of) := ⟨rfl, rfl, rfl, by decide +kernel, rfl, by decide +kernel, by decide +kernel⟩
abbrev s_root_of : Stmt := topS 27
abbrev N_root_of : List Str := ["text", "size", "many"]
theorem sc_root_of : FnScope N_root_of ["text", "size"] (defScope s_root_of) := ⟨rfl, rfl, rfl, by decide +kernel, rfl, by decide +kernel, by decide +kernel⟩
abbrev s_first_place : Stmt := topS 28
abbrev N_first_place : List Str := ["text", "size", "number"]
theorem sc_first_place : FnScope N_first_place ["text", "size", "number"] (defScope s_first_place) := ⟨rfl, rfl, rfl, by decide +kernel, rfl, by decide +kernel, by decide +kernel⟩
abbrev s_unlike_word : Stmt := topS 32
abbrev N_unlike_word : List Str := ["later", "elder", "size"]
theorem sc_unlike_word : FnScope N_unlike_word ["later", "elder", "size"] (defScope s_unlike_word) := ⟨rfl, rfl, rfl, by decide +kernel, rfl, by decide +kernel, by decide +kernel⟩
abbrev s_is_short : Stmt := topS 33
abbrev N_is_short : List Str := ["more", "size"]
theorem sc_is_short : FnScope N_is_short ["more", "size"] (defScope s_is_short) := ⟨rfl, rfl, rfl, by decide +kernel, rfl, by decide +kernel, by decide +kernel⟩
abbrev s_growths_of : Stmt := topS 34
abbrev N_growths_of : List Str := ["later", "elder", "size", "one", "other"]
theorem sc_growths_of : FnScope N_growths_of ["later", "elder", "size"] (defScope s_growths_of) := ⟨rfl, rfl, rfl, by decide +kernel, rfl, by decide +kernel, by decide +kernel⟩
abbrev s_short_run : Stmt := topS 35
abbrev N_short_run : List Str := ["later", "elder", "size", "found", "number", "more"]
theorem sc_short_run : FnScope N_short_run ["later", "elder", "size"] (defScope s_short_run) := ⟨rfl, rfl, rfl, by decide +kernel, rfl, by decide +kernel, by decide +kernel⟩
abbrev s_does_come : Stmt := topS 36
abbrev N_does_come : List Str := ["later", "elder", "size"]
theorem sc_does_come : FnScope N_does_come ["later", "elder", "size"] (defScope s_does_come) := ⟨rfl, rfl, rfl, by decide +kernel, rfl, by decide +kernel, by decide +kernel⟩
abbrev s_are_kin_of : Stmt := topS 38
abbrev N_are_kin_of : List Str := ["one", "other", "size"]
theorem sc_are_kin_of : FnScope N_are_kin_of ["one", "other", "size"] (defScope s_are_kin_of) := ⟨rfl, rfl, rfl, by decide +kernel, rfl, by decide +kernel, by decide +kernel⟩
abbrev s_between_count_of : Stmt := topS 45
abbrev N_between_count_of : List Str := ["later", "elder", "size", "count", "more"]
theorem sc_between_count_of : FnScope N_between_count_of ["later", "elder", "size"] (defScope s_between_count_of) := ⟨rfl, rfl, rfl, by decide +kernel, rfl, by decide +kernel, by decide +kernel⟩
abbrev s_between_count : Stmt := topS 46
abbrev N_between_count : List Str := ["later", "elder", "size"]
theorem sc_between_count : FnScope N_between_count ["later", "elder", "size"] (defScope s_between_count) := ⟨rfl, rfl, rfl, by decide +kernel, rfl, by decide +kernel, by decide +kernel⟩
abbrev s_between_texts : Stmt := topS 47
abbrev N_between_texts : List Str := ["later", "elder", "size", "rows", "many", "more", "found", "row", "extra"]
theorem sc_between_texts : FnScope N_between_texts ["later", "elder", "size"] (defScope s_between_texts) := ⟨rfl, rfl, rfl, by decide +kernel, rfl, by decide +kernel, by decide +kernel⟩
abbrev s_apart_of : Stmt := topS 48
abbrev N_apart_of : List Str := ["one", "other", "size", "more"]
theorem sc_apart_of : FnScope N_apart_of ["one", "other", "size"] (defScope s_apart_of) := ⟨rfl, rfl, rfl, by decide +kernel, rfl, by decide +kernel, by decide +kernel⟩
abbrev s_deeds_apart : Stmt := topS 49
abbrev N_deeds_apart : List Str := ["one", "other", "size"]
theorem sc_deeds_apart : FnScope N_deeds_apart ["one", "other", "size"] (defScope s_deeds_apart) := ⟨rfl, rfl, rfl, by decide +kernel, rfl, by decide +kernel, by decide +kernel⟩
abbrev s_undone_at : Stmt := topS 50
abbrev N_undone_at : List Str := ["text", "size", "place"]
theorem sc_undone_at : FnScope N_undone_at ["text", "size", "place"] (defScope s_undone_at) := ⟨rfl, rfl, rfl, by decide +kernel, rfl, by decide +kernel, by decide +kernel⟩
abbrev s_deeds_of : Stmt := topS 51
abbrev N_deeds_of : List Str := ["one", "other", "size", "found", "here", "word", "number", "more", "place", "turn"]
theorem sc_deeds_of : FnScope N_deeds_of ["one", "other", "size"] (defScope s_deeds_of) := ⟨rfl, rfl, rfl, by decide +kernel, rfl, by decide +kernel, by decide +kernel⟩
abbrev s_deed_row : Stmt := topS 52
abbrev N_deed_row : List Str := ["one", "other", "size"]
theorem sc_deed_row : FnScope N_deed_row ["one", "other", "size"] (defScope s_deed_row) := ⟨rfl, rfl, rfl, by decide +kernel, rfl, by decide +kernel, by decide +kernel⟩
abbrev s_is_deed : Stmt := topS 53
abbrev N_is_deed : List Str := ["text", "size", "value"]
theorem sc_is_deed : FnScope N_is_deed ["text", "size", "value"] (defScope s_is_deed) := ⟨rfl, rfl, rfl, by decide +kernel, rfl, by decide +kernel, by decide +kernel⟩
abbrev s_check_deeds : Stmt := topS 54
abbrev N_check_deeds : List Str := ["one", "other", "size", "deeds", "here", "deed"]
theorem sc_check_deeds : FnScope N_check_deeds ["one", "other", "size", "deeds"] (defScope s_check_deeds) := ⟨rfl, rfl, rfl, by decide +kernel, rfl, by decide +kernel, by decide +kernel⟩
abbrev s_need_texts : Stmt := topS 55
abbrev N_need_texts : List Str := ["texts", "one"]
theorem sc_need_texts : FnScope N_need_texts ["texts"] (defScope s_need_texts) := ⟨rfl, rfl, rfl, by decide +kernel, rfl, by decide +kernel, by decide +kernel⟩
abbrev s_are_all_kin : Stmt := topS 56
abbrev N_are_all_kin : List Str := ["texts", "size", "one"]
theorem sc_are_all_kin : FnScope N_are_all_kin ["texts", "size"] (defScope s_are_all_kin) := ⟨rfl, rfl, rfl, by decide +kernel, rfl, by decide +kernel, by decide +kernel⟩
abbrev s_middle_of : Stmt := topS 57
abbrev N_middle_of : List Str := ["numbers"]
theorem sc_middle_of : FnScope N_middle_of ["numbers"] (defScope s_middle_of) := ⟨rfl, rfl, rfl, by decide +kernel, rfl, by decide +kernel, by decide +kernel⟩
abbrev s_middle_text : Stmt := topS 58
abbrev N_middle_text : List Str := ["texts", "size", "first", "own", "middle", "one", "number", "row"]
theorem sc_middle_text : FnScope N_middle_text ["texts", "size"] (defScope s_middle_text) := ⟨rfl, rfl, rfl, by decide +kernel, rfl, by decide +kernel, by decide +kernel⟩
abbrev s_deeds_to_all : Stmt := topS 59
abbrev N_deeds_to_all : List Str := ["text", "texts", "size", "one"]
theorem sc_deeds_to_all : FnScope N_deeds_to_all ["text", "texts", "size"] (defScope s_deeds_to_all) := ⟨rfl, rfl, rfl, by decide +kernel, rfl, by decide +kernel, by decide +kernel⟩
abbrev s_l_mixed : Stmt := topS 61
abbrev N_l_mixed : List Str := ["_law_cell", "_law_n", "_law_blend"]
theorem sc_l_mixed : FnScope N_l_mixed ["_law_cell", "_law_n"] (defScope s_l_mixed) := ⟨rfl, rfl, rfl, by decide +kernel, rfl, by decide +kernel, by decide +kernel⟩
abbrev s_l_folded : Stmt := topS 62
abbrev N_l_folded : List Str := ["_law_script", "_law_n", "_law_found", "_law_cell"]
theorem sc_l_folded : FnScope N_l_folded ["_law_script"] (defScope s_l_folded) := ⟨rfl, rfl, rfl, by decide +kernel, rfl, by decide +kernel, by decide +kernel⟩
abbrev s_l_draw : Stmt := topS 63
abbrev N_l_draw : List Str := ["_law_m", "_law_limit", "_law_n", "_law_lot", "_law_here", "_law_cell"]
theorem sc_l_draw : FnScope N_l_draw ["_law_m", "_law_limit"] (defScope s_l_draw) := ⟨rfl, rfl, rfl, by decide +kernel, rfl, by decide +kernel, by decide +kernel⟩
abbrev s_l_begun : Stmt := topS 64
abbrev N_l_begun : List Str := ["_law_script", "_law_m", "_law_cell"]
theorem sc_l_begun : FnScope N_l_begun ["_law_script"] (defScope s_l_begun) := ⟨rfl, rfl, rfl, by decide +kernel, rfl, by decide +kernel, by decide +kernel⟩
abbrev s_l_like : Stmt := topS 65
abbrev N_l_like : List Str := ["_law_got", "_law_due"]
theorem sc_l_like : FnScope N_l_like ["_law_got", "_law_due"] (defScope s_l_like) := ⟨rfl, rfl, rfl, by decide +kernel, rfl, by decide +kernel, by decide +kernel⟩
abbrev s_l_of : Stmt := topS 66
abbrev N_l_of : List Str := ["_law_m", "_law_some"]
theorem sc_l_of : FnScope N_l_of ["_law_m", "_law_some"] (defScope s_l_of) := ⟨rfl, rfl, rfl, by decide +kernel, rfl, by decide +kernel, by decide +kernel⟩
abbrev s_l_text_of : Stmt := topS 67
abbrev N_l_text_of : List Str := ["_law_m", "_law_many", "_law_long", "_law_text", "_law_again", "_law_wide", "_law_at", "_law_k"]
theorem sc_l_text_of : FnScope N_l_text_of ["_law_m", "_law_many", "_law_long"] (defScope s_l_text_of) := ⟨rfl, rfl, rfl, by decide +kernel, rfl, by decide +kernel, by decide +kernel⟩
abbrev s_l_grown : Stmt := topS 68
abbrev N_l_grown : List Str := ["_law_m", "_law_text", "_law_wide", "_law_most", "_law_again", "_law_at"]
theorem sc_l_grown : FnScope N_l_grown ["_law_m", "_law_text", "_law_wide", "_law_most"] (defScope s_l_grown) := ⟨rfl, rfl, rfl, by decide +kernel, rfl, by decide +kernel, by decide +kernel⟩
abbrev s_l_is_twice : Stmt := topS 69
abbrev N_l_is_twice : List Str := ["_law_text", "_law_wide", "_law_at"]
theorem sc_l_is_twice : FnScope N_l_is_twice ["_law_text", "_law_wide", "_law_at"] (defScope s_l_is_twice) := ⟨rfl, rfl, rfl, by decide +kernel, rfl, by decide +kernel, by decide +kernel⟩
abbrev s_l_bare : Stmt := topS 70
abbrev N_l_bare : List Str := ["_law_text", "_law_wide", "_law_spots", "_law_k"]
theorem sc_l_bare : FnScope N_l_bare ["_law_text", "_law_wide"] (defScope s_l_bare) := ⟨rfl, rfl, rfl, by decide +kernel, rfl, by decide +kernel, by decide +kernel⟩
abbrev s_l_once : Stmt := topS 71
abbrev N_l_once : List Str := ["_law_text", "_law_wide", "_law_k"]
theorem sc_l_once : FnScope N_l_once ["_law_text", "_law_wide"] (defScope s_l_once) := ⟨rfl, rfl, rfl, by decide +kernel, rfl, by decide +kernel, by decide +kernel⟩
abbrev s_l_does_come : Stmt := topS 72
abbrev N_l_does_come : List Str := ["_law_late", "_law_early", "_law_wide", "_law_some", "_law_more", "_law_one", "_law_k"]
theorem sc_l_does_come : FnScope N_l_does_come ["_law_late", "_law_early", "_law_wide"] (defScope s_l_does_come) := ⟨rfl, rfl, rfl, by decide +kernel, rfl, by decide +kernel, by decide +kernel⟩
abbrev s_l_odds : Stmt := topS 73
abbrev N_l_odds : List Str := ["_law_some"]
theorem sc_l_odds : FnScope N_l_odds [] (defScope s_l_odds) := ⟨rfl, rfl, rfl, by decide +kernel, rfl, by decide +kernel, by decide +kernel⟩
abbrev s_l_told : Stmt := topS 74
abbrev N_l_told : List Str := ["_law_call", "_law_found", "_law_caught", "error", "_law_said"]
theorem sc_l_told : FnScope N_l_told ["_law_call"] (defScope s_l_told) := ⟨rfl, rfl, rfl, by decide +kernel, rfl, by decide +kernel, by decide +kernel⟩
abbrev s_l_is_int : Stmt := topS 75
abbrev N_l_is_int : List Str := ["_law_thing", "_law_low", "_law_high"]
theorem sc_l_is_int : FnScope N_l_is_int ["_law_thing", "_law_low", "_law_high"] (defScope s_l_is_int) := ⟨rfl, rfl, rfl, by decide +kernel, rfl, by decide +kernel, by decide +kernel⟩
abbrev s_l_bent : Stmt := topS 76
abbrev N_l_bent : List Str := ["_law_m", "_law_thing", "_law_some", "_law_at", "_law_pick"]
theorem sc_l_bent : FnScope N_l_bent ["_law_m", "_law_thing", "_law_some"] (defScope s_l_bent) := ⟨rfl, rfl, rfl, by decide +kernel, rfl, by decide +kernel, by decide +kernel⟩
abbrev s_l_near_texts : Stmt := topS 77
abbrev N_l_near_texts : List Str := ["_law_text", "_law_wide", "_law_most", "_law_found", "_law_far_here", "_law_k"]
theorem sc_l_near_texts : FnScope N_l_near_texts ["_law_text", "_law_wide", "_law_most"] (defScope s_l_near_texts) := ⟨rfl, rfl, rfl, by decide +kernel, rfl, by decide +kernel, by decide +kernel⟩
abbrev s_l_far : Stmt := topS 78
abbrev N_l_far : List Str := ["_law_text", "_law_wide", "_law_most", "_law_found", "_law_some", "_law_many", "_law_more", "_law_one", "_law_far_here"]
theorem sc_l_far : FnScope N_l_far ["_law_text", "_law_wide", "_law_most"] (defScope s_l_far) := ⟨rfl, rfl, rfl, by decide +kernel, rfl, by decide +kernel, by decide +kernel⟩
abbrev s_l_between : Stmt := topS 79
abbrev N_l_between : List Str := ["_law_late", "_law_early", "_law_wide", "_law_some", "_law_found", "_law_here", "_law_far_here", "_law_size", "_law_one"]
theorem sc_l_between : FnScope N_l_between ["_law_late", "_law_early", "_law_wide"] (defScope s_l_between) := ⟨rfl, rfl, rfl, by decide +kernel, rfl, by decide +kernel, by decide +kernel⟩
abbrev s_l_led : Stmt := topS 80
abbrev N_l_led : List Str := ["_law_text", "_law_wide", "_law_row", "_law_thing", "_law_word", "_law_at"]
theorem sc_l_led : FnScope N_l_led ["_law_text", "_law_wide", "_law_row"] (defScope s_l_led) := ⟨rfl, rfl, rfl, by decide +kernel, rfl, by decide +kernel, by decide +kernel⟩
abbrev s_l_deeds_right : Stmt := topS 81
abbrev N_l_deeds_right : List Str := ["_law_m", "_law_one", "_law_other", "_law_wide", "_law_due", "_law_row", "_law_base", "_law_some", "_law_again", "_law_due_so", "_law_thing"]
theorem sc_l_deeds_right : FnScope N_l_deeds_right ["_law_m", "_law_one", "_law_other", "_law_wide", "_law_due"] (defScope s_l_deeds_right) := ⟨rfl, rfl, rfl, by decide +kernel, rfl, by decide +kernel, by decide +kernel⟩
abbrev s_l_middle_right : Stmt := topS 82
abbrev N_l_middle_right : List Str := ["_law_bunch", "_law_wide", "_law_far_so", "_law_every", "_law_sums", "_law_best", "_law_said", "_law_text", "_law_known", "_law_row"]
theorem sc_l_middle_right : FnScope N_l_middle_right ["_law_bunch", "_law_wide", "_law_far_so"] (defScope s_l_middle_right) := ⟨rfl, rfl, rfl, by decide +kernel, rfl, by decide +kernel, by decide +kernel⟩
abbrev s_law : Stmt := topS 83
abbrev N_law : List Str := ["_law_script", "_law_m", "_law_turn", "_law_wide", "_law_text", "_law_bunch", "_law_one", "_law_far_so", "_law_other", "_law_late", "_law_near", "_law_some", "_law_said", "_law_strange", "_law_far_here", "_law_k"]
theorem sc_law : FnScope N_law ["_law_script"] (defScope s_law) := ⟨rfl, rfl, rfl, by decide +kernel, rfl, by decide +kernel, by decide +kernel⟩
/-- a def as its callers want it -/
structure Cal (P : Program) (w : World) (K : PySem.W.Frag) (mg : Str → Option Value) (base : Heap) (CX : CXT) (k : Nat) (x : Str) (ps : List Str) (sp : Sp) : Prop where
  ex : ∃ (f : Addr) (fd : FuncData), FnOk P w K mg base CX k f fd ps sp ∧ mg x = some (.ref f) ∧ PySem.W.keepIn K (.ref f) = true ∧ Binds K fd ps []
/-- what the head tells of a def: x its name, st its statement -/
abbrev FnP (K : PySem.W.Frag) (mg : Str → Option Value) (x : Str) (st : Stmt) : Prop :=
  ∃ (f : Addr) (fd : FuncData), FunD K x x (defArgs st) (defBody st) (defScope st) [] [] f fd ∧ mg x = some (.ref f)
/-- a global constant -/
def GC (mg : Str → Option Value) (x : Str) (v : V) : Prop := ∃ u, mg x = some u ∧ RelV v u
def tCl (sp : Sp) (t : TA) : TE := fun σ H Q => t σ H fun vs H1 => sp vs H1 Q E0
section
variable {X : Cx} {CX : CXT} {k : Nat} {x : Str} {ps : List Str} {sp : Sp} {p pos : Pos} {e : Expr} {es : List Expr} {t : TA}
theorem pe_gc {v : V} (hg : Gl X x) (h : GC X.mg x v) (hdb : (x == ("__debug__" : Str)) = false := by decide) : PE X (.Name x pos) (tC v) := by
  obtain ⟨u, hu, r⟩ := h
  exact pe_glob hg hu r hdb
theorem pe_tyb {n : String} (hg : Gl X x) (hm : X.mg x = none) (hv : bootBuiltins x = some (.type n)) (hn : x ≠ "__name__" := by decide) (hdb : (x == ("__debug__" : Str)) = false := by decide) : PE X (.Name x pos) (tC (.ty n)) :=
  pe_bltn (v := .ty n) hg hm hv rfl hn hdb
theorem pe_c (C : Cal X.prog X.w X.K X.mg X.base CX0 k x ps sp) (hr : Room k X.A) (hg : Gl X x) (ha : PA X (e :: es) t) (hdb : (x == ("__debug__" : Str)) = false := by decide)
    (he : starEach (e :: es) X.env = (false, eval e X.env) :: starEach es X.env := by rfl) (hpl : (backTo pos (starEach es X.env)).any (·.1) = false := by rfl) : PE X (.Call (.Name x p) (e :: es) [] pos) (tCl sp t) := by
  obtain ⟨f, fd, F, hm, hk, hb⟩ := C.ex
  refine ⟨fun pins s σ H Q I h => ?_⟩
  refine (pe_call (dvs := []) (E := E0) F hr hg hm hk hb .nil pass0 ha hdb he hpl).run pins s σ H Q I ?_
  have e0 : (fun (vs : List V) (H1 : Hp) => sp (vs ++ []) H1 Q E0) = fun vs H1 => sp vs H1 Q E0 := by
    funext vs H1
    rw [List.append_nil]
  show t σ H (fun vs H1 => sp (vs ++ []) H1 Q E0)
  rw [e0]
  exact h
theorem pe_c0 (C : Cal X.prog X.w X.K X.mg X.base CX0 k x [] sp) (hr : Room k X.A) (hg : Gl X x) (hdb : (x == ("__debug__" : Str)) = false := by decide) : PE X (.Call (.Name x p) [] [] pos) (fun σ H Q => sp [] H Q E0) := by
  obtain ⟨f, fd, F, hm, hk, hb⟩ := C.ex
  exact pe_call0 (dvs := []) (E := E0) F hr hg hm hk hb .nil pass0 hdb
end
section
variable {P : Program} {w : World} {K : PySem.W.Frag} {mg : Str → Option Value} {base : Heap}
/-- THE RULE for a def of the text that lets nothing out -/
theorem cal_mk {x : Str} {st : Stmt} {N ps : List Str} {k : Nat} {sp : Sp} (F : FnP K mg x st) (S : FnScope N ps (defScope st)) (len : ∀ vs H Q E, sp vs H Q E → vs.length = ps.length)
    (hb : ∀ (kV doc pm : Value) (an : Option Addr) (cdv ct : Value) (us : List Value), us.length = ps.length → bindArgs (PySem.W.fnOf x x (defArgs st) (defBody st) (defScope st) .none kV doc pm an cdv ct) ⟨us, []⟩ = pure (ps.zip us))
    (hbody : ∀ (f : Addr) (cdv : Value) (A : Around) (outer : List Env) (s : Shared) (H : Hp) (vs : List V) (Q : VK) (E : XK), Room k (A.deeper (envOfC x (defScope st) s.heap.objs.size f cdv)) → sp vs H Q E →
      ∃ t, PSs (cxOf CX0 P w K mg base N x (defScope st) f cdv A outer s H E).nox (defBody st) t ∧ t { nx := fun _ H' => Q .non H', rt := Q } (start N vs) H) : Cal P w K mg base CX0 (k + 1) x ps sp := by
  obtain ⟨f, fd, D, hm⟩ := F
  refine ⟨f, fd, D.ok S len (fun cdv A outer s H vs Q E hr h => ?_), hm, D.kp, D.bindsN hb⟩
  obtain ⟨t, h1, h2⟩ := hbody f cdv A outer s H vs Q E hr h
  exact ⟨t, PSs.nox h1, h2⟩
end
/-- what the top leaves: built-ins not hidden, constants -/
structure Topf (mg : Str → Option Value) : Prop where
  b_len : mg "len" = none
  b_isinstance : mg "isinstance" = none
  b_int : mg "int" = none
  b_bool : mg "bool" = none
  b_str : mg "str" = none
  b_tuple : mg "tuple" = none
  b_list : mg "list" = none
  b_set : mg "set" = none
  b_all : mg "all" = none
  b_sum : mg "sum" = none
  b_abs : mg "abs" = none
  b_min : mg "min" = none
  b_max : mg "max" = none
  b_sorted : mg "sorted" = none
  b_range : mg "range" = none
  b_zip : mg "zip" = none
  b_enumerate : mg "enumerate" = none
  b_repr : mg "repr" = none
  c_LETTERS : GC mg "LETTERS" (.str "abcdef")
  c_MOST_LONG : GC mg "MOST_LONG" (.int 60)
  c_MOST_SIZE : GC mg "MOST_SIZE" (.int 6)
  c_MANY_LETTERS : GC mg "MANY_LETTERS" (.int 6)
  c_HEAD : GC mg "HEAD" (.str "head")
  c_STEPS : GC mg "STEPS" (.str "steps")
  c_COPY : GC mg "COPY" (.str "copy")
  c_UNDO : GC mg "UNDO" (.str "undo")
  c_MOST_LISTED : GC mg "MOST_LISTED" (.int 2000)
  c_MOST_TEXTS : GC mg "MOST_TEXTS" (.int 8)
  c_MOST_DEEDS : GC mg "MOST_DEEDS" (.int 120)
end K9
namespace K9
/-! Texts as lists of code points; gaps, steps, runs; copies and doublings undone, told by runs. Core Lean alone. -/
abbrev Tx := List Nat
def Let (c : Nat) : Prop := 97 ≤ c ∧ c ≤ 102
def Ok (t : Tx) : Prop := ∀ c ∈ t, Let c
def gp (n f : Nat) : Nat := (f + 6 - n) % 6
def nx (c g : Nat) : Nat := 97 + (c - 97 + g) % 6
theorem gp_nx {c g : Nat} (hc : Let c) (hg : g < 6) : gp c (nx c g) = g := by
  unfold gp nx; unfold Let at hc; omega
theorem nx_gp {n f : Nat} (hn : Let n) (hf : Let f) : nx n (gp n f) = f := by
  unfold gp nx; unfold Let at hn hf; omega
theorem nx_let (c g : Nat) : Let (nx c g) := by
  unfold nx Let; omega
theorem gp_lt (n f : Nat) : gp n f < 6 := Nat.mod_lt _ (by decide)
theorem gp_self {c : Nat} : gp c c = 0 := by
  unfold gp; omega
theorem gp_zero {n f : Nat} (hn : Let n) (hf : Let f) (h : gp n f = 0) : n = f := by
  have := nx_gp hn hf
  rw [h] at this
  rw [← this]; unfold nx; unfold Let at hn; omega
theorem Ok.nil : Ok [] := fun _ h => by cases h
theorem Ok.cons {c : Nat} {t : Tx} (hc : Let c) (h : Ok t) : Ok (c :: t) := fun x hx => by
  rcases List.mem_cons.mp hx with rfl | hx
  · exact hc
  · exact h x hx
theorem Ok.append {t u : Tx} (ht : Ok t) (hu : Ok u) : Ok (t ++ u) := fun x hx => (List.mem_append.mp hx).elim (ht x) (hu x)
theorem Ok.take {t : Tx} (h : Ok t) (n : Nat) : Ok (t.take n) := fun x hx => h x (List.mem_of_mem_take hx)
theorem Ok.drop {t : Tx} (h : Ok t) (n : Nat) : Ok (t.drop n) := fun x hx => h x (List.mem_of_mem_drop hx)
theorem Ok.get {t : Tx} (h : Ok t) {i : Nat} (hi : i < t.length) : Let t[i] := h _ (List.getElem_mem hi)

def gaps (w : Nat) (t : Tx) : List Nat := List.zipWith gp t (t.drop w)
theorem gaps_len (w : Nat) (t : Tx) : (gaps w t).length = t.length - w := by
  unfold gaps
  rw [List.length_zipWith, List.length_drop]
  omega
theorem gaps_get {w : Nat} {t : Tx} {i : Nat} (h : i < (gaps w t).length) :
    (gaps w t)[i] = gp (t[i]'(by rw [gaps_len] at h; omega)) (t[w + i]'(by rw [gaps_len] at h; omega)) := by
  have e : ∀ (l : List Nat) (he : l = List.zipWith gp t (t.drop w)) (hi : i < l.length), l[i] = gp (t[i]'(by rw [he, List.length_zipWith] at hi; omega)) (t[w + i]'(by rw [he, List.length_zipWith, List.length_drop] at hi; omega)) := by
    intro l he hi
    subst he
    rw [List.getElem_zipWith, List.getElem_drop]
  exact e _ rfl h
theorem gaps_lt (w : Nat) (t : Tx) : ∀ g ∈ gaps w t, g < 6 := fun g hg => by
  obtain ⟨i, hi, e⟩ := List.getElem_of_mem hg
  rw [← e, gaps_get hi]
  exact gp_lt _ _
/-- head and gaps tell a text -/
theorem coord_inj {w : Nat} {t u : Tx} (hw : 1 ≤ w) (ht : Ok t) (hu : Ok u) (lt : w ≤ t.length) (lu : w ≤ u.length) (hh : t.take w = u.take w) (hg : gaps w t = gaps w u) : t = u := by
  have hl : t.length = u.length := by
    have := congrArg List.length hg
    rw [gaps_len, gaps_len] at this
    omega
  have key : ∀ n i (h1 : i < t.length) (h2 : i < u.length), i ≤ n → t[i] = u[i] := by
    intro n
    induction n with
    | zero =>
      intro i h1 h2 hi
      obtain rfl : i = 0 := by omega
      have e1 : (t.take w)[0]'(by rw [List.length_take]; omega) = t[0] := List.getElem_take
      have e2 : (u.take w)[0]'(by rw [List.length_take]; omega) = u[0] := List.getElem_take
      rw [← e1, ← e2]
      simp only [hh]
    | succ n ih =>
      intro i h1 h2 hi
      by_cases hiw : i < w
      · have e1 : (t.take w)[i]'(by rw [List.length_take]; omega) = t[i] := List.getElem_take
        have e2 : (u.take w)[i]'(by rw [List.length_take]; omega) = u[i] := List.getElem_take
        rw [← e1, ← e2]
        simp only [hh]
      · obtain ⟨j, rfl⟩ : ∃ j, i = w + j := ⟨i - w, by omega⟩
        have a1 : j < (gaps w t).length := by rw [gaps_len]; omega
        have a2 : j < (gaps w u).length := by rw [gaps_len]; omega
        have g1 := gaps_get a1
        have g2 := gaps_get a2
        have ge : (gaps w t)[j] = (gaps w u)[j] := by simp only [hg]
        have hj := ih j (by omega) (by omega) (by omega)
        rw [g1, g2, hj] at ge
        have q1 := nx_gp (hu.get (i := j) (by omega)) (ht.get h1)
        have q2 := nx_gp (hu.get (i := j) (by omega)) (hu.get h2)
        rw [← q1, ← q2, ge]
  exact List.ext_getElem hl fun i h1 h2 => key i i h1 h2 (Nat.le_refl _)
def bld (w : Nat) : Tx → List Nat → Tx
  | own, [] => own
  | own, g :: gs => bld w (own ++ [nx (own.getD (own.length - w) 0) g]) gs
theorem gaps_snoc {w : Nat} {t : Tx} {x : Nat} (hw : 1 ≤ w) (h : w ≤ t.length) : gaps w (t ++ [x]) = gaps w t ++ [gp (t.getD (t.length - w) 0) x] := by
  apply List.ext_getElem
  · rw [gaps_len, List.length_append, List.length_append, gaps_len]
    show t.length + 1 - w = t.length - w + 1
    omega
  · intro i h1 h2
    rw [gaps_get h1]
    rw [gaps_len, List.length_append] at h1
    have h1' : i < t.length + 1 - w := h1
    by_cases hi : i < t.length - w
    · have a : i < (gaps w t).length := by rw [gaps_len]; exact hi
      rw [List.getElem_append_left a, gaps_get a, List.getElem_append_left (by omega), List.getElem_append_left (by omega)]
    · obtain rfl : i = t.length - w := by omega
      have a1 : (gaps w t ++ [gp (t.getD (t.length - w) 0) x])[t.length - w]'h2 = gp (t.getD (t.length - w) 0) x := by
        rw [List.getElem_append_right (by rw [gaps_len]; exact Nat.le_refl _)]
        exact List.getElem_singleton _
      have a2 : (t ++ [x])[t.length - w]'(by rw [List.length_append]; omega) = t.getD (t.length - w) 0 := by
        rw [List.getElem_append_left (by omega), List.getD_eq_getElem?_getD, List.getElem?_eq_getElem (by omega)]
        rfl
      have a3 : (t ++ [x])[w + (t.length - w)]'(by rw [List.length_append, List.length_singleton]; omega) = x := by
        rw [List.getElem_append_right (by omega)]
        exact List.getElem_singleton _
      rw [a1, a2, a3]
theorem bld_facts {w : Nat} (hw : 1 ≤ w) : ∀ (gs : List Nat) (own : Tx), w ≤ own.length → Ok own → (∀ g ∈ gs, g < 6) →
    gaps w (bld w own gs) = gaps w own ++ gs ∧ (bld w own gs).take own.length = own ∧ Ok (bld w own gs) ∧ (bld w own gs).length = own.length + gs.length
  | [], own, _, ho, _ => ⟨by simp [bld], by simp [bld], ho, rfl⟩
  | g :: gs, own, hl, ho, hg => by
    have hlet : Let (own.getD (own.length - w) 0) := by
      rw [List.getD_eq_getElem?_getD, List.getElem?_eq_getElem (by omega)]
      exact ho.get _
    obtain ⟨a, b, c, d⟩ := bld_facts hw gs (own ++ [nx (own.getD (own.length - w) 0) g]) (by rw [List.length_append]; omega) (ho.append (Ok.cons (nx_let _ _) Ok.nil)) (fun x hx => hg x (List.mem_cons_of_mem _ hx))
    refine ⟨?_, ?_, c, ?_⟩
    · show gaps w (bld w (own ++ [nx (own.getD (own.length - w) 0) g]) gs) = _
      rw [a, gaps_snoc hw hl, gp_nx hlet (hg g List.mem_cons_self), List.append_assoc]
      rfl
    · show (bld w (own ++ [nx (own.getD (own.length - w) 0) g]) gs).take own.length = own
      have e := congrArg (List.take own.length) b
      rw [List.take_take, List.length_append, List.take_left] at e
      rw [show min own.length (own.length + [nx (own.getD (own.length - w) 0) g].length) = own.length by omega] at e
      exact e
    · show (bld w (own ++ [nx (own.getD (own.length - w) 0) g]) gs).length = _
      rw [d, List.length_append, List.length_cons, List.length_nil, List.length_cons]
      omega

/-! ### gaps as steps and runs -/
def lay : List Nat → List Nat → List Nat
  | _, [] => []
  | [], r :: R => List.replicate r 0 ++ lay [] R
  | s :: S, r :: R => List.replicate r 0 ++ s :: lay S R
def bump : List Nat → Nat → Nat → List Nat
  | [], _, _ => []
  | r :: R, 0, k => (r + k) :: R
  | r :: R, i + 1, k => r :: bump R i k
def rg : List Nat → List Nat
  | [] => [0]
  | 0 :: g => bump (rg g) 0 1
  | (_ + 1) :: g => 0 :: rg g
def sg (g : List Nat) : List Nat := g.filter (fun x => x != 0)
theorem bump_len : ∀ (R : List Nat) (i k : Nat), (bump R i k).length = R.length
  | [], _, _ => rfl
  | _ :: _, 0, _ => rfl
  | r :: R, i + 1, k => by show (bump R i k).length + 1 = _; rw [bump_len R i k]; rfl
theorem bump_comm : ∀ (R : List Nat) (i j a b : Nat), bump (bump R i a) j b = bump (bump R j b) i a
  | [], _, _, _, _ => rfl
  | r :: R, 0, 0, a, b => by show (r + a + b) :: R = (r + b + a) :: R; rw [Nat.add_right_comm]
  | r :: R, 0, j + 1, a, b => rfl
  | r :: R, i + 1, 0, a, b => rfl
  | r :: R, i + 1, j + 1, a, b => by show r :: bump (bump R i a) j b = r :: bump (bump R j b) i a; rw [bump_comm R i j a b]
theorem bump_bump : ∀ (R : List Nat) (i a b : Nat), bump (bump R i a) i b = bump R i (a + b)
  | [], _, _, _ => rfl
  | r :: R, 0, a, b => by show (r + a + b) :: R = (r + (a + b)) :: R; rw [Nat.add_assoc]
  | r :: R, i + 1, a, b => by show r :: bump (bump R i a) i b = r :: bump R i (a + b); rw [bump_bump R i a b]
theorem bump_zero : ∀ (R : List Nat) (i : Nat), bump R i 0 = R
  | [], _ => rfl
  | r :: R, 0 => rfl
  | r :: R, i + 1 => by show r :: bump R i 0 = r :: R; rw [bump_zero R i]
theorem rg_len : ∀ g : List Nat, (rg g).length = (sg g).length + 1
  | [] => rfl
  | 0 :: g => by show (bump (rg g) 0 1).length = _; rw [bump_len, rg_len g]; rfl
  | (n + 1) :: g => by
    show (rg g).length + 1 = _
    rw [rg_len g]
    rfl
theorem rg_zeros : ∀ (k : Nat) (g : List Nat), rg (List.replicate k 0 ++ g) = bump (rg g) 0 k
  | 0, g => by rw [bump_zero]; rfl
  | k + 1, g => by
    show bump (rg (List.replicate k 0 ++ g)) 0 1 = _
    rw [rg_zeros k g, bump_bump]
/-- zeros put in -/
theorem rg_ins : ∀ (x : List Nat) (k : Nat) (y : List Nat), rg (x ++ (List.replicate k 0 ++ y)) = bump (rg (x ++ y)) (sg x).length k
  | [], k, y => rg_zeros k y
  | 0 :: x, k, y => by
    show bump (rg (x ++ (List.replicate k 0 ++ y))) 0 1 = bump (bump (rg (x ++ y)) 0 1) (sg x).length k
    rw [rg_ins x k y, bump_comm]
  | (n + 1) :: x, k, y => by
    show 0 :: rg (x ++ (List.replicate k 0 ++ y)) = bump (0 :: rg (x ++ y)) ((sg x).length + 1) k
    rw [rg_ins x k y]
    rfl
theorem sg_append (x y : List Nat) : sg (x ++ y) = sg x ++ sg y := List.filter_append ..
theorem sg_zeros (k : Nat) : sg (List.replicate k 0) = [] := by
  induction k with
  | zero => rfl
  | succ k ih => show sg (List.replicate k 0) = []; exact ih
theorem sg_ins (x : List Nat) (k : Nat) (y : List Nat) : sg (x ++ (List.replicate k 0 ++ y)) = sg (x ++ y) := by
  rw [sg_append, sg_append, sg_append, sg_zeros]
  rfl
theorem lay_cons0 : ∀ (S R : List Nat), R ≠ [] → lay S (bump R 0 1) = 0 :: lay S R
  | _, [], h => absurd rfl h
  | [], r :: R, _ => by
    show List.replicate (r + 1) 0 ++ lay [] R = 0 :: (List.replicate r 0 ++ lay [] R)
    rfl
  | s :: S, r :: R, _ => by
    show List.replicate (r + 1) 0 ++ s :: lay S R = 0 :: (List.replicate r 0 ++ s :: lay S R)
    rfl
theorem rg_ne (g : List Nat) : rg g ≠ [] := fun h => by
  have := rg_len g
  rw [h] at this
  simp at this
theorem lay_rg : ∀ g : List Nat, lay (sg g) (rg g) = g
  | [] => rfl
  | 0 :: g => by
    show lay (sg g) (bump (rg g) 0 1) = 0 :: g
    rw [lay_cons0 _ _ (rg_ne g), lay_rg g]
  | (n + 1) :: g => by
    show List.replicate 0 0 ++ (n + 1) :: lay (sg g) (rg g) = (n + 1) :: g
    rw [lay_rg g]
    rfl
theorem rg_lay : ∀ (S R : List Nat), (∀ s ∈ S, s ≠ 0) → R.length = S.length + 1 → rg (lay S R) = R ∧ sg (lay S R) = S
  | _, [], _, h => by simp at h
  | [], [r], _, _ => by
    have e : lay [] [r] = List.replicate r 0 ++ [] := rfl
    rw [e, rg_zeros, List.append_nil, sg_zeros]
    refine ⟨?_, rfl⟩
    show (0 + r) :: [] = [r]
    rw [Nat.zero_add]
  | [], r :: r' :: R, _, h => by simp at h
  | s :: S, r :: R, hs, h => by
    have ih := rg_lay S R (fun x hx => hs x (List.mem_cons_of_mem _ hx)) (by simpa using h)
    obtain ⟨n, rfl⟩ : ∃ n, s = n + 1 := ⟨s - 1, by have := hs s List.mem_cons_self; omega⟩
    have e : lay ((n + 1) :: S) (r :: R) = List.replicate r 0 ++ (n + 1) :: lay S R := rfl
    rw [e, rg_zeros, sg_append, sg_zeros]
    refine ⟨?_, ?_⟩
    · show bump (0 :: rg (lay S R)) 0 r = _
      rw [ih.1]
      show (0 + r) :: R = _
      rw [Nat.zero_add]
    · show (n + 1) :: sg (lay S R) = _
      rw [ih.2]
theorem lay_len : ∀ (S R : List Nat), R.length = S.length + 1 → (lay S R).length = R.sum + S.length
  | _, [], h => by simp at h
  | [], [r], _ => by
    show (List.replicate r 0 ++ []).length = _
    simp
  | [], r :: r' :: R, h => by simp at h
  | s :: S, r :: R, h => by
    have ih := lay_len S R (by simpa using h)
    show (List.replicate r 0 ++ s :: lay S R).length = _
    rw [List.length_append, List.length_replicate, List.length_cons, ih, List.sum_cons, List.length_cons]
    omega
theorem lay_mem : ∀ (S R : List Nat), (∀ s ∈ S, s < 6) → ∀ g ∈ lay S R, g < 6
  | _, [], _, g, h => by cases h
  | [], r :: R, hs, g, h => by
    rcases List.mem_append.mp h with h | h
    · rw [(List.mem_replicate.mp h).2]; decide
    · exact lay_mem [] R hs g h
  | s :: S, r :: R, hs, g, h => by
    rcases List.mem_append.mp h with h | h
    · rw [(List.mem_replicate.mp h).2]; decide
    · rcases List.mem_cons.mp h with h | h
      · rw [h]; exact hs s List.mem_cons_self
      · exact lay_mem S R (fun x hx => hs x (List.mem_cons_of_mem _ hx)) g h
/-- the first place of a run -/
def fpl (R : List Nat) (i : Nat) : Nat := (R.take i).sum + i
theorem sg_fpl : ∀ (S R : List Nat) (i : Nat), (∀ s ∈ S, s ≠ 0) → R.length = S.length + 1 → i < R.length → (sg ((lay S R).take (fpl R i))).length = i ∧ fpl R i ≤ (lay S R).length
  | _, [], _, _, h, _ => by simp at h
  | S, r :: R, 0, _, h, _ => by
    show (sg ((lay S (r :: R)).take 0)).length = 0 ∧ 0 ≤ _
    exact ⟨rfl, Nat.zero_le _⟩
  | [], [r], i + 1, _, _, hi => by simp at hi
  | [], r :: r' :: R, _ + 1, _, h, _ => by simp at h
  | s :: S, r :: R, i + 1, hs, h, hi => by
    have ih := sg_fpl S R i (fun x hx => hs x (List.mem_cons_of_mem _ hx)) (by simpa using h) (by simpa using hi)
    have e : lay (s :: S) (r :: R) = List.replicate r 0 ++ s :: lay S R := rfl
    have ef : fpl (r :: R) (i + 1) = (List.replicate r 0).length + (fpl R i + 1) := by
      unfold fpl
      rw [List.take_succ_cons, List.sum_cons, List.length_replicate]
      omega
    obtain ⟨n, rfl⟩ : ∃ n, s = n + 1 := ⟨s - 1, by have := hs s List.mem_cons_self; omega⟩
    rw [e, ef, List.take_length_add_append, sg_append, sg_zeros, List.take_succ_cons]
    refine ⟨?_, ?_⟩
    · show (sg ((lay S R).take (fpl R i))).length + 1 = i + 1
      rw [ih.1]
    · rw [List.length_append, List.length_cons]
      have := ih.2
      omega
end K9
namespace K9
open PySem PySem.Spec PyProof.Rows L2 Evl
/-! ### texts as lists of code points -/
def tv (t : List Nat) : V := .str ⟨t.toArray⟩
abbrev iv (n : Nat) : V := .int (n : Int)
theorem tv_len (t : List Nat) : (⟨t.toArray⟩ : Str).length = t.length := by
  show t.toArray.size = t.length
  simp
theorem tv_inj {t u : List Nat} (h : tv t = tv u) : t = u := by
  unfold tv at h
  have h1 := V.str.inj h
  have h2 : t.toArray = u.toArray := congrArg Str.cps h1
  simpa using congrArg Array.toList h2
theorem tv_dec (t u : List Nat) : decide (tv t = tv u) = decide (t = u) := by
  by_cases h : t = u
  · subst h; simp
  · rw [decide_eq_false h, decide_eq_false (fun e => h (tv_inj e))]
theorem str_app (t u : List Nat) : (⟨t.toArray⟩ : Str) ++ (⟨u.toArray⟩ : Str) = ⟨(t ++ u).toArray⟩ := by
  show (⟨t.toArray ++ u.toArray⟩ : Str) = _
  simp
theorem abc : ("abcdef" : Str) = ⟨[97, 98, 99, 100, 101, 102].toArray⟩ := by decide +kernel
theorem cut_to (t : List Nat) (n : Nat) : cutS ⟨t.toArray⟩ none (some (n : Int)) = ⟨(t.take n).toArray⟩ := by
  unfold cutS
  rw [HT.sIx_none, HT.sIx_nat, tv_len]
  show (⟨((t.toArray.toList.drop 0).take (min n t.length - 0)).toArray⟩ : Str) = _
  rw [List.drop_zero, Nat.sub_zero, List.take_eq_take_min]
  simp [Nat.min_comm]
theorem cut_from (t : List Nat) (n : Nat) : cutS ⟨t.toArray⟩ (some (n : Int)) none = ⟨(t.drop n).toArray⟩ := by
  unfold cutS
  rw [HT.sIx_none, HT.sIx_nat, tv_len]
  show (⟨((t.toArray.toList.drop (min n t.length)).take (t.length - min n t.length)).toArray⟩ : Str) = _
  have e : t.toArray.toList.drop (min n t.length) = t.drop n := by
    show t.drop (min n t.length) = t.drop n
    by_cases h : n ≤ t.length
    · rw [Nat.min_eq_left h]
    · rw [Nat.min_eq_right (by omega), List.drop_of_length_le (Nat.le_refl _), List.drop_of_length_le (by omega)]
  rw [e, List.take_of_length_le (by rw [List.length_drop]; omega)]
theorem cut_mid (t : List Nat) (m n : Nat) : cutS ⟨t.toArray⟩ (some (m : Int)) (some ((m + n : Nat) : Int)) = ⟨((t.drop m).take n).toArray⟩ := by
  unfold cutS
  rw [HT.sIx_nat, HT.sIx_nat, tv_len]
  show (⟨((t.toArray.toList.drop (min m t.length)).take (min (m + n) t.length - min m t.length)).toArray⟩ : Str) = _
  have e : t.toArray.toList.drop (min m t.length) = t.drop m := by
    show t.drop (min m t.length) = t.drop m
    by_cases h : m ≤ t.length
    · rw [Nat.min_eq_left h]
    · rw [Nat.min_eq_right (by omega), List.drop_of_length_le (Nat.le_refl _), List.drop_of_length_le (by omega)]
  rw [e]
  congr 2
  have hl : (t.drop m).length = t.length - m := List.length_drop
  by_cases h : m ≤ t.length
  · rw [Nat.min_eq_left h]
    by_cases h2 : m + n ≤ t.length
    · rw [Nat.min_eq_left h2, Nat.add_sub_cancel_left]
    · rw [Nat.min_eq_right (by omega), List.take_of_length_le (by omega), List.take_of_length_le (by omega)]
  · rw [List.drop_of_length_le (by omega), List.take_nil, List.take_nil]
theorem cutV_from (xs : List V) (n : Nat) : cutV xs (some (n : Int)) none = xs.drop n := by
  unfold cutV
  rw [HT.sIx_none, HT.sIx_nat]
  by_cases h : n ≤ xs.length
  · rw [Nat.min_eq_left h, List.take_of_length_le (by rw [List.length_drop]; omega)]
  · rw [Nat.min_eq_right (by omega), List.drop_of_length_le (Nat.le_refl _), List.drop_of_length_le (by omega), List.take_nil]
theorem cutV_to (xs : List V) (n : Nat) : cutV xs none (some (n : Int)) = xs.take n := by
  unfold cutV
  rw [HT.sIx_none, HT.sIx_nat, List.drop_zero, Nat.sub_zero]
  by_cases h : n ≤ xs.length
  · rw [Nat.min_eq_left h]
  · rw [Nat.min_eq_right (by omega), List.take_of_length_le (Nat.le_refl _), List.take_of_length_le (by omega)]
theorem sz60 {n : Nat} (h : n ≤ 1000000) : n ≤ sizeLine := by
  rw [sizeLine_eq]; omega
theorem sz60' {n : Nat} (h : n ≤ 1000000) : n < sizeLine := by
  rw [sizeLine_eq]; omega
/-! ### heaps -/
theorem Ex.new1 {H : Hp} {p : Addr} {o : HO} (h : H p = none) : Ex H (upd H p o) := Ex.new h
/-- H without p -/
def drp (H : Hp) (p : Addr) : Hp := fun a => if a = p then none else H a
theorem drp_ex (H : Hp) (p : Addr) : Ex (drp H p) H := fun a o e => by
  unfold drp at e
  by_cases h : a = p
  · rw [if_pos h] at e; cases e
  · rw [if_neg h] at e; exact e
theorem drp_at (H : Hp) (p : Addr) : drp H p p = none := if_pos rfl
theorem drp_ne {H : Hp} {p a : Addr} (h : a ≠ p) : drp H p a = H a := if_neg h
theorem drp_mut {H H' : Hp} {p : Addr} {o : HO} (e : Ex (drp H p) H') : Ex (drp H p) (upd H' p o) := e.mut (drp_at H p)
theorem drp_of {H0 H : Hp} {p : Addr} (e : Ex H0 H) (h : H0 p = none) : Ex H0 (drp H p) := fun a o q => by
  rw [drp_ne (ne_of_none q h)]; exact e a o q
/-! ### what is walked -/
def Runs (J : It) (g : TG) (n : Nat) (τ : Nat → L2.St → L2.St) (B : Hp) : Prop :=
  ∀ H, Ex B H → (∀ i, i < n → J.go i H ∧ ∀ σ x H', J.yld i H x H' → Ex H H' ∧ ∀ Q : L2.St → Hp → Prop, Q (τ i σ) H' → g x σ H' Q) ∧ J.stop n H
theorem Runs.mono {J : It} {g : TG} {n : Nat} {τ : Nat → L2.St → L2.St} {B B' : Hp} (R : Runs J g n τ B) (e : Ex B B') : Runs J g n τ B' := fun H h => R H (e.trans h)
theorem for_runs {J : It} {g : TG} {n : Nat} {τ : Nat → L2.St → L2.St} {B : Hp} {tb : TS} {D : Ends} {σ : L2.St} {H : Hp} (R : Runs J g n τ B) (Pv : Nat → L2.St → Hp → Prop) (h0 : Pv 0 σ H) (hB : ∀ i σ H, Pv i σ H → Ex B H)
    (hs : ∀ i σ' H' H'', i < n → Pv i σ' H' → Ex H' H'' → tb { D with nx := Pv (i + 1), ct := Pv (i + 1), bk := D.nx } (τ i σ') H'') (hd : ∀ σ' H', Pv n σ' H' → D.nx σ' H') :
    ∃ W : Nat → Nat → L2.St → Hp → Prop, (∃ m, W 0 m σ H) ∧ ∀ i m σ H, W i m σ H →
      (J.stop i H ∧ D.nx σ H) ∨ (J.go i H ∧ ∃ N : L2.St → Hp → Prop, (∀ σ' H', N σ' H' → ∃ m', m' < m ∧ W (i + 1) m' σ' H') ∧ ∀ x H', J.yld i H x H' → g x σ H' fun σ2 H2 => tb { D with nx := N, ct := N, bk := D.nx } σ2 H2) := by
  refine ⟨fun i m σ H => i + m = n ∧ Pv i σ H, ⟨n, by omega, h0⟩, fun i m σ H hW => ?_⟩
  obtain ⟨em, p⟩ := hW
  obtain ⟨r1, r2⟩ := R H (hB i σ H p)
  by_cases hi : i < n
  · obtain ⟨a, b⟩ := r1 i hi
    refine .inr ⟨a, Pv (i + 1), fun σ' H' q => ⟨m - 1, by omega, by omega, q⟩, fun x H' y => ?_⟩
    obtain ⟨e, c⟩ := b σ x H' y
    exact c _ (hs i σ H H' hi p e)
  · have : i = n := by omega
    subst this
    exact .inl ⟨r2, hd σ H p⟩
theorem runs_list {K : PySem.W.Frag} {a : Addr} {xs : List V} {B : Hp} {j : Nat} (h : SqL K B a xs) : Runs (Itl K a) (gName j) xs.length (fun i σ => σ.set j (some (xs.getD i .non))) B := fun H e => by
  have hx := ex_l e h
  refine ⟨fun i hi => ⟨⟨xs, xs[i], hx, List.getElem?_eq_getElem hi⟩, fun σ x H' y => ?_⟩, ⟨xs, hx, Nat.le_refl _⟩⟩
  obtain ⟨rfl, y⟩ := y
  refine ⟨Ex.refl _, fun Q q => ?_⟩
  have ey := y xs hx
  have e2 : xs.getD i .non = x := by rw [List.getD_eq_getElem?_getD, ey]; rfl
  dsimp only at q
  rw [e2] at q
  exact q
theorem runs_tup {K : PySem.W.Frag} {a : Addr} {xs : List V} {B : Hp} {j : Nat} (h : SqT K B a xs) : Runs (Itt K a) (gName j) xs.length (fun i σ => σ.set j (some (xs.getD i .non))) B := fun H e => by
  have hx := ex_t e h
  refine ⟨fun i hi => ⟨⟨xs, xs[i], hx, List.getElem?_eq_getElem hi⟩, fun σ x H' y => ?_⟩, ⟨xs, hx, Nat.le_refl _⟩⟩
  obtain ⟨rfl, y⟩ := y
  refine ⟨Ex.refl _, fun Q q => ?_⟩
  have ey := y xs hx
  have e2 : xs.getD i .non = x := by rw [List.getD_eq_getElem?_getD, ey]; rfl
  dsimp only at q
  rw [e2] at q
  exact q
theorem runs_str {t : List Nat} {B : Hp} {j : Nat} : Runs (Its ⟨t.toArray⟩) (gName j) t.length (fun i σ => σ.set j (some (tv [t.getD i 0]))) B := fun H e => by
  have hz : t.toArray.size = t.length := by simp
  refine ⟨fun i hi => ⟨by show i < t.toArray.size; rw [hz]; exact hi, fun σ x H' y => ?_⟩, by show t.toArray.size ≤ t.length; rw [hz]; exact Nat.le_refl _⟩
  obtain ⟨rfl, c, hc, rfl⟩ := y
  refine ⟨Ex.refl _, fun Q q => ?_⟩
  have hc' : t[i]? = some c := by
    have h1 : t.toArray[i]? = some c := hc
    rw [List.getElem?_toArray] at h1
    exact h1
  have e2 : t.getD i 0 = c := by rw [List.getD_eq_getElem?_getD, hc']; rfl
  dsimp only at q
  rw [e2] at q
  exact q
theorem runs_range {lo : Int} {n : Nat} {B : Hp} {j : Nat} : Runs (Itr lo n) (gName j) n (fun i σ => σ.set j (some (.int (lo + (i : Int))))) B := fun H e => by
  refine ⟨fun i hi => ⟨hi, fun σ x H' y => ?_⟩, Nat.le_refl n⟩
  obtain ⟨rfl, rfl⟩ := y
  exact ⟨Ex.refl _, fun Q q => q⟩
theorem runs_zip {K : PySem.W.Frag} {a b : Addr} {xs ys : List V} {B : Hp} {j k : Nat} (h : SqL K B a xs) (h2 : SqL K B b ys) :
    Runs (Itz K a b) (gTup K 2 (gCons (gName j) (gCons (gName k) gNil))) (min xs.length ys.length) (fun i σ => (σ.set j (some (xs.getD i .non))).set k (some (ys.getD i .non))) B := fun H e => by
  have hx := ex_l e h
  have hy := ex_l e h2
  refine ⟨fun i hi => ?_, ⟨xs, ys, hx, hy, by omega⟩⟩
  have i1 : i < xs.length := by omega
  have i2 : i < ys.length := by omega
  refine ⟨⟨xs, ys, xs[i], ys[i], hx, hy, List.getElem?_eq_getElem i1, List.getElem?_eq_getElem i2⟩, fun σ v H' y => ?_⟩
  obtain ⟨T, x, z, rfl, hT, rfl, f1, f2⟩ := y
  refine ⟨Ex.new hT, fun Q q => ?_⟩
  have e1 : xs.getD i .non = x := by rw [List.getD_eq_getElem?_getD, f1 xs hx]; rfl
  have e2 : ys.getD i .non = z := by rw [List.getD_eq_getElem?_getD, f2 ys hy]; rfl
  dsimp only at q
  rw [e1, e2] at q
  exact ⟨T, [x, z], rfl, SqT.of upd_same, rfl, x, [z], rfl, z, [], rfl, rfl, q⟩
theorem runs_enum {K : PySem.W.Frag} {a : Addr} {xs : List V} {B : Hp} {j k : Nat} (h : SqL K B a xs) :
    Runs (Ite K a) (gTup K 2 (gCons (gName j) (gCons (gName k) gNil))) xs.length (fun i σ => (σ.set j (some (iv i))).set k (some (xs.getD i .non))) B := fun H e => by
  have hx := ex_l e h
  refine ⟨fun i hi => ?_, ⟨xs, hx, Nat.le_refl _⟩⟩
  refine ⟨⟨xs, xs[i], hx, List.getElem?_eq_getElem hi⟩, fun σ v H' y => ?_⟩
  obtain ⟨T, x, rfl, hT, rfl, f1⟩ := y
  refine ⟨Ex.new hT, fun Q q => ?_⟩
  have e1 : xs.getD i .non = x := by rw [List.getD_eq_getElem?_getD, f1 xs hx]; rfl
  dsimp only at q
  rw [e1] at q
  exact ⟨T, [.int (i : Nat), x], rfl, SqT.of upd_same, rfl, .int (i : Nat), [x], rfl, x, [], rfl, rfl, q⟩
/-- a source read -/
def Src (wi : TI) (g : TG) (σ : L2.St) (H : Hp) (n : Nat) (τ : Nat → L2.St → L2.St) : Prop :=
  ∀ H1, Ex H H1 → ∀ R : It → Hp → Prop, (∀ J H2, Ex H1 H2 → Runs J g n τ H2 → R J H2) → wi σ H1 R
section
variable {K : PySem.W.Frag} {σ : L2.St} {H : Hp} {te tl : TE} {tt : TT} {wi : TI} {g : TG} {ta : TA}
theorem src_str {t : List Nat} {j : Nat} (h : Ev te σ H (tv t)) : Src (iStr te) (gName j) σ H t.length (fun i σ => σ.set j (some (tv [t.getD i 0]))) := fun H1 e R k =>
  h H1 e _ fun H2 e2 => ⟨_, rfl, k _ H2 e2 runs_str⟩
theorem src_L {a : Addr} {xs : List V} {j : Nat} (h : Ev tl σ H (.ref a)) (hx : SqL K H a xs) : Src (iList K tl) (gName j) σ H xs.length (fun i σ => σ.set j (some (xs.getD i .non))) := fun H1 e R k =>
  h H1 e _ fun H2 e2 => ⟨a, rfl, ⟨xs, ex_l (e.trans e2) hx⟩, k _ H2 e2 (runs_list (ex_l (e.trans e2) hx))⟩
theorem src_NL {xs : List V} {j : Nat} (h : EvL tl σ H xs) : Src (iList K tl) (gName j) σ H xs.length (fun i σ => σ.set j (some (xs.getD i .non))) := fun H1 e R k =>
  h H1 e _ fun p H2 hp e2 hx => ⟨p, rfl, ⟨xs, SqL.of hx⟩, k _ H2 e2 (runs_list (SqL.of hx))⟩
theorem src_T {a : Addr} {xs : List V} {j : Nat} (h : Ev tl σ H (.ref a)) (hx : SqT K H a xs) : Src (iTup K tl) (gName j) σ H xs.length (fun i σ => σ.set j (some (xs.getD i .non))) := fun H1 e R k =>
  h H1 e _ fun H2 e2 => ⟨a, rfl, ⟨xs, ex_t (e.trans e2) hx⟩, k _ H2 e2 (runs_tup (ex_t (e.trans e2) hx))⟩
theorem src_R1 {n : Int} {j : Nat} (h : EvA ta σ H [.int n]) (hn : n ≤ 100000) (hn0 : -100000 ≤ n) : Src (iRng1 ta) (gName j) σ H n.toNat (fun i σ => σ.set j (some (.int (0 + (i : Int))))) := fun H1 e R k =>
  h H1 e _ fun H2 e2 => ⟨n, rfl, by omega, by omega, k _ H2 e2 runs_range⟩
/-- arguments told by what they are -/
def EvP (ta : TA) (σ : L2.St) (H : Hp) (P : List V → Hp → Prop) : Prop := ∀ H1, Ex H H1 → ∀ Q : List V → Hp → Prop, (∀ vs H2, Ex H1 H2 → P vs H2 → Q vs H2) → ta σ H1 Q
theorem src_zip {xs ys : List V} {j k : Nat} (h : EvP ta σ H fun vs H' => ∃ a b, vs = [.ref a, .ref b] ∧ SqL K H' a xs ∧ SqL K H' b ys) :
    Src (iZip K ta) (gTup K 2 (gCons (gName j) (gCons (gName k) gNil))) σ H (min xs.length ys.length) (fun i σ => (σ.set j (some (xs.getD i .non))).set k (some (ys.getD i .non))) := fun H1 e R kk =>
  h H1 e _ fun vs H2 e2 ⟨a, b, ev, h1, h2⟩ => ⟨a, b, xs, ys, ev, h1, h2, kk _ H2 e2 (runs_zip h1 h2)⟩
theorem src_enum {xs : List V} {j k : Nat} (h : EvP ta σ H fun vs H' => ∃ a, vs = [.ref a] ∧ SqL K H' a xs) :
    Src (iEnum K ta) (gTup K 2 (gCons (gName j) (gCons (gName k) gNil))) σ H xs.length (fun i σ => (σ.set j (some (iv i))).set k (some (xs.getD i .non))) := fun H1 e R kk =>
  h H1 e _ fun vs H2 e2 ⟨a, ev, h1⟩ => ⟨a, xs, ev, h1, kk _ H2 e2 (runs_enum h1)⟩
theorem el_lc {vs : List Nat} {n : Nat} {τ : Nat → L2.St → L2.St} (f : Nat → Bool) (v : Nat → V) (hS : Src wi g σ H n τ) (hn : n ≤ 40000) (hw : ∀ i, i < n → wipe (τ i (wipe σ vs)) vs = wipe σ vs)
    (ht : ∀ i H1, Ex H H1 → i < n → EvT tt (τ i (wipe σ vs)) H1 (f i)) (he : ∀ i H1, Ex H H1 → i < n → f i = true → Ev te (τ i (wipe σ vs)) H1 (v i)) : EvL (tLc wi g tt te vs) σ H (given n f v) := fun H0 e Q q =>
  hS H0 e _ fun J H1 e1 R D hD => by
    refine ⟨fun i m H' => i + m = n ∧ Cw H1 f v D i H', ⟨n, by omega, hD, Ex.new hD, upd_same⟩, fun i m H' hW => ?_⟩
    obtain ⟨em, p⟩ := hW
    obtain ⟨r1, r2⟩ := R H' p.2.1
    by_cases hi : i < n
    · obtain ⟨a, b⟩ := r1 i hi
      refine .inr ⟨a, Cw H1 f v D (i + 1), fun H'' p' => ⟨m - 1, by omega, by omega, p'⟩, fun x H'' y => ?_⟩
      obtain ⟨e2, c⟩ := b (wipe σ vs) x H'' y
      refine c _ ⟨hw i hi, ?_⟩
      have p2 : Cw H1 f v D i H'' := ⟨p.1, p.2.1.trans e2, e2 _ _ p.2.2⟩
      exact cw_turn p2 (by omega) (ht i H1 (e.trans e1) hi) (fun hf => he i H1 (e.trans e1) hi hf)
    · have : i = n := by omega
      subst this
      exact .inl ⟨r2, q D H' (fresh_back e1 p.1) (e1.trans p.2.1) p.2.2⟩
/-! ### values -/
theorem ev_cl {sp : Sp} {vs : List V} {z : V} (h : EvA ta σ H vs) (hs : SpV sp vs H z) : Ev (tCl sp ta) σ H z := fun H1 e Q q =>
  h H1 e _ fun H2 e2 => hs H2 (e.trans e2) Q (fun H3 e3 => q H3 (e2.trans e3)) E0
theorem el_cl {sp : Sp} {vs xs : List V} (h : EvA ta σ H vs) (hs : SpL sp vs H xs) : EvL (tCl sp ta) σ H xs := fun H1 e Q q =>
  h H1 e _ fun H2 e2 => hs H2 (e.trans e2) Q (fun p H3 hp e3 h3 => q p H3 (fresh_back e2 hp) (e2.trans e3) h3) E0
theorem ev_slS {tlo thi : TO} {t : List Nat} {lo hi : Option Int} (h : Ev te σ H (tv t)) (h1 : EvO tlo σ H lo) (h2 : EvO thi σ H hi) (hz : t.length ≤ 1000000) : Ev (tSl rSlS te tlo thi) σ H (.str (cutS ⟨t.toArray⟩ lo hi)) := fun H1 e Q q =>
  h H1 e _ fun H2 e2 => h1 H2 (e.trans e2) _ fun H3 e3 => h2 H3 ((e.trans e2).trans e3) _ fun H4 e4 => ⟨_, rfl, by rw [tv_len]; exact sz60 hz, q H4 ((e2.trans e3).trans e4)⟩
theorem cut_toI (t : List Nat) {i : Int} (h : 0 ≤ i) : cutS ⟨t.toArray⟩ none (some i) = ⟨(t.take i.toNat).toArray⟩ := by
  obtain ⟨n, rfl⟩ := Int.eq_ofNat_of_zero_le h
  exact cut_to t n
theorem cut_fromI (t : List Nat) {i : Int} (h : 0 ≤ i) : cutS ⟨t.toArray⟩ (some i) none = ⟨(t.drop i.toNat).toArray⟩ := by
  obtain ⟨n, rfl⟩ := Int.eq_ofNat_of_zero_le h
  exact cut_from t n
theorem cut_midI (t : List Nat) {i j : Int} (h : 0 ≤ i) (h2 : i ≤ j) : cutS ⟨t.toArray⟩ (some i) (some j) = ⟨((t.drop i.toNat).take (j - i).toNat).toArray⟩ := by
  obtain ⟨n, rfl⟩ := Int.eq_ofNat_of_zero_le h
  obtain ⟨m, hm⟩ := Int.eq_ofNat_of_zero_le (show 0 ≤ j - n by omega)
  have : j = ((n + m : Nat) : Int) := by omega
  subst this
  have e := cut_mid t n m
  rw [e]
  congr 3
  all_goals omega
theorem ev_slTo {tb : TE} {t : List Nat} {i : Int} (h : Ev te σ H (tv t)) (h2 : Ev tb σ H (.int i)) (h0 : 0 ≤ i) (hz : t.length ≤ 1000000) : Ev (tSl rSlS te tNoPart (tPart tb)) σ H (tv (t.take i.toNat)) :=
  ev_is (ev_slS h eo_none (eo_some h2) hz) (by rw [cut_toI t h0]; rfl)
theorem ev_slFrom {tb : TE} {t : List Nat} {i : Int} (h : Ev te σ H (tv t)) (h1 : Ev tb σ H (.int i)) (h0 : 0 ≤ i) (hz : t.length ≤ 1000000) : Ev (tSl rSlS te (tPart tb) tNoPart) σ H (tv (t.drop i.toNat)) :=
  ev_is (ev_slS h (eo_some h1) eo_none hz) (by rw [cut_fromI t h0]; rfl)
theorem ev_slMid {tb tc : TE} {t : List Nat} {i j : Int} (h : Ev te σ H (tv t)) (h1 : Ev tb σ H (.int i)) (h2 : Ev tc σ H (.int j)) (h0 : 0 ≤ i) (h3 : i ≤ j) (hz : t.length ≤ 1000000) : Ev (tSl rSlS te (tPart tb) (tPart tc)) σ H (tv ((t.drop i.toNat).take (j - i).toNat)) :=
  ev_is (ev_slS h (eo_some h1) (eo_some h2) hz) (by rw [cut_midI t h0 h3]; rfl)
theorem ev_addS {tb : TE} {t u : List Nat} (h : Ev te σ H (tv t)) (h2 : Ev tb σ H (tv u)) (hz : t.length + u.length ≤ 1000000) :
    Ev (tOp (fun x y H Q => ∃ i j, x = .str i ∧ y = .str j ∧ i.length + j.length ≤ sizeLine ∧ Q (.str (i ++ j)) H) te tb) σ H (tv (t ++ u)) := fun H1 e Q q =>
  h H1 e _ fun H2 e2 => h2 H2 (e.trans e2) _ fun H3 e3 => ⟨_, _, rfl, rfl, by rw [tv_len, tv_len]; exact sz60 hz, by rw [str_app]; exact q H3 (e2.trans e3)⟩
theorem ev_lenS {t : List Nat} (h : Ev te σ H (tv t)) (hz : t.length ≤ 1000000) : Ev (tCB (fun xs H Q => ∃ z, xs = [.str z] ∧ z.length ≤ sizeLine ∧ Q (.int z.length) H) (tCons te tNil)) σ H (iv t.length) := fun H1 e Q q =>
  h H1 e _ fun H2 e2 => ⟨_, rfl, by rw [tv_len]; exact sz60 hz, by rw [tv_len]; exact q H2 e2⟩
theorem ev_allL {K : PySem.W.Frag} {bs : List Bool} (h : EvL te σ H (bs.map V.bl)) : Ev (tCB (rAll K) (tCons te tNil)) σ H (.bl (bs.all id)) := fun H1 e Q q =>
  h H1 e _ fun p H2 _ e2 hp => ⟨p, bs, rfl, SqL.of hp, q H2 e2⟩
theorem ev_sumL {K : PySem.W.Frag} {ns : List Int} (h : EvL te σ H (ns.map V.int)) : Ev (tCB (rSum K) (tCons te tNil)) σ H (.int ns.sum) := fun H1 e Q q =>
  h H1 e _ fun p H2 _ e2 hp => ⟨p, ns, rfl, SqL.of hp, q H2 e2⟩
theorem ev_eq {tb : TE} {x y : V} (h : Ev te σ H x) (h2 : Ev tb σ H y) (hs : scal x y = true) : Ev (tOp rEq te tb) σ H (.bl (decide (x = y))) := ev_op h h2 (rv_eq hs)
theorem ev_ne {tb : TE} {x y : V} (h : Ev te σ H x) (h2 : Ev tb σ H y) (hs : scal x y = true) : Ev (tOp rNe te tb) σ H (.bl (!decide (x = y))) := ev_op h h2 (rv_ne hs)
theorem ev_I0 {tb : TE} {f : Int → Int → V} {i j : Int} (h : Ev te σ H (.int i)) (h2 : Ev tb σ H (.int j)) : Ev (tOp (rI0 f) te tb) σ H (f i j) := ev_op h h2 rv_I0
theorem ev_I {tb : TE} {C : Int → Int → Prop} {f : Int → Int → V} {i j : Int} (h : Ev te σ H (.int i)) (h2 : Ev tb σ H (.int j)) (hc : C i j) : Ev (tOp (rI C f) te tb) σ H (f i j) := ev_op h h2 (rv_I hc)
theorem ev_toI {v : V} {i : Int} (h : Ev te σ H v) (e : v = .int i) : Ev te σ H (.int i) := ev_is h e
theorem ev_toN {v : V} {n : Nat} (h : Ev te σ H v) (e : v = iv n) : Ev te σ H (iv n) := ev_is h e
theorem ev_isi {x : V} {K : PySem.W.Frag} {n : String} {t : Value} {b : Bool} (h : Ev te σ H x) (ht : ∀ H', Ex H H' → TyX K H' x t) (hk : PySem.W.kitOne K t (.type n) = some b) : Ev (tCB (rIsi K) (tCons te (tCons (tC (.ty n)) tNil))) σ H (.bl b) := fun H1 e Q q =>
  h H1 e _ fun H2 e2 => ⟨x, .ty n, t, .type n, b, rfl, .ty n, ht H2 (e.trans e2), hk, q H2 e2⟩
end
/-! ### xs[-1], by value, for an augmented store -/
section
variable {X : Cx}
def rGetNeg (K : PySem.W.Frag) : V → V → Hp → VK → Prop := fun o i H Q => ∃ (p : Addr) (xs : List V) (j : Int) (v : V), o = .ref p ∧ i = .int j ∧ j < 0 ∧ -(xs.length : Int) ≤ j ∧ SqL K H p xs ∧ xs[(j + xs.length).toNat]? = some v ∧ Q v H
theorem pget_list : PGet X (rGetNeg X.K) := by
  intro pins s σ H o i ov iv Q I ro ri h
  obtain ⟨p, xs, j, v, rfl, rfl, j0, j1, hq, hv, q⟩ := h
  cases ro
  obtain ⟨t, rfl⟩ := ri
  obtain ⟨its, r, pl, hz⟩ := I.list hq
  have hl := r.length
  have hn := line63
  obtain ⟨u, hu, ru⟩ := r.get hv
  have hlen : its.toArray.size = xs.length := by rw [List.size_toArray, hl]
  refine wpAny_getItem_list_neg pl.isList j0 (by rw [hlen]; exact j1) ?_ (x := u) ?_ ⟨v, H, I, ru, q⟩
  · have : (xs.length : Int) ≤ 16777216 := by
      rw [sizeLine_eq] at hz; omega
    omega
  · rw [hlen]
    simpa using hu
end
end K9
namespace K9
open PySem PySem.Spec PyProof.Rows L2 Evl
section
variable {X : Cx} {K : PySem.W.Frag}
def rLenQ (K : PySem.W.Frag) : List V → Hp → VK → Prop := fun xs H Q => ∃ p ys, xs = [.ref p] ∧ (SqL K H p ys ∨ SqT K H p ys) ∧ Q (.int ys.length) H
def rListQ (K : PySem.W.Frag) : List V → Hp → VK → Prop := fun xs H Q => ∃ p ys, xs = [.ref p] ∧ (SqL K H p ys ∨ SqT K H p ys) ∧ ∀ l, H l = none → Q (.ref l) (upd H l (.lst ys))
def rTupQ (K : PySem.W.Frag) : List V → Hp → VK → Prop := fun xs H Q => ∃ p ys, xs = [.ref p] ∧ ((SqL K H p ys ∧ ∀ l, H l = none → Q (.ref l) (upd H l (.tup ys))) ∨ (SqT K H p ys ∧ Q (.ref p) H))
theorem k_len (hK : X.K = K) : CallR X (.builtin "len") (rLenQ K) := by subst hK; exact call_len_seq
theorem k_list (hK : X.K = K) : CallR X (.type "list") (rListQ K) := by subst hK; exact call_list_of
theorem k_tuple (hK : X.K = K) : CallR X (.type "tuple") (rTupQ K) := by subst hK; exact call_tuple_of
theorem k_isi (hK : X.K = K) : CallR X (.builtin "isinstance") (rIsi K) := by subst hK; exact call_isi
theorem k_sum (hK : X.K = K) (hc : X.calm = true) : CallR X (.builtin "sum") (rSum K) := by subst hK; exact cr_sum hc
theorem k_all (hK : X.K = K) (hc : X.calm = true) : CallR X (.builtin "all") (rAll K) := by subst hK; exact cr_all hc
theorem k_in (hK : X.K = K) : OpR X (compareOp .In) (rIn K false) := by subst hK; exact op_in_seq
theorem k_notin (hK : X.K = K) : OpR X (compareOp .NotIn) (rIn K true) := by subst hK; exact op_notIn_seq
theorem k_eqD (hK : X.K = K) (hu : X.A.units + 64 < cLine) : OpR X (compareOp .Eq) (rEqD K) := by subst hK; exact op_eqD hu
theorem k_neD (hK : X.K = K) (hu : X.A.units + 64 < cLine) : OpR X (compareOp .NotEq) (rNeD K) := by subst hK; exact op_neD hu
theorem k_catT (hK : X.K = K) : OpR X (binaryOp .Add) (rCatA K) := by subst hK; exact op_catA
theorem k_repT (hK : X.K = K) : OpR X (binaryOp .Mult) (rRepT K) := by subst hK; exact op_repT
theorem k_slL (hK : X.K = K) : SlR X (rSlL K) := by subst hK; exact sl_list
theorem k_slT (hK : X.K = K) : SlR X (rSlA K) := by subst hK; exact sl_tupA
theorem k_ixL (hK : X.K = K) : IxR X (rIxL K) := by subst hK; exact ix_list
theorem k_ixT (hK : X.K = K) : IxR X (rIxT K) := by subst hK; exact ix_tup
theorem k_getL (hK : X.K = K) : PGet X (rGetNeg K) := by subst hK; exact pget_list
theorem k_pil {tg l : Expr} {tl : TE} (hK : X.K = K) (hl : PE X l tl) : PI X tg l (iList K tl) := by subst hK; exact pi_list hl
theorem k_pit {tg l : Expr} {tl : TE} (hK : X.K = K) (hl : PE X l tl) : PI X tg l (iTup K tl) := by subst hK; exact pi_tup hl
theorem k_pizip {e e2 : Expr} {ta : TA} {p pos tpos : Pos} {elts : List Expr} {kk : Nat} (hK : X.K = K) (hg : Gl X "zip") (hm : X.mg "zip" = none) (ha : PA X [e, e2] ta)
    (hs : starEach [e, e2] X.env = (false, eval e X.env) :: starEach [e2] X.env := by rfl) (hpl : (backTo pos (starEach [e2] X.env)).any (·.1) = false := by rfl) :
    PI X (.Tuple elts kk tpos) (.Call (.Name "zip" p) [e, e2] [] pos) (iZip K ta) := by subst hK; exact pi_zip hg hm ha hs hpl
theorem k_pienum {e : Expr} {ta : TA} {p pos tpos : Pos} {elts : List Expr} {kk : Nat} (hK : X.K = K) (hg : Gl X "enumerate") (hm : X.mg "enumerate" = none) (ha : PA X [e] ta) (hs : starEach [e] X.env = [(false, eval e X.env)] := by rfl) :
    PI X (.Tuple elts kk tpos) (.Call (.Name "enumerate" p) [e] [] pos) (iEnum K ta) := by subst hK; exact pi_enum hg hm ha hs
theorem k_pgtup {es : List Expr} {k : Nat} {t : TGs} {n : Nat} {pos : Pos} (hK : X.K = K) (hc : X.calm = true) (h : PGs X es t)
    (hn : (assignEach es X.env).length = n := by rfl) (hst : (assignEach es X.env).findIdx? (·.1) = none := by rfl) : PG X (.Tuple es k pos) (gTup K n t) := by subst hK; exact pg_tup hc h hn hst
variable {o e : Expr} {es : List Expr} {to : TE} {t : TA} {name : Str} {apos cpos : Pos} {T id : String} {r : V → List V → Hp → VK → Prop}
theorem k_bm (hK : X.K = K) (pa : PlainAttrs T) (slot : Slot T name id) (hty : typeOf (.builtin id) = pure (.type "method_descriptor")) (hm : MtR X id r) (ho : PE X o to) (ha : PA X (e :: es) t)
    (hbase : attributeBase o name X.env (eval o X.env) = eval o X.env := by rfl)
    (hfew : ((backTo cpos (starEach (e :: es) X.env)).all (fun x => !x.1) && (backToKw cpos (keywordEach [] X.env)).all (fun x => x.1.isSome)
      && decide ((e :: es).length + ([] : List Keyword).length + (if ([] : List Keyword).isEmpty then 0 else 1) < 30)) = true := by rfl)
    (hline : (apos.endLine == cpos.line) = true := by rfl) (hs : starEach (e :: es) X.env = (false, eval e X.env) :: starEach es X.env := by rfl) (hplain : (backTo cpos (starEach es X.env)).any (·.1) = false := by rfl) :
    PE X (.Call (.Attribute o name apos) (e :: es) [] cpos) (tBM K T r to t) := by subst hK; exact pe_bm pa slot hty hm ho ha hbase hfew hline hs hplain
theorem k_bm0 (hK : X.K = K) (pa : PlainAttrs T) (slot : Slot T name id) (hty : typeOf (.builtin id) = pure (.type "method_descriptor")) (hm : MtR X id r) (ho : PE X o to)
    (hbase : attributeBase o name X.env (eval o X.env) = eval o X.env := by rfl) (hline : (apos.endLine == cpos.line) = true := by rfl) : PE X (.Call (.Attribute o name apos) [] [] cpos) (tBM0 K T r to) := by subst hK; exact pe_bm0 pa slot hty hm ho hbase hline
end
end K9
namespace K9
open PySem PySem.Spec PyProof.Rows L2 Evl
abbrev nD (n : Nat) : PyData := .int (n : Int)
abbrev iD (n : Int) : PyData := .int n
def tD (t : Tx) : PyData := .str ⟨t.toArray⟩
theorem eqv_iD (a b : Int) : PyData.eqv (iD a) (iD b) = decide (a = b) := by simp only [PyData.eqv]; exact PySem.W.beq_decide a b
theorem eqv_nD (a b : Nat) : PyData.eqv (nD a) (nD b) = decide (a = b) := by
  rw [eqv_iD, decide_eq_decide]; omega
theorem eqv_tD (a b : Tx) : PyData.eqv (tD a) (tD b) = decide (a = b) := by
  unfold tD
  simp only [PyData.eqv]
  rw [PySem.W.beq_decide, decide_eq_decide]
  exact ⟨fun e => tv_inj (congrArg V.str e), fun e => by rw [e]⟩
theorem eqvAll_inj {α : Type} [DecidableEq α] {f : α → PyData} (hf : ∀ a b, PyData.eqv (f a) (f b) = decide (a = b)) : ∀ xs ys : List α, PyData.eqvAll (xs.map f) (ys.map f) = decide (xs = ys)
  | [], [] => by simp only [List.map_nil, PyData.eqvAll, decide_true]
  | [], _ :: _ => by simp [PyData.eqvAll]
  | _ :: _, [] => by simp [PyData.eqvAll]
  | x :: xs, y :: ys => by
    rw [List.map_cons, List.map_cons, PyData.eqvAll, hf x y, eqvAll_inj hf xs ys, ← Bool.decide_and]
    exact decide_eq_decide.mpr (by rw [List.cons.injEq])
theorem eqv_lst {α : Type} [DecidableEq α] {f : α → PyData} (hf : ∀ a b, PyData.eqv (f a) (f b) = decide (a = b)) (xs ys : List α) : PyData.eqv (.list (xs.map f)) (.list (ys.map f)) = decide (xs = ys) := by
  simp only [PyData.eqv]; exact eqvAll_inj hf xs ys
theorem eqv_tup {α : Type} [DecidableEq α] {f : α → PyData} (hf : ∀ a b, PyData.eqv (f a) (f b) = decide (a = b)) (xs ys : List α) : PyData.eqv (.tuple (xs.map f)) (.tuple (ys.map f)) = decide (xs = ys) := by
  simp only [PyData.eqv]; exact eqvAll_inj hf xs ys
theorem strOk_of {t : Tx} (h : Ok t) : PyData.strOk ⟨t.toArray⟩ = true := by
  unfold PyData.strOk
  rw [Array.all_eq_true]
  intro i hi
  have hi' : i < t.length := by simpa using hi
  have := h.get hi'
  unfold Let at this
  simp
  omega
theorem lay_all {ds : List PyData} (h : ∀ d ∈ ds, d.canLay0 = true) : PyData.canLayAll0 ds = true := by
  induction ds with
  | nil => rfl
  | cons d ds ih =>
    unfold PyData.canLayAll0
    rw [h d List.mem_cons_self, ih fun x hx => h x (List.mem_cons_of_mem _ hx)]
    rfl
theorem dep_all {k : Nat} {ds : List PyData} (h : ∀ d ∈ ds, d.depth ≤ k) : PyData.depthAll ds ≤ k := by
  induction ds with
  | nil => exact Nat.zero_le _
  | cons d ds ih =>
    unfold PyData.depthAll
    exact Nat.max_le.mpr ⟨h d List.mem_cons_self, ih fun x hx => h x (List.mem_cons_of_mem _ hx)⟩
/-- of at most so many floors -/
def Fit (k : Nat) (d : PyData) : Prop := d.canLay0 = true ∧ d.depth ≤ k
theorem fit_int {k : Nat} (n : Int) : Fit k (.int n) := ⟨rfl, Nat.zero_le _⟩
theorem fit_non {k : Nat} : Fit k .none := ⟨rfl, Nat.zero_le _⟩
theorem fit_bl {k : Nat} (b : Bool) : Fit k (.bool b) := ⟨rfl, Nat.zero_le _⟩
theorem fit_tx {k : Nat} {t : Tx} (h : Ok t) : Fit k (tD t) := ⟨strOk_of h, Nat.zero_le _⟩
theorem fit_str {k : Nat} {s : Str} (h : PyData.strOk s = true) : Fit k (.str s) := ⟨h, Nat.zero_le _⟩
theorem fit_lst {k : Nat} {ds : List PyData} (h : ∀ d ∈ ds, Fit k d) : Fit (k + 1) (.list ds) := ⟨by simp only [PyData.canLay0]; exact lay_all fun d hd => (h d hd).1, by simp only [PyData.depth]; exact Nat.succ_le_succ (dep_all fun d hd => (h d hd).2)⟩
theorem fit_tup {k : Nat} {ds : List PyData} (h : ∀ d ∈ ds, Fit k d) : Fit (k + 1) (.tuple ds) := ⟨by simp only [PyData.canLay0]; exact lay_all fun d hd => (h d hd).1, by simp only [PyData.depth]; exact Nat.succ_le_succ (dep_all fun d hd => (h d hd).2)⟩
theorem fit_lstM {α : Type} {k : Nat} {l : List α} {f : α → PyData} (h : ∀ a ∈ l, Fit k (f a)) : Fit (k + 1) (.list (l.map f)) := fit_lst fun d hd => by
  obtain ⟨a, ha, rfl⟩ := List.mem_map.mp hd
  exact h a ha
theorem fit_tupM {α : Type} {k : Nat} {l : List α} {f : α → PyData} (h : ∀ a ∈ l, Fit k (f a)) : Fit (k + 1) (.tuple (l.map f)) := fit_tup fun d hd => by
  obtain ⟨a, ha, rfl⟩ := List.mem_map.mp hd
  exact h a ha
theorem Fit.shaped {k : Nat} {d : PyData} (h : Fit k d) (hk : k ≤ 64) : SeqAt.shaped d = true := by
  unfold SeqAt.shaped
  rw [h.1, decide_eq_true (Nat.le_trans h.2 hk)]
  rfl
section
variable {K : PySem.W.Frag} {H H' : Hp}
mutual
theorem Dp.mono (e : Ex H H') : ∀ {v : V} {d : PyData}, Dp K H v d → Dp K H' v d
  | _, _, .non => .non
  | _, _, .bl b => .bl b
  | _, _, .int i => .int i
  | _, _, .str x => .str x
  | _, _, .lst h hs => .lst (ex_l e h) (DpAll.mono e hs)
  | _, _, .tup h hs => .tup (ex_t e h) (DpAll.mono e hs)
theorem DpAll.mono (e : Ex H H') : ∀ {vs : List V} {ds : List PyData}, DpAll K H vs ds → DpAll K H' vs ds
  | _, _, .nil => .nil
  | _, _, .cons h hs => .cons (Dp.mono e h) (DpAll.mono e hs)
end
theorem dpa_map {α : Type} {v : α → V} {f : α → PyData} : ∀ {l : List α}, (∀ a ∈ l, Dp K H (v a) (f a)) → DpAll K H (l.map v) (l.map f)
  | [], _ => .nil
  | a :: l, h => .cons (h a List.mem_cons_self) (dpa_map fun x hx => h x (List.mem_cons_of_mem _ hx))
theorem dp_tx (t : Tx) : Dp K H (tv t) (tD t) := .str _
theorem dp_ns {p : Addr} {l : List Nat} (h : SqL K H p (l.map iv)) : Dp K H (.ref p) (.list (l.map nD)) := .lst h (dpa_map fun a _ => .int _)
theorem dp_is {p : Addr} {l : List Int} (h : SqL K H p (l.map V.int)) : Dp K H (.ref p) (.list (l.map iD)) := .lst h (dpa_map fun a _ => .int _)
theorem rv_eqD {x y : V} {d e : PyData} {k m : Nat} (hd : Dp K H x d) (he : Dp K H y e) (fd : Fit k d) (fe : Fit m e) (hk : k ≤ 64 := by decide) (hm : m ≤ 64 := by decide) : RV (rEqD K) x y H (.bl (PyData.eqv d e)) := fun H1 e1 Q q =>
  ⟨d, e, Dp.mono e1 hd, Dp.mono e1 he, fd.shaped hk, fe.shaped hm, q H1 (Ex.refl H1)⟩
theorem rv_neD {x y : V} {d e : PyData} {k m : Nat} (hd : Dp K H x d) (he : Dp K H y e) (fd : Fit k d) (fe : Fit m e) (hk : k ≤ 64 := by decide) (hm : m ≤ 64 := by decide) : RV (rNeD K) x y H (.bl (!PyData.eqv d e)) := fun H1 e1 Q q =>
  ⟨d, e, Dp.mono e1 hd, Dp.mono e1 he, fd.shaped hk, fe.shaped hm, q H1 (Ex.refl H1)⟩
theorem fit_ns (l : List Nat) : Fit 1 (.list (l.map nD)) := fit_lstM fun _ _ => fit_int _
theorem fit_is (l : List Int) : Fit 1 (.list (l.map iD)) := fit_lstM fun _ _ => fit_int _
theorem ev_eqNN {ta tb : TE} {σ : L2.St} {l m : List Nat} (h1 : EvL ta σ H (l.map iv)) (h2 : EvL tb σ H (m.map iv)) : Ev (tOp (rEqD K) ta tb) σ H (.bl (decide (l = m))) := by
  have := ev_opLL (r := rEqD K) (z := .bl (PyData.eqv (.list (l.map nD)) (.list (m.map nD)))) h1 h2 fun p q H1 hp hq e => rv_eqD (dp_ns (SqL.of hp)) (dp_ns (SqL.of hq)) (fit_ns l) (fit_ns m)
  rw [eqv_lst eqv_nD] at this
  exact this
theorem ev_neNN {ta tb : TE} {σ : L2.St} {l m : List Nat} (h1 : EvL ta σ H (l.map iv)) (h2 : EvL tb σ H (m.map iv)) : Ev (tOp (rNeD K) ta tb) σ H (.bl (!decide (l = m))) := by
  have := ev_opLL (r := rNeD K) (z := .bl (!PyData.eqv (.list (l.map nD)) (.list (m.map nD)))) h1 h2 fun p q H1 hp hq e => rv_neD (dp_ns (SqL.of hp)) (dp_ns (SqL.of hq)) (fit_ns l) (fit_ns m)
  rw [eqv_lst eqv_nD] at this
  exact this
end
end K9
namespace K9
open PySem PySem.Spec PyProof.Rows L2 Evl
/-- a result told as data -/
def RetD (K : PySem.W.Frag) (d : PyData) (H : Hp) (Q : VK) : Prop := ∀ v H2, Ex H H2 → Dp K H2 v d → Q v H2
def EvD (K : PySem.W.Frag) (te : TE) (σ : L2.St) (H : Hp) (d : PyData) : Prop := ∀ H1, Ex H H1 → ∀ Q : VK, (∀ v H2, Ex H1 H2 → Dp K H2 v d → Q v H2) → te σ H1 Q
/-- a new list, its items told -/
def EvLD (K : PySem.W.Frag) (te : TE) (σ : L2.St) (H : Hp) (ds : List PyData) : Prop := ∀ H1, Ex H H1 → ∀ Q : VK, (∀ p xs H2, H1 p = none → Ex H1 H2 → H2 p = some (.lst xs) → DpAll K H2 xs ds → Q (.ref p) H2) → te σ H1 Q
def EvUD (K : PySem.W.Frag) (te : TE) (σ : L2.St) (H : Hp) (ds : List PyData) : Prop := ∀ H1, Ex H H1 → ∀ Q : VK, (∀ p xs H2, H1 p = none → Ex H1 H2 → H2 p = some (.tup xs) → DpAll K H2 xs ds → Q (.ref p) H2) → te σ H1 Q
def EvAD (K : PySem.W.Frag) (ta : TA) (σ : L2.St) (H : Hp) (ds : List PyData) : Prop := ∀ H1, Ex H H1 → ∀ Q : List V → Hp → Prop, (∀ vs H2, Ex H1 H2 → DpAll K H2 vs ds → Q vs H2) → ta σ H1 Q
section
variable {K : PySem.W.Frag} {σ : L2.St} {H H' : Hp} {te ta tb tl : TE} {tt : TT} {D : Ends} {tz : TS} {d e : PyData} {ds es : List PyData}
theorem EvD.mono (e : Ex H H') (h : EvD K te σ H d) : EvD K te σ H' d := fun H1 a Q q => h H1 (e.trans a) Q q
theorem ed_ev {v : V} (h : Ev te σ H v) (hd : Dp K H v d) : EvD K te σ H d := fun H1 e Q q => h H1 e _ fun H2 e2 => q v H2 e2 (Dp.mono (e.trans e2) hd)
theorem ed_int {i : Int} (h : Ev te σ H (.int i)) : EvD K te σ H (.int i) := ed_ev h (.int i)
theorem ed_nat {n : Nat} (h : Ev te σ H (iv n)) : EvD K te σ H (nD n) := ed_ev h (.int _)
theorem ed_tx {t : Tx} (h : Ev te σ H (tv t)) : EvD K te σ H (tD t) := ed_ev h (.str _)
theorem ed_l (h : EvLD K te σ H ds) : EvD K te σ H (.list ds) := fun H1 e Q q => h H1 e _ fun p xs H2 hp e2 hx hd => q _ H2 e2 (.lst (SqL.of hx) hd)
theorem ed_u (h : EvUD K te σ H ds) : EvD K te σ H (.tuple ds) := fun H1 e Q q => h H1 e _ fun p xs H2 hp e2 hx hd => q _ H2 e2 (.tup (SqT.of hx) hd)
theorem ad_nil : EvAD K tNil σ H [] := fun H1 _ Q q => q _ H1 (Ex.refl H1) .nil
theorem ad_cons {tr : TA} (h : EvD K te σ H d) (hr : EvAD K tr σ H ds) : EvAD K (tCons te tr) σ H (d :: ds) := fun H1 e Q q =>
  h H1 e _ fun v H2 e2 hv => hr H2 (e.trans e2) _ fun vs H3 e3 hs => q _ H3 (e2.trans e3) (.cons (Dp.mono e3 hv) hs)
theorem dpa_len : ∀ {vs : List V} {ds : List PyData}, DpAll K H vs ds → vs.length = ds.length
  | _, _, .nil => rfl
  | _, _, .cons _ hs => congrArg (· + 1) (dpa_len hs)
theorem dpa_app : ∀ {vs ws : List V} {ds es : List PyData}, DpAll K H vs ds → DpAll K H ws es → DpAll K H (vs ++ ws) (ds ++ es)
  | _, _, _, _, .nil, h => h
  | _, _, _, _, .cons a b, h => .cons a (dpa_app b h)
theorem dpa_one {v : V} {d : PyData} (h : Dp K H v d) : DpAll K H [v] [d] := .cons h .nil
theorem ld_lst {t : TA} (h : EvAD K t σ H ds) (hz : ds.length ≤ 100000) : EvLD K (tLst t) σ H ds := fun H1 e Q q =>
  h H1 e _ fun vs H2 e2 hs => ⟨by rw [dpa_len hs]; exact sz60 (by omega), fun p hp => q p vs _ (fresh_back e2 hp) (e2.trans (Ex.new hp)) upd_same (DpAll.mono (Ex.new hp) hs)⟩
theorem ud_tup {t : TA} (h : EvAD K t σ H ds) (hz : ds.length ≤ 100000) : EvUD K (tTup t) σ H ds := fun H1 e Q q =>
  h H1 e _ fun vs H2 e2 hs => ⟨by rw [dpa_len hs]; exact sz60 (by omega), fun p hp => q p vs _ (fresh_back e2 hp) (e2.trans (Ex.new hp)) upd_same (DpAll.mono (Ex.new hp) hs)⟩
theorem ld_nil : EvLD K (tLst tNil) σ H [] := ld_lst ad_nil (by decide)
theorem ld_cat (h : EvLD K ta σ H ds) (h2 : EvLD K tb σ H es) (hz : ds.length + es.length ≤ 100000) : EvLD K (tOp rCat ta tb) σ H (ds ++ es) := fun H1 e Q q =>
  h H1 e _ fun p xs H2 hp e2 hx hd => h2 H2 (e.trans e2) _ fun p2 ys H3 hp2 e3 hy hd2 => ⟨p, p2, xs, ys, rfl, rfl, e3 _ _ hx, hy, by rw [dpa_len hd, dpa_len hd2]; exact sz60 (by omega), fun r hr =>
    q r _ _ (fresh_back (e2.trans e3) hr) ((e2.trans e3).trans (Ex.new hr)) upd_same (DpAll.mono (Ex.new hr) (dpa_app (DpAll.mono e3 hd) hd2))⟩
/-- a held list and a new one -/
theorem ld_catV {p : Addr} {xs : List V} (h : Ev ta σ H (.ref p)) (hp : H p = some (.lst xs)) (hd : DpAll K H xs ds) (h2 : EvLD K tb σ H es) (hz : ds.length + es.length ≤ 100000) : EvLD K (tOp rCat ta tb) σ H (ds ++ es) := fun H1 e Q q =>
  h H1 e _ fun H2 e2 => h2 H2 (e.trans e2) _ fun p2 ys H3 hp2 e3 hy hd2 => ⟨p, p2, xs, ys, rfl, rfl, (e.trans (e2.trans e3)) _ _ hp, hy, by rw [dpa_len hd, dpa_len hd2]; exact sz60 (by omega), fun r hr =>
    q r _ _ (fresh_back (e2.trans e3) hr) ((e2.trans e3).trans (Ex.new hr)) upd_same (DpAll.mono (Ex.new hr) (dpa_app (DpAll.mono (e.trans (e2.trans e3)) hd) hd2))⟩
theorem ld_el {xs : List V} (h : EvL te σ H xs) (hd : DpAll K H xs ds) : EvLD K te σ H ds := fun H1 e Q q => h H1 e _ fun p H2 hp e2 hx => q p xs H2 hp e2 hx (DpAll.mono (e.trans e2) hd)
theorem ed_if {b : Bool} (h : EvT tt σ H b) (h1 : b = true → EvD K ta σ H d) (h2 : b = false → EvD K tb σ H d) : EvD K (tIf tt ta tb) σ H d := fun H1 e Q q => h H1 e _ fun H2 e2 => by
  cases b with
  | true => exact iteT (h1 rfl H2 (e.trans e2) Q fun v H3 e3 hv => q v H3 (e2.trans e3) hv)
  | false => exact iteF (h2 rfl H2 (e.trans e2) Q fun v H3 e3 hv => q v H3 (e2.trans e3) hv)
theorem ld_if {b : Bool} (h : EvT tt σ H b) (h1 : b = true → EvLD K ta σ H ds) (h2 : b = false → EvLD K tb σ H ds) : EvLD K (tIf tt ta tb) σ H ds := fun H1 e Q q => h H1 e _ fun H2 e2 => by
  cases b with
  | true => exact iteT (h1 rfl H2 (e.trans e2) Q fun p xs H3 hp e3 hx hd => q p xs H3 (fresh_back e2 hp) (e2.trans e3) hx hd)
  | false => exact iteF (h2 rfl H2 (e.trans e2) Q fun p xs H3 hp e3 hx hd => q p xs H3 (fresh_back e2 hp) (e2.trans e3) hx hd)
theorem el_if {b : Bool} {xs : List V} (h : EvT tt σ H b) (h1 : b = true → EvL ta σ H xs) (h2 : b = false → EvL tb σ H xs) : EvL (tIf tt ta tb) σ H xs := fun H1 e Q q => h H1 e _ fun H2 e2 => by
  cases b with
  | true => exact iteT (h1 rfl H2 (e.trans e2) Q fun p H3 hp e3 hx => q p H3 (fresh_back e2 hp) (e2.trans e3) hx)
  | false => exact iteF (h2 rfl H2 (e.trans e2) Q fun p H3 hp e3 hx => q p H3 (fresh_back e2 hp) (e2.trans e3) hx)
theorem s_retD (h : EvD K te σ H d) (k : ∀ v H1, Ex H H1 → Dp K H1 v d → D.rt v H1) : tRet te D σ H := h H (Ex.refl H) _ k
theorem q_asgD {i : Nat} (h : EvD K te σ H d) (k : ∀ v H1, Ex H H1 → Dp K H1 v d → tz D (σ.set i (some v)) H1) : tSeq (tAsg te (gName i)) tz D σ H := h H (Ex.refl H) _ k
theorem q_asgLD {i : Nat} (h : EvLD K te σ H ds) (k : ∀ p xs H1, H p = none → Ex H H1 → H1 p = some (.lst xs) → DpAll K H1 xs ds → tz D (σ.set i (some (.ref p))) H1) : tSeq (tAsg te (gName i)) tz D σ H := h H (Ex.refl H) _ k
theorem ed_cl {sp : Sp} {vs : List V} {ta : TA} (h : EvA ta σ H vs) (hs : ∀ H1, Ex H H1 → ∀ Q : VK, RetD K d H1 Q → ∀ E : XK, sp vs H1 Q E) : EvD K (fun σ H Q => ta σ H fun vs H1 => sp vs H1 Q E0) σ H d := fun H1 e Q q =>
  h H1 e _ fun H2 e2 => hs H2 (e.trans e2) Q (fun v H3 e3 hv => q v H3 (e2.trans e3) hv) E0
end
end K9
namespace K9
open PySem PySem.Spec PyProof.Rows
section
open Builtin Builtin.ObjectAttr
variable {P : Program} {w : World} {A : Around} {E : Value → Shared → Prop} {hp : Heap} {g : Array GenState} {d : Drawn} {t : Nat} {os : OsState}
/-- self.name = v, the object having no dict -/
theorem exc_set0 {K : PySem.W.Frag} {B : String} {bmB : List Value} {name : Str} {v : Value} {x C t0 : Addr} {Q : Unit → Shared → Prop} (SF : StoreFacts B bmB "object.__setattr__" "object") (X : K.In hp)
    (hx : hp.get? x = some (PySem.W.excObj C t0 none .none)) (ho : PySem.W.excOver K C bmB = true) (ht : PySem.W.takerIn K C name = some none) (hh : PySem.W.hasDictIn K C = true)
    (hsa : PySem.W.findIn K (.ref C) "__setattr__" = some (some (.builtin "object.__setattr__")))
    (hq : ∀ h' tk' dx, (∀ b o, b ≠ x → hp.get? b = some o → h'.get? b = some o) → hp.objs.size ≤ dx → dx ≠ x → h'.get? x = some (PySem.W.excObj C t0 (some dx) .none) →
      h'.Ns1 dx (fun y => if y = name then some v else none) → Q () ⟨h', g, d, tk', os⟩) : wpAny (model P w) A (setAttr (.ref x) name v) Q E ⟨hp, g, d, t, os⟩ := by
  have I : PySem.W.InstAt hp x (PySem.W.excObj C t0 none .none) C none := ⟨hx, rfl, rfl, trivial⟩
  have hxs : x ≠ hp.objs.size := Nat.ne_of_lt (Heap.lt_size hx)
  refine PySem.W.set_plain (s := ⟨hp, g, d, t, os⟩) X I hsa ?_
  refine PySem.W.osa_openX (s := ⟨hp, g, d, t + 1, os⟩) SF X I ho ht fun b => ?_
  obtain ⟨cd, hc, hd'⟩ := PySem.W.any_some hh
  refine wpAny_bind (wpAny_pure (wpAny_bind (PySem.W.instanceDict_exc (s := ⟨hp, g, d, t + 1, os⟩) hx (PySem.W.looks_clsIn X hc) hd' ?_)))
  show wpAny _ _ (storeInDict hp.objs.size (.str name t) name v) _ _ _
  refine HandSPX.store_in_new ?_ fun h' tk' hn' hs => ?_
  · exact ⟨_, #[], _, (Heap.get?_update_ne _ _ _ _ hxs.symm).trans (Heap.get?_push_at rfl rfl), rfl, fun e he => absurd he (by simp), fun _ => rfl⟩
  · refine hq h' tk' hp.objs.size (fun b o hb ho => ?_) (Nat.le_refl _) hxs.symm ?_ hn'
    · exact (hs.2 b (Nat.ne_of_lt (Heap.lt_size ho))).trans ((Heap.get?_update_ne _ _ _ _ hb).trans (Heap.get?_push_of_some _ ho))
    · exact (hs.2 x hxs).trans (Heap.get?_update_self _ (Heap.get?_push_of_some _ hx) rfl)
end

/-! ### super().__init__(text) -/
section
open PySem.Calls
variable {P : Program} {w : World} {A : Around} {E : Value → Shared → Prop} {hp : Heap} {g : Array GenState} {d : Drawn} {t : Nat} {os : OsState} {K : PySem.W.Frag} {C x : Addr} {B newId i : String} {bmB : List Value}
/-- the bound __init__ called -/
theorem mw_call {u t0 : Addr} {us : List Value} {Q : Value → Shared → Prop} (FB : ExcBaseFacts B newId i bmB) (X : K.In hp) (qi : PySem.W.excInitIn K C bmB newId = true) (hu : hp.get? u = some (PySem.W.kxs_mw i x))
    (hx : hp.get? x = some (PySem.W.excObj C t0 none .none)) (hz : us.length ≤ sizeLine)
    (hq : ∀ h' t1, (∀ b o, b ≠ x → hp.get? b = some o → h'.get? b = some o) → h'.get? x = some (PySem.W.excObj C t1 none .none) → Q .none ⟨h', g, d, t, os⟩) : wpAny (model P w) A (call (.ref u) us) Q E ⟨hp, g, d, t, os⟩ := by
  obtain ⟨nm, N', qn, bs, bm, hdct, sn, sub, ab, col, dd, k0, k1, k2, k3, k5, hC, hT⟩ := PySem.W.excInit_of X qi
  have c1 : (Value.type "method-wrapper" == Value.type "method" || Value.type "method-wrapper" == Value.type "builtin_function_or_method" || Value.type "method-wrapper" == Value.type "method-wrapper") = true := by decide
  refine wpAny_call (codeAny_of_tree ?_)
  show wpAny _ A.in1 (callAny (Value.ref u) ⟨us, []⟩) _ _ _
  simp only [callAny]
  refine wpAny_bind (wpAny_load hu ?_)
  simp only [PySem.W.kxs_mw, c1, if_true]
  refine PySem.W.KFB.if_so (by decide) (wpAny_bind (PySem.W.check_bound_init FB.toExcCallFacts hC hx rfl ?_))
  refine wpAny_bind (wpAny_pure (wpAny_pure ⟨plainId_quiet FB.init.plain _, codeAny_builtin FB.initEntry ?_⟩))
  exact PySem.W.exc_init_tree (cls := .ref C) (t0 := t0) (dv := none) (c2 := .none) (c3 := .none) (b4 := .bool false) hx hz fun h' k e _ => hq h' _ k e
/-- what the written part says of such a class -/
structure SupC (P : Program) (K : PySem.W.Frag) (C fI : Addr) (B newId i : String) (bmB : List Value) (qual arg : Str) (ar : Arguments) (body : List Stmt) (sc : Scope) : Prop where
  fb : ExcBaseFacts B newId i bmB
  kf : PySem.W.KxsFacts B i
  sf : StoreFacts B bmB "object.__setattr__" "object"
  fn : ∃ (oc : Value) (od : Option Addr) (osl : Array (Option Value)) (kV doc pm : Value) (an : Option Addr) (cda : Addr) (ct : Value) (cc : Addr) (vs : Array Value) (file : Str) (tf : Tok) (ccl : Value) (cdd : Option Addr) (ccs : Array (Option Value)) (cl : Value) (cld : Option Addr) (csl : Array (Option Value)),
    K.lookup fI = some ⟨oc, od, .func (PySem.W.ksFn "__init__" qual ar body sc .none kV doc pm an (.ref cda) ct cc), osl⟩ ∧ PySem.W.codeIn K (.ref cda) qual = true ∧ K.lookup cda = some ⟨ccl, cdd, .fields vs, ccs⟩ ∧ vs[2]? = some (.str file tf) ∧
      ((P.main.file : Str) == file) = true ∧ K.lookup cc = some ⟨cl, cld, .cell (some (.ref C)), csl⟩
  top : (P.main.scope.names.lookup ("super" : Str)).isSome = false
  isF : PySem.W.typeIn K (.ref fI) = some (.type "function")
  ini : PySem.W.findIn K (.ref C) "__init__" = some (some (.ref fI))
  exi : PySem.W.excInitIn K C bmB newId = true
  exo : PySem.W.excOver K C bmB = true
  cdt : ∃ cd, PySem.W.clsIn K C = some cd ∧ PySem.W.alongIn K "__init__" ((cd.mro.dropWhile (· != .ref C)).drop 1) = some (some (.builtin i))
  sub : PySem.W.subIn K (.ref C) (.type B) = some true
  tak : PySem.W.takerIn K C arg = some none
  hdc : PySem.W.hasDictIn K C = true
  sa : PySem.W.findIn K (.ref C) "__setattr__" = some (some (.builtin "object.__setattr__"))
  mro : PySem.W.mroIn K C (.ref C) = some true
  opq : PySem.W.nsIn K cStatics "thirdparty.any" = some none
  exC : PySem.W.subIn K (.ref C) (.type "BaseException") = some true
  tyC : PySem.W.typeIn K (.ref C) = some (.type "type")
  kC : PySem.W.keepIn K (.ref C) = true
/-- the module's names, as a heap bears them -/
structure GlobH (mg : Str → Option Value) (h : Heap) : Prop where
  gl : h.Ns mainGlobals mg
  bl : ∃ mb, h.Ns builtinsNs mb ∧ ∀ x : Str, x ≠ "__name__" → mb x = bootBuiltins x
theorem clsIn_at {cd : ClassData} (X : K.In hp) (h : PySem.W.clsIn K C = some cd) : ∃ o, hp.get? C = some o ∧ o.data = .cls cd := by
  unfold PySem.W.clsIn at h
  split at h
  · rename_i c d cd' sl ho
    cases h
    exact ⟨_, X _ _ ho, rfl⟩
  · cases h
theorem sup_init {mg : Str → Option Value} {fI cda cc L t0 : Addr} {qual arg msg : Str} {ar : Arguments} {body : List Stmt} {sc : Scope} {m : Str → Option Value} {p0 p1 p2 p3 p4 : Pos} {k : Nat} {pl : Sem Bool} {Q : Value → Shared → Prop}
    {oc : Value} {od : Option Addr} {osl : Array (Option Value)} {dV kV doc pm : Value} {an : Option Addr} {ct : Value} {vs : Array Value} {file : Str} {tf : Tok} {ccl : Value} {cdd : Option Addr} {ccs : Array (Option Value)} {cl : Value} {cld : Option Addr} {csl : Array (Option Value)}
    (S : SupC P K C fI B newId i bmB qual arg ar body sc) (X : K.In hp) (G : GlobH mg hp) (hsup : mg "super" = none)
    (f1 : K.lookup fI = some ⟨oc, od, .func (PySem.W.ksFn "__init__" qual ar body sc dV kV doc pm an (.ref cda) ct cc), osl⟩) (f3 : K.lookup cda = some ⟨ccl, cdd, .fields vs, ccs⟩) (f4 : vs[2]? = some (.str file tf)) (f5 : ((P.main.file : Str) == file) = true)
    (f6 : K.lookup cc = some ⟨cl, cld, .cell (some (.ref C)), csl⟩)
    (hn : hp.Ns L m) (hm : m "self" = some (.ref x)) (hx : hp.get? x = some (PySem.W.excObj C t0 none .none))
    (hsf : sc.kind = .function) (hs1 : sc.names.lookup ("self" : Str) = some .local) (hs2 : sc.names.lookup ("__class__" : Str) = some .free) (hs3 : sc.names.lookup ("super" : Str) = some .globalImplicit)
    (har : ∃ a0, (ar.posonlyargs ++ ar.args).head? = some a0 ∧ a0.arg = "self")
    (hq : ∀ h' t' t1, (∀ b o, b ≠ x → hp.get? b = some o → h'.get? b = some o) → h'.get? x = some (PySem.W.excObj C t1 none .none) → Q .none ⟨h', g, d, t', os⟩)
    (he : eval (.Call (.Attribute (.Call (.Name "super" p0) [] [] p1) "__init__" p2) [.Constant (.str msg) k p3] [] p4) (PySem.W.ksEnv qual sc L fI (.ref cda) cc) = (do
      let ov ← attributeBase (.Call (.Name "super" p0) [] [] p1) "__init__" (PySem.W.ksEnv qual sc L fI (.ref cda) cc) (eval (.Call (.Name "super" p0) [] [] p1) (PySem.W.ksEnv qual sc L fI (.ref cda) cc))
      standAt p2.atName
      let (f, first) ← holding [ov] (getMethod ov "__init__" pl)
      callWith p4 f first (backTo p4 (starEach [.Constant (.str msg) k p3] (PySem.W.ksEnv qual sc L fI (.ref cda) cc))) [])) :
    _root_.PySem.wpAt (model P w) A (.func body (PySem.W.ksEnv qual sc L fI (.ref cda) cc)) (eval (.Call (.Attribute (.Call (.Name "super" p0) [] [] p1) "__init__" p2) [.Constant (.str msg) k p3] [] p4) (PySem.W.ksEnv qual sc L fI (.ref cda) cc)) Q E ⟨hp, g, d, t, os⟩ := by
  obtain ⟨a0, ha0, ha1⟩ := har
  obtain ⟨cd, hcd, hal⟩ := S.cdt
  obtain ⟨oC, hC1, hC2⟩ := clsIn_at X hcd
  obtain ⟨mb, hb1, hb2⟩ := G.bl
  have hxC : x ≠ C := fun e => by
    rw [e, hC1] at hx
    cases hx
    cases hC2
  refine PySem.ks_wpAt_MethodCall ?_ he
  refine PySem.ks_wpAt_super_base (env := PySem.W.ksEnv qual sc L fI (.ref cda) cc) hs3 hs2 (by decide +kernel) rfl (X _ _ f1) rfl ha0 rfl (X _ _ f3) rfl f4 f5 S.top ?_
  refine PySem.W.ks_loadName_global hsf hs3 (loadGlobal_builtin (env := PySem.W.ksEnv qual sc L fI (.ref cda) cc) G.gl hsup hb1 ((hb2 _ (by decide +kernel)).trans (by decide +kernel)) ⟨rfl, ?_⟩)
  refine wpAny_loadName_free hsf hs2 rfl ⟨_, X _ _ f6, rfl⟩ ?_
  rw [ha1]
  refine wpAny_loadName_local hsf hs1 hn hm ?_
  refine PySem.ks_wpAny_isType_cls hC1 hC2 ⟨rfl, ?_⟩
  refine PySem.ks_wpAny_call_super hC1 hC2 hx rfl (fun c e => by cases e) (PySem.W.looks_mroIn X S.mro) fun h' e' k' => ?_
  have X' : K.In h' := X.keeps k'
  have hx' : h'.get? x = some (PySem.W.excObj C t0 none .none) := k' _ _ hx
  have I' : PySem.W.InstAt h' x (PySem.W.excObj C t0 none .none) C none := ⟨hx', rfl, rfl, trivial⟩
  refine PySem.W.kxs_getMethod S.kf e' (PySem.W.looks_opaque X' S.opq) (l₀ := cd.mro) ((PySem.W.looks_clsIn X' hcd).andThen .now) rfl X' hal (I'.type.andThen (PySem.W.looks_subIn X' S.sub)) hxC (by decide +kernel) ?_
  have k2 : ∀ b o, h'.get? b = some o → (h'.push (PySem.W.kxs_mw i x)).get? b = some o := fun b o e => Heap.get?_push_of_some _ e
  refine PySem.W.kxs_callWith (i := i) (x := x) rfl (evalArgs_plain (spliced_cons (Constant_str (k := k) (pos := p3) (spliced_nil ⟨Heap.get?_push_size h' rfl, ?_⟩))))
  exact mw_call S.fb (X'.keeps k2) S.exi (Heap.get?_push_size h' rfl) (k2 _ _ hx') (by show 1 ≤ sizeLine; rw [sizeLine_eq]; omega) fun h2 t1 kk ex => hq h2 _ t1 (fun b o hb q => kk b o hb (k2 _ _ (k' _ _ q))) ex

/-- a body of super().__init__(text); self.arg = arg -/
abbrev iniBody (msg arg : Str) (k : Nat) (p0 p1 p2 p3 p4 p5 p6 p7 p8 p9 : Pos) : List Stmt :=
  [.Expr (.Call (.Attribute (.Call (.Name "super" p0) [] [] p1) "__init__" p2) [.Constant (.str msg) k p3] [] p4) p5, .Assign [.Attribute (.Name "self" p6) arg p7] (.Name arg p8) p9]
abbrev iniScope (arg : Str) : Scope := { kind := .function, names := [("self", .local), (arg, .local), ("__class__", .free), ("super", .globalImplicit)], isGenerator := false, isCoroutine := false }
abbrev iniArgs (arg : Str) (q1 q2 : Pos) : Arguments := { posonlyargs := [], args := [{ arg := "self", annotation := none, pos := q1 }, { arg := arg, annotation := none, pos := q2 }], vararg := none, kwonlyargs := [], kw_defaults := [], kwarg := none, defaults := [] }
theorem init_run {mg : Str → Option Value} {fI t0 : Addr} {qual arg msg : Str} {k : Nat} {p0 p1 p2 p3 p4 p5 p6 p7 p8 p9 q1 q2 : Pos} {v : Value} {R : Result → Shared → Prop}
    (S : SupC P K C fI B newId i bmB qual arg (iniArgs arg q1 q2) (iniBody msg arg k p0 p1 p2 p3 p4 p5 p6 p7 p8 p9) (iniScope arg)) (X : K.In hp) (G : GlobH mg hp) (hsup : mg "super" = none) (hl : hp.NoLimit) (hroom : A.depth < recursionLimit)
    (hx : hp.get? x = some (PySem.W.excObj C t0 none .none)) (hxK : K.lookup x = none)
    (ha1 : (arg == ("self" : Str)) = false) (ha2 : (arg == ("__debug__" : Str)) = false) (ha3 : (("__class__" : Str) == arg) = false) (ha4 : (("super" : Str) == arg) = false) 
    (hb : ∀ (kV doc pm : Value) (an : Option Addr) (cdv ct : Value) (cc : Addr) (u v : Value), bindArgs (PySem.W.ksFn "__init__" qual (iniArgs arg q1 q2) (iniBody msg arg k p0 p1 p2 p3 p4 p5 p6 p7 p8 p9) (iniScope arg) .none kV doc pm an cdv ct cc) ⟨[u, v], []⟩ = pure [(("self" : Str), u), (arg, v)])
    (he : ∀ env : Env, ∃ pl : Sem Bool, eval (.Call (.Attribute (.Call (.Name "super" p0) [] [] p1) "__init__" p2) [.Constant (.str msg) k p3] [] p4) env = (do
      let ov ← attributeBase (.Call (.Name "super" p0) [] [] p1) "__init__" env (eval (.Call (.Name "super" p0) [] [] p1) env)
      standAt p2.atName
      let (f, first) ← holding [ov] (getMethod ov "__init__" pl)
      callWith p4 f first (backTo p4 (starEach [.Constant (.str msg) k p3] env)) []))
    (hi : ∀ L f c cc, interactive (PySem.W.ksEnv qual (iniScope arg) L f c cc) = false)
    (hs : ∀ env : Env, swapsWith (.Call (.Attribute (.Call (.Name "super" p0) [] [] p1) "__init__" p2) [.Constant (.str msg) k p3] [] p4) none p5.line env = pure false)
    (hs2 : ∀ env : Env, swapsWith (.Name arg p8) (some (.Attribute (.Name "self" p6) arg p7)) p9.line env = pure false)
    (hq : ∀ h' t' dx t1, (∀ b o, b ≠ x → hp.get? b = some o → h'.get? b = some o) → hp.objs.size ≤ dx → dx ≠ x → h'.get? x = some (PySem.W.excObj C t1 (some dx) .none) → h'.Ns1 dx (fun y => if y = arg then some v else none) →
      R (.ok (.ret .none)) ⟨h', g, d, t', os⟩) : codeAny (model P w) A (.call (.ref fI) ⟨[.ref x, v], []⟩) R ⟨hp, g, d, t, os⟩ := by
  obtain ⟨oc, od, osl, kV, doc, pm, an, cda, ct, cc, vs, file, tf, ccl, cdd, ccs, cl, cld, csl, f1, f2, f3, f4, f5, f6⟩ := S.fn
  refine PySem.ks_codeAny_call_defAt (s := ⟨hp, g, d, t, os⟩) (body := iniBody msg arg k p0 p1 p2 p3 p4 p5 p6 p7 p8 p9) (binds := [("self", .ref x), (arg, v)]) hroom (X _ _ f1) rfl hl (PySem.W.codeRec_of X f2) rfl (BindsTo.of_eq (hb _ _ _ _ _ _ _ _ _)) ?_ ?_ (fun h0 hns hk => ?_) rfl rfl rfl
  · intro y hy
    simp only [iniScope, List.mem_cons, List.not_mem_nil, or_false] at hy
    rcases hy with rfl | rfl | rfl | rfl <;> intro z <;> cases z
  · intro y hy
    simp only [List.mem_cons, List.not_mem_nil, or_false] at hy
    rcases hy with rfl | rfl
    · rfl
    · show (iniScope arg).names.lookup arg = some .local
      simp only [iniScope, List.lookup, ha1, beq_self_eq_true]
  · have X0 : K.In h0 := X.keeps hk
    have G0 : GlobH mg h0 := ⟨G.gl.keeps hk, by obtain ⟨mb, b1, b2⟩ := G.bl; exact ⟨mb, b1.keeps hk, b2⟩⟩
    have hx0 := hk _ _ hx
    have hslf : ([(("self" : Str), Value.ref x), (arg, v)] : List (Str × Value)).reverse.lookup ("self" : Str) = some (Value.ref x) := by
      have e : ((("self" : Str)) == arg) = false := by
        rw [← ha1]; exact Bool.beq_comm
      show ([(arg, v), (("self" : Str), Value.ref x)] : List (Str × Value)).lookup ("self" : Str) = _
      simp only [List.lookup, e, beq_self_eq_true]
    obtain ⟨pl, he'⟩ := he (PySem.W.ksEnv qual (iniScope arg) hp.objs.size fI (.ref cda) cc)
    have hne : hp.objs.size ≠ x := Nat.ne_of_gt (Heap.lt_size hx)
    refine PySem.ks_wpAt_execs_cons (PySem.ks_wpAt_Expr_any ?_ (hi _ _ _ _) (hs _))
    refine sup_init (mg := mg) S X0 G0 hsup f1 f3 f4 f5 f6 hns hslf hx0 rfl rfl ?_ ?_ ⟨_, rfl, rfl⟩ (fun h1 t1 a1 k1 e1 => ?_) he'
    · simp only [iniScope, List.lookup, ha3]
      rfl
    · simp only [iniScope, List.lookup, ha4]
      rfl
    · obtain ⟨oL, es, ep, hL, hr⟩ := hns
      have hn1 : h1.Ns hp.objs.size (fun y => ([(("self" : Str), Value.ref x), (arg, v)] : List (Str × Value)).reverse.lookup y) := ⟨oL, es, ep, k1 _ _ hne hL, hr⟩
      have X1 : K.In h1 := fun a o e => k1 a o (fun z => by rw [z, hxK] at e; cases e) (X0 a o e)
      have hz1 : hp.objs.size < h1.objs.size := Heap.lt_size (k1 _ _ hne hL)
      have hva : ([(("self" : Str), Value.ref x), (arg, v)] : List (Str × Value)).reverse.lookup arg = some v := by
        show ([(arg, v), (("self" : Str), Value.ref x)] : List (Str × Value)).lookup arg = _
        simp only [List.lookup, beq_self_eq_true]
      have hka : (PySem.W.ksEnv qual (iniScope arg) hp.objs.size fI (.ref cda) cc).kindOf arg = some .local := by
        show (iniScope arg).names.lookup arg = some .local
        simp only [iniScope, List.lookup, ha1, beq_self_eq_true]
      refine PySem.ks_wpAt_execs_cons (PySem.ks_wpAt_Assign_Attr ?_ (hs2 _))
      refine wpAt_of_wpAny (wpAny_Name (wpAny_loadName_local rfl hka hn1 hva ?_) ha2)
      refine wpAny_Name (wpAny_loadName_local rfl rfl hn1 hslf ?_) (by decide)
      refine exc_set0 S.sf X1 e1 S.exo S.tak S.hdc S.sa fun h2 t2 dx k2 n2 ne2 ex2 hn2 => ?_
      refine wpAt_of_wpAny (wpAny_execs_nil ?_)
      exact hq h2 t2 dx _ (fun b o hb e => k2 _ _ hb (k1 _ _ hb (hk _ _ e))) (by omega) ne2 ex2 hn2
end
end K9
namespace K9
open PySem PySem.Spec PyProof.Rows L2 Evl
/-- where the written parts of an __init__ stand -/
structure IniP where
  (k : Nat) (p0 p1 p2 p3 p4 p5 p6 p7 p8 p9 q1 q2 : Pos)
/-- what the model does with its form -/
structure IniF (qual arg msg : Str) (z : IniP) : Prop where
  ha1 : (arg == ("self" : Str)) = false
  ha2 : (arg == ("__debug__" : Str)) = false
  ha3 : (("__class__" : Str) == arg) = false
  ha4 : (("super" : Str) == arg) = false
  hb : ∀ (kV doc pm : Value) (an : Option Addr) (cdv ct : Value) (cc : Addr) (u v : Value), bindArgs (PySem.W.ksFn "__init__" qual (iniArgs arg z.q1 z.q2) (iniBody msg arg z.k z.p0 z.p1 z.p2 z.p3 z.p4 z.p5 z.p6 z.p7 z.p8 z.p9) (iniScope arg) .none kV doc pm an cdv ct cc) ⟨[u, v], []⟩ = pure [(("self" : Str), u), (arg, v)]
  he : ∀ env : Env, ∃ pl : Sem Bool, eval (.Call (.Attribute (.Call (.Name "super" z.p0) [] [] z.p1) "__init__" z.p2) [.Constant (.str msg) z.k z.p3] [] z.p4) env = (do
      let ov ← attributeBase (.Call (.Name "super" z.p0) [] [] z.p1) "__init__" env (eval (.Call (.Name "super" z.p0) [] [] z.p1) env)
      standAt z.p2.atName
      let (f, first) ← holding [ov] (getMethod ov "__init__" pl)
      callWith z.p4 f first (backTo z.p4 (starEach [.Constant (.str msg) z.k z.p3] env)) [])
  hi : ∀ L f c cc, interactive (PySem.W.ksEnv qual (iniScope arg) L f c cc) = false
  hs : ∀ env : Env, swapsWith (.Call (.Attribute (.Call (.Name "super" z.p0) [] [] z.p1) "__init__" z.p2) [.Constant (.str msg) z.k z.p3] [] z.p4) none z.p5.line env = pure false
  hs2 : ∀ env : Env, swapsWith (.Name arg z.p8) (some (.Attribute (.Name "self" z.p6) arg z.p7)) z.p9.line env = pure false
/-- such a class, whole -/
structure ExK (P : Program) (K : PySem.W.Frag) (mg : Str → Option Value) (x : Str) (C : Addr) (arg : Str) : Prop where
  ex : ∃ (fI : Addr) (B newId i : String) (bmB : List Value) (qual msg : Str) (z : IniP), SupC P K C fI B newId i bmB qual arg (iniArgs arg z.q1 z.q2) (iniBody msg arg z.k z.p0 z.p1 z.p2 z.p3 z.p4 z.p5 z.p6 z.p7 z.p8 z.p9) (iniScope arg) ∧ IniF qual arg msg z
  at_ : mg x = some (.ref C)
  sup : mg "super" = none
/-- C(e): the exception, its dict -/
def tMkS (C : Addr) (arg : Str) (te : TE) : L2.St → Hp → XK → Prop := fun σ H Q => te σ H fun y H1 => ∀ d, H1 d = none → Q (.ref C) (some d) (upd H1 d (.xd [(arg, y)]))
theorem relO_one {f : Str} {y : V} {u : Value} (ry : RelV y u) (g : Str) : RelO (([(f, y)] : List (Str × V)).lookup g) (if g = f then some u else none) := relO_put (fs := []) (mA := fun _ => none) ry (fun _ => True.intro) g
theorem pmk_sup {X : Cx} {x arg : Str} {C : Addr} {k : Nat} {e : Expr} {te : TE} {p pos : Pos} (T : ExK X.prog X.K X.mg x C arg) (hr : Room (k + 1) X.A) (hg : Gl X x) (ha : PA X [e] (tCons te tNil))
    (hdb : (x == ("__debug__" : Str)) = false := by decide) (hst : starEach [e] X.env = (false, eval e X.env) :: starEach [] X.env := by rfl) (hpl : (backTo pos (starEach [] X.env)).any (·.1) = false := by rfl) :
    PMk X (.Call (.Name x p) [e] [] pos) (tMkS C arg te) := by
  intro pins s σ H Q I h
  obtain ⟨fI, B, newId, i, bmB, qual, msg, z, S, F⟩ := T.ex
  refine wpAny_Call_Name_kw (ld_glob I hg T.at_ ?_ hdb)
  refine PySem.W.callWith_K (h₀ := X.base) I.ok.mod.kin S.kC (thn (ha.run pos pins s σ H (fun vs H1 => ∃ y, vs = [y] ∧ ∀ d, H1 d = none → Q (.ref C) (some d) (upd H1 d (.xd [(arg, y)]))) I (by
    show te σ H _
    have e0 : (fun (x : V) (H1 : Hp) => tNil σ H1 fun (xs : List V) (H2 : Hp) => ∃ y, x :: xs = [y] ∧ ∀ d, H2 d = none → Q (.ref C) (some d) (upd H2 d (.xd [(arg, y)]))) = fun y H1 => ∀ d, H1 d = none → Q (.ref C) (some d) (upd H1 d (.xd [(arg, y)])) := by
      funext x H1
      refine propext ⟨fun ⟨y, e, q⟩ => ?_, fun q => ⟨x, rfl, q⟩⟩
      cases e
      exact q
    show te σ H (fun (x : V) (H1 : Hp) => tNil σ H1 fun (xs : List V) (H2 : Hp) => ∃ y, x :: xs = [y] ∧ ∀ d, H2 d = none → Q (.ref C) (some d) (upd H2 d (.xd [(arg, y)])))
    rw [e0]
    exact h)) fun us s1 ⟨vs, H1, I1, r1, y, ev, q1⟩ => ⟨I1.kIn, ?_⟩) hst hpl
  subst ev
  obtain ⟨u, rfl, ru⟩ := vals1 r1
  show wpAny _ _ (call (.ref C) [u]) _ _ _
  obtain ⟨nm, N', qn, bs, bm, hdct, sn, sub, ab, col, dd, k0, k1, k2, k3, k5, hC, hT⟩ := PySem.W.excInit_of I1.kIn S.exi
  obtain ⟨hp, g, dr, tk, os⟩ := s1
  have kk : ∀ b o, hp.get? b = some o → ((hp.push (PySem.W.kdv_tup [u])).push (PySem.HandSPX.excO C hp.objs.size)).get? b = some o := fun b o e => Heap.get?_push_of_some _ (Heap.get?_push_of_some _ e)
  have hget : ((hp.push (PySem.W.kdv_tup [u])).push (PySem.HandSPX.excO C hp.objs.size)).get? (hp.objs.size + 1) = some (PySem.W.excObj C hp.objs.size none .none) := by heap_get
  have hK : X.K.lookup (hp.objs.size + 1) = none := by
    cases q : X.K.lookup (hp.objs.size + 1) with
    | none => rfl
    | some o => exact absurd (Heap.lt_size (I1.kIn _ _ q)) (by show ¬ hp.objs.size + 1 < hp.objs.size; omega)
  have G : GlobH X.mg ((hp.push (PySem.W.kdv_tup [u])).push (PySem.HandSPX.excO C hp.objs.size)) := ⟨(I1.mod.glob.keeps I1.bk).keeps kk, by obtain ⟨mb, b1, b2⟩ := I1.mod.blt; exact ⟨mb, (b1.keeps I1.bk).keeps kk, b2⟩⟩
  refine wpAny_call (PySem.HandSPX.call_own S.fb hT hC (PySem.W.looks_findIn I1.kIn S.ini) (fun self => PySem.W.bind_fn I1.kIn self S.isF) (by show 1 ≤ sizeLine; rw [sizeLine_eq]; omega) ?_)
  refine init_run S (I1.kIn.keeps kk) G T.sup (I1.nolimit.keeps kk) (hr.make C [u] []).depth hget hK F.ha1 F.ha2 F.ha3 F.ha4 F.hb F.he F.hi F.hs F.hs2 fun h' t' dx t1 k' hdx ne ex hn => ?_
  refine ⟨rfl, ?_⟩
  have hsz : hp.objs.size ≤ dx := Nat.le_trans (by simp only [Heap.size_push]; omega) hdx
  obtain ⟨Gh, g1, g2⟩ := restrict h' fun b => decide (b ≠ hp.objs.size + 1)
  have gk : ∀ b, b ≠ hp.objs.size + 1 → Gh.get? b = h'.get? b := fun b hb => g1 b (decide_eq_true hb)
  have ge : Gh.get? (hp.objs.size + 1) = none := g2 _ (by simp)
  have kG : ∀ b o, hp.get? b = some o → Gh.get? b = some o := fun b o q => by
    have hlt : b < hp.objs.size := Heap.lt_size q
    have hb : b ≠ hp.objs.size + 1 := fun z => by
      rw [z] at hlt
      exact Nat.lt_irrefl _ (Nat.lt_of_succ_lt hlt)
    rw [gk b hb]
    exact k' b o hb (kk b o q)
  have hnG : Gh.Ns1 dx (fun y => if y = arg then some u else none) := hn.at fun o q => (gk dx ne).trans q
  have J : Inv X pins σ (upd H1 dx (.xd [(arg, y)])) ⟨Gh, g, dr, t', os⟩ := I1.laid (t' := t') (a := dx) (o := .xd [(arg, y)]) (h' := Gh) kG hsz ⟨_, hnG, fun f => relO_one ru f⟩
  refine ⟨hp.objs.size + 1, _, _, ⟨Gh, g, dr, t', os⟩, upd H1 dx (.xd [(arg, y)]), .ref C, some dx, rfl, J, fun b o q => ?_, ge, ex, ⟨rfl, rfl⟩, rfl, rfl, ?_, rfl, J.bare, raises_own S.exC S.tyC, q1 dx (I1.hok.fresh hsz)⟩
  · have hb : b ≠ hp.objs.size + 1 := fun z => by rw [z, ge] at q; cases q
    exact (gk b hb).symm.trans q
  · rw [upd_ne (Ne.symm ne)]
    exact I1.hok.fresh (by show hp.objs.size ≤ hp.objs.size + 1; omega)

/-! the two classes of the program whose instances fly -/
def sPa : Stmt := topS 5
def sTm : Stmt := topS 8
theorem iniF_test : IniF "BadPaper.__init__" "word" "a paper that does not hold" ⟨0, ⟨27, 8, 27, 13⟩, ⟨27, 8, 27, 15⟩, ⟨27, 8, 27, 24⟩, ⟨27, 25, 27, 53⟩, ⟨27, 8, 27, 54⟩, ⟨27, 8, 27, 54⟩, ⟨28, 8, 28, 12⟩, ⟨28, 8, 28, 17⟩, ⟨28, 20, 28, 24⟩, ⟨28, 8, 28, 24⟩, ⟨26, 17, 26, 21⟩, ⟨26, 23, 26, 27⟩⟩ :=
  ⟨by decide, by decide, by decide, by decide, by intros; rfl, fun env => ⟨_, rfl⟩, fun _ _ _ _ => rfl, fun _ => rfl, fun _ => rfl⟩
end K9
namespace K9
open PySem PySem.Spec PyProof.Rows L2 Evl
/-- at a: an exception of the class cls, its dict d -/
def ExZ (a : Addr) (cls : Value) (d : Option Addr) : HO := .ext fun h => ∃ oe vs, h.get? a = some oe ∧ Zc cls d oe ∧ oe.data = .fields vs
theorem exZ_ok {P : Program} {w : World} {H : Hp} {h : Heap} {a : Addr} {cls : Value} {d : Option Addr} {oe : Obj} {vs : Array Value} (e : h.get? a = some oe) (z : Zc cls d oe) (dt : oe.data = .fields vs) : ObjOk P w H h a (ExZ a cls d) :=
  ⟨⟨oe, vs, e, z, dt⟩, ⟨oe, e⟩, fun h1 h2 ⟨oe, vs, e1, z1, d1⟩ k => ⟨oe, vs, k _ e1, z1, d1⟩⟩
theorem flying_push {B h h' : Heap} {l : List Env} {a : Addr} {Z : Obj → Prop} (x : HandSPX.FlyingZ B l a Z h) (k : ∀ b o, h.get? b = some o → h'.get? b = some o) : HandSPX.FlyingZ B l a Z h' := by
  obtain ⟨f1, f2, f3, oe, vs, T, oT, ts, e1, e2, e3, e4, e5, e6, e7, e8, e9⟩ := x
  exact ⟨fun b o q => k _ _ (f1 b o q), f2, f3.of_keeps fun b o e _ => ⟨o, k _ _ e, rfl⟩, oe, vs, T, oT, ts, k _ _ e1, e2, e3, e4, e5, e6, k _ _ e7, e8, e9⟩
section
variable {X : Cx} {pins : List (Addr × Obj)} {σ : L2.St} {H : Hp} {s : Shared}
theorem inv_suite0 (I : Inv X pins σ H s) (a : Addr) : Inv (X.suite a (X.pn ++ pins)) [] σ H s :=
  ⟨I.ok.suite _ _, I.os, I.bare, I.base, I.loc, I.cell, I.free, I.freeC, fun p hp => I.pin p (by rw [List.append_nil] at hp; exact hp), I.hok, I.len⟩
theorem inv_unsuite0 {a : Addr} {pn' : List (Addr × Obj)} (I : Inv (X.suite a (X.pn ++ pins)) pn' σ H s) (ok : X.Ok) : Inv X pins σ H s :=
  ⟨ok, I.os, I.bare, I.base, I.loc, I.cell, I.free, I.freeC, fun p hp => I.pin p (List.mem_append_left _ hp), I.hok, I.len⟩
end
/-- a class that is named, a global -/
def NamesG (X : Cx) (x : Str) (c : Value) : Prop := Gl X x ∧ (x == ("__debug__" : Str)) = false ∧ X.mg x = some c
/-- what the clause wishes: it takes the exception -/
def wKept (K : PySem.W.Frag) (nl : Nat) (cs : List Value) (i : Nat) (ts : TS) (D : Ends) : WX := fun cls d σ H =>
  PySem.W.exmAny K cls cs = some true ∧ (σ.length = nl → ∀ a, H a = none → ts { nx := fun σ' H' => D.nx (σ'.set i none) H', rt := D.rt, bk := fun σ' H' => D.bk (σ'.set i none) H', ct := fun σ' H' => D.ct (σ'.set i none) H' } (σ.set i (some (.ref a))) (upd H a (ExZ a cls d)))
section
variable {X : Cx} {x1 x2 x3 n : Str} {c1 c2 c3 : Value} {i : Nat} {body suite : List Stmt} {b0 : Stmt} {kt : Nat} {n1 n2 n3 np pos pos' : Pos} {tb : WX → TS} {ts : TS}
theorem ps_try_kept (hs : X.stack = X.env :: X.outer) (hf : X.env.frame = some X.env.locals) (hN : X.N.Nodup) (hi : X.N[i]? = some n) (hln : X.env.kindOf n = some .local) (hc1 : NamesG X x1 c1) (hc2 : NamesG X x2 c2) (hc3 : NamesG X x3 c3)
    (hb : ∀ (W : WX) (pn : List (Addr × Obj)) (xe : Value → Shared → Prop), Takes (X.tr pn xe) W → PassesOwn (model X.prog X.w) X.A X.env xe → PSs (X.tr pn xe) body (tb W))
    (hsu : ∀ (a : Addr) (pn : List (Addr × Obj)), PSs (X.suite a pn) (b0 :: suite) ts)
    (hsp : backTo np (starEach [.Name x1 n1, .Name x2 n2, .Name x3 n3] X.env) = [(false, eval (.Name x1 n1) X.env), (false, eval (.Name x2 n2) X.env), (false, eval (.Name x3 n3) X.env)] := by rfl) :
    PS X (.Try body [.ExceptHandler (some (.Tuple [.Name x1 n1, .Name x2 n2, .Name x3 n3] kt np)) (some n) (b0 :: suite) pos'] [] [] pos) (fun D σ H => tb (wKept X.K X.N.length [c1, c2, c3] i ts D) D σ H) := by
  refine ⟨fun pins s σ H D I h => ?_⟩
  have ok := I.ok
  have hfr : X.A.frames = some (X.env :: X.outer) := by rw [ok.frames, hs]
  have hloc : Loc X.env.scope n := .inl hln
  refine wpAny_Try_except (wpAny_mono ((hb (wKept X.K X.N.length [c1, c2, c3] i ts D) (X.pn ++ pins) (fun e s₁ => wpAny (model X.prog X.w) X.A (noteFrame e X.env) (fun _ s₂ => wpAny (model X.prog X.w) X.A (setFlight e none) (fun _ s₃ =>
    wpAny (model X.prog X.w) X.A (handleBy e X.env [.ExceptHandler (some (.Tuple [.Name x1 n1, .Name x2 n2, .Name x3 n3] kt np)) (some n) (b0 :: suite) pos']) (SP X pins D) X.xe s₃) X.xe s₂) X.xe s₁) (fun u s' xx => ?_) PassesOwn.looking).run [] s σ H D (I.toTry _) h) (fun f s1 hsp => ?_) (fun e s1 he => he))
  · obtain ⟨a, B, sI, pins', σ', H', cls, d, rfl, J', nb, up, sky, na, os, ag, hm, hyes⟩ := xx
    have J : Inv X pins σ' H' sI := J'.ofTry ok
    have sky' : Sky B (X.env :: X.outer) a (Zc cls d) X.env.locals s'.heap := by rw [← hs]; exact sky
    show wpAny (model X.prog X.w) X.A (noteFrame (.ref a) X.env) _ _ _
    refine Sky.land Zc.steady hfr hf sky' fun h3 fl3 up3 => ?_
    have J3 : Inv X pins σ' H' { s' with heap := h3 } := J.landed nb fl3.1 (up.trans up3) os ag
    obtain ⟨oe3, vs3, he3, hz3, hd3⟩ := fl3.there
    have S3 := inv_suite0 J3 a
    refine wpAny_handleBy_cons (codeAny_handlers_test ?_) (by intro q; cases q)
    refine wpAny_Tuple_spliced ?_
    rw [hsp]
    refine Calls.spliced_cons (ld_glob (X := X.suite a (X.pn ++ pins)) S3 hc1.1 hc1.2.2 ?_ hc1.2.1)
    refine Calls.spliced_cons (ld_glob (X := X.suite a (X.pn ++ pins)) S3 hc2.1 hc2.2.2 ?_ hc2.2.1)
    refine Calls.spliced_cons (ld_glob (X := X.suite a (X.pn ++ pins)) S3 hc3.1 hc3.2.2 ?_ hc3.2.1)
    refine Calls.spliced_nil ⟨by show 3 ≤ sizeLine; rw [sizeLine_eq]; omega, ?_⟩
    have kp : ∀ b o, h3.get? b = some o → (h3.push { cls := .type "tuple", data := .seq [c1, c2, c3].toArray }).get? b = some o := fun b o e => Heap.get?_push_of_some _ e
    have fl3' := flying_push fl3 kp
    have LT : PySem.W.Looks (model X.prog X.w) (h3.push { cls := .type "tuple", data := .seq [c1, c2, c3].toArray }) (typeOf (.ref a)) cls := fun A Q E s k q => wpAny_typeOf_ref (k _ _ (kp _ _ he3)) (by rw [hz3.1]; exact q)
    have LM := PySem.W.exm_tup3 (M := model X.prog X.w) (J3.kIn.keeps kp) LT (Heap.get?_push_size h3 rfl) hm
    refine LM.here (codeAny_handlers_suite_as (HandSPX.lands_againZ fl3' fun h4 fl4 up4 => ?_))
    obtain ⟨oe4, vs4, he4, hz4, hd4⟩ := fl4.there
    have up' : sI.heap.UpToSlots h4 := ((up.trans up3).trans (Heap.UpToSlots.of_keeps kp)).trans up4
    obtain ⟨G, g1, g2⟩ := restrict h4 fun b => decide (b ≠ a)
    have gk : ∀ b, b ≠ a → G.get? b = h4.get? b := fun b hb => g1 b (decide_eq_true hb)
    have ga : G.get? a = none := g2 a (by simp)
    have J4 : Inv X pins σ' H' { s' with heap := G } := J.landed nb (fun b o q => by
        have hb : b ≠ a := fun z => by rw [z, fl4.2.1] at q; cases q
        rw [gk b hb]
        exact fl4.1 b o q) (fun b o q hn => by
        obtain ⟨sl, e⟩ := up' b o q hn
        have hb : b ≠ a := fun z => by
          rw [z, he4] at e
          cases e
          exact hn _ hd4
        exact ⟨sl, (gk b hb).trans e⟩) os ag
    have J5 : Inv X pins σ' (upd H' a (ExZ a cls d)) { s' with heap := h4 } := J4.laidN (h' := h4) (t' := s'.toks) (fun b u q => by
        have hb : b ≠ a := fun z => by rw [z, ga] at q; cases q
        exact (gk b hb).symm.trans q) ga na (exZ_ok he4 hz4 hd4)
    have S5 := inv_suite0 J5 a
    refine store_ok (X := X.suite a (X.pn ++ pins)) (v := .ref a) S5 hN hi hloc rfl (fun s5 S6 => ?_) (.inr hln)
    refine wpAny_mono ((hsu a (X.pn ++ pins)).run [] s5 _ _ _ S6 (hyes J.len a na)) (fun f s6 hsp => ?_) (fun _ _ z => False.elim z)
    have fin : ∀ {σ6 : L2.St} {H6 : Hp} {Q : Shared → Prop}, Inv (X.suite a (X.pn ++ pins)) [] σ6 H6 s6 → (∀ s7, Inv X pins (σ6.set i none) H6 s7 → Q s7) →
        wpAny (model X.prog X.w) X.A (do bindName X.env n .none; unbindBehindTheSuite X.env n pos') (fun _ s7 => Q s7) X.xe s6 := fun {σ6 H6 Q} S6 hq => gone_ok (inv_unsuite0 S6 ok) hN hi hln hq
    cases f with
    | next =>
      obtain ⟨σ6, H6, S6, q6⟩ := hsp
      exact fin S6 fun s7 J7 => ⟨_, _, J7, q6⟩
    | brk =>
      obtain ⟨σ6, H6, S6, q6⟩ := hsp
      exact fin S6 fun s7 J7 => ⟨_, _, J7, q6⟩
    | cont =>
      obtain ⟨σ6, H6, S6, q6⟩ := hsp
      exact fin S6 fun s7 J7 => ⟨_, _, J7, q6⟩
    | ret u =>
      obtain ⟨v6, σ6, H6, S6, r6, q6⟩ := hsp
      exact fin S6 fun s7 J7 => ⟨_, _, _, J7, r6, q6⟩
  · cases f with
    | next =>
      obtain ⟨σ', H', J', q⟩ := hsp
      exact wpAny_execs_nil ⟨σ', H', J'.ofTry ok, q⟩
    | brk =>
      obtain ⟨σ', H', J', q⟩ := hsp
      exact ⟨σ', H', J'.ofTry ok, q⟩
    | cont =>
      obtain ⟨σ', H', J', q⟩ := hsp
      exact ⟨σ', H', J'.ofTry ok, q⟩
    | ret u =>
      obtain ⟨v, σ', H', J', r, q⟩ := hsp
      exact ⟨v, σ', H', J'.ofTry ok, r, q⟩
end
end K9
namespace K9
open PySem PySem.Spec PyProof.Rows L2 Evl
/-- at a: an exception of the class at C whose dict bears fs -/
def ExAt (H : Hp) (a C : Addr) (fs : List (Str × V)) : Prop := ∃ dd, H a = some (ExZ a (.ref C) (some dd)) ∧ H dd = some (.xd fs)
theorem ExAt.mono {H H' : Hp} {a C : Addr} {fs : List (Str × V)} (h : ExAt H a C fs) (e : Ex H H') : ExAt H' a C fs := by
  obtain ⟨dd, h1, h2⟩ := h
  exact ⟨dd, e _ _ h1, e _ _ h2⟩
def rIsX (K : PySem.W.Frag) : List V → Hp → VK → Prop := fun xs H Q => ∃ (a C c : Addr) (fs : List (Str × V)) (b : Bool), xs = [.ref a, .ref c] ∧ ExAt H a C fs ∧ ExcC K C ∧ PySem.W.kitOne K (.ref C) (.ref c) = some b ∧ Q (.bl b) H
section
variable {X : Cx} {K : PySem.W.Frag}
theorem exAt_inst {pins : List (Addr × Obj)} {σ : L2.St} {H : Hp} {s : Shared} {a C : Addr} {fs : List (Str × V)} (I : Inv X pins σ H s) (h : ExAt H a C fs) : ∃ (ox od : Obj) (mA : Str → Option Value), PySem.W.InstAt s.heap a ox C (some od) ∧ (∀ name, PySem.W.lookIn name od = some (mA name)) ∧ ∀ f, RelO (fs.lookup f) (mA f) := by
  obtain ⟨dd, h1, h2⟩ := h
  obtain ⟨⟨oe, vs, he, hz, hd⟩, _, _⟩ := I.hok a _ h1
  obtain ⟨mA, hns, hr⟩ := I.hok dd _ h2
  obtain ⟨od, ho, hl⟩ := lookIn_ns hns
  exact ⟨oe, od, mA, ⟨he, hz.1, by unfold PySem.W.notCls; rw [hd] <;> rfl, by rw [hz.2]; exact ho⟩, hl, hr⟩
theorem k_isX (hK : X.K = K) : CallR X (.builtin "isinstance") (rIsX K) := by
  subst hK
  intro pins s σ H xs us Q I r h
  obtain ⟨a, C, c, fs, b, rfl, hA, T, e, q⟩ := h
  cases r with
  | cons rx rr =>
    cases rr with
    | cons rt rr =>
      cases rr
      cases rx
      cases rt
      obtain ⟨ox, od, mA, J, _, _⟩ := exAt_inst I hA
      obtain ⟨cd, hc, _⟩ := PySem.W.any_some T.hd
      exact PySem.W.kia_one (PySem.W.kitx_exc (by rw [hc]; rfl) T.hg T.hk T.hs T.ha T.hn T.ht T.hm) I.kIn J e (fun z => nomatch z) fun tk => ⟨.bl b, H, I.kept (t' := tk) fun _ _ z => z, rfl, q⟩
/-- e.n -/
def tXz (K : PySem.W.Frag) (n : Str) (te : TE) : TE := fun σ H Q => te σ H fun x H1 => ∃ (a C : Addr) (fs : List (Str × V)) (v : V), x = .ref a ∧ ExAt H1 a C fs ∧ XfC K C ∧ PySem.W.findIn K (.ref C) n = some none ∧ fs.lookup n = some v ∧ Q v H1
theorem pe_xz {e : Expr} {te : TE} {pos : Pos} {n : Str} (hK : X.K = K) (he : PE X e te) (hb : attributeBase e n X.env (eval e X.env) = eval e X.env := by rfl) : PE X (.Attribute e n pos) (tXz K n te) := by
  subst hK
  refine ⟨fun pins s σ H Q I h => attr_of hb (thn (he.run pins s σ H _ I h) fun u s1 hh => ?_)⟩
  obtain ⟨x, H1, I1, rx, a, C, fs, v, ex, hA, T, hno, l, q⟩ := hh
  subst ex
  obtain rfl : u = Value.ref a := rx
  obtain ⟨ox, od, mA, J, hl, hr⟩ := exAt_inst I1 hA
  obtain ⟨u, hu, ru⟩ := RelO.some_of (v := v) (o := mA n) (by rw [← l]; exact hr n)
  exact HandSPX.exc_get I1.kIn J T.ga T.gg T.exC (PySem.W.findObj_own T.hdC hno rfl (by rw [hl, hu])) (handed_of ru) ⟨v, H1, I1.tok _, ru, q⟩
end
section
variable {K : PySem.W.Frag} {σ : L2.St} {H : Hp} {te tb : TE}
theorem ev_isX {a C c : Addr} {fs : List (Str × V)} {b : Bool} (h : Ev te σ H (.ref a)) (hA : ExAt H a C fs) (T : ExcC K C) (hk : PySem.W.kitOne K (.ref C) (.ref c) = some b) : Ev (tCB (rIsX K) (tCons te (tCons (tC (.ref c)) tNil))) σ H (.bl b) := fun H1 e Q q =>
  h H1 e _ fun H2 e2 => ⟨a, C, c, fs, b, rfl, hA.mono (e.trans e2), T, hk, q H2 e2⟩
theorem ev_xz {a C : Addr} {fs : List (Str × V)} {n : Str} {v : V} (h : Ev te σ H (.ref a)) (hA : ExAt H a C fs) (T : XfC K C) (hno : PySem.W.findIn K (.ref C) n = some none) (hl : fs.lookup n = some v) : Ev (tXz K n te) σ H v := fun H1 e Q q =>
  h H1 e _ fun H2 e2 => ⟨a, C, fs, v, rfl, hA.mono (e.trans e2), T, hno, hl, q H2 e2⟩
end
/-- where the error classes stand -/
structure ExA where
  (tw tl tm bl bs bp bn pa : Addr)
/-- the error classes -/
structure Excf (P : Program) (K : PySem.W.Frag) (mg : Str → Option Value) (z : ExA) : Prop where
  n_TwiceError : mg "TwiceError" = some (.ref z.tw)
  n_TooLong : mg "TooLong" = some (.ref z.tl)
  n_TooMany : mg "TooMany" = some (.ref z.tm)
  n_BadLetters : mg "BadLetters" = some (.ref z.bl)
  n_BadSize : mg "BadSize" = some (.ref z.bs)
  n_BadPlace : mg "BadPlace" = some (.ref z.bp)
  n_BadNumber : mg "BadNumber" = some (.ref z.bn)
  n_BadPaper : mg "BadPaper" = some (.ref z.pa)
  kP : ExK P K mg "BadPaper" z.pa "word"
  kM : ExK P K mg "TooMany" z.tm "most"
  cP : ExcC K z.pa
  cM : ExcC K z.tm
  xP : XfC K z.pa
  xM : XfC K z.tm
  fP : PySem.W.findIn K (.ref z.pa) "word" = some none
  fM : PySem.W.findIn K (.ref z.tm) "most" = some none
  iP : (∀ c ∈ [z.tl, z.tm, z.bl, z.bs, z.bp, z.bn], PySem.W.kitOne K (.ref z.pa) (.ref c) = some false) ∧ PySem.W.kitOne K (.ref z.pa) (.ref z.pa) = some true
  iM : (∀ c ∈ [z.tl, z.bl, z.bs, z.bp, z.bn, z.pa], PySem.W.kitOne K (.ref z.tm) (.ref c) = some false) ∧ PySem.W.kitOne K (.ref z.tm) (.ref z.tm) = some true
  mP : PySem.W.exmAny K (.ref z.pa) [.ref z.tw, .ref z.tl, .ref z.tm] = some true
  mM : PySem.W.exmAny K (.ref z.tm) [.ref z.tw, .ref z.tl, .ref z.tm] = some true
theorem gcX {mg : Str → Option Value} {x : Str} {a : Addr} (h : mg x = some (.ref a)) : GC mg x (.ref a) := ⟨_, h, rfl⟩
end K9
namespace K9
open PySem PySem.Spec PyProof.Rows L2 Evl
/-- a class whose __init__ is looked at -/
structure IniD where
  cls : Str
  qual : Str
  args : Arguments
  body : List Stmt
  scope : Scope
abbrev FnI : Type := Option (Str × Str × Arguments × FuncBody × Scope × Addr × List Str × Value × Addr)
def fI (K : PySem.W.Frag) (x : Str) : Addr := He.ma K (He.ga K x) "__init__"
def fnI (K : PySem.W.Frag) (x : Str) : FnI := match K.lookup (fI K x) with
  | some ⟨_, _, .func d, _⟩ => some (d.name, d.qualname, d.params, d.body, d.scope, d.globals, d.closure.map (·.1), d.defaults, d.builtins)
  | _ => none
def IniD.val (d : IniD) : FnI := some ("__init__", d.qual, d.args, .stmts d.body, d.scope, mainGlobals, ["__class__"], .none, builtinsNs)
def codB (K : PySem.W.Frag) (file q : Str) : Value → Bool
  | .ref c => PySem.W.codeIn K (.ref c) q && (match K.lookup c with
    | some ⟨_, _, .fields vs, _⟩ => (match (vs[2]? : Option Value) with
      | some (.str f _) => file == f
      | _ => false)
    | _ => false)
  | _ => false
def celB (K : PySem.W.Frag) (C : Addr) : List (Str × Addr) → Bool
  | [q] => (match K.lookup q.2 with
    | some ⟨_, _, .cell (some (.ref c)), _⟩ => decide (c = C)
    | _ => false)
  | _ => false
def iniB (K : PySem.W.Frag) (file : Str) (x q : Str) : Bool := match K.lookup (fI K x) with
  | some ⟨_, _, .func d, _⟩ => codB K file q d.code && celB K (He.ga K x) d.closure
  | _ => false
theorem codB_ok {K : PySem.W.Frag} {file q : Str} {v : Value} (h : codB K file q v = true) : ∃ (c : Addr) (vs : Array Value) (f : Str) (tf : Tok) (a : Value) (b : Option Addr) (s : Array (Option Value)), v = .ref c ∧ PySem.W.codeIn K (.ref c) q = true ∧ K.lookup c = some ⟨a, b, .fields vs, s⟩ ∧ vs[2]? = some (.str f tf) ∧ (file == f) = true := by
  unfold codB at h
  split at h
  · rename_i c
    obtain ⟨h1, h2⟩ := He.ba h
    split at h2
    · rename_i a b vs s e
      split at h2
      · rename_i f tf e2
        exact ⟨c, vs, f, tf, a, b, s, rfl, h1, e, e2, h2⟩
      · cases h2
    · cases h2
  · cases h
theorem celB_ok {K : PySem.W.Frag} {C : Addr} {l : List (Str × Addr)} (h : celB K C l = true) : ∃ (y : Str) (cc : Addr) (a : Value) (b : Option Addr) (s : Array (Option Value)), l = [(y, cc)] ∧ K.lookup cc = some ⟨a, b, .cell (some (.ref C)), s⟩ := by
  unfold celB at h
  split at h
  · rename_i q
    split at h
    · rename_i a b c s e
      have ec := of_decide_eq_true h
      subst ec
      exact ⟨q.1, q.2, a, b, s, rfl, e⟩
    · cases h
  · cases h
theorem iniB_ok {K : PySem.W.Frag} {file : Str} {d : IniD} (e : fnI K d.cls = d.val) (h : iniB K file d.cls d.qual = true) :
    ∃ (oc : Value) (od : Option Addr) (osl : Array (Option Value)) (kV doc pm : Value) (an : Option Addr) (cda : Addr) (ct : Value) (cc : Addr) (vs : Array Value) (f : Str) (tf : Tok) (ccl : Value) (cdd : Option Addr) (ccs : Array (Option Value)) (cl : Value) (cld : Option Addr) (csl : Array (Option Value)),
    K.lookup (fI K d.cls) = some ⟨oc, od, .func (PySem.W.ksFn "__init__" d.qual d.args d.body d.scope .none kV doc pm an (.ref cda) ct cc), osl⟩ ∧ PySem.W.codeIn K (.ref cda) d.qual = true ∧ K.lookup cda = some ⟨ccl, cdd, .fields vs, ccs⟩ ∧ vs[2]? = some (.str f tf) ∧
      (file == f) = true ∧ K.lookup cc = some ⟨cl, cld, .cell (some (.ref (He.ga K d.cls))), csl⟩ := by
  unfold iniB at h
  unfold fnI at e
  cases q : K.lookup (fI K d.cls) with
  | none =>
    rw [q] at h
    cases h
  | some o =>
    obtain ⟨oc, od, dt, osl⟩ := o
    rw [q] at h e
    cases dt with
    | func fd =>
      obtain ⟨n1, n2, n3, n4, n5, n6, n7, n8, n9, n10, n11, n12, n13, n14, n15⟩ := fd
      have e2 : (some (n1, n2, n3, n4, n5, n6, n7.map (·.1), n8, n15) : FnI) = some (("__init__" : Str), d.qual, d.args, .stmts d.body, d.scope, mainGlobals, [("__class__" : Str)], .none, builtinsNs) := e
      simp only [Option.some.injEq, Prod.mk.injEq] at e2
      obtain ⟨h1, h2, h3, h4, h5, h6, h7, h8, h9⟩ := e2
      obtain ⟨g1, g2⟩ := He.ba (show (codB K file d.qual n13 && celB K (He.ga K d.cls) n7) = true from h)
      obtain ⟨c, vs, f, tf, a, b, s, rfl, k1, k2, k3, k4⟩ := codB_ok g1
      obtain ⟨y, cc, a2, b2, s2, rfl, k5⟩ := celB_ok g2
      have ey : y = "__class__" := (List.cons.inj (show [y] = [("__class__" : Str)] from h7)).1
      subst ey
      subst h1 h2 h3 h4 h5 h6 h8 h9
      exact ⟨oc, od, osl, n9, n10, n11, n12, c, n14, cc, vs, f, tf, a, b, s, a2, b2, s2, rfl, k1, k2, k3, k4, k5⟩
    | _ => cases h
/-- the Bool of such a class -/
def supB (K : PySem.W.Frag) (file x q : Str) (B newId i : String) (bmB : List Value) (arg : Str) : Bool :=
  iniB K file x q && (decide (PySem.W.typeIn K (.ref (fI K x)) = some (.type "function")) && (decide (PySem.W.findIn K (.ref (He.ga K x)) "__init__" = some (some (.ref (fI K x)))) &&
  (PySem.W.excInitIn K (He.ga K x) bmB newId && (PySem.W.excOver K (He.ga K x) bmB && ((match PySem.W.clsIn K (He.ga K x) with
    | some cd => decide (PySem.W.alongIn K "__init__" ((cd.mro.dropWhile (· != .ref (He.ga K x))).drop 1) = some (some (.builtin i)))
    | none => false) && (decide (PySem.W.subIn K (.ref (He.ga K x)) (.type B) = some true) && (decide (PySem.W.takerIn K (He.ga K x) arg = some none) && (PySem.W.hasDictIn K (He.ga K x) &&
  (decide (PySem.W.findIn K (.ref (He.ga K x)) "__setattr__" = some (some (.builtin "object.__setattr__"))) && (decide (PySem.W.mroIn K (He.ga K x) (.ref (He.ga K x)) = some true) && (decide (PySem.W.nsIn K cStatics "thirdparty.any" = some none) &&
  (decide (PySem.W.subIn K (.ref (He.ga K x)) (.type "BaseException") = some true) && (decide (PySem.W.typeIn K (.ref (He.ga K x)) = some (.type "type")) && PySem.W.keepIn K (.ref (He.ga K x)))))))))))))))
theorem supB_ok {P : Program} {K : PySem.W.Frag} {d : IniD} {B newId i : String} {bmB : List Value} {arg : Str} (fb : ExcBaseFacts B newId i bmB) (kf : PySem.W.KxsFacts B i) (sf : StoreFacts B bmB "object.__setattr__" "object")
    (top : (P.main.scope.names.lookup ("super" : Str)).isSome = false) (e : fnI K d.cls = d.val) (h : supB K P.main.file d.cls d.qual B newId i bmB arg = true) : SupC P K (He.ga K d.cls) (fI K d.cls) B newId i bmB d.qual arg d.args d.body d.scope := by
  unfold supB at h
  obtain ⟨h1, h⟩ := He.ba h
  obtain ⟨h2, h⟩ := He.ba h
  obtain ⟨h3, h⟩ := He.ba h
  obtain ⟨h4, h⟩ := He.ba h
  obtain ⟨h5, h⟩ := He.ba h
  obtain ⟨h6, h⟩ := He.ba h
  obtain ⟨h7, h⟩ := He.ba h
  obtain ⟨h8, h⟩ := He.ba h
  obtain ⟨h9, h⟩ := He.ba h
  obtain ⟨h10, h⟩ := He.ba h
  obtain ⟨h11, h⟩ := He.ba h
  obtain ⟨h12, h⟩ := He.ba h
  obtain ⟨h13, h⟩ := He.ba h
  obtain ⟨h14, h15⟩ := He.ba h
  refine ⟨fb, kf, sf, iniB_ok e h1, top, of_decide_eq_true h2, of_decide_eq_true h3, h4, h5, ?_, of_decide_eq_true h7, of_decide_eq_true h8, h9, of_decide_eq_true h10, of_decide_eq_true h11, of_decide_eq_true h12, of_decide_eq_true h13, of_decide_eq_true h14, h15⟩
  cases q : PySem.W.clsIn K (He.ga K d.cls) with
  | none =>
    rw [q] at h6
    cases h6
  | some cd =>
    rw [q] at h6
    exact ⟨cd, rfl, of_decide_eq_true h6⟩
/-- isinstance of a kept one -/
def exB (K : PySem.W.Frag) (C : Addr) : Bool := decide (PySem.W.findIn K (.ref C) "__class__" = some (some (.builtin "object.__class__"))) && (decide (PySem.W.specialIn K (.builtin "object.__class__") "__get__" = some (some (.builtin "getset_descriptor.__get__"))) && (decide (PySem.W.takesIn K (.builtin "object.__class__") = some true) && (decide (PySem.W.mroIn K C (.type "object") = some true) && xfB K C)))
theorem exB_ok {K : PySem.W.Frag} {C : Addr} (h : exB K C = true) : ExcC K C ∧ XfC K C := by
  obtain ⟨h1, h⟩ := He.ba h
  obtain ⟨h2, h⟩ := He.ba h
  obtain ⟨h3, h⟩ := He.ba h
  obtain ⟨h4, h5⟩ := He.ba h
  have x := xfB_ok h5
  exact ⟨⟨x.ga, x.gg, x.exC, x.hdC, of_decide_eq_true h1, of_decide_eq_true h2, of_decide_eq_true h3, of_decide_eq_true h4⟩, x⟩
def mroVE : List Value := [.type "ValueError", .type "Exception", .type "BaseException", .type "object"]
def mroOE : List Value := [.type "OverflowError", .type "ArithmeticError", .type "Exception", .type "BaseException", .type "object"]
/-- where the error classes stand -/
def zOf (K : PySem.W.Frag) : ExA := ⟨He.ga K "TwiceError", He.ga K "TooLong", He.ga K "TooMany", He.ga K "BadLetters", He.ga K "BadSize", He.ga K "BadPlace", He.ga K "BadNumber", He.ga K "BadPaper"⟩
def onlyB (K : PySem.W.Frag) (a : Addr) (cs : List Addr) : Bool := (cs.all fun c => decide (PySem.W.kitOne K (.ref a) (.ref c) = some false)) && decide (PySem.W.kitOne K (.ref a) (.ref a) = some true)
def anyB (K : PySem.W.Frag) (a : Addr) (z : ExA) : Bool := decide (PySem.W.exmAny K (.ref a) [.ref z.tw, .ref z.tl, .ref z.tm] = some true)
def excfB (K : PySem.W.Frag) (file : Str) : Bool :=
  (exB K (zOf K).pa && exB K (zOf K).tm) && ((decide (PySem.W.findIn K (.ref (zOf K).pa) "word" = some none) && decide (PySem.W.findIn K (.ref (zOf K).tm) "most" = some none)) &&
  ((onlyB K (zOf K).pa [(zOf K).tl, (zOf K).tm, (zOf K).bl, (zOf K).bs, (zOf K).bp, (zOf K).bn] && onlyB K (zOf K).tm [(zOf K).tl, (zOf K).bl, (zOf K).bs, (zOf K).bp, (zOf K).bn, (zOf K).pa]) && ((anyB K (zOf K).pa (zOf K) && anyB K (zOf K).tm (zOf K)) &&
  (supB K file "BadPaper" "BadPaper.__init__" "ValueError" "ValueError.__new__" "ValueError.__init__" mroVE "word" && supB K file "TooMany" "TooMany.__init__" "OverflowError" "OverflowError.__new__" "OverflowError.__init__" mroOE "most"))))
theorem onlyB_ok {K : PySem.W.Frag} {a : Addr} {cs : List Addr} (h : onlyB K a cs = true) : (∀ c ∈ cs, PySem.W.kitOne K (.ref a) (.ref c) = some false) ∧ PySem.W.kitOne K (.ref a) (.ref a) = some true := by
  obtain ⟨h1, h2⟩ := He.ba h
  exact ⟨fun c hc => of_decide_eq_true (List.all_eq_true.mp h1 c hc), of_decide_eq_true h2⟩
/-! ### the written parts of the two __init__ -/
def clsInit (i : Nat) : Stmt := match topS i with
  | .ClassDef _ _ _ b _ _ _ _ _ _ _ => b.getD 0 (.Pass ⟨0, 0, 0, 0⟩)
  | _ => .Pass ⟨0, 0, 0, 0⟩
def iniP (a : Arguments) (b : List Stmt) : IniP := match a.args, b with
  | [s1, s2], [.Expr (.Call (.Attribute (.Call (.Name _ p0) [] [] p1) _ p2) [.Constant _ k p3] [] p4) p5, .Assign [.Attribute (.Name _ p6) _ p7] (.Name _ p8) p9] => ⟨k, p0, p1, p2, p3, p4, p5, p6, p7, p8, p9, s1.pos, s2.pos⟩
  | _, _ => ⟨0, ⟨0, 0, 0, 0⟩, ⟨0, 0, 0, 0⟩, ⟨0, 0, 0, 0⟩, ⟨0, 0, 0, 0⟩, ⟨0, 0, 0, 0⟩, ⟨0, 0, 0, 0⟩, ⟨0, 0, 0, 0⟩, ⟨0, 0, 0, 0⟩, ⟨0, 0, 0, 0⟩, ⟨0, 0, 0, 0⟩, ⟨0, 0, 0, 0⟩, ⟨0, 0, 0, 0⟩⟩
def zP : IniP := iniP (defArgs (clsInit 6)) (defBody (clsInit 6))
def zM : IniP := iniP (defArgs (clsInit 8)) (defBody (clsInit 8))
def iniOf (x : Str) (q msg arg : Str) (z : IniP) : IniD := ⟨x, q, iniArgs arg z.q1 z.q2, iniBody msg arg z.k z.p0 z.p1 z.p2 z.p3 z.p4 z.p5 z.p6 z.p7 z.p8 z.p9, iniScope arg⟩
def iP : IniD := iniOf "BadPaper" "BadPaper.__init__" "a paper that does not hold" "word" zP
def iM : IniD := iniOf "TooMany" "TooMany.__init__" "too many" "most" zM
example : defBody (clsInit 6) = iP.body := by kernel_rfl
example : defArgs (clsInit 6) = iP.args := by kernel_rfl
example : defScope (clsInit 6) = iP.scope := by kernel_rfl
example : defBody (clsInit 8) = iM.body := by kernel_rfl
example : defArgs (clsInit 8) = iM.args := by kernel_rfl
example : defScope (clsInit 8) = iM.scope := by kernel_rfl
theorem f_iP : IniF iP.qual "word" "a paper that does not hold" zP where
  ha1 := by decide
  ha2 := by decide
  ha3 := by decide
  ha4 := by decide
  hb := fun _ _ _ _ _ _ _ _ _ => rfl
  he := fun env => ⟨_, by rfl⟩
  hi := fun _ _ _ _ => by kernel_rfl
  hs := fun _ => by kernel_rfl
  hs2 := fun _ => by kernel_rfl
theorem f_iM : IniF iM.qual "most" "too many" zM where
  ha1 := by decide
  ha2 := by decide
  ha3 := by decide
  ha4 := by decide
  hb := fun _ _ _ _ _ _ _ _ _ => rfl
  he := fun env => ⟨_, by rfl⟩
  hi := fun _ _ _ _ => by kernel_rfl
  hs := fun _ => by kernel_rfl
  hs2 := fun _ => by kernel_rfl
theorem excf_of {P : Program} {K : PySem.W.Frag} {mg : Str → Option Value} (top : (P.main.scope.names.lookup ("super" : Str)).isSome = false) (sup : mg "super" = none) (eP : fnI K "BadPaper" = iP.val) (eM : fnI K "TooMany" = iM.val) (h : excfB K P.main.file = true)
    (hn : ∀ x ∈ (["TwiceError", "TooLong", "TooMany", "BadLetters", "BadSize", "BadPlace", "BadNumber", "BadPaper"] : List Str), mg x = some (.ref (He.ga K x))) : Excf P K mg (zOf K) := by
  obtain ⟨h1, h⟩ := He.ba h
  obtain ⟨a1, a2⟩ := He.ba h1
  obtain ⟨h2, h⟩ := He.ba h
  obtain ⟨b1, b2⟩ := He.ba h2
  obtain ⟨h3, h⟩ := He.ba h
  obtain ⟨c1, c2⟩ := He.ba h3
  obtain ⟨h4, h5⟩ := He.ba h
  obtain ⟨d1, d2⟩ := He.ba h4
  obtain ⟨e1, e2⟩ := He.ba h5
  have S1 := supB_ok (d := iP) PySem.F.excBase_ValueError PySem.W.kxs_ValueError PySem.F.store_ValueError top eP e1
  have S2 := supB_ok (d := iM) PySem.F.excBase_OverflowError PySem.W.kxs_OverflowError PySem.F.store_OverflowError top eM e2
  exact ⟨hn _ (by decide), hn _ (by decide), hn _ (by decide), hn _ (by decide), hn _ (by decide), hn _ (by decide), hn _ (by decide), hn _ (by decide), ⟨⟨_, _, _, _, _, _, _, zP, S1, f_iP⟩, hn _ (by decide), sup⟩, ⟨⟨_, _, _, _, _, _, _, zM, S2, f_iM⟩, hn _ (by decide), sup⟩,
    (exB_ok a1).1, (exB_ok a2).1, (exB_ok a1).2, (exB_ok a2).2, of_decide_eq_true b1, of_decide_eq_true b2, onlyB_ok c1, onlyB_ok c2, of_decide_eq_true d1, of_decide_eq_true d2⟩
end K9
namespace K9
open PySem PySem.Spec PyProof.Rows L2 Evl
def hdD (x : Str) (st : Stmt) : He.DefD := ⟨(x, none), x, x, defArgs st, defBody st, defScope st, [], []⟩
def fnA : List He.DefD := [hdD "is_whole" s_is_whole, hdD "is_text" s_is_text, hdD "need_text" s_need_text, hdD "need_size" s_need_size, hdD "need_two" s_need_two, hdD "copied_of" s_copied_of, hdD "doublings_of" s_doublings_of, hdD "gaps_of" s_gaps_of, hdD "steps_of" s_steps_of, hdD "runs_of" s_runs_of, hdD "laid_out" s_laid_out, hdD "built_of" s_built_of, hdD "root_of" s_root_of, hdD "first_place" s_first_place, hdD "unlike_word" s_unlike_word, hdD "is_short" s_is_short, hdD "growths_of" s_growths_of, hdD "short_run" s_short_run, hdD "does_come" s_does_come, hdD "are_kin_of" s_are_kin_of, hdD "between_count_of" s_between_count_of, hdD "between_count" s_between_count, hdD "between_texts" s_between_texts, hdD "apart_of" s_apart_of, hdD "deeds_apart" s_deeds_apart, hdD "undone_at" s_undone_at, hdD "deeds_of" s_deeds_of, hdD "deed_row" s_deed_row, hdD "is_deed" s_is_deed]
def fnB : List He.DefD := [hdD "check_deeds" s_check_deeds, hdD "need_texts" s_need_texts, hdD "are_all_kin" s_are_all_kin, hdD "middle_of" s_middle_of, hdD "middle_text" s_middle_text, hdD "deeds_to_all" s_deeds_to_all, hdD "_law_mixed" s_l_mixed, hdD "_law_folded" s_l_folded, hdD "_law_draw" s_l_draw, hdD "_law_begun" s_l_begun, hdD "_law_like" s_l_like, hdD "_law_of" s_l_of, hdD "_law_text_of" s_l_text_of, hdD "_law_grown" s_l_grown, hdD "_law_is_twice" s_l_is_twice, hdD "_law_bare" s_l_bare, hdD "_law_once" s_l_once, hdD "_law_does_come" s_l_does_come, hdD "_law_odds" s_l_odds, hdD "_law_told" s_l_told, hdD "_law_is_int" s_l_is_int, hdD "_law_bent" s_l_bent, hdD "_law_near_texts" s_l_near_texts, hdD "_law_far" s_l_far, hdD "_law_between" s_l_between, hdD "_law_led" s_l_led, hdD "_law_deeds_right" s_l_deeds_right, hdD "_law_middle_right" s_l_middle_right, hdD "law" s_law]
def fnAll : List He.DefD := fnA ++ fnB
def faG : List He.Fa := fnAll.map fun d => .glo d.name
def clsN : List Str := ["TwiceError", "BadLetters", "BadSize", "BadPlace", "BadNumber", "BadPaper", "TooLong", "TooMany"]
def faC : List He.Fa := clsN.map .glo
def freeN : List Str := ["len", "isinstance", "int", "bool", "str", "tuple", "list", "set", "all", "sum", "abs", "min", "max", "sorted", "range", "zip", "enumerate", "repr", "super"]
def faF : List He.Fa := freeN.map .free
def faK : List He.Fa := [.str "LETTERS" "abcdef", .int "MOST_LONG" 60, .int "MOST_SIZE" 6, .int "MANY_LETTERS" 6, .str "HEAD" "head", .str "STEPS" "steps", .str "COPY" "copy", .str "UNDO" "undo", .int "MOST_LISTED" 2000, .int "MOST_TEXTS" 8, .int "MOST_DEEDS" 120]
def faAll : List He.Fa := faG ++ (faC ++ (faF ++ faK))
def looseN : List Str := (["TwiceError", "BadLetters", "BadSize", "BadPlace", "BadNumber", "BadPaper", "TooLong", "TooMany", "LETTERS", "MOST_LONG", "MOST_SIZE", "is_whole", "is_text", "need_text", "need_size"] : List Str) ++ (["need_two", "copied_of", "doublings_of", "MANY_LETTERS", "gaps_of", "steps_of", "runs_of", "laid_out", "built_of", "root_of", "first_place", "HEAD", "STEPS", "unlike_word", "is_short"] : List Str) ++ (["growths_of", "short_run", "does_come", "are_kin_of", "COPY", "UNDO", "MOST_LISTED", "MOST_TEXTS", "MOST_DEEDS", "between_count_of", "between_count", "between_texts", "apart_of", "deeds_apart", "undone_at"] : List Str) ++ (["deeds_of", "deed_row", "is_deed", "check_deeds", "need_texts", "are_all_kin", "middle_of", "middle_text", "deeds_to_all", "_law_mixed", "_law_folded", "_law_draw", "_law_begun", "_law_like", "_law_of"] : List Str) ++ (["_law_text_of", "_law_grown", "_law_is_twice", "_law_bare", "_law_once", "_law_does_come", "_law_odds", "_law_told", "_law_is_int", "_law_bent", "_law_near_texts", "_law_far", "_law_between", "_law_led", "_law_deeds_right"] : List Str) ++ (["_law_middle_right"] : List Str)
/-- the defs that make lambdas -/
def tfN : List He.Defn := [("between_texts", none), ("_law_deeds_right", none), ("law", none)]
abbrev Rw : PySem.W.OpenRow := PySem.W.OpenLaw.row PySem.Challenge.rw_twicewritten_k09_whole_between
abbrev Pm : Program := PySem.Challenge.rw_twicewritten_k09_whole_between.prog
def tbl (K : PySem.W.Frag) (x : Str) : Addr := (He.cT K (x, none)).2
def apartB (K : PySem.W.Frag) : Bool := !(tbl K "between_texts" == tbl K "_law_deeds_right") && (!(tbl K "between_texts" == tbl K "law") && !(tbl K "_law_deeds_right" == tbl K "law"))
def exAll (K : PySem.W.Frag) : Bool := excfB K Pm.main.file && apartB K
/-- what is looked at: code objects, cells, a class's names; no doubles are taken out -/
def refsS (o : Obj) : List Addr := match o.data with
  | .dict es _ => es.toList.flatMap fun e => He.refV e.val
  | .func d => He.refV d.code ++ d.closure.map (·.2)
  | .cls d => [d.ns]
  | _ => []
def flatS (g : Addr → Option Obj) (as : List Addr) : List Addr := as.flatMap fun a => match g a with
  | some o => refsS o
  | none => []
def goS (g : Addr → Option Obj) : Nat → List Addr → List Addr
  | 0, l => l
  | n + 1, l => l ++ goS g n (flatS g l)
def asY (g : Addr → Option Obj) : Nat → List Addr := fun n => cStatics :: goS g n [mainGlobals]
abbrev AlY : Type := He.AlX × List FnI
def inis : List IniD := [iP, iM]
def obsK (K : PySem.W.Frag) (g : Addr → Option Obj) : AlY := ((He.obsT faAll fnAll [] K, exAll K && He.tabsB g tfN K), inis.map fun d => fnI K d.cls)
def obsY (g : Addr → Option Obj) : AlY := obsK (He.frT g (asY g 4)) g
def valY (w : World) : AlY := ((He.valT fnAll [] w, true), inis.map IniD.val)
structure SaysY (w : World) (h : Heap) (K : PySem.W.Frag) : Prop where
  x : He.SaysX faAll fnAll [] tfN exAll w h K
  i : (inis.map fun d => fnI K d.cls) = inis.map IniD.val
theorem saysY_of {w : World} {h : Heap} (e : obsY h.get? = valY w) : SaysY w h (He.frT h.get? (asY h.get? 4)) := by
  generalize hK : He.frT h.get? (asY h.get? 4) = K
  have e0 : obsK K h.get? = valY w := by rw [← hK]; exact e
  have e1 : He.obsT faAll fnAll [] K = He.valT fnAll [] w := congrArg (fun z : AlY => z.1.1) e0
  have e2 : (exAll K && He.tabsB h.get? tfN K) = true := congrArg (fun z : AlY => z.1.2) e0
  have e3 : (inis.map fun d => fnI K d.cls) = inis.map IniD.val := congrArg (fun z : AlY => z.2) e0
  obtain ⟨h1, h2⟩ := He.ba e2
  have key : ∀ p ∈ tfN, PySem.W.codeHdIn K (He.cT K p).1 (He.cT K p).2 = true ∧ ∃ o, h.get? (He.cT K p).2 = some o ∧ He.emptyTab o = true := fun p hp => by
    obtain ⟨z1, z2⟩ := He.ba (List.all_eq_true.mp h2 p hp)
    refine ⟨z1, ?_⟩
    cases q : h.get? (He.cT K p).2 with
    | none => rw [q] at z2; cases z2
    | some o => rw [q] at z2; exact ⟨o, rfl, z2⟩
  refine ⟨⟨e1, h1, fun p hp => (key p hp).1, fun p hp => ?_, fun p hp => ?_⟩, e3⟩
  · obtain ⟨_, o, q, z⟩ := key p hp
    rw [← hK] at q ⊢
    exact He.frT_none q z
  · obtain ⟨_, o, q, z⟩ := key p hp
    rw [q, He.emptyTab_eq z]
def hkY : PySem.W.Hook where
  α := AlY
  obs := fun s => obsY s.heap.get?
  val := fun w => valY w
  says := fun w h => ∃ K : PySem.W.Frag, K.In h ∧ SaysY w h K
  of := fun _ _ e => ⟨_, He.frT_in, saysY_of e⟩
  keeps := fun _ _ _ ⟨K, hK, c⟩ k => ⟨K, PySem.W.Frag.In.keeps hK k, ⟨⟨c.x.t, c.x.more, c.x.hd, c.x.out, fun p hp => k _ _ (c.x.empty p hp)⟩, c.i⟩⟩
def obY (s : PySem.W.SharedT) : AlY := obsY (HandSHeadRun.getT s)
theorem obY_eq (s : PySem.W.SharedT) : obY s = hkY.obs s.abs := by
  have e : HandSHeadRun.getT s = s.abs.heap.get? := funext (HandSHeadRun.getT_eq s)
  show obsY (HandSHeadRun.getT s) = obsY s.abs.heap.get?
  rw [e]
theorem runY (w : World) : HandSHeadRun.RunEq Rw (PySem.W.view Rw.prog [83]) hkY obY 20000 looseN w := by
  intro os
  kernel_rfl
end K9
namespace K9
/-! Mirrors of the package's functions over texts; plain Lean. -/
def cop (w : Nat) (t : Tx) (p : Nat) : Tx := t.take (p + w) ++ t.drop p
def und (w : Nat) (t : Tx) (p : Nat) : Tx := t.take (p + w) ++ t.drop (p + 2 * w)
/-- a doubling stands at p -/
def isdb (w : Nat) (t : Tx) (p : Nat) : Bool := decide (p + 2 * w ≤ t.length) && decide ((t.drop p).take w = (t.drop (p + w)).take w)
def dbls (w : Nat) (t : Tx) : List Nat := (List.range (t.length + 1 - 2 * w)).filter fun p => decide ((t.drop p).take w = (t.drop (p + w)).take w)
def stp (w : Nat) (t : Tx) : List Nat := sg (gaps w t)
def rns (w : Nat) (t : Tx) : List Nat := if t.length < w then [] else rg (gaps w t)
/-- the text with this head, steps and runs -/
def tx (h : Tx) (S R : List Nat) : Tx := bld h.length h (lay S R)
def rootM (w : Nat) (t : Tx) : Tx := if t.length < w then t else tx (t.take w) (stp w t) ((rns w t).map (· % w))
def fplM (w : Nat) (t : Tx) (i : Nat) : Nat := fpl (rns w t) i
theorem bld_snoc (w : Nat) : ∀ (gs : List Nat) (own : Tx) (g : Nat), bld w own (gs ++ [g]) = bld w own gs ++ [nx ((bld w own gs).getD ((bld w own gs).length - w) 0) g]
  | [], _, _ => rfl
  | x :: gs, own, g => bld_snoc w gs (own ++ [nx (own.getD (own.length - w) 0) x]) g
theorem bld_len (w : Nat) : ∀ (gs : List Nat) (own : Tx), (bld w own gs).length = own.length + gs.length
  | [], own => rfl
  | g :: gs, own => by
    show (bld w (own ++ [nx (own.getD (own.length - w) 0) g]) gs).length = _
    rw [bld_len w gs, List.length_append, List.length_cons, List.length_nil, List.length_cons]
    omega
/-! runs as the program fills them -/
def rgl (found : List Nat) (g : Nat) : List Nat := if g = 0 then found.dropLast ++ [found.getLastD 0 + 1] else found ++ [0]
theorem rg_snoc : ∀ (x : List Nat) (g : Nat), rg (x ++ [g]) = rgl (rg x) g
  | [], 0 => rfl
  | [], n + 1 => rfl
  | 0 :: x, g => by
    show bump (rg (x ++ [g])) 0 1 = rgl (bump (rg x) 0 1) g
    rw [rg_snoc x g]
    cases h : rg x with
    | nil => exact absurd h (rg_ne x)
    | cons r R =>
      unfold rgl
      cases g with
      | zero =>
        cases R with
        | nil => rfl
        | cons r' R => rfl
      | succ n => rfl
  | (n + 1) :: x, g => by
    show 0 :: rg (x ++ [g]) = rgl (0 :: rg x) g
    rw [rg_snoc x g]
    cases h : rg x with
    | nil => exact absurd h (rg_ne x)
    | cons r R =>
      unfold rgl
      cases g with
      | zero => rfl
      | succ m => rfl
/-! gaps laid out as the program lays them -/
def layI (S R : List Nat) (i : Nat) : List Nat := List.replicate (R.getD i 0) 0 ++ (if i < S.length then [S.getD i 0] else [])
def layP (S R : List Nat) (n : Nat) : List Nat := (List.range n).flatMap (layI S R)
theorem layP_succ (S R : List Nat) (n : Nat) : layP S R (n + 1) = layP S R n ++ layI S R n := by
  unfold layP
  rw [List.range_succ, List.flatMap_append]
  simp
theorem layP_all : ∀ (S R : List Nat), layP S R R.length = lay S R
  | _, [] => rfl
  | [], r :: R => by
    have ih := layP_all [] R
    show (List.range (R.length + 1)).flatMap (layI [] (r :: R)) = List.replicate r 0 ++ lay [] R
    rw [List.range_succ_eq_map, List.flatMap_cons, List.flatMap_map, ← ih]
    show (List.replicate r 0 ++ []) ++ _ = _
    rw [List.append_nil]
    rfl
  | s :: S, r :: R => by
    have ih := layP_all S R
    show (List.range (R.length + 1)).flatMap (layI (s :: S) (r :: R)) = List.replicate r 0 ++ s :: lay S R
    rw [List.range_succ_eq_map, List.flatMap_cons, List.flatMap_map, ← ih]
    have e : ∀ i, layI (s :: S) (r :: R) (i + 1) = layI S R i := fun i => by
      unfold layI
      simp
    have e2 : (fun i => layI (s :: S) (r :: R) (i + 1)) = layI S R := funext e
    show (List.replicate r 0 ++ [s]) ++ (List.range R.length).flatMap (fun i => layI (s :: S) (r :: R) (i + 1)) = _
    rw [e2, List.append_assoc]
    rfl
theorem mem_dbls {w : Nat} {t : Tx} {p : Nat} : p ∈ dbls w t ↔ isdb w t p = true := by
  unfold dbls isdb
  simp only [List.mem_filter, List.mem_range, Bool.and_eq_true, decide_eq_true_eq]
  constructor
  · rintro ⟨h1, h2⟩; exact ⟨by omega, h2⟩
  · rintro ⟨h1, h2⟩; exact ⟨by omega, h2⟩
end K9
namespace K9
/-! Mirrors of later, common, between; plain Lean. -/
def ulB (w : Nat) (l e : Tx) : Bool := decide (l.take w = e.take w) && !(decide (min l.length e.length < w) && !decide (l = e))
def shortB (w : Nat) (m : Int) : Bool := decide (m < 0) || !decide (m % (w : Int) = 0)
def growM (w : Nat) (l e : Tx) : List Int := List.zipWith (fun (a b : Nat) => (a : Int) - (b : Int)) (rns w l) (rns w e)
def shL (w : Nat) (l e : Tx) : List Nat := (List.range (growM w l e).length).filter fun i => shortB w ((growM w l e).getD i 0)
def doesM (w : Nat) (l e : Tx) : Bool := (ulB w l e && decide (stp w l = stp w e)) && (growM w l e).all fun m => !shortB w m
theorem getI_at {l : List Int} {i : Nat} (h : i < l.length) : l.getD i 0 = l[i] := by
  rw [List.getD_eq_getElem?_getD, List.getElem?_eq_getElem h]; rfl
theorem grow_len {n : Nat} {l e : Tx} : (growM n l e).length = min (rns n l).length (rns n e).length := by unfold growM; rw [List.length_zipWith]
theorem grow_at {n : Nat} {l e : Tx} {i : Nat} (hi : i < (growM n l e).length) : (growM n l e)[i] = ((rns n l)[i]'(by rw [grow_len] at hi; omega) : Int) - ((rns n e)[i]'(by rw [grow_len] at hi; omega) : Int) :=
  List.getElem_zipWith (f := fun (a b : Nat) => (a : Int) - (b : Int)) (l := rns n l) (l' := rns n e) (h := hi)
/-- how many texts stand between -/
def betwM (w : Nat) (l e : Tx) : Int := (growM w l e).foldl (fun c m => c * (m / (w : Int) + 1)) 1
def apM (w : Nat) (a b : Tx) : Nat := ((growM w b a).map Int.natAbs).sum / w
/-- how often a deed is done at a run -/
def dtimes (w : Nat) (wd : Bool) (m : Int) : Nat := ((if wd then m else -m).toNat) / w
def opM (w : Nat) (wd : Bool) (t : Tx) (p : Nat) : Tx := if wd then cop w t p else und w t p
def opK (w : Nat) (wd : Bool) (p : Nat) : Nat → Tx → Tx
  | 0, t => t
  | k + 1, t => opM w wd (opK w wd p k t) p
abbrev DS := List (Bool × Nat) × Tx
def dstep (w : Nat) (wd : Bool) (g : List Int) (s : DS) (i : Nat) : DS :=
  (s.1 ++ List.replicate (dtimes w wd (g.getD i 0)) (wd, fplM w s.2 i), opK w wd (fplM w s.2 i) (dtimes w wd (g.getD i 0)) s.2)
def dhalf (w : Nat) (wd : Bool) (g : List Int) (s : DS) (k : Nat) : DS := (List.range k).foldl (dstep w wd g) s
def deedsM (w : Nat) (a b : Tx) : DS := dhalf w true (growM w b a) (dhalf w false (growM w b a) ([], a) (growM w b a).length) (growM w b a).length
theorem dhalf_succ (w : Nat) (wd : Bool) (g : List Int) (s : DS) (k : Nat) : dhalf w wd g s (k + 1) = dstep w wd g (dhalf w wd g s k) k := by
  unfold dhalf
  rw [List.range_succ, List.foldl_append]
  rfl
theorem cop_ok {w p : Nat} {t : Tx} (h : Ok t) : Ok (cop w t p) := (h.take _).append (h.drop _)
theorem und_ok {w p : Nat} {t : Tx} (h : Ok t) : Ok (und w t p) := (h.take _).append (h.drop _)
theorem op_ok {w p : Nat} {wd : Bool} {t : Tx} (h : Ok t) : Ok (opM w wd t p) := by
  unfold opM
  cases wd
  · exact und_ok h
  · exact cop_ok h
theorem opK_ok {w p : Nat} {wd : Bool} {t : Tx} (h : Ok t) : ∀ k, Ok (opK w wd p k t)
  | 0 => h
  | k + 1 => op_ok (opK_ok h k)
theorem cop_le (w p : Nat) (t : Tx) : (cop w t p).length ≤ t.length + w := by
  unfold cop
  rw [List.length_append, List.length_take, List.length_drop]
  omega
theorem und_le (w p : Nat) (t : Tx) : (und w t p).length ≤ t.length := by
  unfold und
  rw [List.length_append, List.length_take, List.length_drop]
  omega
theorem opK_le (w p : Nat) (wd : Bool) (t : Tx) : ∀ k, (opK w wd p k t).length ≤ t.length + (if wd then k * w else 0)
  | 0 => by cases wd <;> simp [opK]
  | k + 1 => by
    have ih := opK_le w p wd t k
    show (opM w wd (opK w wd p k t) p).length ≤ _
    unfold opM
    cases wd
    · have := und_le w p (opK w false p k t)
      simp at ih ⊢
      omega
    · have := cop_le w p (opK w true p k t)
      simp [Nat.succ_mul] at ih ⊢
      omega
/-- what copies add at most -/
def posS (g : List Int) (k : Nat) : Nat := ((g.take k).map Int.toNat).sum
theorem posS_succ {g : List Int} {k : Nat} (h : k < g.length) : posS g (k + 1) = posS g k + (g[k]).toNat := by
  unfold posS
  rw [List.take_succ_eq_append_getElem h, List.map_append, List.sum_append]
  simp
theorem posS_mono {g : List Int} {i j : Nat} (h : i ≤ j) : posS g i ≤ posS g j := by
  induction j with
  | zero => rw [Nat.le_zero.mp h]; exact Nat.le_refl _
  | succ j ih =>
    by_cases hj : i ≤ j
    · have := ih hj
      by_cases hk : j < g.length
      · rw [posS_succ hk]; omega
      · have e1 : g.take j = g := List.take_of_length_le (by omega)
        have e2 : g.take (j + 1) = g := List.take_of_length_le (by omega)
        have : posS g (j + 1) = posS g j := by unfold posS; rw [e1, e2]
        omega
    · rw [show i = j + 1 by omega]; exact Nat.le_refl _
theorem zip_pos : ∀ (a b : List Nat), ((List.zipWith (fun (a b : Nat) => (a : Int) - (b : Int)) a b).map Int.toNat).sum ≤ a.sum
  | [], _ => by simp
  | _ :: _, [] => by simp
  | x :: a, y :: b => by
    rw [List.zipWith_cons_cons, List.map_cons, List.sum_cons, List.sum_cons]
    have := zip_pos a b
    omega
theorem rns_lay {n : Nat} {t : Tx} (h : ¬ t.length < n) : (rns n t).length = (stp n t).length + 1 ∧ lay (stp n t) (rns n t) = gaps n t := by
  unfold rns stp
  rw [if_neg h]
  exact ⟨rg_len _, lay_rg _⟩
theorem rns_sum {n : Nat} {t : Tx} (h : ¬ t.length < n) : (rns n t).sum + (stp n t).length = t.length - n := by
  obtain ⟨a, b⟩ := rns_lay h
  rw [← lay_len _ _ a, b, gaps_len]
theorem rns_sum_le (n : Nat) (t : Tx) : (rns n t).sum ≤ t.length := by
  by_cases h : t.length < n
  · unfold rns; rw [if_pos h]; exact Nat.zero_le _
  · have := rns_sum h; omega
theorem posS_le (w : Nat) (a b : Tx) (k : Nat) : posS (growM w b a) k ≤ b.length := by
  have h1 : posS (growM w b a) k ≤ posS (growM w b a) (max k (growM w b a).length) := posS_mono (Nat.le_max_left _ _)
  have h2 : posS (growM w b a) (max k (growM w b a).length) = ((growM w b a).map Int.toNat).sum := by
    unfold posS
    rw [List.take_of_length_le (Nat.le_max_right _ _)]
  have h3 : ((growM w b a).map Int.toNat).sum ≤ (rns w b).sum := zip_pos _ _
  have h4 := rns_sum_le w b
  omega
theorem dt_pos {w : Nat} {m : Int} : dtimes w true m * w ≤ m.toNat := by
  unfold dtimes
  exact Nat.div_mul_le_self _ _
/-- texts on the way: right and short -/
theorem dhalf_ok {w : Nat} {wd : Bool} {g : List Int} {s : DS} (h : Ok s.2) : ∀ k, Ok (dhalf w wd g s k).2
  | 0 => h
  | k + 1 => by
    rw [dhalf_succ]
    exact opK_ok (dhalf_ok h k) _
theorem dhalf_le {w : Nat} {wd : Bool} {g : List Int} {s : DS} : ∀ {k : Nat}, k ≤ g.length → (dhalf w wd g s k).2.length ≤ s.2.length + (if wd then posS g k else 0)
  | 0, _ => by cases wd <;> simp [dhalf]
  | k + 1, hk => by
    have ih := dhalf_le (w := w) (wd := wd) (g := g) (s := s) (k := k) (by omega)
    rw [dhalf_succ, posS_succ (show k < g.length by omega)]
    have h2 := opK_le w (fplM w (dhalf w wd g s k).2 k) wd (dhalf w wd g s k).2 (dtimes w wd (g.getD k 0))
    show (opK w wd (fplM w (dhalf w wd g s k).2 k) (dtimes w wd (g.getD k 0)) (dhalf w wd g s k).2).length ≤ _
    cases wd
    · simp at ih h2 ⊢; omega
    · have h3 := dt_pos (w := w) (m := g.getD k 0)
      rw [getI_at (show k < g.length by omega)] at h2 h3 ⊢
      simp at ih h2 ⊢
      omega
theorem mem_le_sum {x : Nat} : ∀ {l : List Nat}, x ∈ l → x ≤ l.sum
  | a :: l, h => by
    rw [List.sum_cons]
    rcases List.mem_cons.mp h with rfl | h
    · omega
    · have := mem_le_sum h
      omega
theorem ediv_small {n : Nat} {m : Int} (h1 : 1 ≤ n) (h6 : n ≤ 6) (hm : -1000 ≤ m ∧ m ≤ 1000) : -1001 ≤ m / (n : Int) ∧ m / (n : Int) ≤ 1001 := by
  have : n = 1 ∨ n = 2 ∨ n = 3 ∨ n = 4 ∨ n = 5 ∨ n = 6 := by omega
  rcases this with rfl | rfl | rfl | rfl | rfl | rfl <;> omega
def absS (g : List Int) (k : Nat) : Nat := ((g.take k).map Int.natAbs).sum
theorem absS_succ {g : List Int} {k : Nat} (h : k < g.length) : absS g (k + 1) = absS g k + (g[k]).natAbs := by
  unfold absS
  rw [List.take_succ_eq_append_getElem h, List.map_append, List.sum_append]
  simp
theorem zip_abs : ∀ (a b : List Nat), ((List.zipWith (fun (a b : Nat) => (a : Int) - (b : Int)) a b).map Int.natAbs).sum ≤ a.sum + b.sum
  | [], _ => by simp
  | _ :: _, [] => by simp
  | x :: a, y :: b => by
    rw [List.zipWith_cons_cons, List.map_cons, List.sum_cons, List.sum_cons, List.sum_cons]
    have := zip_abs a b
    omega
theorem sum_take_le : ∀ (l : List Nat) (k : Nat), (l.take k).sum ≤ l.sum
  | [], _ => by simp
  | _ :: _, 0 => by simp
  | a :: l, k + 1 => by
    rw [List.take_succ_cons, List.sum_cons, List.sum_cons]
    have := sum_take_le l k
    omega
theorem absS_le (w : Nat) (a b : Tx) (k : Nat) : absS (growM w b a) k ≤ b.length + a.length := by
  have h1 : absS (growM w b a) k ≤ ((growM w b a).map Int.natAbs).sum := by
    unfold absS
    rw [List.map_take]
    exact sum_take_le _ _
  have h2 := zip_abs (rns w b) (rns w a)
  have h3 := rns_sum_le w a
  have h4 := rns_sum_le w b
  unfold growM at h1 ⊢
  omega
theorem dt_abs {w : Nat} {wd : Bool} {m : Int} : dtimes w wd m ≤ m.natAbs := by
  unfold dtimes
  have := Nat.div_le_self ((if wd then m else -m).toNat) w
  cases wd <;> simp at this ⊢ <;> omega
theorem dhalf_many {w : Nat} {wd : Bool} {g : List Int} {s : DS} : ∀ {k : Nat}, k ≤ g.length → (dhalf w wd g s k).1.length ≤ s.1.length + absS g k
  | 0, _ => by simp [dhalf]
  | k + 1, hk => by
    have ih := dhalf_many (w := w) (wd := wd) (g := g) (s := s) (k := k) (by omega)
    rw [dhalf_succ, absS_succ (show k < g.length by omega)]
    show ((dhalf w wd g s k).1 ++ List.replicate (dtimes w wd (g.getD k 0)) (wd, fplM w (dhalf w wd g s k).2 k)).length ≤ _
    rw [List.length_append, List.length_replicate, getI_at (show k < g.length by omega)]
    have := dt_abs (w := w) (wd := wd) (m := g[k]'(by omega))
    omega
end K9
namespace K9
/-! The rows of runs between two texts; plain Lean. -/
def rowsGo (n : Nat) : List (Nat × Int) → List (List Nat) → List (List Nat)
  | [], rows => rows
  | (r, m) :: zs, rows => rowsGo n zs (rows.flatMap fun row => (List.range (m / (n : Int) + 1).toNat).map fun e => row ++ [r + n * e])
def rowsM (n : Nat) (l u : Tx) : List (List Nat) := rowsGo n ((rns n u).zip (growM n l u)) [[]]
theorem rowsGo_app (n : Nat) : ∀ (zs ys : List (Nat × Int)) (rows : List (List Nat)), rowsGo n (zs ++ ys) rows = rowsGo n ys (rowsGo n zs rows)
  | [], _, _ => rfl
  | (r, m) :: zs, ys, rows => rowsGo_app n zs ys _
/-- what fits behind -/
def Fits (n : Nat) : List (Nat × Int) → List Nat → Prop
  | [], [] => True
  | (r, m) :: zs, x :: xs => (∃ e, e < (m / (n : Int) + 1).toNat ∧ x = r + n * e) ∧ Fits n zs xs
  | _, _ => False
theorem mem_rowsGo (n : Nat) : ∀ (zs : List (Nat × Int)) (rows : List (List Nat)) (row : List Nat), row ∈ rowsGo n zs rows ↔ ∃ pre ∈ rows, ∃ ext, row = pre ++ ext ∧ Fits n zs ext
  | [], rows, row => by
    show row ∈ rows ↔ _
    constructor
    · intro h
      exact ⟨row, h, [], by rw [List.append_nil], True.intro⟩
    · rintro ⟨pre, hp, ext, rfl, hf⟩
      cases ext with
      | nil => rw [List.append_nil]; exact hp
      | cons _ _ => exact hf.elim
  | (r, m) :: zs, rows, row => by
    show row ∈ rowsGo n zs _ ↔ _
    rw [mem_rowsGo n zs]
    constructor
    · rintro ⟨pre, hp, ext, rfl, hf⟩
      obtain ⟨row0, h0, h1⟩ := List.mem_flatMap.mp hp
      obtain ⟨e, he, rfl⟩ := List.mem_map.mp h1
      exact ⟨row0, h0, (r + n * e) :: ext, by simp, ⟨e, List.mem_range.mp he, rfl⟩, hf⟩
    · rintro ⟨pre, hp, ext, rfl, hf⟩
      cases ext with
      | nil => exact hf.elim
      | cons x ext =>
        obtain ⟨⟨e, he, rfl⟩, hf⟩ := hf
        exact ⟨pre ++ [r + n * e], List.mem_flatMap.mpr ⟨pre, hp, List.mem_map.mpr ⟨e, List.mem_range.mpr he, rfl⟩⟩, ext, by simp, hf⟩
theorem mem_rowsM {n : Nat} {l u : Tx} {row : List Nat} : row ∈ rowsM n l u ↔ Fits n ((rns n u).zip (growM n l u)) row := by
  unfold rowsM
  rw [mem_rowsGo]
  constructor
  · rintro ⟨pre, hp, ext, rfl, hf⟩
    rw [List.mem_singleton.mp hp]
    exact hf
  · intro h
    exact ⟨[], List.mem_singleton.mpr rfl, row, rfl, h⟩
theorem fits_len {n : Nat} : ∀ {zs : List (Nat × Int)} {xs : List Nat}, Fits n zs xs → xs.length = zs.length
  | [], [], _ => rfl
  | (_, _) :: _, _ :: _, h => congrArg (· + 1) (fits_len h.2)
  | [], _ :: _, h => h.elim
  | (_, _) :: _, [], h => h.elim
theorem div_mul_le {n : Nat} {m : Int} {e : Nat} (hm : 0 ≤ m) (he : e < (m / (n : Int) + 1).toNat) : ((n * e : Nat) : Int) ≤ m := by
  have h1 : (e : Int) ≤ m / (n : Int) := by omega
  have h2 : (n : Int) * (m / (n : Int)) ≤ m := by
    have := Int.mul_ediv_self_le (x := m) (k := (n : Int))
    by_cases h0 : n = 0
    · subst h0; simpa using hm
    · exact this (by omega)
  have h3 : (n : Int) * (e : Int) ≤ (n : Int) * (m / (n : Int)) := Int.mul_le_mul_of_nonneg_left h1 (by omega)
  have : ((n * e : Nat) : Int) = (n : Int) * (e : Int) := by simp
  omega
/-- rows stay below the later text's runs -/
theorem fits_sum {n : Nat} : ∀ {a b : List Nat} {xs : List Nat}, Fits n (a.zip (List.zipWith (fun (a b : Nat) => (a : Int) - (b : Int)) b a)) xs → (∀ m ∈ List.zipWith (fun (a b : Nat) => (a : Int) - (b : Int)) b a, 0 ≤ m) → xs.sum ≤ b.sum
  | [], b, xs, h, _ => by
    cases xs with
    | nil => simp
    | cons _ _ => exact h.elim
  | _ :: _, [], xs, h, _ => by
    cases xs with
    | nil => simp
    | cons _ _ => exact h.elim
  | x :: a, y :: b, xs, h, hm => by
    cases xs with
    | nil => exact h.elim
    | cons z xs =>
      obtain ⟨⟨e, he, rfl⟩, hf⟩ := h
      have ih := fits_sum (a := a) (b := b) hf fun m hm' => hm m (List.mem_cons_of_mem _ hm')
      have h0 : 0 ≤ (y : Int) - (x : Int) := hm _ List.mem_cons_self
      have h1 : ((n * e : Nat) : Int) ≤ (y : Int) - (x : Int) := div_mul_le h0 he
      rw [List.sum_cons, List.sum_cons]
      omega
def prodF (n : Nat) (zs : List (Nat × Int)) (c : Nat) : Nat := zs.foldl (fun c z => c * (z.2 / (n : Int) + 1).toNat) c
theorem rowsGo_len (n : Nat) : ∀ (zs : List (Nat × Int)) (rows : List (List Nat)), (rowsGo n zs rows).length = prodF n zs rows.length
  | [], _ => rfl
  | (r, m) :: zs, rows => by
    show (rowsGo n zs _).length = prodF n zs (rows.length * (m / (n : Int) + 1).toNat)
    rw [rowsGo_len n zs]
    congr 1
    induction rows with
    | nil => simp
    | cons row rows ih =>
      rw [List.flatMap_cons, List.length_append, ih, List.length_map, List.length_range, List.length_cons, Nat.succ_mul, Nat.add_comm]
theorem prodF_app (n : Nat) (zs ys : List (Nat × Int)) (c : Nat) : prodF n (zs ++ ys) c = prodF n ys (prodF n zs c) := by unfold prodF; rw [List.foldl_append]
theorem prodF_ge (n : Nat) : ∀ (zs : List (Nat × Int)) (c : Nat), (∀ z ∈ zs, 0 ≤ z.2) → c ≤ prodF n zs c
  | [], c, _ => Nat.le_refl _
  | z :: zs, c, h => by
    have ih := prodF_ge n zs (c * (z.2 / (n : Int) + 1).toNat) fun x hx => h x (List.mem_cons_of_mem _ hx)
    have h0 := h z List.mem_cons_self
    have h1 : 0 ≤ z.2 / (n : Int) := Int.ediv_nonneg h0 (by omega)
    have h2 : 1 ≤ (z.2 / (n : Int) + 1).toNat := by omega
    have h3 : c * 1 ≤ c * (z.2 / (n : Int) + 1).toNat := Nat.mul_le_mul_left _ h2
    show c ≤ prodF n zs (c * (z.2 / (n : Int) + 1).toNat)
    omega
theorem prodF_int (n : Nat) : ∀ (rs : List Nat) (g : List Int) (c : Nat), rs.length = g.length → (∀ m ∈ g, 0 ≤ m) → ((prodF n (rs.zip g) c : Nat) : Int) = g.foldl (fun c m => c * (m / (n : Int) + 1)) (c : Int)
  | [], [], _, _, _ => rfl
  | r :: rs, m :: g, c, hl, h => by
    have h0 := h m List.mem_cons_self
    have h1 : 0 ≤ m / (n : Int) := Int.ediv_nonneg h0 (by omega)
    show ((prodF n (rs.zip g) (c * (m / (n : Int) + 1).toNat) : Nat) : Int) = g.foldl _ ((c : Int) * (m / (n : Int) + 1))
    rw [prodF_int n rs g _ (by simpa using hl) fun x hx => h x (List.mem_cons_of_mem _ hx)]
    congr 1
    rw [Int.natCast_mul]
    congr 1
    omega
  | [], _ :: _, _, hl, _ => by simp at hl
  | _ :: _, [], _, hl, _ => by simp at hl
/-- what does_come tells -/
theorem does_pos {n : Nat} {l u : Tx} (h : doesM n l u = true) : ∀ m ∈ growM n l u, 0 ≤ m := by
  intro m hm
  unfold doesM at h
  have h2 := List.all_eq_true.mp (Bool.and_eq_true_iff.mp h).2 m hm
  unfold shortB at h2
  simp at h2
  omega
theorem does_lens {n : Nat} {l u : Tx} (h : doesM n l u = true) : (rns n u).length = (growM n l u).length := by
  rw [grow_len]
  unfold doesM ulB at h
  simp only [Bool.and_eq_true, decide_eq_true_eq, Bool.not_eq_true', Bool.and_eq_false_iff, decide_eq_false_iff_not, Bool.not_eq_false'] at h
  obtain ⟨⟨⟨h1, h2⟩, h3⟩, _⟩ := h
  rcases h2 with h2 | h2
  · have a := (rns_lay (n := n) (t := l) (by omega)).1
    have b := (rns_lay (n := n) (t := u) (by omega)).1
    rw [a, b, h3]
    omega
  · subst h2
    omega
theorem prefix_len {n : Nat} {l u : Tx} (h : doesM n l u = true) (k : Nat) : ((rowsGo n (((rns n u).zip (growM n l u)).take k) [[]]).length : Int) ≤ betwM n l u := by
  rw [rowsGo_len]
  have hp : ∀ z ∈ (rns n u).zip (growM n l u), 0 ≤ z.2 := fun z hz => does_pos h _ (List.of_mem_zip hz).2
  have h1 := prodF_ge n (((rns n u).zip (growM n l u)).drop k) (prodF n (((rns n u).zip (growM n l u)).take k) 1) fun z hz => hp z (List.mem_of_mem_drop hz)
  rw [← prodF_app, List.take_append_drop] at h1
  have h2 := prodF_int n (rns n u) (growM n l u) 1 (does_lens h) (does_pos h)
  unfold betwM
  rw [show ((1 : Nat) : Int) = 1 from rfl] at h2
  rw [← h2]
  show ((prodF n (((rns n u).zip (growM n l u)).take k) 1 : Nat) : Int) ≤ _
  omega
theorem row_ok {n : Nat} {l u : Tx} (h : doesM n l u = true) {row : List Nat} (hr : row ∈ rowsM n l u) : row.length = (rns n u).length ∧ row.sum ≤ (rns n l).sum := by
  have hf := mem_rowsM.mp hr
  refine ⟨?_, ?_⟩
  · rw [fits_len hf, List.length_zip, ← does_lens h, Nat.min_self]
  · exact fits_sum hf (does_pos h)
end K9
namespace K9
/-! The middle text; plain Lean. -/
/-- whether all have the first one's root -/
def allKin (n : Nat) (ts : List Tx) : Bool := ts.all fun t => decide (rootM n (ts.headD []) = rootM n t)
def srtN (l : List Nat) : List Nat := l.mergeSort fun a b => decide (a ≤ b)
def midN (l : List Nat) : Nat := (srtN l).getD ((l.length - 1) / 2) 0
/-- the runs by columns -/
def colN (rows : List (List Nat)) (i : Nat) : List Nat := rows.map fun r => r.getD i 0
def midR (n : Nat) (ts : List Tx) : List Nat := (List.range (rns n (ts.headD [])).length).map fun i => midN (colN (ts.map (rns n)) i)
def midT (n : Nat) (ts : List Tx) : Tx := if (ts.headD []).length < n then ts.headD [] else tx ((ts.headD []).take n) (stp n (ts.headD [])) (midR n ts)
def allSum (n : Nat) (t : Tx) (ts : List Tx) : Nat := (ts.map fun u => apM n t u).sum
theorem srtN_len (l : List Nat) : (srtN l).length = l.length := List.length_mergeSort _
theorem srtN_perm (l : List Nat) : (srtN l).Perm l := List.mergeSort_perm l _
theorem midN_mem {l : List Nat} (h : l ≠ []) : midN l ∈ l := by
  have hl : 0 < l.length := by
    cases l with | nil => exact absurd rfl h | cons _ _ => exact Nat.succ_pos _
  have hi : (l.length - 1) / 2 < (srtN l).length := by rw [srtN_len]; omega
  unfold midN
  rw [List.getD_eq_getElem?_getD, List.getElem?_eq_getElem hi]
  exact (srtN_perm l).mem_iff.mp (List.getElem_mem hi)
theorem sorted_uniq : ∀ (a b : List Int), a.Perm b → a.Pairwise (· ≤ ·) → b.Pairwise (· ≤ ·) → a = b
  | [], b, h, _, _ => by rw [List.nil_perm.mp h]
  | x :: a, [], h, _, _ => absurd (List.perm_nil.mp h) (by simp)
  | x :: a, y :: b, h, ha, hb => by
    have h1 : x ∈ y :: b := h.mem_iff.mp List.mem_cons_self
    have h2 : y ∈ x :: a := h.mem_iff.mpr List.mem_cons_self
    have e : x = y := by
      rcases List.mem_cons.mp h1 with e | m1
      · exact e
      · rcases List.mem_cons.mp h2 with e | m2
        · exact e.symm
        · have a1 := (List.pairwise_cons.mp ha).1 y m2
          have a2 := (List.pairwise_cons.mp hb).1 x m1
          omega
    subst e
    rw [sorted_uniq a b (List.Perm.cons_inv h) (List.pairwise_cons.mp ha).2 (List.pairwise_cons.mp hb).2]
theorem srtN_int {l : List Nat} {ns : List Int} (hp : ns.Perm (l.map fun (n : Nat) => (n : Int))) (hs : ns.Pairwise (· ≤ ·)) : ns = (srtN l).map fun (n : Nat) => (n : Int) := by
  refine sorted_uniq _ _ (hp.trans ((srtN_perm l).symm.map _)) hs ?_
  rw [List.pairwise_map]
  have h := List.pairwise_mergeSort (le := fun (a b : Nat) => decide (a ≤ b)) (fun a b c h1 h2 => by simp at *; omega) (fun a b => by simp; omega) l
  unfold srtN
  exact h.imp fun {a b} hab => by simp at hab; omega
/-! ### texts by coordinates -/
theorem gaps_head {n : Nat} {h : Tx} (hh : h.length = n) : gaps n h = [] := by
  have : (gaps n h).length = 0 := by rw [gaps_len]; omega
  exact List.eq_nil_of_length_eq_zero this
theorem tx_facts {n : Nat} (h1 : 1 ≤ n) {h : Tx} {S R : List Nat} (hh : h.length = n) (ho : Ok h) (hS : ∀ s ∈ S, s < 6) :
    gaps n (tx h S R) = lay S R ∧ (tx h S R).take n = h ∧ Ok (tx h S R) ∧ (tx h S R).length = n + (lay S R).length := by
  have hf := bld_facts (w := n) h1 (lay S R) h (by omega) ho (lay_mem S R hS)
  unfold tx
  rw [hh] at hf ⊢
  obtain ⟨a, b, c, d⟩ := hf
  refine ⟨by rw [a, gaps_head hh, List.nil_append], b, c, d⟩
theorem tx_coord {n : Nat} (h1 : 1 ≤ n) {h : Tx} {S R : List Nat} (hh : h.length = n) (ho : Ok h) (hS : ∀ s ∈ S, s < 6) (hS0 : ∀ s ∈ S, s ≠ 0) (hR : R.length = S.length + 1) :
    (tx h S R).take n = h ∧ stp n (tx h S R) = S ∧ rns n (tx h S R) = R ∧ Ok (tx h S R) ∧ (tx h S R).length = n + (R.sum + S.length) := by
  obtain ⟨a, b, c, d⟩ := tx_facts (R := R) h1 hh ho hS
  obtain ⟨r1, r2⟩ := rg_lay S R hS0 hR
  rw [lay_len S R hR] at d
  refine ⟨b, ?_, ?_, c, d⟩
  · unfold stp; rw [a]; exact r2
  · unfold rns; rw [if_neg (by omega), a]; exact r1
theorem stp_lt6 {n : Nat} {t : Tx} : ∀ s ∈ stp n t, s < 6 := fun s hs => gaps_lt n t s (List.mem_filter.mp hs).1
theorem stp_ne0 {n : Nat} {t : Tx} : ∀ s ∈ stp n t, s ≠ 0 := fun s hs => by
  have := (List.mem_filter.mp hs).2
  simpa using this
/-- a long text is told by its coordinates -/
theorem tx_self {n : Nat} (h1 : 1 ≤ n) {t : Tx} (ho : Ok t) (hl : ¬ t.length < n) : tx (t.take n) (stp n t) (rns n t) = t := by
  have hh : (t.take n).length = n := by rw [List.length_take]; omega
  obtain ⟨a, b, c, d, e⟩ := tx_coord (R := rns n t) h1 hh (ho.take n) (stp_lt6 (n := n) (t := t)) stp_ne0 (rns_lay hl).1
  refine coord_inj h1 d ho (by omega) (by omega) a ?_
  rw [(tx_facts (R := rns n t) h1 hh (ho.take n) stp_lt6).1, (rns_lay hl).2]
theorem root_coord {n : Nat} (h1 : 1 ≤ n) {t : Tx} (ho : Ok t) (hl : ¬ t.length < n) :
    (rootM n t).take n = t.take n ∧ stp n (rootM n t) = stp n t ∧ rns n (rootM n t) = (rns n t).map (· % n) ∧ Ok (rootM n t) ∧ ¬ (rootM n t).length < n := by
  have hh : (t.take n).length = n := by rw [List.length_take]; omega
  have e : rootM n t = tx (t.take n) (stp n t) ((rns n t).map (· % n)) := by unfold rootM; rw [if_neg hl]
  rw [e]
  obtain ⟨a, b, c, d, f⟩ := tx_coord (R := (rns n t).map (· % n)) h1 hh (ho.take n) (stp_lt6 (n := n) (t := t)) stp_ne0 (by rw [List.length_map]; exact (rns_lay hl).1)
  exact ⟨a, b, c, d, by omega⟩
/-- what it is to be kin -/
def Kin (n : Nat) (a b : Tx) : Prop := (a.length < n ∧ a = b) ∨ (¬ a.length < n ∧ ¬ b.length < n ∧ a.take n = b.take n ∧ stp n a = stp n b ∧ (rns n a).map (· % n) = (rns n b).map (· % n))
theorem kin_iff {n : Nat} (h1 : 1 ≤ n) {a b : Tx} (ha : Ok a) (hb : Ok b) : rootM n a = rootM n b ↔ Kin n a b := by
  by_cases la : a.length < n
  · have ea : rootM n a = a := by unfold rootM; rw [if_pos la]
    by_cases lb : b.length < n
    · have eb : rootM n b = b := by unfold rootM; rw [if_pos lb]
      rw [ea, eb]
      exact ⟨fun e => .inl ⟨la, e⟩, fun h => h.elim (fun h => h.2) fun h => absurd la h.1⟩
    · constructor
      · intro e
        have := (root_coord h1 hb lb).2.2.2.2
        rw [← e, ea] at this
        exact absurd la this
      · rintro (⟨_, rfl⟩ | ⟨h, _⟩)
        · rfl
        · exact absurd la h
  · obtain ⟨a1, a2, a3, a4, a5⟩ := root_coord h1 ha la
    by_cases lb : b.length < n
    · have eb : rootM n b = b := by unfold rootM; rw [if_pos lb]
      constructor
      · intro e
        rw [e, eb] at a5
        exact absurd lb a5
      · rintro (⟨h, _⟩ | ⟨_, h, _⟩)
        · exact absurd h la
        · exact absurd lb h
    · obtain ⟨b1, b2, b3, b4, b5⟩ := root_coord h1 hb lb
      constructor
      · intro e
        refine .inr ⟨la, lb, ?_, ?_, ?_⟩
        · rw [← a1, ← b1, e]
        · rw [← a2, ← b2, e]
        · rw [← a3, ← b3, e]
      · rintro (⟨h, _⟩ | ⟨_, _, e1, e2, e3⟩)
        · exact absurd h la
        · unfold rootM
          rw [if_neg la, if_neg lb, e1, e2, e3]
theorem Kin.len {n : Nat} {a b : Tx} (h : Kin n a b) : (rns n a).length = (rns n b).length := by
  rcases h with ⟨_, rfl⟩ | ⟨_, _, _, _, e⟩
  · rfl
  · have := congrArg List.length e
    rwa [List.length_map, List.length_map] at this
theorem allKin_in {n : Nat} (h1 : 1 ≤ n) {ts : List Tx} (ho : ∀ t ∈ ts, Ok t) (h : allKin n ts = true) (hne : 1 ≤ ts.length) {t : Tx} (ht : t ∈ ts) : Kin n (ts.headD []) t := by
  have h0 : ts.headD [] ∈ ts := by cases ts with | nil => simp at hne | cons a r => exact List.mem_cons_self
  exact (kin_iff h1 (ho _ h0) (ho t ht)).mp (of_decide_eq_true (List.all_eq_true.mp h t ht))
theorem getD_sum_le : ∀ (r : List Nat) (m : Nat), ((List.range m).map fun i => r.getD i 0).sum ≤ r.sum
  | [], m => by
    have : ((List.range m).map fun i => ([] : List Nat).getD i 0).sum = 0 := by
      induction m with
      | zero => rfl
      | succ m ih => rw [List.range_succ, List.map_append, List.sum_append, ih]; rfl
    omega
  | x :: r, 0 => by simp
  | x :: r, m + 1 => by
    have ih := getD_sum_le r m
    rw [List.range_succ_eq_map, List.map_cons, List.map_map, List.sum_cons, List.sum_cons]
    have e : ((List.range m).map ((fun i => (x :: r).getD i 0) ∘ Nat.succ)) = (List.range m).map fun i => r.getD i 0 := by
      apply List.map_congr_left
      intro i _
      rfl
    rw [e]
    show x + _ ≤ _
    omega
theorem cols_sum (m : Nat) : ∀ rows : List (List Nat), ((List.range m).map fun i => (colN rows i).sum).sum ≤ (rows.map List.sum).sum
  | [] => by
    have : ((List.range m).map fun i => (colN [] i).sum).sum = 0 := by
      induction m with
      | zero => rfl
      | succ m ih => rw [List.range_succ, List.map_append, List.sum_append, ih]; rfl
    omega
  | r :: rows => by
    have ih := cols_sum m rows
    have h1 := getD_sum_le r m
    have e : ∀ k, ((List.range k).map fun i => (colN (r :: rows) i).sum).sum = ((List.range k).map fun i => r.getD i 0).sum + ((List.range k).map fun i => (colN rows i).sum).sum := by
      intro k
      induction k with
      | zero => rfl
      | succ k ihk =>
        rw [List.range_succ, List.map_append, List.map_append, List.map_append, List.sum_append, List.sum_append, List.sum_append, ihk]
        simp [colN]
        omega
    rw [e, List.map_cons, List.sum_cons]
    omega
theorem sum_mono {l : List Nat} {f g : Nat → Nat} (h : ∀ i ∈ l, f i ≤ g i) : (l.map f).sum ≤ (l.map g).sum := by
  induction l with
  | nil => simp
  | cons a l ih =>
    have h1 := h a List.mem_cons_self
    have h2 := ih fun i hi => h i (List.mem_cons_of_mem _ hi)
    rw [List.map_cons, List.map_cons, List.sum_cons, List.sum_cons]
    omega
theorem midR_sum {n : Nat} {ts : List Tx} (hne : 1 ≤ ts.length) (hz : ∀ t ∈ ts, t.length ≤ 60) (h8 : ts.length ≤ 8) : (midR n ts).sum ≤ 480 := by
  have h1 : (midR n ts).sum ≤ ((List.range (rns n (ts.headD [])).length).map fun i => (colN (ts.map (rns n)) i).sum).sum := by
    unfold midR
    refine sum_mono fun i _ => mem_le_sum (midN_mem fun e => ?_)
    unfold colN at e
    simp at e
    rw [e] at hne
    simp at hne
  have h2 := cols_sum (rns n (ts.headD [])).length (ts.map (rns n))
  have h3 : ∀ l : List Tx, (∀ t ∈ l, t.length ≤ 60) → ((l.map (rns n)).map List.sum).sum ≤ 60 * l.length := by
    intro l
    induction l with
    | nil => simp
    | cons a l ih =>
      intro h
      have h4 := ih fun t ht => h t (List.mem_cons_of_mem _ ht)
      have h5 := h a List.mem_cons_self
      have h6 := rns_sum_le n a
      rw [List.map_cons, List.map_cons, List.sum_cons, List.length_cons]
      omega
  have h4 := h3 ts hz
  omega
end K9
namespace K9
open PySem PySem.Spec PyProof.Rows L2 Evl
local macro_rules | `(tactic| walk_at "ev") => `(tactic| first
  | with_reducible exact ev_c
  | ((with_reducible refine' ev_var ?k0); (case k0 => exact rfl))
  | with_reducible assumption
  | ((with_reducible refine' ev_lenS ?k0 ?k1); (case k0 => walk_at "ev"); (case k1 => walk_at "sz"))
  | ((with_reducible refine' ev_I0 ?k0 ?k1); (case k0 => walk_at "ev"); (case k1 => walk_at "ev"))
  | ((with_reducible refine' ev_I ?k0 ?k1 ?k2); (case k0 => walk_at "ev"); (case k1 => walk_at "ev"); (case k2 => walk_at "sz"))
  | ((with_reducible refine' ev_eq ?k0 ?k1 ?k2); (case k0 => walk_at "ev"); (case k1 => walk_at "ev"); (case k2 => walk_at "sz"))
  | ((with_reducible refine' ev_ne ?k0 ?k1 ?k2); (case k0 => walk_at "ev"); (case k1 => walk_at "ev"); (case k2 => walk_at "sz"))
  | ((with_reducible refine' ev_slTo ?k0 ?k1 ?k2 ?k3); (case k0 => walk_at "ev"); (case k1 => walk_at "ev"); (case k2 => walk_at "sz"); (case k3 => walk_at "sz"))
  | ((with_reducible refine' ev_slFrom ?k0 ?k1 ?k2 ?k3); (case k0 => walk_at "ev"); (case k1 => walk_at "ev"); (case k2 => walk_at "sz"); (case k3 => walk_at "sz"))
  | ((with_reducible refine' ev_slMid ?k0 ?k1 ?k2 ?k3 ?k4 ?k5); (case k0 => walk_at "ev"); (case k1 => walk_at "ev"); (case k2 => walk_at "ev"); (case k3 => walk_at "sz"); (case k4 => walk_at "sz"); (case k5 => walk_at "sz"))
  | ((with_reducible refine' ev_addS ?k0 ?k1 ?k2); (case k0 => walk_at "ev"); (case k1 => walk_at "ev"); (case k2 => walk_at "sz"))
  | ((with_reducible refine' ev_cl ?k0 ?k1); (case k0 => walk_at "ea"); (case k1 => walk_at "sp"))
  | ((with_reducible refine' ev_notV ?k0); (case k0 => walk_at "ev"))
  | ((with_reducible refine' ev_un ?k0 ru_neg); (case k0 => walk_at "ev")))
local macro_rules | `(tactic| walk_at "ea") => `(tactic| first
  | with_reducible exact ea_nil
  | ((with_reducible refine' ea_cons ?k0 ?k1); (case k0 => walk_at "ev"); (case k1 => walk_at "ea")))
local macro_rules | `(tactic| walk_at "et") => `(tactic| first
  | with_reducible assumption
  | ((with_reducible refine' et_test ?k0); (case k0 => walk_at "ev"))
  | ((with_reducible refine' et_B ?k0); (case k0 => walk_at "ev"))
  | ((with_reducible refine' et_not ?k0); (case k0 => walk_at "et")))
local macro_rules | `(tactic| walk_at "sz") => `(tactic| first
  | rfl
  | omega
  | (simp only [List.length_take, List.length_drop, List.length_append]; omega)
  | (constructor <;> omega)
  | assumption)
local macro_rules | `(tactic| walk_at "sp") => `(tactic| first | assumption)

/-- a value whose kind is known -/
inductive Knd (K : PySem.W.Frag) (H : Hp) : V → String → Prop where
  | non : Knd K H .non "NoneType"
  | bl (b : Bool) : Knd K H (.bl b) "bool"
  | int (i : Int) : Knd K H (.int i) "int"
  | str (x : Str) : Knd K H (.str x) "str"
  | lst {a : Addr} {xs : List V} (h : SqL K H a xs) : Knd K H (.ref a) "list"
  | tup {a : Addr} {xs : List V} (h : SqT K H a xs) : Knd K H (.ref a) "tuple"
  | dic {a : Addr} {kvs : List (Key × V)} (h : H a = some (.dK kvs)) : Knd K H (.ref a) "dict"
theorem Knd.mono {K : PySem.W.Frag} {H H' : Hp} {x : V} {n : String} (k : Knd K H x n) (e : Ex H H') : Knd K H' x n := by
  cases k with
  | non => exact .non
  | bl b => exact .bl b
  | int i => exact .int i
  | str x => exact .str x
  | lst h => exact .lst (ex_l e h)
  | tup h => exact .tup (ex_t e h)
  | dic h => exact .dic (e _ _ h)
theorem Knd.ty {K : PySem.W.Frag} {H : Hp} {x : V} {n : String} (k : Knd K H x n) : TyX K H x (.type n) := by
  cases k with
  | non => exact .base .non
  | bl b => exact .base (.bl b)
  | int i => exact .base (.int i)
  | str x => exact .base (.str x)
  | lst h =>
    rcases h with (h | ⟨o, h⟩) | ⟨o, its, m, h1, h2, _⟩
    · exact .base (.lst h)
    · exact .base (.frz h)
    · exact .kList h1 h2
  | tup h =>
    rcases h with (h | ⟨o, h⟩) | ⟨o, its, m, h1, h2, _⟩
    · exact .base (.tup h)
    · exact .fTuple h
    · exact .kTuple h1 h2
  | dic h => exact .base (.dK h)
def kinds : List String := ["NoneType", "bool", "int", "str", "list", "tuple", "dict"]
theorem Knd.mem {K : PySem.W.Frag} {H : Hp} {x : V} {n : String} (k : Knd K H x n) : n ∈ kinds := by
  cases k <;> simp [kinds]
theorem kit_int {K : PySem.W.Frag} {n : String} (h : n ∈ kinds) : PySem.W.kitOne K (.type n) (.type "int") = some (n == "int" || n == "bool") := by
  simp only [kinds, List.mem_cons, List.not_mem_nil, or_false] at h
  rcases h with rfl | rfl | rfl | rfl | rfl | rfl | rfl <;> exact kit_ty (by decide +kernel)
theorem kit_bool {K : PySem.W.Frag} {n : String} (h : n ∈ kinds) : PySem.W.kitOne K (.type n) (.type "bool") = some (n == "bool") := by
  simp only [kinds, List.mem_cons, List.not_mem_nil, or_false] at h
  rcases h with rfl | rfl | rfl | rfl | rfl | rfl | rfl <;> exact kit_ty (by decide +kernel)
theorem kit_str {K : PySem.W.Frag} {n : String} (h : n ∈ kinds) : PySem.W.kitOne K (.type n) (.type "str") = some (n == "str") := by
  simp only [kinds, List.mem_cons, List.not_mem_nil, or_false] at h
  rcases h with rfl | rfl | rfl | rfl | rfl | rfl | rfl <;> exact kit_ty (by decide +kernel)
theorem kit_tuple {K : PySem.W.Frag} {n : String} (h : n ∈ kinds) : PySem.W.kitOne K (.type n) (.type "tuple") = some (n == "tuple") := by
  simp only [kinds, List.mem_cons, List.not_mem_nil, or_false] at h
  rcases h with rfl | rfl | rfl | rfl | rfl | rfl | rfl <;> exact kit_ty (by decide +kernel)
section
variable {K : PySem.W.Frag} {σ : L2.St} {H : Hp} {te : TE} {x : V} {n : String}
theorem ev_isInt (h : Ev te σ H x) (k : Knd K H x n) : Ev (tCB (rIsi K) (tCons te (tCons (tC (.ty "int")) tNil))) σ H (.bl (n == "int" || n == "bool")) := ev_isi h (fun H' e => (k.mono e).ty) (kit_int k.mem)
theorem ev_isBool (h : Ev te σ H x) (k : Knd K H x n) : Ev (tCB (rIsi K) (tCons te (tCons (tC (.ty "bool")) tNil))) σ H (.bl (n == "bool")) := ev_isi h (fun H' e => (k.mono e).ty) (kit_bool k.mem)
theorem ev_isStr (h : Ev te σ H x) (k : Knd K H x n) : Ev (tCB (rIsi K) (tCons te (tCons (tC (.ty "str")) tNil))) σ H (.bl (n == "str")) := ev_isi h (fun H' e => (k.mono e).ty) (kit_str k.mem)
theorem ev_isTup (h : Ev te σ H x) (k : Knd K H x n) : Ev (tCB (rIsi K) (tCons te (tCons (tC (.ty "tuple")) tNil))) σ H (.bl (n == "tuple")) := ev_isi h (fun H' e => (k.mono e).ty) (kit_tuple k.mem)
theorem ev_chainI {r r' : R2} {tb tc : TE} {i j k : Int} {a b : Bool} (h1 : Ev te σ H (.int i)) (h2 : Ev tb σ H (.int j)) (h3 : Ev tc σ H (.int k)) (q1 : RV r (.int i) (.int j) H (.bl a)) (q2 : a = true → RV r' (.int j) (.int k) H (.bl b)) : Ev (tChain r r' te tb tc) σ H (.bl (a && b)) := fun H1 e Q q =>
  h1 H1 e _ fun H2 e2 => h2 H2 (e.trans e2) _ fun H3 e3 => q1 H3 ((e.trans e2).trans e3) _ fun H4 e4 => ⟨a, rfl, by
    have e14 := (e2.trans e3).trans e4
    cases a with
    | true => exact iteT (h3 H4 (e.trans e14) _ fun H5 e5 => q2 rfl H5 (e.trans (e14.trans e5)) Q fun H6 e6 => q H6 (e14.trans (e5.trans e6)))
    | false => exact iteF (q H4 e14)⟩
end
section
variable {P : Program} {w : World} {K : PySem.W.Frag} {mg : Str → Option Value} {base : Heap}
/-- whether a value is an integer from lo to hi -/
def whole : V → Int → Int → Bool
  | .int i, lo, hi => decide (lo ≤ i) && decide (i ≤ hi)
  | _, _, _ => false
def spWhole (K : PySem.W.Frag) : Sp := fun vs H Q _ => ∃ (x : V) (n : String) (lo hi : Int), vs = [x, .int lo, .int hi] ∧ Knd K H x n ∧ RetV (.bl (whole x lo hi)) H Q
theorem sv_whole {H : Hp} {x : V} {n : String} {lo hi : Int} (k : Knd K H x n) : SpV (spWhole K) [x, .int lo, .int hi] H (.bl (whole x lo hi)) := fun H1 e Q q E => ⟨x, n, lo, hi, rfl, k.mono e, q⟩
/-- the reading of the body: any X -/
theorem ev_whole {te tb tc : TE} {σ : L2.St} {H : Hp} {x : V} {n : String} {lo hi : Int} (k : Knd K H x n) (h : Ev te σ H x) (h1 : Ev tb σ H (.int lo)) (h2 : Ev tc σ H (.int hi)) :
    Ev (tAndV (tCB (rIsi K) (tCons te (tCons (tC (.ty "int")) tNil))) (tAndV (tNotV (tCB (rIsi K) (tCons te (tCons (tC (.ty "bool")) tNil)))) (tChain (rI0 fun i j => .bl (decide (i ≤ j))) (rI0 fun i j => .bl (decide (i ≤ j))) tb te tc))) σ H (.bl (whole x lo hi)) := by
  have a := ev_isInt h k
  have b := ev_notV (ev_isBool h k)
  cases k with
  | int i => exact ev_is (ev_andV (b := decide (lo ≤ i) && decide (i ≤ hi)) a fun _ => ev_is (ev_andV (b := decide (lo ≤ i) && decide (i ≤ hi)) b fun _ => ev_chainI h1 h h2 rv_I0 fun _ => rv_I0) rfl) rfl
  | bl y => exact ev_is (ev_andV (b := false) a fun _ => ev_is (ev_andV (b := false) b (fun q => by cases q)) rfl) rfl
  | _ => exact ev_is (ev_andV (b := false) a (fun q => by cases q)) rfl
theorem ok_is_whole (T : Topf mg) (F : FnP K mg "is_whole" s_is_whole) : Cal P w K mg base CX0 1 "is_whole" ["value", "least", "most"] (spWhole K) := by
  refine cal_mk F sc_is_whole (fun vs H Q E h => ?_) (fun _ _ _ _ _ _ us hl => match us, hl with | [_, _, _], _ => rfl) (fun f cdv A outer s H vs Q E hr h => ?_)
  · obtain ⟨x, n, lo, hi, rfl, _⟩ := h; rfl
  · obtain ⟨x, n, lo, hi, rfl, k, q⟩ := h
    refine ⟨_, (pss_one (ps_ret (pe_and (pe_callB (k_isi (K := K) rfl) (by rfl) T.b_isinstance (by decide +kernel) (pa_cons (pv 0) (pa_cons (pe_tyb (n := "int") rfl T.b_int (by decide +kernel)) pa_nil))) (pe_and (pe_not (pe_callB (k_isi (K := K) rfl) (by rfl) T.b_isinstance (by decide +kernel) (pa_cons (pv 0) (pa_cons (pe_tyb (n := "bool") rfl T.b_bool (by decide +kernel)) pa_nil)))) (pe_one (pe_chain op_le op_le (pv 1) (pv 0) (pv 2))))))), ?_⟩
    exact s_ret (ev_whole k (ev_var rfl) (ev_var rfl) (ev_var rfl)) q
/-- a right text -/
def spText : Sp := fun vs H Q _ => ∃ t, vs = [tv t] ∧ Ok t ∧ t.length ≤ 60 ∧ RetV (.bl true) H Q
theorem mem_abc {c : Nat} (h : Let c) : c ∈ ("abcdef" : Str).cps.toList := by
  rw [abc]
  unfold Let at h
  show c ∈ [97, 98, 99, 100, 101, 102]
  simp only [List.mem_cons, List.not_mem_nil, or_false]
  omega
theorem ok_is_text (T : Topf mg) (F : FnP K mg "is_text" s_is_text) : Cal P w K mg base CX0 1 "is_text" ["value"] spText := by
  refine cal_mk F sc_is_text (fun vs H Q E h => ?_) (fun _ _ _ _ _ _ us hl => match us, hl with | [_], _ => rfl) (fun f cdv A outer s H vs Q E hr h => ?_)
  · obtain ⟨t, rfl, _⟩ := h; rfl
  · obtain ⟨t, rfl, ho, hz, q⟩ := h
    refine ⟨_, (pss_one (ps_ret (pe_and (pe_callB (k_isi (K := K) rfl) (by rfl) T.b_isinstance (by decide +kernel) (pa_cons (pv 0) (pa_cons (pe_tyb (n := "str") rfl T.b_str (by decide +kernel)) pa_nil))) (pe_and (pe_cmpR op_le (pe_callB call_len_str (by rfl) T.b_len (by decide +kernel) (pa_cons (pv 0) pa_nil)) (pe_gc rfl T.c_MOST_LONG) (nomark _)) (pe_one (pe_callB (k_all (K := K) rfl rfl) (by rfl) T.b_all (by decide +kernel) (pa_cons (pe_lc (own := [("sign", 1)]) rfl sc_is_text.nd (pi_str (pv 0)) (blkOk_by (own := [("sign", 1)]) (N := N_is_text) (sc := defScope s_is_text) (by decide +kernel)) (fun _ _ _ _ _ => (pg_name (i := 1) sc_is_text.nd rfl (Or.inl rfl))) (fun _ _ _ _ _ => pts_nil) (fun _ _ _ _ _ => (pe_cmpR op_in_sign (pv 1) (pe_gc rfl T.c_LETTERS) rfl))) pa_nil))))))), ?_⟩
    refine s_ret (v := .bl true) ?_ q
    refine ev_is (ev_andV (b := true) (ev_isStr (ev_var rfl) (.str _)) fun _ => ev_is (ev_andV (a := true) (b := true) (ev_is (ev_I0 (ev_lenS (ev_var rfl) (by omega)) ev_c) (by congr 1; exact decide_eq_true (by omega))) fun _ => ?_) rfl) rfl
    have eg : given t.length (fun _ => true) (fun _ => V.bl true) = (List.replicate t.length true).map V.bl := by
      unfold given
      rw [List.filter_eq_self.mpr (fun _ _ => rfl), List.map_replicate, List.map_const']
      simp
    refine ev_is (ev_allL (bs := List.replicate t.length true) ?_) (by simp)
    rw [← eg]
    exact el_lc (fun _ => true) (fun _ => .bl true) (src_str (j := 1) (ev_var (i := 0) (v := tv t) rfl)) (by omega) (fun i _ => rfl) (fun i H1 _ _ H2 _ Q q => q H2 (Ex.refl H2)) (fun i H1 e hi _ H2 e2 Q q => ⟨_, rfl, ⟨t.getD i 0, _, rfl, rfl, by
      have hm : t.getD i 0 ∈ ("abcdef" : Str).cps.toList := mem_abc (by rw [List.getD_eq_getElem?_getD, List.getElem?_eq_getElem hi]; exact ho.get hi)
      rw [decide_eq_true hm]
      exact q H2 (Ex.refl H2)⟩⟩)
def spNeedT : Sp := fun vs H Q _ => ∃ t, vs = [tv t] ∧ Ok t ∧ t.length ≤ 60 ∧ RetV (tv t) H Q
theorem ok_need_text (T : Topf mg) (F : FnP K mg "need_text" s_need_text) (C_is_text : Cal P w K mg base CX0 1 "is_text" ["value"] spText) : Cal P w K mg base CX0 2 "need_text" ["text"] spNeedT := by
  refine cal_mk F sc_need_text (fun vs H Q E h => ?_) (fun _ _ _ _ _ _ us hl => match us, hl with | [_], _ => rfl) (fun f cdv A outer s H vs Q E hr h => ?_)
  · obtain ⟨t, rfl, _⟩ := h; rfl
  · obtain ⟨t, rfl, ho, hz, q⟩ := h
    refine ⟨_, (pss_cons (ps_if (pt_not (pt_val (pe_c C_is_text (hr.mono (by decide)) rfl (pa_cons (pv 0) pa_nil)))) (pss_one ps_never) pss_nil)
      (pss_one (ps_ret (pv 0)))), ?_⟩
    refine q_when (b := false) (et_not (a := true) (et_B (ev_cl (ea_cons (ev_var rfl) ea_nil) (fun H1 e Q q E => ⟨t, rfl, ho, hz, q⟩)))) (fun z => by cases z) fun _ H1 e => ?_
    exact s_ret (ev_var rfl) fun H2 e2 => q H2 (e.trans e2)
def spNeedS : Sp := fun vs H Q _ => ∃ n : Nat, vs = [iv n] ∧ 1 ≤ n ∧ n ≤ 6 ∧ RetV (iv n) H Q
theorem ok_need_size (T : Topf mg) (F : FnP K mg "need_size" s_need_size) (C_is_whole : Cal P w K mg base CX0 1 "is_whole" ["value", "least", "most"] (spWhole K)) : Cal P w K mg base CX0 2 "need_size" ["size"] spNeedS := by
  refine cal_mk F sc_need_size (fun vs H Q E h => ?_) (fun _ _ _ _ _ _ us hl => match us, hl with | [_], _ => rfl) (fun f cdv A outer s H vs Q E hr h => ?_)
  · obtain ⟨t, rfl, _⟩ := h; rfl
  · obtain ⟨n, rfl, h1, h6, q⟩ := h
    refine ⟨_, (pss_cons (ps_if (pt_not (pt_val (pe_c C_is_whole (hr.mono (by decide)) rfl (pa_cons (pv 0) (pa_cons pe_int (pa_cons (pe_gc rfl T.c_MOST_SIZE) pa_nil)))))) (pss_one ps_never) pss_nil)
      (pss_one (ps_ret (pv 0)))), ?_⟩
    refine q_when (b := false) (et_not (a := true) (et_is (et_B (ev_cl (ea_cons (ev_var rfl) (ea_cons ev_c (ea_cons ev_c ea_nil))) (sv_whole (.int (n : Int))))) ?_)) (fun z => by cases z) fun _ H1 e => ?_
    · show (decide ((1 : Int) ≤ n) && decide ((n : Int) ≤ 6)) = true
      simp; omega
    · exact s_ret (ev_var rfl) fun H2 e2 => q H2 (e.trans e2)
def spNeed2 : Sp := fun vs H Q _ => ∃ (t u : List Nat) (n : Nat), vs = [tv t, tv u, iv n] ∧ Ok t ∧ t.length ≤ 60 ∧ Ok u ∧ u.length ≤ 60 ∧ 1 ≤ n ∧ n ≤ 6 ∧ RetV .non H Q
theorem ok_need_two (T : Topf mg) (F : FnP K mg "need_two" s_need_two) (C_need_text : Cal P w K mg base CX0 2 "need_text" ["text"] spNeedT) (C_need_size : Cal P w K mg base CX0 2 "need_size" ["size"] spNeedS) : Cal P w K mg base CX0 3 "need_two" ["one", "other", "size"] spNeed2 := by
  refine cal_mk F sc_need_two (fun vs H Q E h => ?_) (fun _ _ _ _ _ _ us hl => match us, hl with | [_, _, _], _ => rfl) (fun f cdv A outer s H vs Q E hr h => ?_)
  · obtain ⟨t, u, n, rfl, _⟩ := h; rfl
  · obtain ⟨t, u, n, rfl, ht, lt, hu, lu, h1, h6, q⟩ := h
    refine ⟨_, (pss_cons (ps_expr (pe_c C_need_text (hr.mono (by decide)) rfl (pa_cons (pv 0) pa_nil)))
      (pss_cons (ps_expr (pe_c C_need_text (hr.mono (by decide)) rfl (pa_cons (pv 1) pa_nil)))
      (pss_one (ps_expr (pe_c C_need_size (hr.mono (by decide)) rfl (pa_cons (pv 2) pa_nil)))))), ?_⟩
    refine q_drop (v := tv t) (ev_cl (ea_cons (ev_var rfl) ea_nil) (fun H1 e Q q E => ⟨t, rfl, ht, lt, q⟩)) fun H1 e1 => ?_
    refine q_drop (v := tv u) (ev_cl (ea_cons (ev_var rfl) ea_nil) (fun H1 e Q q E => ⟨u, rfl, hu, lu, q⟩)) fun H2 e2 => ?_
    exact s_drop (v := iv n) (ev_cl (ea_cons (ev_var rfl) ea_nil) (fun H1 e Q q E => ⟨n, rfl, h1, h6, q⟩)) fun H3 e3 => q H3 (e1.trans (e2.trans e3))
/-- a copy -/
def spCop : Sp := fun vs H Q _ => ∃ (t : List Nat) (n p : Nat), vs = [tv t, iv n, iv p] ∧ t.length ≤ 1000 ∧ RetV (tv (t.take (p + n) ++ t.drop p)) H Q
theorem ok_copied_of (T : Topf mg) (F : FnP K mg "copied_of" s_copied_of) : Cal P w K mg base CX0 1 "copied_of" ["text", "size", "place"] spCop := by
  refine cal_mk F sc_copied_of (fun vs H Q E h => ?_) (fun _ _ _ _ _ _ us hl => match us, hl with | [_, _, _], _ => rfl) (fun f cdv A outer s H vs Q E hr h => ?_)
  · obtain ⟨t, n, p, rfl, _⟩ := h; rfl
  · obtain ⟨t, n, p, rfl, hz, q⟩ := h
    refine ⟨_, (pss_one (ps_ret (pe_op op_add_str (pe_slice sl_str (pv 0) po_none (po_some (pe_op op_add (pv 2) (pv 1)))) (pe_slice sl_str (pv 0) (po_some (pv 2)) po_none)))), ?_⟩
    refine s_ret ?_ q
    refine' ev_is ?h ?e
    case h => walk_at "ev"
    rw [Int.toNat_natCast, show ((p : Int) + (n : Int)).toNat = p + n by omega]
end
end K9
namespace K9
open PySem PySem.Spec PyProof.Rows L2 Evl
local macro_rules | `(tactic| walk_at "ev") => `(tactic| first
  | with_reducible exact ev_c
  | ((with_reducible refine' ev_var ?k0); (case k0 => exact rfl))
  | with_reducible assumption
  | ((with_reducible refine' ev_lenS ?k0 ?k1); (case k0 => walk_at "ev"); (case k1 => walk_at "sz"))
  | ((with_reducible refine' ev_I0 ?k0 ?k1); (case k0 => walk_at "ev"); (case k1 => walk_at "ev"))
  | ((with_reducible refine' ev_I ?k0 ?k1 ?k2); (case k0 => walk_at "ev"); (case k1 => walk_at "ev"); (case k2 => walk_at "sz"))
  | ((with_reducible refine' ev_eq ?k0 ?k1 ?k2); (case k0 => walk_at "ev"); (case k1 => walk_at "ev"); (case k2 => walk_at "sz"))
  | ((with_reducible refine' ev_ne ?k0 ?k1 ?k2); (case k0 => walk_at "ev"); (case k1 => walk_at "ev"); (case k2 => walk_at "sz"))
  | ((with_reducible refine' ev_slTo ?k0 ?k1 ?k2 ?k3); (case k0 => walk_at "ev"); (case k1 => walk_at "ev"); (case k2 => walk_at "sz"); (case k3 => walk_at "sz"))
  | ((with_reducible refine' ev_slFrom ?k0 ?k1 ?k2 ?k3); (case k0 => walk_at "ev"); (case k1 => walk_at "ev"); (case k2 => walk_at "sz"); (case k3 => walk_at "sz"))
  | ((with_reducible refine' ev_slMid ?k0 ?k1 ?k2 ?k3 ?k4 ?k5); (case k0 => walk_at "ev"); (case k1 => walk_at "ev"); (case k2 => walk_at "ev"); (case k3 => walk_at "sz"); (case k4 => walk_at "sz"); (case k5 => walk_at "sz"))
  | ((with_reducible refine' ev_addS ?k0 ?k1 ?k2); (case k0 => walk_at "ev"); (case k1 => walk_at "ev"); (case k2 => walk_at "sz"))
  | ((with_reducible refine' ev_cl ?k0 ?k1); (case k0 => walk_at "ea"); (case k1 => walk_at "sp"))
  | ((with_reducible refine' ev_notV ?k0); (case k0 => walk_at "ev"))
  | ((with_reducible refine' ev_un ?k0 ru_neg); (case k0 => walk_at "ev")))
local macro_rules | `(tactic| walk_at "ea") => `(tactic| first
  | with_reducible exact ea_nil
  | ((with_reducible refine' ea_cons ?k0 ?k1); (case k0 => walk_at "ev"); (case k1 => walk_at "ea")))
local macro_rules | `(tactic| walk_at "et") => `(tactic| first
  | with_reducible assumption
  | ((with_reducible refine' et_test ?k0); (case k0 => walk_at "ev"))
  | ((with_reducible refine' et_B ?k0); (case k0 => walk_at "ev"))
  | ((with_reducible refine' et_not ?k0); (case k0 => walk_at "et")))
local macro_rules | `(tactic| walk_at "sz") => `(tactic| first
  | rfl
  | omega
  | (simp only [List.length_take, List.length_drop, List.length_append]; omega)
  | (constructor <;> omega)
  | assumption)
local macro_rules | `(tactic| walk_at "sp") => `(tactic| first | assumption)

theorem given_all (n : Nat) (v : Nat → V) : given n (fun _ => true) v = (List.range n).map v := by
  unfold given
  rw [List.filter_eq_self.mpr (fun _ _ => rfl)]
theorem range_map_of {α : Type} {l : List α} {f : α → V} {n : Nat} {v : Nat → V} (hl : l.length = n) (h : ∀ i (hi : i < l.length), v i = f l[i]) : (List.range n).map v = l.map f := by
  apply List.ext_getElem
  · simp [hl]
  · intro i h1 h2
    rw [List.getElem_map, List.getElem_map, List.getElem_range]
    exact h i (by simpa using h2)
theorem getD_at {l : List V} {i : Nat} (h : i < l.length) : l.getD i .non = l[i] := by
  rw [List.getD_eq_getElem?_getD, List.getElem?_eq_getElem h]; rfl
theorem getN_at {l : List Nat} {i : Nat} (h : i < l.length) : l.getD i 0 = l[i] := by
  rw [List.getD_eq_getElem?_getD, List.getElem?_eq_getElem h]; rfl
/-- a source that stands beside the object at f, which the body changes -/
def SrcA (f : Addr) (wi : TI) (g : TG) (σ : L2.St) (H : Hp) (n : Nat) (τ : Nat → L2.St → L2.St) : Prop :=
  ∀ H1, Ex H H1 → ∀ R : It → Hp → Prop, (∀ J H2, Ex H1 H2 → Runs J g n τ (drp H2 f) → R J H2) → wi σ H1 R
/-- the same, the word told -/
theorem s_for {f : Addr} {wi : TI} {g : TG} {tb : TS} {D : Ends} {σ : L2.St} {H : Hp} {n : Nat} {τ : Nat → L2.St → L2.St} (hS : SrcA f wi g σ H n τ) (Pv : Nat → L2.St → Hp → Prop) (h0 : ∀ H1, Ex H H1 → Pv 0 σ H1)
    (hs : ∀ B i σ' H' H'', i < n → Ex (drp H f) B → B f = none → Pv i σ' H' → Ex B H' → Ex H' H'' → tb { D with nx := fun σ2 H2 => Ex B H2 ∧ Pv (i + 1) σ2 H2, ct := fun σ2 H2 => Ex B H2 ∧ Pv (i + 1) σ2 H2, bk := D.nx } (τ i σ') H'')
    (hd : ∀ σ' H', Ex (drp H f) H' → Pv n σ' H' → D.nx σ' H') : tFor wi g tb D σ H :=
  hS H (Ex.refl H) _ fun J H2 e R => by
    have e2 : Ex (drp H f) (drp H2 f) := drp_of ((drp_ex H f).trans e) (drp_at H f)
    exact for_runs R (fun i σ' H' => Ex (drp H2 f) H' ∧ Pv i σ' H') ⟨drp_ex H2 f, h0 H2 e⟩ (fun i σ' H' p => p.1)
      (fun i σ' H' H'' hi p e3 => hs (drp H2 f) i σ' H' H'' hi e2 (drp_at H2 f) p.2 p.1 e3) (fun σ' H' p => hd σ' H' (e2.trans p.1) p.2)
theorem q_for {f : Addr} {wi : TI} {g : TG} {tb tz : TS} {D : Ends} {σ : L2.St} {H : Hp} {n : Nat} {τ : Nat → L2.St → L2.St} (hS : SrcA f wi g σ H n τ) (Pv : Nat → L2.St → Hp → Prop) (h0 : ∀ H1, Ex H H1 → Pv 0 σ H1)
    (hs : ∀ B i σ' H' H'', i < n → Ex (drp H f) B → B f = none → Pv i σ' H' → Ex B H' → Ex H' H'' → tb { D with nx := fun σ2 H2 => Ex B H2 ∧ Pv (i + 1) σ2 H2, ct := fun σ2 H2 => Ex B H2 ∧ Pv (i + 1) σ2 H2, bk := tz D } (τ i σ') H'')
    (hd : ∀ σ' H', Ex (drp H f) H' → Pv n σ' H' → tz D σ' H') : tSeq (tFor wi g tb) tz D σ H := s_for (D := { D with nx := tz D }) hS Pv h0 hs hd
section
variable {K : PySem.W.Frag} {σ : L2.St} {H : Hp} {te tl : TE} {f : Addr} {o : HO}
theorem srcA_NL {xs : List V} {j : Nat} (hf : H f = some o) (h : EvL tl σ H xs) : SrcA f (iList K tl) (gName j) σ H xs.length (fun i σ => σ.set j (some (xs.getD i .non))) := fun H1 e R k =>
  h H1 e _ fun p H2 hp e2 hx => ⟨p, rfl, ⟨xs, SqL.of hx⟩, k _ H2 e2 (runs_list (SqL.of (by rw [drp_ne (ne_of_none (e _ _ hf) hp).symm]; exact hx)))⟩
theorem sq_drp {a : Addr} {xs : List V} (h : SqL K H a xs) (hf : f ≠ a) : SqL K (drp H f) a xs := by
  rcases h with (h | ⟨ob, h⟩) | h
  · exact .inl (.inl (by rw [drp_ne hf.symm]; exact h))
  · exact .inl (.inr ⟨ob, by rw [drp_ne hf.symm]; exact h⟩)
  · exact .inr h
theorem srcA_enum {ta : TA} {xs : List V} {a : Addr} {j k : Nat} (h : EvA ta σ H [.ref a]) (hx : SqL K H a xs) (hf : f ≠ a) : SrcA f (iEnum K ta) (gTup K 2 (gCons (gName j) (gCons (gName k) gNil))) σ H xs.length (fun i σ => (σ.set j (some (iv i))).set k (some (xs.getD i .non))) := fun H1 e R kk =>
  h H1 e _ fun H2 e2 => ⟨a, xs, rfl, ex_l (e.trans e2) hx, kk _ H2 e2 (runs_enum (sq_drp (ex_l (e.trans e2) hx) hf))⟩
theorem el_rg {n : Int} (h : Ev te σ H (.int n)) (h0 : -1000000 ≤ n) (h1 : n ≤ 1000000) : EvL (tLstRg (tRg1 te)) σ H ((List.range n.toNat).map iv) := fun H1 e Q q =>
  h H1 e _ fun H2 e2 => ⟨n, rfl, ⟨by omega, by omega, by omega, by omega, by omega⟩, fun p hp => by
    have er : rgV 0 n = (List.range n.toNat).map iv := by
      unfold rgV
      rw [Int.sub_zero]
      apply List.map_congr_left
      intro i _
      show V.int (0 + (i : Int)) = V.int (i : Int)
      rw [Int.zero_add]
    rw [er]
    exact q p _ (fresh_back e2 hp) (e2.trans (Ex.new hp)) upd_same⟩
theorem occ_abc {c : Nat} (h : Let c) : ∃ rest, Builtin.Str.occurrences "abcdef" ⟨#[c]⟩ 0 ("abcdef" : Str).length 1 = (c - 97) :: rest := by
  unfold Let at h
  have : c = 97 ∨ c = 98 ∨ c = 99 ∨ c = 100 ∨ c = 101 ∨ c = 102 := by omega
  rcases this with rfl | rfl | rfl | rfl | rfl | rfl <;> exact ⟨[], by decide +kernel⟩
theorem ev_sidx {c : Nat} (h : Ev te σ H (tv [c])) (hc : Let c) : Ev (tBM K "str" (fun x xs H Q => ∃ a b i rest, x = .str a ∧ xs = [.str b] ∧ Builtin.Str.occurrences a b 0 a.length 1 = i :: rest ∧ Q (.int (i : Nat)) H) (tC (.str "abcdef")) (tCons te tNil)) σ H (iv (c - 97)) := fun H1 e Q q =>
  ⟨rfl, h H1 e _ fun H2 e2 => by
    obtain ⟨rest, ho⟩ := occ_abc hc
    exact ⟨"abcdef", ⟨#[c]⟩, c - 97, rest, rfl, rfl, ho, q H2 e2⟩⟩
end
/-- the digits of a text -/
def dig (t : Tx) : List V := t.map fun c => iv (c - 97)
theorem el_dig {K : PySem.W.Frag} {σ : L2.St} {H : Hp} {te : TE} {t : Tx} {j : Nat} (ho : Ok t) (hz : t.length ≤ 1000) (h : Ev te σ H (tv t)) (hw : ∀ x, wipe ((wipe σ [j]).set j (some x)) [j] = wipe σ [j]) (hj : ∀ x, ((wipe σ [j]).set j (some x))[j]? = some (some x)) :
    EvL (tLc (iStr te) (gName j) tYes (tBM K "str" (fun x xs H Q => ∃ a b i rest, x = .str a ∧ xs = [.str b] ∧ Builtin.Str.occurrences a b 0 a.length 1 = i :: rest ∧ Q (.int (i : Nat)) H) (tC (.str "abcdef")) (tCons (tVar j) tNil)) [j]) σ H (dig t) := by
  have e : given t.length (fun _ => true) (fun i => iv (t.getD i 0 - 97)) = dig t := by
    rw [given_all]
    exact range_map_of (l := t) (f := fun c => iv (c - 97)) rfl (fun i hi => by rw [getN_at hi])
  rw [← e]
  exact el_lc (fun _ => true) (fun i => iv (t.getD i 0 - 97)) (src_str (j := j) h) (by omega) (fun i _ => hw _) (fun i H1 _ _ H2 _ Q q => q H2 (Ex.refl H2))
    (fun i H1 e1 hi _ => ev_sidx (ev_var (hj _)) (by rw [getN_at hi]; exact ho.get hi))
section
variable {P : Program} {w : World} {K : PySem.W.Frag} {mg : Str → Option Value} {base : Heap}
def spDbl : Sp := fun vs H Q _ => ∃ (t : Tx) (n : Nat), vs = [tv t, iv n] ∧ t.length ≤ 1000 ∧ n ≤ 6 ∧ RetL ((dbls n t).map iv) H Q
theorem ok_doublings_of (T : Topf mg) (F : FnP K mg "doublings_of" s_doublings_of) : Cal P w K mg base CX0 1 "doublings_of" ["text", "size"] spDbl := by
  refine cal_mk F sc_doublings_of (fun vs H Q E h => ?_) (fun _ _ _ _ _ _ us hl => match us, hl with | [_, _], _ => rfl) (fun f cdv A outer s H vs Q E hr h => ?_)
  · obtain ⟨t, n, rfl, _⟩ := h; rfl
  · obtain ⟨t, n, rfl, hz, hn, q⟩ := h
    refine ⟨_, (pss_cons (ps_set (i := 2) sc_doublings_of.nd rfl (Or.inl rfl) (pe_listRg rfl rfl T.b_list (prg_1 rfl T.b_range (pe_op op_add (pe_op op_sub (pe_callB call_len_str (by rfl) T.b_len (by decide +kernel) (pa_cons (pv 0) pa_nil)) (pe_op op_mul pe_int (pv 1))) pe_int))))
      (pss_one (ps_ret (pe_lc (own := [("place", 3)]) rfl sc_doublings_of.nd (k_pil (K := K) rfl (pv 2)) (blkOk_by (own := [("place", 3)]) (N := N_doublings_of) (sc := defScope s_doublings_of) (by decide +kernel)) (fun _ _ _ _ _ => (pg_name (i := 3) sc_doublings_of.nd rfl (Or.inl rfl))) (fun _ _ _ _ _ => pts_one (pt_cmpR op_eq (pe_slice sl_str (pv 0) (po_some (pv 3)) (po_some (pe_op op_add (pv 3) (pv 1)))) (pe_slice sl_str (pv 0) (po_some (pe_op op_add (pv 3) (pv 1))) (po_some (pe_op op_add (pv 3) (pe_op op_mul pe_int (pv 1))))) (nomark _))) (fun _ _ _ _ _ => (pv 3)))))), ?_⟩
    have hm : (t.length : Int) - 2 * (n : Int) + 1 ≤ 1001 := by omega
    refine q_asgL (xs := (List.range (t.length + 1 - 2 * n)).map iv) ?_ fun p H1 hp e1 hx => ?_
    · have he : EvL (tLstRg (tRg1 (tOp (rI0 fun i j => .int (i + j)) (tOp (rI0 fun i j => .int (i - j)) (tCB (fun xs H Q => ∃ z, xs = [.str z] ∧ z.length ≤ sizeLine ∧ Q (.int z.length) H) (tCons (tVar 0) tNil)) (tOp (rI CMul fun i j => .int (i * j)) (tC (.int 2)) (tVar 1))) (tC (.int 1))))) (start N_doublings_of [tv t, iv n]) H ((List.range ((t.length : Int) - 2 * (n : Int) + 1).toNat).map iv) :=
        el_rg (by refine ev_I0 (ev_I0 (ev_lenS (ev_var rfl) (by omega)) (ev_I ev_c (ev_var rfl) (Or.inl ⟨by decide, by decide⟩))) ev_c) (by omega) (by omega)
      have e3 : ((t.length : Int) - 2 * (n : Int) + 1).toNat = t.length + 1 - 2 * n := by omega
      rw [e3] at he
      exact he
    · have e : given (t.length + 1 - 2 * n) (fun p => decide ((t.drop p).take n = (t.drop (p + n)).take n)) iv = (dbls n t).map iv := rfl
      have hl : ((List.range (t.length + 1 - 2 * n)).map iv).length = t.length + 1 - 2 * n := by simp
      have hg : ∀ i, i < t.length + 1 - 2 * n → ((List.range (t.length + 1 - 2 * n)).map iv).getD i .non = iv i := fun i hi => by
        rw [getD_at (by rw [hl]; exact hi), List.getElem_map, List.getElem_range]
      have hS := src_L (K := K) (j := 3) (σ := (start N_doublings_of [tv t, iv n]).set 2 (some (.ref p))) (tl := tVar 2) (ev_var (v := .ref p) rfl) (SqL.of hx)
      rw [hl] at hS
      refine s_retL (xs := (dbls n t).map iv) ?_ fun p2 H2 hp2 e2 hx2 => q p2 H2 (fresh_back e1 hp2) (e1.trans e2) hx2
      · rw [← e]
        refine el_lc (vs := [3]) (fun p => decide ((t.drop p).take n = (t.drop (p + n)).take n)) iv hS (by omega) (fun i _ => rfl) (fun i H2 e2 hi => ?_) (fun i H2 e2 hi _ => ?_)
        · refine et_test ?_
          rw [hg i hi]
          refine ev_is (ev_eq (ev_slMid (t := t) (i := (i : Int)) (j := (i : Int) + (n : Int)) (ev_var rfl) (ev_var rfl) (ev_I0 (ev_var rfl) (ev_var rfl)) (by omega) (by omega) (by omega)) (ev_slMid (t := t) (i := (i : Int) + (n : Int)) (j := (i : Int) + 2 * (n : Int)) (ev_var rfl) (ev_I0 (ev_var rfl) (ev_var rfl)) (ev_I0 (ev_var rfl) (ev_I ev_c (ev_var rfl) (Or.inl ⟨by decide, by decide⟩))) (by omega) (by omega) (by omega)) rfl) ?_
          rw [tv_dec, Int.toNat_natCast, show ((i : Int) + (n : Int)).toNat = i + n by omega, show ((i : Int) + (n : Int) - (i : Int)).toNat = n by omega, show ((i : Int) + 2 * (n : Int) - ((i : Int) + (n : Int))).toNat = n by omega]
        · rw [hg i hi]
          exact ev_var rfl
def spGap : Sp := fun vs H Q _ => ∃ (t : Tx) (n : Nat), vs = [tv t, iv n] ∧ Ok t ∧ t.length ≤ 1000 ∧ RetL ((gaps n t).map iv) H Q
theorem sl_gap {H : Hp} {t : Tx} {n : Nat} (ho : Ok t) (hz : t.length ≤ 1000) : SpL spGap [tv t, iv n] H ((gaps n t).map iv) := fun H1 e Q q E => ⟨t, n, rfl, ho, hz, q⟩
theorem gp_int {n f : Nat} (hn : Let n) (hf : Let f) : (((f - 97 : Nat) : Int) - ((n - 97 : Nat) : Int)) % 6 = ((gp n f : Nat) : Int) := by
  unfold gp; unfold Let at hn hf; omega
theorem ok_gaps_of (T : Topf mg) (F : FnP K mg "gaps_of" s_gaps_of) : Cal P w K mg base CX0 1 "gaps_of" ["text", "size"] spGap := by
  refine cal_mk F sc_gaps_of (fun vs H Q E h => ?_) (fun _ _ _ _ _ _ us hl => match us, hl with | [_, _], _ => rfl) (fun f cdv A outer s H vs Q E hr h => ?_)
  · obtain ⟨t, n, rfl, _⟩ := h; rfl
  · obtain ⟨t, n, rfl, ho, hz, q⟩ := h
    refine ⟨_, (pss_cons (ps_setLc (i := 2) (own := [("sign", 3)]) rfl sc_gaps_of.nd rfl rfl (sw_true rfl rfl rfl (by decide +kernel)) (pi_str (pv 0)) (blkOk_by (own := [("sign", 3)]) (N := N_gaps_of) (sc := defScope s_gaps_of) (by decide +kernel)) (fun _ _ _ _ _ => (pg_name (i := 3) sc_gaps_of.nd rfl (Or.inl rfl))) (fun _ _ _ _ _ => pts_nil) (fun _ _ _ _ _ => (k_bm (K := K) rfl PySem.F.plainAttrs_str PySem.F.slot_str_index PySem.F.type_str_index mt_sindex (pe_gc rfl T.c_LETTERS) (pa_cons (pv 3) pa_nil))))
      (pss_one (ps_ret (pe_lc (own := [("near", 4), ("far", 5)]) rfl sc_gaps_of.nd (k_pizip (K := K) rfl rfl T.b_zip (pa_cons (pv 2) (pa_cons (pe_slice (k_slL (K := K) rfl) (pv 2) (po_some (pv 1)) po_none) pa_nil))) (blkOk_by (own := [("near", 4), ("far", 5)]) (N := N_gaps_of) (sc := defScope s_gaps_of) (by decide +kernel)) (fun _ _ _ _ _ => (k_pgtup (K := K) (n := 2) rfl (by rfl) (pgs_cons (pg_name (i := 4) sc_gaps_of.nd rfl (Or.inl rfl)) (pgs_cons (pg_name (i := 5) sc_gaps_of.nd rfl (Or.inl rfl)) pgs_nil)))) (fun _ _ _ _ _ => pts_nil) (fun _ _ _ _ _ => (pe_op op_mod (pe_op op_sub (pv 5) (pv 4)) (pe_gc rfl T.c_MANY_LETTERS))))))), ?_⟩
    refine q_asgL (xs := dig t) (el_dig ho hz (ev_var rfl) (fun x => rfl) (fun x => rfl)) fun p H1 hp e1 hx => ?_
    have hl : (dig t).length = t.length := by unfold dig; simp
    have hmin : min (dig t).length ((dig t).drop n).length = (gaps n t).length := by rw [gaps_len, List.length_drop, hl]; omega
    have hS := src_zip (K := K) (σ := (start N_gaps_of [tv t, iv n]).set 2 (some (.ref p))) (H := H1) (xs := dig t) (ys := (dig t).drop n) (j := 4) (k := 5) (ta := tCons (tVar 2) (tCons (tSl (rSlL K) (tVar 2) (tPart (tVar 1)) tNoPart) tNil))
      (fun H2 e2 Q2 q2 => ⟨.ref p, rfl, .ref p, rfl, iv n, rfl, (n : Int), rfl, p, dig t, rfl, SqL.of (e2 _ _ hx), fun p2 hp2 => q2 _ _ (Ex.new hp2) ⟨p, p2, rfl, ex_l (Ex.new hp2) (SqL.of (e2 _ _ hx)), SqL.of (by rw [upd_same, cutV_from])⟩⟩)
    rw [hmin] at hS
    have e : given (gaps n t).length (fun _ => true) (fun i => iv ((gaps n t).getD i 0)) = (gaps n t).map iv := by
      rw [given_all]
      exact range_map_of rfl (fun i hi => by rw [getN_at hi])
    refine s_retL (xs := (gaps n t).map iv) ?_ fun p2 H2 hp2 e2 hx2 => q p2 H2 (fresh_back e1 hp2) (e1.trans e2) hx2
    · rw [← e]
      refine el_lc (vs := [4, 5]) (fun _ => true) _ hS (by rw [gaps_len]; omega) (fun i _ => rfl) (fun i H2 _ _ H3 _ Q2 q2 => q2 H3 (Ex.refl H3)) (fun i H2 e2 hi _ => ?_)
      have hi2 : i < t.length - n := by rw [gaps_len] at hi; exact hi
      have g1 : (dig t).getD i .non = iv (t[i]'(by omega) - 97) := by rw [getD_at (by omega)]; unfold dig; rw [List.getElem_map]
      have g2 : ((dig t).drop n).getD i .non = iv (t[n + i]'(by omega) - 97) := by rw [getD_at (by rw [List.length_drop]; omega), List.getElem_drop]; unfold dig; rw [List.getElem_map]
      rw [g1, g2]
      refine ev_is (ev_I (ev_I0 (ev_var rfl) (ev_var rfl)) ev_c (by decide)) ?_
      rw [gp_int (ho.get _) (ho.get _), getN_at hi, gaps_get hi]
def spStp : Sp := fun vs H Q _ => ∃ (t : Tx) (n : Nat), vs = [tv t, iv n] ∧ Ok t ∧ t.length ≤ 1000 ∧ RetL ((stp n t).map iv) H Q
theorem sl_stp {H : Hp} {t : Tx} {n : Nat} (ho : Ok t) (hz : t.length ≤ 1000) : SpL spStp [tv t, iv n] H ((stp n t).map iv) := fun H1 e Q q E => ⟨t, n, rfl, ho, hz, q⟩
theorem iv_dec (n m : Nat) : decide (iv n = iv m) = decide (n = m) := by
  by_cases h : n = m
  · subst h; simp
  · rw [decide_eq_false h, decide_eq_false (fun e => h (by have := V.int.inj e; omega))]
theorem bnez (n : Nat) : (!decide (iv n = V.int 0)) = (n != 0) := by
  have e := iv_dec n 0
  rw [show V.int 0 = iv 0 from rfl, e]
  cases n <;> rfl
theorem given_filter {l : List Nat} {f : Nat → Bool} : given l.length (fun i => f (l.getD i 0)) (fun i => iv (l.getD i 0)) = (l.filter f).map iv := by
  have e : (List.range l.length).map (fun i => l.getD i 0) = l := by
    apply List.ext_getElem
    · simp
    · intro i h1 h2
      rw [List.getElem_map, List.getElem_range, getN_at h2]
  unfold given
  conv => rhs; rw [← e, List.filter_map, List.map_map]
  rfl
theorem ok_steps_of (T : Topf mg) (F : FnP K mg "steps_of" s_steps_of) (C_gaps_of : Cal P w K mg base CX0 1 "gaps_of" ["text", "size"] spGap) : Cal P w K mg base CX0 2 "steps_of" ["text", "size"] spStp := by
  refine cal_mk F sc_steps_of (fun vs H Q E h => ?_) (fun _ _ _ _ _ _ us hl => match us, hl with | [_, _], _ => rfl) (fun f cdv A outer s H vs Q E hr h => ?_)
  · obtain ⟨t, n, rfl, _⟩ := h; rfl
  · obtain ⟨t, n, rfl, ho, hz, q⟩ := h
    refine ⟨_, (pss_one (ps_ret (pe_lc (own := [("gap", 2)]) rfl sc_steps_of.nd (k_pil (K := K) rfl (pe_c C_gaps_of (hr.mono (by decide)) rfl (pa_cons (pv 0) (pa_cons (pv 1) pa_nil)))) (blkOk_by (own := [("gap", 2)]) (N := N_steps_of) (sc := defScope s_steps_of) (by decide +kernel)) (fun _ _ _ _ _ => (pg_name (i := 2) sc_steps_of.nd rfl (Or.inl rfl))) (fun _ _ _ _ _ => pts_one (pt_cmpR op_ne (pv 2) pe_int (nomark _))) (fun _ _ _ _ _ => (pv 2))))), ?_⟩
    have hl : ((gaps n t).map iv).length = (gaps n t).length := by simp
    have hS := src_NL (K := K) (j := 2) (el_cl (σ := start N_steps_of [tv t, iv n]) (H := H) (ta := tCons (tVar 0) (tCons (tVar 1) tNil)) (ea_cons (ev_var rfl) (ea_cons (ev_var rfl) ea_nil)) (sl_gap ho hz))
    rw [hl] at hS
    refine s_retL (xs := (stp n t).map iv) ?_ q
    show EvL _ _ _ (((gaps n t).filter (fun x => x != 0)).map iv)
    rw [← given_filter]
    have hg : ∀ i, i < (gaps n t).length → ((gaps n t).map iv).getD i .non = iv ((gaps n t).getD i 0) := fun i hi => by
      rw [getD_at (by rw [hl]; exact hi), List.getElem_map, getN_at hi]
    refine el_lc (vs := [2]) _ _ hS (by rw [gaps_len]; omega) (fun i _ => rfl) (fun i H2 e2 hi => et_test ?_) (fun i H2 e2 hi _ => ?_)
    · rw [hg i hi]
      exact ev_is (ev_ne (ev_var rfl) ev_c rfl) (congrArg V.bl (bnez _))
    · rw [hg i hi]
      exact ev_var rfl
end
end K9
namespace K9
open PySem PySem.Spec PyProof.Rows L2 Evl
local macro_rules | `(tactic| walk_at "ev") => `(tactic| first
  | with_reducible exact ev_c
  | ((with_reducible refine' ev_var ?k0); (case k0 => exact rfl))
  | with_reducible assumption
  | ((with_reducible refine' ev_lenS ?k0 ?k1); (case k0 => walk_at "ev"); (case k1 => walk_at "sz"))
  | ((with_reducible refine' ev_I0 ?k0 ?k1); (case k0 => walk_at "ev"); (case k1 => walk_at "ev"))
  | ((with_reducible refine' ev_I ?k0 ?k1 ?k2); (case k0 => walk_at "ev"); (case k1 => walk_at "ev"); (case k2 => walk_at "sz"))
  | ((with_reducible refine' ev_eq ?k0 ?k1 ?k2); (case k0 => walk_at "ev"); (case k1 => walk_at "ev"); (case k2 => walk_at "sz"))
  | ((with_reducible refine' ev_ne ?k0 ?k1 ?k2); (case k0 => walk_at "ev"); (case k1 => walk_at "ev"); (case k2 => walk_at "sz"))
  | ((with_reducible refine' ev_slTo ?k0 ?k1 ?k2 ?k3); (case k0 => walk_at "ev"); (case k1 => walk_at "ev"); (case k2 => walk_at "sz"); (case k3 => walk_at "sz"))
  | ((with_reducible refine' ev_slFrom ?k0 ?k1 ?k2 ?k3); (case k0 => walk_at "ev"); (case k1 => walk_at "ev"); (case k2 => walk_at "sz"); (case k3 => walk_at "sz"))
  | ((with_reducible refine' ev_slMid ?k0 ?k1 ?k2 ?k3 ?k4 ?k5); (case k0 => walk_at "ev"); (case k1 => walk_at "ev"); (case k2 => walk_at "ev"); (case k3 => walk_at "sz"); (case k4 => walk_at "sz"); (case k5 => walk_at "sz"))
  | ((with_reducible refine' ev_addS ?k0 ?k1 ?k2); (case k0 => walk_at "ev"); (case k1 => walk_at "ev"); (case k2 => walk_at "sz"))
  | ((with_reducible refine' ev_cl ?k0 ?k1); (case k0 => walk_at "ea"); (case k1 => walk_at "sp"))
  | ((with_reducible refine' ev_notV ?k0); (case k0 => walk_at "ev"))
  | ((with_reducible refine' ev_un ?k0 ru_neg); (case k0 => walk_at "ev")))
local macro_rules | `(tactic| walk_at "ea") => `(tactic| first
  | with_reducible exact ea_nil
  | ((with_reducible refine' ea_cons ?k0 ?k1); (case k0 => walk_at "ev"); (case k1 => walk_at "ea")))
local macro_rules | `(tactic| walk_at "et") => `(tactic| first
  | with_reducible assumption
  | ((with_reducible refine' et_test ?k0); (case k0 => walk_at "ev"))
  | ((with_reducible refine' et_B ?k0); (case k0 => walk_at "ev"))
  | ((with_reducible refine' et_not ?k0); (case k0 => walk_at "et")))
local macro_rules | `(tactic| walk_at "sz") => `(tactic| first
  | rfl
  | omega
  | (simp only [List.length_take, List.length_drop, List.length_append]; omega)
  | (constructor <;> omega)
  | assumption)
local macro_rules | `(tactic| walk_at "sp") => `(tactic| first | assumption)

theorem set_last {α : Type} (xs : List α) (x y : α) : (xs ++ [x]).set xs.length y = xs ++ [y] := by
  rw [List.set_append_right _ _ (Nat.le_refl _), Nat.sub_self]; rfl
section
variable {K : PySem.W.Frag} {σ : L2.St} {H : Hp} {te ta tl : TE} {D : Ends}
theorem s_augLast {p : Addr} {xs : List V} {k : Int} {i : Nat} (hs : σ[i]? = some (some (.ref p))) (hp : H p = some (.lst (xs ++ [.int k]))) (q : D.nx σ (upd H p (.lst (xs ++ [.int (k + 1)])))) :
    tAugS (tVar i) (tUn (rU fun i => .int (-i)) (tC (.int 1))) (tC (.int 1)) (rGetNeg K) (ipI fun i j => i + j) rSetL D σ H := by
  have hl : ((xs ++ [V.int k]).length : Int) = (xs.length : Int) + 1 := by rw [List.length_append]; rfl
  refine ⟨.ref p, hs, 1, rfl, ?_⟩
  refine ⟨p, xs ++ [.int k], -1, .int k, rfl, rfl, by decide, by rw [hl]; omega, SqL.of hp, ?_, ?_⟩
  · rw [hl, show ((-1 : Int) + ((xs.length : Int) + 1)).toNat = xs.length by omega]
    simp
  · refine ⟨k, 1, rfl, rfl, ?_⟩
    refine ⟨p, xs ++ [.int k], -1, xs.length, rfl, rfl, hp, ?_, ?_⟩
    · unfold ixN
      rw [if_neg (by decide), hl, if_pos (by omega)]
      congr 1
      omega
    · rw [set_last]; exact q
theorem str_join (parts : List Tx) : Txt.join ("" : Str) (parts.map fun t => (⟨t.toArray⟩ : Str)) = ⟨parts.flatten.toArray⟩ := by
  rw [TL.join_eq]
  induction parts with
  | nil => rfl
  | cons a r ih =>
    cases r with
    | nil => show (⟨a.toArray⟩ : Str) = ⟨(a ++ []).toArray⟩; rw [List.append_nil]
    | cons b r =>
      show (⟨a.toArray⟩ : Str) ++ (⟨[].toArray⟩ : Str) ++ Str.join "" ((b :: r).map fun t => (⟨t.toArray⟩ : Str)) = ⟨(a ++ (b :: r).flatten).toArray⟩
      rw [ih, str_app, str_app, List.append_nil]
theorem sum_len (parts : List Tx) : ((parts.map fun t => (⟨t.toArray⟩ : Str)).map (·.length)).sum = parts.flatten.length := by
  induction parts with
  | nil => rfl
  | cons a r ih => rw [List.map_cons, List.map_cons, List.sum_cons, ih, tv_len, List.flatten_cons, List.length_append]
theorem ev_joinE {parts : List Tx} (h : EvL te σ H (parts.map tv)) (hz : parts.flatten.length ≤ 100000) :
    Ev (tM1 (fun x xs H Q => ∃ a p, ∃ ys : List Str, x = .str a ∧ xs = [.ref p] ∧ (SqL K H p (ys.map V.str) ∨ SqT K H p (ys.map V.str)) ∧
      (ys.map (·.length)).sum + ys.length * a.length ≤ 16777216 ∧ Q (.str (Txt.join a ys)) H) (tC (.str "")) te) σ H (tv parts.flatten) := fun H1 e Q q =>
  ⟨⟨_, rfl⟩, h H1 e _ fun p H2 hp e2 hx => ⟨"", p, parts.map fun t => ⟨t.toArray⟩, rfl, rfl, .inl (by rw [List.map_map]; exact SqL.of hx), by
    rw [sum_len]
    have : ("" : Str).length = 0 := rfl
    rw [this]; omega, by rw [str_join]; exact q H2 e2⟩⟩
theorem el_nil : EvL (tLst tNil) σ H [] := el_lst ea_nil (by decide)
theorem el_one {v : V} (h : Ev te σ H v) : EvL (tLst (tCons te tNil)) σ H [v] := el_lst (ea_cons h ea_nil) (by decide : 1 ≤ 100000)
end
section
variable {K : PySem.W.Frag} {σ : L2.St} {H : Hp} {te ta tl : TE} {D : Ends}
theorem el_rep {v : V} {k : Nat} (h : EvL te σ H [v]) (h2 : ∀ H1, Ex H H1 → Ev ta σ H1 (iv k)) (hk : k ≤ 100000) : EvL (tOp rRep te ta) σ H (List.replicate k v) := fun H1 e Q q =>
  h H1 e _ fun p H2 hp e2 hx => h2 H1 e H2 e2 _ fun H3 e3 => ⟨p, (k : Int), [v], rfl, rfl, e3 _ _ hx, by omega, by omega, by
    rw [Int.toNat_natCast]; exact sz60 (by simp; omega), fun l hl => by
      have er : (List.replicate (k : Int).toNat [v]).flatten = List.replicate k v := by
        rw [Int.toNat_natCast]
        simp
      rw [er]
      exact q l _ (fresh_back (e2.trans e3) hl) ((e2.trans e3).trans (Ex.new hl)) upd_same⟩
theorem s_extend {l : Addr} {xs ys : List V} (hl : H l = some (.lst xs)) (ha : Ev ta σ H (.ref l)) (h : EvL te σ H ys) (hz : xs.length + ys.length ≤ 100000) (k : ∀ H1, Ex H H1 → D.nx σ (upd H1 l (.lst (xs ++ ys)))) :
    tDrop (tBM K "list" rExtend ta (tCons te tNil)) D σ H := ha H (Ex.refl H) _ fun H1 e1 =>
  ⟨Or.inl ⟨rfl, xs, SqL.of (e1 l _ hl)⟩, h H1 e1 _ fun p H2 hp e2 h2 => ⟨l, p, xs, ys, rfl, rfl, e2 l _ (e1 l _ hl), h2, sz60 (by omega), k H2 (e1.trans e2)⟩⟩
theorem q_extend {tz : TS} {l : Addr} {xs ys : List V} (hl : H l = some (.lst xs)) (ha : Ev ta σ H (.ref l)) (h : EvL te σ H ys) (hz : xs.length + ys.length ≤ 100000) (k : ∀ H1, Ex H H1 → tz D σ (upd H1 l (.lst (xs ++ ys)))) :
    tSeq (tDrop (tBM K "list" rExtend ta (tCons te tNil))) tz D σ H := s_extend (D := { D with nx := tz D }) hl ha h hz k
end
theorem rgl_cases (xs : List Nat) (hne : xs ≠ []) (g : Nat) : ∃ ys z, xs = ys ++ [z] ∧ rgl xs g = if g = 0 then ys ++ [z + 1] else xs ++ [0] := by
  refine ⟨xs.dropLast, xs.getLast hne, (List.dropLast_concat_getLast hne).symm, ?_⟩
  unfold rgl
  rw [List.getLastD_eq_getLast?, List.getLast?_eq_getLast hne]
  rfl
section
variable {P : Program} {w : World} {K : PySem.W.Frag} {mg : Str → Option Value} {base : Heap}
def spRun : Sp := fun vs H Q _ => ∃ (t : Tx) (n : Nat), vs = [tv t, iv n] ∧ Ok t ∧ t.length ≤ 1000 ∧ RetL ((rns n t).map iv) H Q
theorem sl_run {H : Hp} {t : Tx} {n : Nat} (ho : Ok t) (hz : t.length ≤ 1000) : SpL spRun [tv t, iv n] H ((rns n t).map iv) := fun H1 e Q q E => ⟨t, n, rfl, ho, hz, q⟩
theorem ok_runs_of (T : Topf mg) (F : FnP K mg "runs_of" s_runs_of) (C_gaps_of : Cal P w K mg base CX0 1 "gaps_of" ["text", "size"] spGap) : Cal P w K mg base CX0 2 "runs_of" ["text", "size"] spRun := by
  refine cal_mk F sc_runs_of (fun vs H Q E h => ?_) (fun _ _ _ _ _ _ us hl => match us, hl with | [_, _], _ => rfl) (fun f cdv A outer s H vs Q E hr h => ?_)
  · obtain ⟨t, n, rfl, _⟩ := h; rfl
  · obtain ⟨t, n, rfl, ho, hz, q⟩ := h
    refine ⟨_, (pss_cons (ps_if (pt_cmpR op_lt (pe_callB call_len_str (by rfl) T.b_len (by decide +kernel) (pa_cons (pv 0) pa_nil)) (pv 1) (nomark _)) (pss_one (ps_ret (pe_lst pa_nil))) pss_nil)
      (pss_cons (ps_set (i := 2) sc_runs_of.nd rfl (Or.inl rfl) (pe_lst (pa_cons pe_int pa_nil)))
      (pss_cons (ps_for PassesOwn.never rfl (k_pil (K := K) rfl (pe_c C_gaps_of (hr.mono (by decide)) rfl (pa_cons (pv 0) (pa_cons (pv 1) pa_nil)))) (pg_name (i := 3) sc_runs_of.nd rfl (Or.inl rfl))
        (pss_one (ps_if (pt_cmpR op_eq (pv 3) pe_int (nomark _)) (pss_one (ps_augS (pv 2) (pe_un un_neg pe_int) (k_getL (K := K) rfl) pe_int ip_add set_list)) (pss_one (ps_expr (k_bm (K := K) rfl PySem.F.plainAttrs_list PySem.F.slot_list_append PySem.F.type_list_append mt_append (pv 2) (pa_cons pe_int pa_nil)))))))
      (pss_one (ps_ret (pv 2)))))), ?_⟩
    refine q_when (b := decide (t.length < n)) ?_ (fun hb H1 e1 => ?_) fun hb H1 e1 => ?_
    · refine et_is (et_B (b := decide ((t.length : Int) < (n : Int))) ?_) (by rw [decide_eq_decide]; omega)
      exact ev_I0 (ev_lenS (ev_var rfl) (by omega)) (ev_var rfl)
    · have e : rns n t = [] := by unfold rns; rw [if_pos (of_decide_eq_true hb)]
      rw [e] at q
      exact s_retL el_nil fun p H2 hp e2 hx => q p H2 (fresh_back e1 hp) (e1.trans e2) hx
    · have hlt : ¬ t.length < n := of_decide_eq_false hb
      have e : rns n t = rg (gaps n t) := by unfold rns; rw [if_neg hlt]
      refine q_asgL (el_one ev_c) fun p H2 hp e2 hx => ?_
      have hgl : ((gaps n t).map iv).length = (gaps n t).length := by simp
      have hS := srcA_NL (K := K) (j := 3) (f := p) hx (el_cl (σ := (start N_runs_of [tv t, iv n]).set 2 (some (.ref p))) (H := H2) (ta := tCons (tVar 0) (tCons (tVar 1) tNil)) (ea_cons (ev_var rfl) (ea_cons (ev_var rfl) ea_nil)) (sl_gap ho hz))
      rw [hgl] at hS
      refine q_for hS (fun i σ' H' => (∃ y, σ' = [some (tv t), some (iv n), some (.ref p), y]) ∧ H' p = some (.lst ((rg ((gaps n t).take i)).map iv))) (fun H3 e3 => ⟨⟨_, rfl⟩, e3 _ _ hx⟩) ?_ ?_
      · intro B i σ' H' H'' hi eB hB pv e4 e5
        obtain ⟨⟨y, rfl⟩, hp'⟩ := pv
        have hp'' := e5 _ _ hp'
        have hg : ((gaps n t).map iv).getD i .non = iv (gaps n t)[i] := by rw [getD_at (by rw [hgl]; exact hi), List.getElem_map]
        have et : (gaps n t).take (i + 1) = (gaps n t).take i ++ [(gaps n t)[i]] := List.take_succ_eq_append_getElem hi
        obtain ⟨ys, z, e6, e7⟩ := rgl_cases (rg ((gaps n t).take i)) (rg_ne _) (gaps n t)[i]
        have e8 : rg ((gaps n t).take (i + 1)) = rgl (rg ((gaps n t).take i)) (gaps n t)[i] := by rw [et, rg_snoc]
        have hlen : (rg ((gaps n t).take i)).length ≤ 1001 := by
          rw [rg_len]
          have : (sg ((gaps n t).take i)).length ≤ ((gaps n t).take i).length := List.length_filter_le _ _
          rw [List.length_take, gaps_len] at this
          omega
        rw [hg]
        refine s_if (b := decide ((gaps n t)[i] = 0)) (et_is (et_B (ev_eq (ev_var rfl) ev_c rfl)) ?_) (fun hb H3 e9 => ?_) (fun hb H3 e9 => ?_)
        · exact iv_dec _ 0
        · have h0 : (gaps n t)[i] = 0 := of_decide_eq_true hb
          rw [if_pos h0] at e7
          have h3 := e9 _ _ hp''
          rw [e6, List.map_append] at h3
          refine s_augLast (p := p) (xs := ys.map iv) (k := (z : Int)) rfl h3 ?_
          refine ⟨(((e4.trans e5).trans e9).mut hB), ⟨_, rfl⟩, ?_⟩
          rw [e8, e7, List.map_append]
          exact upd_same
        · have h0 : ¬ (gaps n t)[i] = 0 := of_decide_eq_false hb
          rw [if_neg h0] at e7
          refine s_app (e9 _ _ hp'') (ev_var rfl) ev_c (by rw [List.length_map]; omega) fun H4 e10 => ?_
          refine ⟨((((e4.trans e5).trans e9).trans e10).mut hB), ⟨_, rfl⟩, ?_⟩
          rw [e8, e7, List.map_append]
          exact upd_same
      · intro σ' H' eH pv
        obtain ⟨⟨y, rfl⟩, hp'⟩ := pv
        rw [List.take_length] at hp'
        rw [e] at q
        refine s_ret (v := .ref p) (ev_var rfl) fun H3 e3 => q p H3 (fresh_back e1 hp) ?_ (e3 _ _ hp')
        exact (drp_of (e1.trans e2) (fresh_back e1 hp)).trans (eH.trans e3)
theorem srcA_enum0 {ta : TA} {xs : List V} {a f : Addr} {j k : Nat} {σ : L2.St} {H0 H : Hp} (h : EvA ta σ H [.ref a]) (hx : SqL K H0 a xs) (e0 : Ex H0 H) (hf : H0 f = none) : SrcA f (iEnum K ta) (gTup K 2 (gCons (gName j) (gCons (gName k) gNil))) σ H xs.length (fun i σ => (σ.set j (some (iv i))).set k (some (xs.getD i .non))) := fun H1 e R kk =>
  h H1 e _ fun H2 e2 => ⟨a, xs, rfl, ex_l (e0.trans (e.trans e2)) hx, kk _ H2 e2 (runs_enum (ex_l (drp_of (e0.trans (e.trans e2)) hf) hx))⟩
theorem srcA_L0 {tl : TE} {xs : List V} {a f : Addr} {j : Nat} {σ : L2.St} {H0 H : Hp} (h : Ev tl σ H (.ref a)) (hx : SqL K H0 a xs) (e0 : Ex H0 H) (hf : H0 f = none) : SrcA f (iList K tl) (gName j) σ H xs.length (fun i σ => σ.set j (some (xs.getD i .non))) := fun H1 e R k =>
  h H1 e _ fun H2 e2 => ⟨a, rfl, ⟨xs, ex_l (e0.trans (e.trans e2)) hx⟩, k _ H2 e2 (runs_list (ex_l (drp_of (e0.trans (e.trans e2)) hf) hx))⟩
theorem srcA_T0 {tl : TE} {xs : List V} {a f : Addr} {j : Nat} {σ : L2.St} {H0 H : Hp} (h : Ev tl σ H (.ref a)) (hx : SqT K H0 a xs) (e0 : Ex H0 H) (hf : H0 f = none) : SrcA f (iTup K tl) (gName j) σ H xs.length (fun i σ => σ.set j (some (xs.getD i .non))) := fun H1 e R k =>
  h H1 e _ fun H2 e2 => ⟨a, rfl, ⟨xs, ex_t (e0.trans (e.trans e2)) hx⟩, k _ H2 e2 (runs_tup (ex_t (drp_of (e0.trans (e.trans e2)) hf) hx))⟩
theorem layP_le {S R : List Nat} : ∀ {i j : Nat}, i ≤ j → (layP S R i).length ≤ (layP S R j).length := by
  intro i j h
  induction j with
  | zero => rw [Nat.le_zero.mp h]; exact Nat.le_refl _
  | succ j ih =>
    by_cases hj : i ≤ j
    · rw [layP_succ, List.length_append]
      have := ih hj
      omega
    · rw [show i = j + 1 by omega]
      exact Nat.le_refl _
def spLay (K : PySem.W.Frag) : Sp := fun vs H Q _ => ∃ (a b : Addr) (S R : List Nat), vs = [.ref a, .ref b] ∧ SqL K H a (S.map iv) ∧ SqL K H b (R.map iv) ∧ (lay S R).length ≤ 20000 ∧ RetL ((lay S R).map iv) H Q
theorem ok_laid_out (T : Topf mg) (F : FnP K mg "laid_out" s_laid_out) : Cal P w K mg base CX0 1 "laid_out" ["own_steps", "own_runs"] (spLay K) := by
  refine cal_mk F sc_laid_out (fun vs H Q E h => ?_) (fun _ _ _ _ _ _ us hl => match us, hl with | [_, _], _ => rfl) (fun f cdv A outer s H vs Q E hr h => ?_)
  · obtain ⟨a, b, S, R, rfl, _⟩ := h; rfl
  · obtain ⟨a, b, S, R, rfl, ha, hb, hz, q⟩ := h
    refine ⟨_, (pss_cons (ps_set (i := 2) sc_laid_out.nd rfl (Or.inl rfl) (pe_lst pa_nil))
      (pss_cons (ps_for PassesOwn.never rfl (k_pienum (K := K) rfl rfl T.b_enumerate (pa_cons (pv 1) pa_nil)) (k_pgtup (K := K) (n := 2) rfl (by rfl) (pgs_cons (pg_name (i := 3) sc_laid_out.nd rfl (Or.inl rfl)) (pgs_cons (pg_name (i := 4) sc_laid_out.nd rfl (Or.inl rfl)) pgs_nil)))
        (pss_cons (ps_expr (k_bm (K := K) rfl PySem.F.plainAttrs_list PySem.F.slot_list_extend PySem.F.type_list_extend mt_extend (pv 2) (pa_cons (pe_op op_rep (pe_lst (pa_cons pe_int pa_nil)) (pv 4)) pa_nil)))
          (pss_one (ps_if (pt_cmpR op_lt (pv 3) (pe_callB (k_len (K := K) rfl) (by rfl) T.b_len (by decide +kernel) (pa_cons (pv 0) pa_nil)) (nomark _)) (pss_one (ps_expr (k_bm (K := K) rfl PySem.F.plainAttrs_list PySem.F.slot_list_append PySem.F.type_list_append mt_append (pv 2) (pa_cons (pe_ix (k_ixL (K := K) rfl) (pv 0) (pv 3) (fun _ _ => rfl)) pa_nil)))) pss_nil))))
      (pss_one (ps_ret (pv 2))))), ?_⟩
    refine q_asgL el_nil fun p H1 hp e1 hx => ?_
    have hrl : (R.map iv).length = R.length := by simp
    have hS := srcA_enum0 (K := K) (j := 3) (k := 4) (f := p) (ta := tCons (tVar 1) tNil) (σ := (start N_laid_out [.ref a, .ref b]).set 2 (some (.ref p))) (H := H1) (ea_cons (ev_var rfl) ea_nil) hb e1 hp
    rw [hrl] at hS
    refine q_for hS (fun i σ' H' => (∃ y z, σ' = [some (.ref a), some (.ref b), some (.ref p), y, z]) ∧ H' p = some (.lst ((layP S R i).map iv))) (fun H3 e3 => ⟨⟨_, _, rfl⟩, e3 _ _ hx⟩) ?_ ?_
    · intro B i σ' H' H'' hi eB hB pv e4 e5
      obtain ⟨⟨y, z, rfl⟩, hp'⟩ := pv
      have hg : (R.map iv).getD i .non = iv (R.getD i 0) := by rw [getD_at (by rw [hrl]; exact hi), List.getElem_map, getN_at hi]
      have eH : Ex H H'' := ((drp_of e1 hp).trans eB).trans (e4.trans e5)
      have hlen : (layP S R i).length + (layI S R i).length ≤ 20000 := by
        have e1 := layP_le (S := S) (R := R) (show i + 1 ≤ R.length by omega)
        rw [layP_all, layP_succ, List.length_append] at e1
        omega
      have hI : (layI S R i).length = R.getD i 0 + (if i < S.length then 1 else 0) := by
        unfold layI
        rw [List.length_append, List.length_replicate]
        by_cases h : i < S.length <;> simp [h]
      rw [hg]
      refine q_extend (ys := List.replicate (R.getD i 0) (iv 0)) (e5 _ _ hp') (ev_var rfl) (el_rep (el_one (v := iv 0) ev_c) (fun _ _ => ev_var rfl) (by omega)) (by rw [List.length_map, List.length_replicate]; omega) fun H3 e6 => ?_
      have hpa : upd H3 p (.lst ((layP S R i).map iv ++ List.replicate (R.getD i 0) (iv 0))) p = _ := upd_same
      have eB3 : Ex B (upd H3 p (.lst ((layP S R i).map iv ++ List.replicate (R.getD i 0) (iv 0)))) := ((e4.trans e5).trans e6).mut hB
      have hlen2 : ((layP S R i).map iv ++ List.replicate (R.getD i 0) (iv 0)).length < 100000 := by rw [List.length_append, List.length_map, List.length_replicate]; omega
      have hHB : Ex H B := (drp_of e1 hp).trans eB
      refine s_when (b := decide (i < S.length)) (et_is (et_B (b := decide ((i : Int) < ((S.map iv).length : Int))) (ev_I0 (ev_var rfl) (ev_len (ev_var rfl) (ex_l (hHB.trans eB3) ha)))) ?_) (fun hb H4 e7 => ?_) (fun hb H4 e7 => ?_)
      · rw [decide_eq_decide, List.length_map]; omega
      · have hs : i < S.length := of_decide_eq_true hb
        refine s_app (v := iv (S.getD i 0)) (e7 _ _ hpa) (ev_var rfl) (ev_op (ev_var rfl) (ev_var rfl) (rv_ixL (ex_l (hHB.trans (eB3.trans e7)) ha) (atI_nat ?_))) hlen2 fun H5 e8 => ?_
        · rw [List.getElem?_map, List.getElem?_eq_getElem hs, getN_at hs]; rfl
        · refine ⟨((eB3.trans e7).trans e8).mut hB, ⟨_, _, rfl⟩, ?_⟩
          rw [layP_succ]
          unfold layI
          rw [if_pos hs, List.map_append, List.map_append, List.map_replicate, ← List.append_assoc]
          exact upd_same
      · have hs : ¬ i < S.length := of_decide_eq_false hb
        refine ⟨eB3.trans e7, ⟨_, _, rfl⟩, ?_⟩
        rw [layP_succ]
        unfold layI
        rw [if_neg hs, List.append_nil, List.map_append, List.map_replicate]
        exact e7 _ _ hpa
    · intro σ' H' eH pv
      obtain ⟨⟨y, z, rfl⟩, hp'⟩ := pv
      rw [layP_all] at hp'
      refine s_ret (v := .ref p) (ev_var rfl) fun H3 e3 => q p H3 hp ?_ (e3 _ _ hp')
      exact (drp_of e1 hp).trans (eH.trans e3)
theorem flat1 : ∀ t : Tx, (t.map fun c => [c]).flatten = t
  | [] => rfl
  | c :: t => by rw [List.map_cons, List.flatten_cons, flat1 t]; rfl
theorem at_abc {c : Nat} (h : Let c) : atI ("abcdef" : Str).cps.toList ((c - 97 : Nat) : Int) = some c := by
  unfold Let at h
  have : c = 97 ∨ c = 98 ∨ c = 99 ∨ c = 100 ∨ c = 101 ∨ c = 102 := by omega
  rcases this with rfl | rfl | rfl | rfl | rfl | rfl <;> decide +kernel
theorem dig_snoc (t : Tx) (c : Nat) : dig (t ++ [c]) = dig t ++ [iv (c - 97)] := by unfold dig; rw [List.map_append]; rfl
theorem dig_len (t : Tx) : (dig t).length = t.length := by unfold dig; simp
theorem dig_at {t : Tx} {i : Nat} (h : i < t.length) : (dig t)[i]? = some (iv (t[i] - 97)) := by unfold dig; rw [List.getElem?_map, List.getElem?_eq_getElem h]; rfl
theorem bld_ok {w : Nat} (hw : 1 ≤ w) {own : Tx} {gs : List Nat} (hl : w ≤ own.length) (ho : Ok own) (hg : ∀ g ∈ gs, g < 6) : Ok (bld w own gs) := (bld_facts hw gs own hl ho hg).2.2.1
def spBlt (K : PySem.W.Frag) : Sp := fun vs H Q _ => ∃ (h : Tx) (a b : Addr) (S R : List Nat), vs = [tv h, .ref a, .ref b] ∧ Ok h ∧ 1 ≤ h.length ∧ SqL K H a (S.map iv) ∧ SqL K H b (R.map iv) ∧ (∀ s ∈ S, s < 6) ∧ h.length + (lay S R).length ≤ 1000 ∧ RetV (tv (tx h S R)) H Q
theorem ok_built_of (T : Topf mg) (F : FnP K mg "built_of" s_built_of) (C_laid_out : Cal P w K mg base CX0 1 "laid_out" ["own_steps", "own_runs"] (spLay K)) : Cal P w K mg base CX0 2 "built_of" ["front", "own_steps", "own_runs"] (spBlt K) := by
  refine cal_mk F sc_built_of (fun vs H Q E h => ?_) (fun _ _ _ _ _ _ us hl => match us, hl with | [_, _, _], _ => rfl) (fun f cdv A outer s H vs Q E hr h => ?_)
  · obtain ⟨t, a, b, S, R, rfl, _⟩ := h; rfl
  · obtain ⟨t, a, b, S, R, rfl, ho, h1, ha, hb, hs, hz, q⟩ := h
    refine ⟨_, (pss_cons (ps_setLc (i := 3) (own := [("sign", 6)]) rfl sc_built_of.nd rfl rfl (sw_true rfl rfl rfl (by decide +kernel)) (pi_str (pv 0)) (blkOk_by (own := [("sign", 6)]) (N := N_built_of) (sc := defScope s_built_of) (by decide +kernel)) (fun _ _ _ _ _ => (pg_name (i := 6) sc_built_of.nd rfl (Or.inl rfl))) (fun _ _ _ _ _ => pts_nil) (fun _ _ _ _ _ => (k_bm (K := K) rfl PySem.F.plainAttrs_str PySem.F.slot_str_index PySem.F.type_str_index mt_sindex (pe_gc rfl T.c_LETTERS) (pa_cons (pv 6) pa_nil))))
      (pss_cons (ps_set (i := 4) sc_built_of.nd rfl (Or.inl rfl) (pe_callB (k_len (K := K) rfl) (by rfl) T.b_len (by decide +kernel) (pa_cons (pv 3) pa_nil)))
      (pss_cons (ps_for PassesOwn.never rfl (k_pil (K := K) rfl (pe_c C_laid_out (hr.mono (by decide)) rfl (pa_cons (pv 1) (pa_cons (pv 2) pa_nil)))) (pg_name (i := 5) sc_built_of.nd rfl (Or.inl rfl))
        (pss_one (ps_expr (k_bm (K := K) rfl PySem.F.plainAttrs_list PySem.F.slot_list_append PySem.F.type_list_append mt_append (pv 3) (pa_cons (pe_op op_mod (pe_op op_add (pe_ix (k_ixL (K := K) rfl) (pv 3) (pe_op op_sub (pe_callB (k_len (K := K) rfl) (by rfl) T.b_len (by decide +kernel) (pa_cons (pv 3) pa_nil)) (pv 4)) (fun _ _ => rfl)) (pv 5)) (pe_gc rfl T.c_MANY_LETTERS)) pa_nil)))))
      (pss_one (ps_ret (pe_join pe_str (pe_lc (own := [("number", 7)]) rfl sc_built_of.nd (k_pil (K := K) rfl (pv 3)) (blkOk_by (own := [("number", 7)]) (N := N_built_of) (sc := defScope s_built_of) (by decide +kernel)) (fun _ _ _ _ _ => (pg_name (i := 7) sc_built_of.nd rfl (Or.inl rfl))) (fun _ _ _ _ _ => pts_nil) (fun _ _ _ _ _ => (pe_ix ix_str (pe_gc rfl T.c_LETTERS) (pv 7) (fun _ _ => rfl)))))))))), ?_⟩
    have hG : ∀ g ∈ lay S R, g < 6 := lay_mem S R hs
    refine q_asgL (xs := dig t) (el_dig ho (by omega) (ev_var rfl) (fun x => rfl) (fun x => rfl)) fun p H1 hp e1 hx => ?_
    refine q_asg (v := iv t.length) (ev_is (ev_len (ev_var (v := .ref p) rfl) (SqL.of hx)) (by rw [dig_len])) fun H2 e2 => ?_
    have hx2 := e2 _ _ hx
    have hll : ((lay S R).map iv).length = (lay S R).length := by simp
    have hS := srcA_NL (K := K) (j := 5) (f := p) hx2 (el_cl (σ := ((start N_built_of [tv t, .ref a, .ref b]).set 3 (some (.ref p))).set 4 (some (iv t.length))) (H := H2) (ta := tCons (tVar 1) (tCons (tVar 2) tNil)) (ea_cons (ev_var rfl) (ea_cons (ev_var rfl) ea_nil))
      (sp := spLay K) (xs := (lay S R).map iv) (fun H3 e3 Q3 q3 E3 => ⟨a, b, S, R, rfl, ex_l (e1.trans (e2.trans e3)) ha, ex_l (e1.trans (e2.trans e3)) hb, by omega, q3⟩))
    rw [hll] at hS
    refine q_for hS (fun i σ' H' => (∃ y, σ' = [some (tv t), some (.ref a), some (.ref b), some (.ref p), some (iv t.length), y, none, none]) ∧ H' p = some (.lst (dig (bld t.length t ((lay S R).take i))))) (fun H3 e3 => ⟨⟨_, rfl⟩, e3 _ _ hx2⟩) ?_ ?_
    · intro B i σ' H' H'' hi eB hB pv e4 e5
      obtain ⟨⟨y, rfl⟩, hp'⟩ := pv
      have hp'' := e5 _ _ hp'
      have hg : ((lay S R).map iv).getD i .non = iv (lay S R)[i] := by rw [getD_at (by rw [hll]; exact hi), List.getElem_map]
      have hbl : (bld t.length t ((lay S R).take i)).length = t.length + i := by rw [bld_len, List.length_take]; omega
      rw [hg]
      have hi' : i < (bld t.length t ((lay S R).take i)).length := by omega
      have hL : Ok (bld t.length t ((lay S R).take i)) := bld_ok h1 (Nat.le_refl _) ho fun g hg => hG g (List.mem_of_mem_take hg)
      refine s_app (v := iv (nx (bld t.length t ((lay S R).take i))[i] (lay S R)[i] - 97)) hp'' (ev_var rfl) ?_ (by rw [dig_len]; omega) fun H3 e6 => ?_
      · refine ev_is (ev_I (i := (((bld t.length t ((lay S R).take i))[i] - 97 : Nat) : Int) + ((lay S R)[i] : Nat)) (j := 6) (ev_I0 (ev_op (x := .ref p) (y := iv i) (z := iv ((bld t.length t ((lay S R).take i))[i] - 97)) (ev_var rfl) (ev_is (ev_I0 (ev_len (ev_var (v := .ref p) rfl) (SqL.of hp'')) (ev_var rfl)) ?_) (rv_ixL (SqL.of hp'') (atI_nat (dig_at hi')))) (ev_var rfl)) ev_c (by decide)) ?_
        · rw [dig_len, hbl]; congr 1; omega
        · have := hL.get hi'
          unfold Let at this
          unfold nx
          congr 1
          omega
      · refine ⟨((e4.trans e5).trans e6).mut hB, ⟨_, rfl⟩, ?_⟩
        rw [List.take_succ_eq_append_getElem hi, bld_snoc, dig_snoc]
        have : (bld t.length t ((lay S R).take i)).length - t.length = i := by omega
        rw [this, getN_at hi']
        exact upd_same
    · intro σ' H' eH pv
      obtain ⟨⟨y, rfl⟩, hp'⟩ := pv
      rw [List.take_length] at hp'
      have hU : tx t S R = bld t.length t (lay S R) := rfl
      have hlen : (tx t S R).length = t.length + (lay S R).length := by rw [hU, bld_len]
      have hok : Ok (tx t S R) := bld_ok h1 (Nat.le_refl _) ho hG
      rw [← hU] at hp'
      have hD := src_L (K := K) (j := 7) (σ := [some (tv t), some (.ref a), some (.ref b), some (.ref p), some (iv t.length), y, none, none]) (H := H') (tl := tVar 3) (ev_var (v := .ref p) rfl) (SqL.of hp')
      rw [dig_len] at hD
      have eg : given (tx t S R).length (fun _ => true) (fun i => tv [(tx t S R).getD i 0]) = ((tx t S R).map fun c => [c]).map tv := by
        rw [given_all, List.map_map]
        exact range_map_of rfl (fun i hi => by rw [getN_at hi]; rfl)
      have hJ := ev_joinE (K := K) (σ := [some (tv t), some (.ref a), some (.ref b), some (.ref p), some (iv t.length), y, none, none]) (H := H') (parts := (tx t S R).map fun c => [c]) (te := tLc (iList K (tVar 3)) (gName 7) tYes (tOp rIxS (tC (.str "abcdef")) (tVar 7)) [7]) (by
        rw [← eg]
        refine el_lc (vs := [7]) (fun _ => true) _ hD (by omega) (fun i _ => rfl) (fun i H3 _ _ H4 _ Q q => q H4 (Ex.refl H4)) (fun i H3 e3 hi _ => ?_)
        rw [getN_at hi, getD_at (by rw [dig_len]; exact hi)]
        have e9 : (dig (tx t S R))[i]'(by rw [dig_len]; exact hi) = iv ((tx t S R)[i] - 97) := by unfold dig; rw [List.getElem_map]
        rw [e9]
        exact ev_op ev_c (ev_var rfl) (rv_ixS (by decide) (at_abc (hok.get hi)))) (by rw [flat1]; omega)
      rw [flat1] at hJ
      refine s_ret hJ fun H3 e3 => q H3 ?_
      exact ((drp_of (e1.trans e2) hp).trans (eH.trans e3))
end
end K9
namespace K9
open PySem PySem.Spec PyProof.Rows L2 Evl
local macro_rules | `(tactic| walk_at "ev") => `(tactic| first
  | with_reducible exact ev_c
  | ((with_reducible refine' ev_var ?k0); (case k0 => exact rfl))
  | with_reducible assumption
  | ((with_reducible refine' ev_lenS ?k0 ?k1); (case k0 => walk_at "ev"); (case k1 => walk_at "sz"))
  | ((with_reducible refine' ev_I0 ?k0 ?k1); (case k0 => walk_at "ev"); (case k1 => walk_at "ev"))
  | ((with_reducible refine' ev_I ?k0 ?k1 ?k2); (case k0 => walk_at "ev"); (case k1 => walk_at "ev"); (case k2 => walk_at "sz"))
  | ((with_reducible refine' ev_eq ?k0 ?k1 ?k2); (case k0 => walk_at "ev"); (case k1 => walk_at "ev"); (case k2 => walk_at "sz"))
  | ((with_reducible refine' ev_ne ?k0 ?k1 ?k2); (case k0 => walk_at "ev"); (case k1 => walk_at "ev"); (case k2 => walk_at "sz"))
  | ((with_reducible refine' ev_slTo ?k0 ?k1 ?k2 ?k3); (case k0 => walk_at "ev"); (case k1 => walk_at "ev"); (case k2 => walk_at "sz"); (case k3 => walk_at "sz"))
  | ((with_reducible refine' ev_slFrom ?k0 ?k1 ?k2 ?k3); (case k0 => walk_at "ev"); (case k1 => walk_at "ev"); (case k2 => walk_at "sz"); (case k3 => walk_at "sz"))
  | ((with_reducible refine' ev_slMid ?k0 ?k1 ?k2 ?k3 ?k4 ?k5); (case k0 => walk_at "ev"); (case k1 => walk_at "ev"); (case k2 => walk_at "ev"); (case k3 => walk_at "sz"); (case k4 => walk_at "sz"); (case k5 => walk_at "sz"))
  | ((with_reducible refine' ev_addS ?k0 ?k1 ?k2); (case k0 => walk_at "ev"); (case k1 => walk_at "ev"); (case k2 => walk_at "sz"))
  | ((with_reducible refine' ev_cl ?k0 ?k1); (case k0 => walk_at "ea"); (case k1 => walk_at "sp"))
  | ((with_reducible refine' ev_notV ?k0); (case k0 => walk_at "ev"))
  | ((with_reducible refine' ev_un ?k0 ru_neg); (case k0 => walk_at "ev")))
local macro_rules | `(tactic| walk_at "ea") => `(tactic| first
  | with_reducible exact ea_nil
  | ((with_reducible refine' ea_cons ?k0 ?k1); (case k0 => walk_at "ev"); (case k1 => walk_at "ea")))
local macro_rules | `(tactic| walk_at "et") => `(tactic| first
  | with_reducible assumption
  | ((with_reducible refine' et_test ?k0); (case k0 => walk_at "ev"))
  | ((with_reducible refine' et_B ?k0); (case k0 => walk_at "ev"))
  | ((with_reducible refine' et_not ?k0); (case k0 => walk_at "et")))
local macro_rules | `(tactic| walk_at "sz") => `(tactic| first
  | rfl
  | omega
  | (simp only [List.length_take, List.length_drop, List.length_append]; omega)
  | (constructor <;> omega)
  | assumption)
local macro_rules | `(tactic| walk_at "sp") => `(tactic| first | assumption)

section
variable {K : PySem.W.Frag} {σ : L2.St} {H : Hp} {te ta tl tl2 : TE} {D : Ends}
theorem ev_cl3 {sp : Sp} {v z : V} {xs ys : List V} (h1 : Ev te σ H v) (h2 : EvL tl σ H xs) (h3 : EvL tl2 σ H ys)
    (hs : ∀ a b H2, Ex H H2 → H2 a = some (.lst xs) → H2 b = some (.lst ys) → SpV sp [v, .ref a, .ref b] H2 z) : Ev (tCl sp (tCons te (tCons tl (tCons tl2 tNil)))) σ H z := fun H1 e Q q =>
  h1 H1 e _ fun H2 e2 => h2 H2 (e.trans e2) _ fun a H3 ha e3 hx => h3 H3 ((e.trans e2).trans e3) _ fun b H4 hb e4 hy =>
    hs a b H4 (((e.trans e2).trans e3).trans e4) (e4 _ _ hx) hy H4 (Ex.refl H4) Q (fun H5 e5 => q H5 (((e2.trans e3).trans e4).trans e5)) E0
theorem el_slN {tlo thi : TO} {xs : List V} {lo hi : Option Int} (h : EvL tl σ H xs) (h1 : EvO tlo σ H lo) (h2 : EvO thi σ H hi) : EvL (tSl (rSlL K) tl tlo thi) σ H (cutV xs lo hi) := fun H1 e Q q =>
  h H1 e _ fun p H2 hp e2 hx => h1 H2 (e.trans e2) _ fun H3 e3 => h2 H3 ((e.trans e2).trans e3) _ fun H4 e4 => ⟨p, xs, rfl, SqL.of (e4 _ _ (e3 _ _ hx)), fun l hl => q l _ (fresh_back ((e2.trans e3).trans e4) hl) (((e2.trans e3).trans e4).trans (Ex.new hl)) upd_same⟩
/-- a comprehension over a fresh list of naturals -/
theorem el_mapN {l : List Nat} {j : Nat} {f : Nat → V} (h : EvL tl σ H (l.map iv)) (hz : l.length ≤ 40000) (hw : ∀ x, wipe ((wipe σ [j]).set j (some x)) [j] = wipe σ [j]) (he : ∀ x H1, Ex H H1 → x ∈ l → Ev te ((wipe σ [j]).set j (some (iv x))) H1 (f x)) :
    EvL (tLc (iList K tl) (gName j) tYes te [j]) σ H (l.map f) := by
  have hll : (l.map iv).length = l.length := by simp
  have hS := src_NL (K := K) (j := j) h
  rw [hll] at hS
  have e : given l.length (fun _ => true) (fun i => f (l.getD i 0)) = l.map f := by
    rw [given_all]
    exact range_map_of rfl (fun i hi => by rw [getN_at hi])
  rw [← e]
  refine el_lc (vs := [j]) (fun _ => true) _ hS hz (fun i _ => hw _) (fun i H2 _ _ H3 _ Q2 q2 => q2 H3 (Ex.refl H3)) (fun i H2 e2 hi _ => ?_)
  rw [getD_at (by rw [hll]; exact hi), List.getElem_map, getN_at hi]
  exact he _ H2 e2 (List.getElem_mem hi)
end
theorem sum_mod_le (n : Nat) : ∀ R : List Nat, (R.map (· % n)).sum ≤ R.sum
  | [] => Nat.le_refl _
  | r :: R => by
    rw [List.map_cons, List.sum_cons, List.sum_cons]
    have := sum_mod_le n R
    have := Nat.mod_le r n
    omega
theorem stp_lt {n : Nat} {t : Tx} : ∀ s ∈ stp n t, s < 6 := fun s hs => gaps_lt n t s (List.mem_filter.mp hs).1
theorem rns_le {n : Nat} {t : Tx} : (rns n t).length ≤ t.length + 1 := by
  by_cases h : t.length < n
  · unfold rns; rw [if_pos h]; exact Nat.zero_le _
  · have := (rns_lay h).1
    have := rns_sum h
    omega
theorem sum_cast : ∀ l : List Nat, (l.map fun (n : Nat) => (n : Int)).sum = ((l.sum : Nat) : Int)
  | [] => rfl
  | a :: l => by rw [List.map_cons, List.sum_cons, List.sum_cons, sum_cast l]; omega
section
variable {P : Program} {w : World} {K : PySem.W.Frag} {mg : Str → Option Value} {base : Heap}
def spRoot : Sp := fun vs H Q _ => ∃ (t : Tx) (n : Nat), vs = [tv t, iv n] ∧ Ok t ∧ t.length ≤ 1000 ∧ 1 ≤ n ∧ n ≤ 6 ∧ RetV (tv (rootM n t)) H Q
theorem sv_root {H : Hp} {t : Tx} {n : Nat} (ho : Ok t) (hz : t.length ≤ 1000) (h1 : 1 ≤ n) (h6 : n ≤ 6) : SpV spRoot [tv t, iv n] H (tv (rootM n t)) := fun H1 e Q q E => ⟨t, n, rfl, ho, hz, h1, h6, q⟩
theorem et_ltS {te tb : TE} {σ : L2.St} {H : Hp} {t : Tx} {n : Nat} (h : Ev te σ H (tv t)) (h2 : Ev tb σ H (iv n)) (hz : t.length ≤ 1000) : EvT (tTest (tOp (rI0 fun i j => .bl (decide (i < j))) (tCB (fun xs H Q => ∃ z, xs = [.str z] ∧ z.length ≤ sizeLine ∧ Q (.int z.length) H) (tCons te tNil)) tb)) σ H (decide (t.length < n)) :=
  et_is (et_B (b := decide ((t.length : Int) < (n : Int))) (ev_I0 (ev_lenS h (by omega)) h2)) (by rw [decide_eq_decide]; omega)
theorem ok_root_of (T : Topf mg) (F : FnP K mg "root_of" s_root_of) (C_steps_of : Cal P w K mg base CX0 2 "steps_of" ["text", "size"] spStp) (C_runs_of : Cal P w K mg base CX0 2 "runs_of" ["text", "size"] spRun) (C_built_of : Cal P w K mg base CX0 2 "built_of" ["front", "own_steps", "own_runs"] (spBlt K)) : Cal P w K mg base CX0 3 "root_of" ["text", "size"] spRoot := by
  refine cal_mk F sc_root_of (fun vs H Q E h => ?_) (fun _ _ _ _ _ _ us hl => match us, hl with | [_, _], _ => rfl) (fun f cdv A outer s H vs Q E hr h => ?_)
  · obtain ⟨t, n, rfl, _⟩ := h; rfl
  · obtain ⟨t, n, rfl, ho, hz, h1, h6, q⟩ := h
    refine ⟨_, (pss_cons (ps_if (pt_cmpR op_lt (pe_callB call_len_str (by rfl) T.b_len (by decide +kernel) (pa_cons (pv 0) pa_nil)) (pv 1) (nomark _)) (pss_one (ps_ret (pv 0))) pss_nil)
      (pss_one (ps_ret (pe_c C_built_of (hr.mono (by decide)) rfl (pa_cons (pe_slice sl_str (pv 0) po_none (po_some (pv 1))) (pa_cons (pe_c C_steps_of (hr.mono (by decide)) rfl (pa_cons (pv 0) (pa_cons (pv 1) pa_nil))) (pa_cons (pe_lc (own := [("many", 2)]) rfl sc_root_of.nd (k_pil (K := K) rfl (pe_c C_runs_of (hr.mono (by decide)) rfl (pa_cons (pv 0) (pa_cons (pv 1) pa_nil)))) (blkOk_by (own := [("many", 2)]) (N := N_root_of) (sc := defScope s_root_of) (by decide +kernel)) (fun _ _ _ _ _ => (pg_name (i := 2) sc_root_of.nd rfl (Or.inl rfl))) (fun _ _ _ _ _ => pts_nil) (fun _ _ _ _ _ => (pe_op op_mod (pv 2) (pv 1)))) pa_nil))))))), ?_⟩
    refine q_when (et_ltS (ev_var rfl) (ev_var rfl) hz) (fun hb H1 e1 => ?_) fun hb H1 e1 => ?_
    · have e : rootM n t = t := by unfold rootM; rw [if_pos (of_decide_eq_true hb)]
      rw [e] at q
      exact s_ret (ev_var rfl) fun H2 e2 => q H2 (e1.trans e2)
    · have hlt : ¬ t.length < n := of_decide_eq_false hb
      have e : rootM n t = tx (t.take n) (stp n t) ((rns n t).map (· % n)) := by unfold rootM; rw [if_neg hlt]
      rw [e] at q
      have hs := rns_sum hlt
      refine s_ret ?_ fun H2 e2 => q H2 (e1.trans e2)
      refine ev_cl3 (xs := (stp n t).map iv) (ys := ((rns n t).map (· % n)).map iv) (v := tv (t.take n)) ?_ (el_cl (ea_cons (ev_var rfl) (ea_cons (ev_var rfl) ea_nil)) (sl_stp ho hz)) ?_ ?_
      · have := ev_slTo (te := tVar 0) (tb := tVar 1) (σ := start N_root_of [tv t, iv n]) (H := H1) (t := t) (i := (n : Int)) (ev_var rfl) (ev_var rfl) (by omega) (by omega)
        rw [Int.toNat_natCast] at this
        exact this
      · rw [List.map_map]
        refine el_mapN (f := iv ∘ (· % n)) (el_cl (ea_cons (ev_var rfl) (ea_cons (ev_var rfl) ea_nil)) (sl_run ho hz)) (by have := rns_le (n := n) (t := t); omega) (fun x => rfl) fun x H2 e2 hx => ?_
        refine ev_is (ev_I (i := (x : Int)) (j := (n : Int)) (ev_var rfl) (ev_var rfl) (by omega)) ?_
        show V.int ((x : Int) % (n : Int)) = V.int ((x % n : Nat) : Int)
        congr 1
      · intro a b H2 e2 ha hb2 H3 e3 Q3 q3 E3
        refine ⟨t.take n, a, b, stp n t, (rns n t).map (· % n), rfl, ho.take n, ?_, SqL.of (e3 _ _ ha), SqL.of (e3 _ _ hb2), stp_lt, ?_, q3⟩
        · rw [List.length_take]; omega
        · rw [lay_len _ _ (by rw [List.length_map]; exact (rns_lay hlt).1), List.length_take]
          have := sum_mod_le n (rns n t)
          omega
def spFp : Sp := fun vs H Q _ => ∃ (t : Tx) (n i : Nat), vs = [tv t, iv n, iv i] ∧ Ok t ∧ t.length ≤ 1000 ∧ RetV (iv (fplM n t i)) H Q
theorem sv_fp {H : Hp} {t : Tx} {n i : Nat} (ho : Ok t) (hz : t.length ≤ 1000) : SpV spFp [tv t, iv n, iv i] H (iv (fplM n t i)) := fun H1 e Q q E => ⟨t, n, i, rfl, ho, hz, q⟩
theorem ok_first_place (T : Topf mg) (F : FnP K mg "first_place" s_first_place) (C_runs_of : Cal P w K mg base CX0 2 "runs_of" ["text", "size"] spRun) : Cal P w K mg base CX0 3 "first_place" ["text", "size", "number"] spFp := by
  refine cal_mk F sc_first_place (fun vs H Q E h => ?_) (fun _ _ _ _ _ _ us hl => match us, hl with | [_, _, _], _ => rfl) (fun f cdv A outer s H vs Q E hr h => ?_)
  · obtain ⟨t, n, i, rfl, _⟩ := h; rfl
  · obtain ⟨t, n, i, rfl, ho, hz, q⟩ := h
    refine ⟨_, (pss_one (ps_ret (pe_op op_add (pe_callB (k_sum (K := K) rfl rfl) (by rfl) T.b_sum (by decide +kernel) (pa_cons (pe_slice (k_slL (K := K) rfl) (pe_c C_runs_of (hr.mono (by decide)) rfl (pa_cons (pv 0) (pa_cons (pv 1) pa_nil))) po_none (po_some (pv 2))) pa_nil)) (pv 2)))), ?_⟩
    refine s_ret (v := iv (fplM n t i)) ?_ q
    refine ev_is (ev_I0 (i := ((((rns n t).take i).sum : Nat) : Int)) (ev_is (ev_sumL (ns := ((rns n t).take i).map fun (n : Nat) => (n : Int)) ?_) (by rw [sum_cast])) (ev_var rfl)) ?_
    · have := el_slN (K := K) (σ := start N_first_place [tv t, iv n, iv i]) (H := H) (el_cl (ta := tCons (tVar 0) (tCons (tVar 1) tNil)) (ea_cons (ev_var rfl) (ea_cons (ev_var rfl) ea_nil)) (sl_run ho hz)) eo_none (eo_some (te := tVar 2) (i := (i : Int)) (ev_var rfl))
      rw [cutV_to, ← List.map_take] at this
      rw [List.map_map]
      exact this
    · unfold fplM fpl
      congr 1
end
end K9
namespace K9
open PySem PySem.Spec PyProof.Rows L2 Evl
local macro_rules | `(tactic| walk_at "ev") => `(tactic| first
  | with_reducible exact ev_c
  | ((with_reducible refine' ev_var ?k0); (case k0 => exact rfl))
  | with_reducible assumption
  | ((with_reducible refine' ev_lenS ?k0 ?k1); (case k0 => walk_at "ev"); (case k1 => walk_at "sz"))
  | ((with_reducible refine' ev_I0 ?k0 ?k1); (case k0 => walk_at "ev"); (case k1 => walk_at "ev"))
  | ((with_reducible refine' ev_I ?k0 ?k1 ?k2); (case k0 => walk_at "ev"); (case k1 => walk_at "ev"); (case k2 => walk_at "sz"))
  | ((with_reducible refine' ev_eq ?k0 ?k1 ?k2); (case k0 => walk_at "ev"); (case k1 => walk_at "ev"); (case k2 => walk_at "sz"))
  | ((with_reducible refine' ev_ne ?k0 ?k1 ?k2); (case k0 => walk_at "ev"); (case k1 => walk_at "ev"); (case k2 => walk_at "sz"))
  | ((with_reducible refine' ev_slTo ?k0 ?k1 ?k2 ?k3); (case k0 => walk_at "ev"); (case k1 => walk_at "ev"); (case k2 => walk_at "sz"); (case k3 => walk_at "sz"))
  | ((with_reducible refine' ev_slFrom ?k0 ?k1 ?k2 ?k3); (case k0 => walk_at "ev"); (case k1 => walk_at "ev"); (case k2 => walk_at "sz"); (case k3 => walk_at "sz"))
  | ((with_reducible refine' ev_slMid ?k0 ?k1 ?k2 ?k3 ?k4 ?k5); (case k0 => walk_at "ev"); (case k1 => walk_at "ev"); (case k2 => walk_at "ev"); (case k3 => walk_at "sz"); (case k4 => walk_at "sz"); (case k5 => walk_at "sz"))
  | ((with_reducible refine' ev_addS ?k0 ?k1 ?k2); (case k0 => walk_at "ev"); (case k1 => walk_at "ev"); (case k2 => walk_at "sz"))
  | ((with_reducible refine' ev_cl ?k0 ?k1); (case k0 => walk_at "ea"); (case k1 => walk_at "sp"))
  | ((with_reducible refine' ev_notV ?k0); (case k0 => walk_at "ev"))
  | ((with_reducible refine' ev_un ?k0 ru_neg); (case k0 => walk_at "ev")))
local macro_rules | `(tactic| walk_at "ea") => `(tactic| first
  | with_reducible exact ea_nil
  | ((with_reducible refine' ea_cons ?k0 ?k1); (case k0 => walk_at "ev"); (case k1 => walk_at "ea")))
local macro_rules | `(tactic| walk_at "et") => `(tactic| first
  | with_reducible assumption
  | ((with_reducible refine' et_test ?k0); (case k0 => walk_at "ev"))
  | ((with_reducible refine' et_B ?k0); (case k0 => walk_at "ev"))
  | ((with_reducible refine' et_not ?k0); (case k0 => walk_at "et")))
local macro_rules | `(tactic| walk_at "sz") => `(tactic| first
  | rfl
  | omega
  | (simp only [List.length_take, List.length_drop, List.length_append]; omega)
  | (constructor <;> omega)
  | assumption)
local macro_rules | `(tactic| walk_at "sp") => `(tactic| first | assumption)

section
variable {K : PySem.W.Frag} {σ : L2.St} {H : Hp} {te ta tb tl tl2 : TE} {D : Ends}
theorem evp_LL {xs ys : List V} (h1 : EvL tl σ H xs) (h2 : EvL tl2 σ H ys) : EvP (tCons tl (tCons tl2 tNil)) σ H (fun vs H' => ∃ a b, vs = [.ref a, .ref b] ∧ SqL K H' a xs ∧ SqL K H' b ys) := fun H1 e Q q =>
  h1 H1 e _ fun p H2 hp e2 hx => h2 H2 (e.trans e2) _ fun p2 H3 hp2 e3 hy => q _ H3 (e2.trans e3) ⟨p, p2, rfl, SqL.of (e3 _ _ hx), SqL.of hy⟩
theorem evp_L {xs : List V} (h1 : EvL tl σ H xs) : EvP (tCons tl tNil) σ H (fun vs H' => ∃ a, vs = [.ref a] ∧ SqL K H' a xs) := fun H1 e Q q =>
  h1 H1 e _ fun p H2 hp e2 hx => q _ H2 e2 ⟨p, rfl, SqL.of hx⟩
theorem ev_opVL {r : R2} {x z : V} {xs : List V} (ha : Ev ta σ H x) (hb : EvL tb σ H xs) (hr : ∀ q H1, H1 q = some (.lst xs) → Ex H H1 → RV r x (.ref q) H1 z) : Ev (tOp r ta tb) σ H z := fun H1 e Q q =>
  ha H1 e _ fun H2 e2 => hb H2 (e.trans e2) _ fun p H3 hp e3 hx => hr p H3 hx ((e.trans e2).trans e3) H3 (Ex.refl H3) Q fun H4 e4 => q H4 ((e2.trans e3).trans e4)
theorem ev_neVN {p : Addr} {l m : List Nat} (h1 : Ev ta σ H (.ref p)) (hp : SqL K H p (l.map iv)) (h2 : EvL tb σ H (m.map iv)) : Ev (tOp (rNeD K) ta tb) σ H (.bl (!decide (l = m))) := by
  have := ev_opVL (r := rNeD K) (z := .bl (!PyData.eqv (.list (l.map nD)) (.list (m.map nD)))) h1 h2 fun q H1 hq e => rv_neD (dp_ns (ex_l e hp)) (dp_ns (SqL.of hq)) (fit_ns l) (fit_ns m)
  rw [eqv_lst eqv_nD] at this
  exact this
theorem ev_isN {x : V} (h : Ev ta σ H x) : Ev (tOp (fun x y H Q => y = .non ∧ Q (.bl (decide (x = .non))) H) ta (tC .non)) σ H (.bl (decide (x = .non))) := ev_op h ev_c fun H1 _ _ q => ⟨rfl, q H1 (Ex.refl H1)⟩
theorem ev_notN {x : V} (h : Ev ta σ H x) : Ev (tOp (fun x y H Q => y = .non ∧ Q (.bl (!decide (x = .non))) H) ta (tC .non)) σ H (.bl (!decide (x = .non))) := ev_op h ev_c fun H1 _ _ q => ⟨rfl, q H1 (Ex.refl H1)⟩
theorem ev_min2 {i j : Int} (h : Ev ta σ H (.int i)) (h2 : Ev tb σ H (.int j)) : Ev (tCB (fun xs H Q => ∃ i j, xs = [.int i, .int j] ∧ Q (.int (if j < i then j else i)) H) (tCons ta (tCons tb tNil))) σ H (.int (if j < i then j else i)) := fun H1 e Q q =>
  h H1 e _ fun H2 e2 => h2 H2 (e.trans e2) _ fun H3 e3 => ⟨i, j, rfl, q H3 (e2.trans e3)⟩
end
def ulV (w : Nat) (l e : Tx) : V := if ulB w l e then (if stp w l = stp w e then .non else .str "steps") else .str "head"
def shV (w : Nat) (l e : Tx) : V := match shL w l e with | [] => .non | a :: _ => iv a
theorem shV_non (w : Nat) (l e : Tx) : decide (shV w l e = .non) = (growM w l e).all fun m => !shortB w m := by
  have h1 : decide (shV w l e = .non) = decide (shL w l e = []) := by
    unfold shV
    cases shL w l e <;> simp
  rw [h1, Bool.eq_iff_iff, decide_eq_true_iff, List.all_eq_true]
  unfold shL
  rw [List.filter_eq_nil_iff]
  constructor
  · intro h m hm
    obtain ⟨i, hi, rfl⟩ := List.getElem_of_mem hm
    have := h i (List.mem_range.mpr hi)
    rw [getI_at hi] at this
    simpa using this
  · intro h i hi
    have hi := List.mem_range.mp hi
    rw [getI_at hi]
    have := h _ (List.getElem_mem hi)
    simpa using this
theorem does_eq (w : Nat) (l e : Tx) : (decide (ulV w l e = .non) && decide (shV w l e = .non)) = doesM w l e := by
  rw [shV_non]
  unfold doesM
  congr 1
  unfold ulV
  by_cases h : ulB w l e <;> by_cases h2 : stp w l = stp w e <;> simp [h, h2]
section
variable {P : Program} {w : World} {K : PySem.W.Frag} {mg : Str → Option Value} {base : Heap}
/-- two right texts and a size -/
def Two (vs : List V) (l e : Tx) (n : Nat) : Prop := vs = [tv l, tv e, iv n] ∧ Ok l ∧ Ok e ∧ l.length ≤ 1000 ∧ e.length ≤ 1000 ∧ 1 ≤ n ∧ n ≤ 6
def spUl : Sp := fun vs H Q _ => ∃ l e n, Two vs l e n ∧ RetV (ulV n l e) H Q
theorem ok_unlike_word (T : Topf mg) (F : FnP K mg "unlike_word" s_unlike_word) (C_steps_of : Cal P w K mg base CX0 2 "steps_of" ["text", "size"] spStp) : Cal P w K mg base CX0 3 "unlike_word" ["later", "elder", "size"] spUl := by
  refine cal_mk F sc_unlike_word (fun vs H Q E h => ?_) (fun _ _ _ _ _ _ us hl => match us, hl with | [_, _, _], _ => rfl) (fun f cdv A outer s H vs Q E hr h => ?_)
  · obtain ⟨l, e, n, ⟨rfl, _⟩, _⟩ := h; rfl
  · obtain ⟨l, u, n, ⟨rfl, hl, hu, zl, zu, h1, h6⟩, q⟩ := h
    refine ⟨_, (pss_cons (ps_if (PW.pt (pw_or (pt_cmpR op_ne (pe_slice sl_str (pv 0) po_none (po_some (pv 2))) (pe_slice sl_str (pv 1) po_none (po_some (pv 2))) (nomark _)) (pw_or1 (PW.pt (pw_and (pt_cmpR op_lt (pe_callB (call_min2 rfl) (by rfl) T.b_min (by decide +kernel) (pa_cons (pe_callB call_len_str (by rfl) T.b_len (by decide +kernel) (pa_cons (pv 0) pa_nil)) (pa_cons (pe_callB call_len_str (by rfl) T.b_len (by decide +kernel) (pa_cons (pv 1) pa_nil)) pa_nil))) (pv 2) (nomark _)) (pw_and1 (pt_cmpR op_ne (pv 0) (pv 1) (nomark _)))))))) (pss_one (ps_ret (pe_gc rfl T.c_HEAD))) pss_nil)
      (pss_one (ps_ret (pe_ifExp (pt_cmpR (k_neD (K := K) rfl hr.units) (pe_c C_steps_of (hr.mono (by decide)) rfl (pa_cons (pv 0) (pa_cons (pv 2) pa_nil))) (pe_c C_steps_of (hr.mono (by decide)) rfl (pa_cons (pv 1) (pa_cons (pv 2) pa_nil))) (nomark _)) (pe_gc rfl T.c_STEPS) pe_non)))), ?_⟩
    have tT : ∀ {t : Tx} {i : Nat}, t.length ≤ 1000 → (start N_unlike_word [tv l, tv u, iv n])[i]? = some (some (tv t)) → Ev (tSl rSlS (tVar i) tNoPart (tPart (tVar 2))) (start N_unlike_word [tv l, tv u, iv n]) H (tv (t.take n)) := fun {t i} hz hi => by
      have := ev_slTo (te := tVar i) (tb := tVar 2) (σ := start N_unlike_word [tv l, tv u, iv n]) (H := H) (t := t) (i := (n : Int)) (ev_var hi) (ev_var rfl) (by omega) (by omega)
      rw [Int.toNat_natCast] at this
      exact this
    refine q_when (b := !ulB n l u) ?_ (fun hb H1 e1 => ?_) fun hb H1 e1 => ?_
    · refine et_is (et_or (a := !decide (l.take n = u.take n)) (b := decide (min l.length u.length < n) && !decide (l = u)) (et_B (ev_is (ev_ne (tT zl rfl) (tT zu rfl) rfl) (by rw [tv_dec]))) fun _ => ?_) ?_
      · refine et_and (et_B (ev_is (ev_I0 (i := ((min l.length u.length : Nat) : Int)) (ev_is (ev_min2 (ev_lenS (ev_var rfl) (by omega)) (ev_lenS (ev_var rfl) (by omega))) ?_) (ev_var rfl)) ?_)) fun _ => et_B (ev_is (ev_ne (ev_var rfl) (ev_var rfl) rfl) (by rw [tv_dec]))
        · congr 1
          by_cases h : u.length < l.length
          · rw [if_pos (by omega)]; omega
          · rw [if_neg (by omega)]; omega
        · congr 1; rw [decide_eq_decide]; omega
      · unfold ulB
        cases decide (l.take n = u.take n) <;> simp
    · have e : ulV n l u = .str "head" := by unfold ulV; rw [if_neg (by simpa using hb)]
      rw [e] at q
      exact s_ret ev_c fun H2 e2 => q H2 (e1.trans e2)
    · have e : ulV n l u = if stp n l = stp n u then .non else .str "steps" := by unfold ulV; rw [if_pos (by simpa using hb)]
      rw [e] at q
      refine s_ret ?_ fun H2 e2 => q H2 (e1.trans e2)
      refine ev_if (b := !decide (stp n l = stp n u)) (et_B (ev_neNN (el_cl (ea_cons (ev_var rfl) (ea_cons (ev_var rfl) ea_nil)) (sl_stp hl zl)) (el_cl (ea_cons (ev_var rfl) (ea_cons (ev_var rfl) ea_nil)) (sl_stp hu zu)))) (fun hb => ?_) (fun hb => ?_)
      · rw [if_neg (by simpa using hb)]; exact ev_c
      · rw [if_pos (by simpa using hb)]; exact ev_c
def spShort : Sp := fun vs H Q _ => ∃ (m : Int) (n : Nat), vs = [.int m, iv n] ∧ 1 ≤ n ∧ n ≤ 6 ∧ RetV (.bl (shortB n m)) H Q
theorem ok_is_short (T : Topf mg) (F : FnP K mg "is_short" s_is_short) : Cal P w K mg base CX0 1 "is_short" ["more", "size"] spShort := by
  refine cal_mk F sc_is_short (fun vs H Q E h => ?_) (fun _ _ _ _ _ _ us hl => match us, hl with | [_, _], _ => rfl) (fun f cdv A outer s H vs Q E hr h => ?_)
  · obtain ⟨m, n, rfl, _⟩ := h; rfl
  · obtain ⟨m, n, rfl, h1, h6, q⟩ := h
    refine ⟨_, (pss_one (ps_ret (pe_or (pe_cmpR op_lt (pv 0) pe_int (nomark _)) (pe_one (pe_cmpR op_ne (pe_op op_mod (pv 0) (pv 1)) pe_int (nomark _)))))), ?_⟩
    refine s_ret (v := .bl (shortB n m)) ?_ q
    refine ev_orV (a := decide (m < 0)) (b := !decide (m % (n : Int) = 0)) (ev_I0 (ev_var rfl) ev_c) fun _ => ev_is (ev_ne (ev_I (i := m) (j := (n : Int)) (ev_var rfl) (ev_var rfl) (by omega)) ev_c rfl) ?_
    congr 2
    rw [decide_eq_decide]
    exact ⟨fun e => V.int.inj e, fun e => by rw [e]⟩
def spGrow : Sp := fun vs H Q _ => ∃ l e n, Two vs l e n ∧ RetL ((growM n l e).map V.int) H Q
theorem sl_grow {H : Hp} {l e : Tx} {n : Nat} (t : Two [tv l, tv e, iv n] l e n) : SpL spGrow [tv l, tv e, iv n] H ((growM n l e).map V.int) := fun H1 _ Q q E => ⟨l, e, n, t, q⟩
theorem ok_growths_of (T : Topf mg) (F : FnP K mg "growths_of" s_growths_of) (C_runs_of : Cal P w K mg base CX0 2 "runs_of" ["text", "size"] spRun) : Cal P w K mg base CX0 3 "growths_of" ["later", "elder", "size"] spGrow := by
  refine cal_mk F sc_growths_of (fun vs H Q E h => ?_) (fun _ _ _ _ _ _ us hl => match us, hl with | [_, _, _], _ => rfl) (fun f cdv A outer s H vs Q E hr h => ?_)
  · obtain ⟨l, e, n, ⟨rfl, _⟩, _⟩ := h; rfl
  · obtain ⟨l, u, n, ⟨rfl, hl, hu, zl, zu, h1, h6⟩, q⟩ := h
    refine ⟨_, (pss_one (ps_ret (pe_lc (own := [("one", 3), ("other", 4)]) rfl sc_growths_of.nd (k_pizip (K := K) rfl rfl T.b_zip (pa_cons (pe_c C_runs_of (hr.mono (by decide)) rfl (pa_cons (pv 0) (pa_cons (pv 2) pa_nil))) (pa_cons (pe_c C_runs_of (hr.mono (by decide)) rfl (pa_cons (pv 1) (pa_cons (pv 2) pa_nil))) pa_nil))) (blkOk_by (own := [("one", 3), ("other", 4)]) (N := N_growths_of) (sc := defScope s_growths_of) (by decide +kernel)) (fun _ _ _ _ _ => (k_pgtup (K := K) (n := 2) rfl (by rfl) (pgs_cons (pg_name (i := 3) sc_growths_of.nd rfl (Or.inl rfl)) (pgs_cons (pg_name (i := 4) sc_growths_of.nd rfl (Or.inl rfl)) pgs_nil)))) (fun _ _ _ _ _ => pts_nil) (fun _ _ _ _ _ => (pe_op op_sub (pv 3) (pv 4)))))), ?_⟩
    refine s_retL (xs := (growM n l u).map V.int) ?_ q
    have hS := src_zip (K := K) (j := 3) (k := 4) (evp_LL (K := K) (σ := start N_growths_of [tv l, tv u, iv n]) (H := H) (el_cl (ta := tCons (tVar 0) (tCons (tVar 2) tNil)) (ea_cons (ev_var rfl) (ea_cons (ev_var rfl) ea_nil)) (sl_run hl zl)) (el_cl (ta := tCons (tVar 1) (tCons (tVar 2) tNil)) (ea_cons (ev_var rfl) (ea_cons (ev_var rfl) ea_nil)) (sl_run hu zu)))
    have hll : ((rns n l).map iv).length = (rns n l).length := by simp
    have hul : ((rns n u).map iv).length = (rns n u).length := by simp
    rw [hll, hul, ← grow_len] at hS
    have e : given (growM n l u).length (fun _ => true) (fun i => .int ((growM n l u).getD i 0)) = (growM n l u).map V.int := by
      rw [given_all]
      exact range_map_of rfl (fun i hi => by rw [getI_at hi])
    have r1 := rns_le (n := n) (t := l)
    rw [← e]
    refine el_lc (vs := [3, 4]) (fun _ => true) _ hS (by rw [grow_len]; omega) (fun i _ => rfl) (fun i H2 _ _ H3 _ Q2 q2 => q2 H3 (Ex.refl H3)) (fun i H2 e2 hi _ => ?_)
    have hi' := hi
    rw [grow_len] at hi'
    rw [getD_at (by rw [hll]; omega), getD_at (by rw [hul]; omega), List.getElem_map, List.getElem_map, getI_at hi]
    refine ev_is (ev_I0 (ev_var rfl) (ev_var rfl)) ?_
    exact (congrArg V.int (grow_at hi)).symm
def spShr : Sp := fun vs H Q _ => ∃ l e n, Two vs l e n ∧ RetV (shV n l e) H Q
theorem ok_short_run (T : Topf mg) (F : FnP K mg "short_run" s_short_run) (C_growths_of : Cal P w K mg base CX0 3 "growths_of" ["later", "elder", "size"] spGrow) (C_is_short : Cal P w K mg base CX0 1 "is_short" ["more", "size"] spShort) : Cal P w K mg base CX0 4 "short_run" ["later", "elder", "size"] spShr := by
  refine cal_mk F sc_short_run (fun vs H Q E h => ?_) (fun _ _ _ _ _ _ us hl => match us, hl with | [_, _, _], _ => rfl) (fun f cdv A outer s H vs Q E hr h => ?_)
  · obtain ⟨l, e, n, ⟨rfl, _⟩, _⟩ := h; rfl
  · obtain ⟨l, u, n, ht, q⟩ := h
    obtain ⟨rfl, hl, hu, zl, zu, h1, h6⟩ := ht
    refine ⟨_, (pss_cons (ps_setLc (i := 3) (own := [("number", 4), ("more", 5)]) rfl sc_short_run.nd rfl rfl (sw_true rfl rfl rfl (by decide +kernel)) (k_pienum (K := K) rfl rfl T.b_enumerate (pa_cons (pe_c C_growths_of (hr.mono (by decide)) rfl (pa_cons (pv 0) (pa_cons (pv 1) (pa_cons (pv 2) pa_nil)))) pa_nil)) (blkOk_by (own := [("number", 4), ("more", 5)]) (N := N_short_run) (sc := defScope s_short_run) (by decide +kernel)) (fun _ _ _ _ _ => (k_pgtup (K := K) (n := 2) rfl (by rfl) (pgs_cons (pg_name (i := 4) sc_short_run.nd rfl (Or.inl rfl)) (pgs_cons (pg_name (i := 5) sc_short_run.nd rfl (Or.inl rfl)) pgs_nil)))) (fun _ _ _ _ _ => pts_one (pt_val (pe_c C_is_short (hr.mono (by decide)) rfl (pa_cons (pv 5) (pa_cons (pv 2) pa_nil))))) (fun _ _ _ _ _ => (pv 4)))
      (pss_one (ps_ret (pe_ifExp (pt_cmpR (k_neD (K := K) rfl hr.units) (pv 3) (pe_lst pa_nil) (nomark _)) (pe_ix (k_ixL (K := K) rfl) (pv 3) pe_int (fun _ _ => rfl)) pe_non)))), ?_⟩
    have hll : ((growM n l u).map V.int).length = (growM n l u).length := by simp
    have hS := src_enum (K := K) (j := 4) (k := 5) (evp_L (K := K) (σ := start N_short_run [tv l, tv u, iv n]) (H := H) (el_cl (ta := tCons (tVar 0) (tCons (tVar 1) (tCons (tVar 2) tNil))) (ea_cons (ev_var rfl) (ea_cons (ev_var rfl) (ea_cons (ev_var rfl) ea_nil))) (sl_grow ⟨rfl, hl, hu, zl, zu, h1, h6⟩)))
    rw [hll] at hS
    have r1 := rns_le (n := n) (t := l)
    have eg : given (growM n l u).length (fun i => shortB n ((growM n l u).getD i 0)) iv = (shL n l u).map iv := rfl
    refine q_asgL (xs := (shL n l u).map iv) ?_ fun p H1 hp e1 hx => ?_
    · rw [← eg]
      refine el_lc (vs := [4, 5]) _ _ hS (by rw [grow_len]; omega) (fun i _ => rfl) (fun i H2 e2 hi => et_B ?_) (fun i H2 e2 hi _ => ev_var rfl)
      rw [getD_at (by rw [hll]; exact hi), List.getElem_map, getI_at hi]
      exact ev_cl (ea_cons (ev_var rfl) (ea_cons (ev_var rfl) ea_nil)) fun H3 _ Q3 q3 E3 => ⟨_, n, rfl, h1, h6, q3⟩
    · refine s_ret (v := shV n l u) ?_ fun H2 e2 => q H2 (e1.trans e2)
      unfold shV
      refine ev_if (b := !decide (shL n l u = [])) (et_B (ev_neVN (m := []) (ev_var (v := .ref p) rfl) (SqL.of hx) el_nil)) (fun hb => ?_) (fun hb => ?_)
      · cases hs : shL n l u with
        | nil => rw [hs] at hb; exact absurd hb (by decide)
        | cons a r =>
          rw [hs] at hx
          exact ev_op (ev_var (v := .ref p) rfl) ev_c (rv_ixL (SqL.of hx) (atI_nat (j := 0) rfl))
      · cases hs : shL n l u with
        | nil => exact ev_c
        | cons a r => rw [hs] at hb; exact absurd hb (by simp)
def spDoes : Sp := fun vs H Q _ => ∃ l e n, Two vs l e n ∧ RetV (.bl (doesM n l e)) H Q
theorem ok_does_come (T : Topf mg) (F : FnP K mg "does_come" s_does_come) (C_unlike_word : Cal P w K mg base CX0 3 "unlike_word" ["later", "elder", "size"] spUl) (C_short_run : Cal P w K mg base CX0 4 "short_run" ["later", "elder", "size"] spShr) : Cal P w K mg base CX0 5 "does_come" ["later", "elder", "size"] spDoes := by
  refine cal_mk F sc_does_come (fun vs H Q E h => ?_) (fun _ _ _ _ _ _ us hl => match us, hl with | [_, _, _], _ => rfl) (fun f cdv A outer s H vs Q E hr h => ?_)
  · obtain ⟨l, e, n, ⟨rfl, _⟩, _⟩ := h; rfl
  · obtain ⟨l, u, n, ht, q⟩ := h
    have ht' := ht
    obtain ⟨rfl, hl, hu, zl, zu, h1, h6⟩ := ht
    refine ⟨_, (pss_one (ps_ret (pe_and (pe_cmpR op_isN (pe_c C_unlike_word (hr.mono (by decide)) rfl (pa_cons (pv 0) (pa_cons (pv 1) (pa_cons (pv 2) pa_nil)))) pe_non (nomark _)) (pe_one (pe_cmpR op_isN (pe_c C_short_run (hr.mono (by decide)) rfl (pa_cons (pv 0) (pa_cons (pv 1) (pa_cons (pv 2) pa_nil)))) pe_non (nomark _)))))), ?_⟩
    rw [← does_eq] at q
    refine s_ret ?_ q
    refine ev_andV (ev_isN (ev_cl (ea_cons (ev_var rfl) (ea_cons (ev_var rfl) (ea_cons (ev_var rfl) ea_nil))) fun H3 _ Q3 q3 E3 => ⟨l, u, n, ht', q3⟩)) fun _ => ev_isN (ev_cl (ea_cons (ev_var rfl) (ea_cons (ev_var rfl) (ea_cons (ev_var rfl) ea_nil))) fun H3 _ Q3 q3 E3 => ⟨l, u, n, ht', q3⟩)
def spKin : Sp := fun vs H Q _ => ∃ l e n, Two vs l e n ∧ RetV (.bl (decide (rootM n l = rootM n e))) H Q
theorem ok_are_kin_of (T : Topf mg) (F : FnP K mg "are_kin_of" s_are_kin_of) (C_root_of : Cal P w K mg base CX0 3 "root_of" ["text", "size"] spRoot) : Cal P w K mg base CX0 4 "are_kin_of" ["one", "other", "size"] spKin := by
  refine cal_mk F sc_are_kin_of (fun vs H Q E h => ?_) (fun _ _ _ _ _ _ us hl => match us, hl with | [_, _, _], _ => rfl) (fun f cdv A outer s H vs Q E hr h => ?_)
  · obtain ⟨l, e, n, ⟨rfl, _⟩, _⟩ := h; rfl
  · obtain ⟨l, u, n, ht, q⟩ := h
    obtain ⟨rfl, hl, hu, zl, zu, h1, h6⟩ := ht
    refine ⟨_, (pss_one (ps_ret (pe_cmpR op_eq (pe_c C_root_of (hr.mono (by decide)) rfl (pa_cons (pv 0) (pa_cons (pv 2) pa_nil))) (pe_c C_root_of (hr.mono (by decide)) rfl (pa_cons (pv 1) (pa_cons (pv 2) pa_nil))) (nomark _)))), ?_⟩
    refine s_ret (v := .bl (decide (rootM n l = rootM n u))) ?_ q
    exact ev_is (ev_eq (ev_cl (ea_cons (ev_var rfl) (ea_cons (ev_var rfl) ea_nil)) (sv_root hl zl h1 h6)) (ev_cl (ea_cons (ev_var rfl) (ea_cons (ev_var rfl) ea_nil)) (sv_root hu zu h1 h6)) rfl) (by rw [tv_dec])
end
end K9
namespace K9
open PySem PySem.Spec PyProof.Rows L2 Evl
local macro_rules | `(tactic| walk_at "ev") => `(tactic| first
  | with_reducible exact ev_c
  | ((with_reducible refine' ev_var ?k0); (case k0 => exact rfl))
  | with_reducible assumption
  | ((with_reducible refine' ev_lenS ?k0 ?k1); (case k0 => walk_at "ev"); (case k1 => walk_at "sz"))
  | ((with_reducible refine' ev_I0 ?k0 ?k1); (case k0 => walk_at "ev"); (case k1 => walk_at "ev"))
  | ((with_reducible refine' ev_I ?k0 ?k1 ?k2); (case k0 => walk_at "ev"); (case k1 => walk_at "ev"); (case k2 => walk_at "sz"))
  | ((with_reducible refine' ev_eq ?k0 ?k1 ?k2); (case k0 => walk_at "ev"); (case k1 => walk_at "ev"); (case k2 => walk_at "sz"))
  | ((with_reducible refine' ev_ne ?k0 ?k1 ?k2); (case k0 => walk_at "ev"); (case k1 => walk_at "ev"); (case k2 => walk_at "sz"))
  | ((with_reducible refine' ev_slTo ?k0 ?k1 ?k2 ?k3); (case k0 => walk_at "ev"); (case k1 => walk_at "ev"); (case k2 => walk_at "sz"); (case k3 => walk_at "sz"))
  | ((with_reducible refine' ev_slFrom ?k0 ?k1 ?k2 ?k3); (case k0 => walk_at "ev"); (case k1 => walk_at "ev"); (case k2 => walk_at "sz"); (case k3 => walk_at "sz"))
  | ((with_reducible refine' ev_slMid ?k0 ?k1 ?k2 ?k3 ?k4 ?k5); (case k0 => walk_at "ev"); (case k1 => walk_at "ev"); (case k2 => walk_at "ev"); (case k3 => walk_at "sz"); (case k4 => walk_at "sz"); (case k5 => walk_at "sz"))
  | ((with_reducible refine' ev_addS ?k0 ?k1 ?k2); (case k0 => walk_at "ev"); (case k1 => walk_at "ev"); (case k2 => walk_at "sz"))
  | ((with_reducible refine' ev_cl ?k0 ?k1); (case k0 => walk_at "ea"); (case k1 => walk_at "sp"))
  | ((with_reducible refine' ev_notV ?k0); (case k0 => walk_at "ev"))
  | ((with_reducible refine' ev_un ?k0 ru_neg); (case k0 => walk_at "ev")))
local macro_rules | `(tactic| walk_at "ea") => `(tactic| first
  | with_reducible exact ea_nil
  | ((with_reducible refine' ea_cons ?k0 ?k1); (case k0 => walk_at "ev"); (case k1 => walk_at "ea")))
local macro_rules | `(tactic| walk_at "et") => `(tactic| first
  | with_reducible assumption
  | ((with_reducible refine' et_test ?k0); (case k0 => walk_at "ev"))
  | ((with_reducible refine' et_B ?k0); (case k0 => walk_at "ev"))
  | ((with_reducible refine' et_not ?k0); (case k0 => walk_at "et")))
local macro_rules | `(tactic| walk_at "sz") => `(tactic| first
  | rfl
  | omega
  | (simp only [List.length_take, List.length_drop, List.length_append]; omega)
  | (constructor <;> omega)
  | assumption)
local macro_rules | `(tactic| walk_at "sp") => `(tactic| first | assumption)

section
variable {K : PySem.W.Frag} {σ : L2.St} {H : Hp} {te ta tb tl tl2 : TE} {D : Ends} {wi : TI} {g : TG} {tu tz : TS} {n : Nat} {τ : Nat → L2.St → L2.St}
/-- a loop that changes places alone -/
theorem s_forS (hS : Src wi g σ H n τ) (Pv : Nat → L2.St → Prop) (h0 : Pv 0 σ)
    (hs : ∀ B i σ' H', i < n → Ex H B → Ex B H' → Pv i σ' → tu { D with nx := fun σ2 H2 => Ex B H2 ∧ Pv (i + 1) σ2, ct := fun σ2 H2 => Ex B H2 ∧ Pv (i + 1) σ2, bk := D.nx } (τ i σ') H')
    (hd : ∀ σ' H', Ex H H' → Pv n σ' → D.nx σ' H') : tFor wi g tu D σ H :=
  hS H (Ex.refl H) _ fun J H2 e R => for_runs R (fun i σ' H' => Ex H2 H' ∧ Pv i σ') ⟨Ex.refl H2, h0⟩ (fun i σ' H' p => p.1)
    (fun i σ' H' H'' hi p e3 => hs H2 i σ' H'' hi e (p.1.trans e3) p.2) (fun σ' H' p => hd σ' H' (e.trans p.1) p.2)
theorem q_forS (hS : Src wi g σ H n τ) (Pv : Nat → L2.St → Prop) (h0 : Pv 0 σ)
    (hs : ∀ B i σ' H', i < n → Ex H B → Ex B H' → Pv i σ' → tu { D with nx := fun σ2 H2 => Ex B H2 ∧ Pv (i + 1) σ2, ct := fun σ2 H2 => Ex B H2 ∧ Pv (i + 1) σ2, bk := tz D } (τ i σ') H')
    (hd : ∀ σ' H', Ex H H' → Pv n σ' → tz D σ' H') : tSeq (tFor wi g tu) tz D σ H := s_forS (D := { D with nx := tz D }) hS Pv h0 hs hd
theorem srcA_NU {f : Addr} {o : HO} {xs : List V} {j : Nat} (hf : H f = some o) (h : EvU tl σ H xs) : SrcA f (iTup K tl) (gName j) σ H xs.length (fun i σ => σ.set j (some (xs.getD i .non))) := fun H1 e R k =>
  h H1 e _ fun p H2 hp e2 hx => ⟨p, rfl, ⟨xs, SqT.of hx⟩, k _ H2 e2 (runs_tup (SqT.of (by rw [drp_ne (ne_of_none (e _ _ hf) hp).symm]; exact hx)))⟩
theorem srcA_enumN {f : Addr} {o : HO} {xs : List V} {j k : Nat} (hf : H f = some o) (h : EvL tl σ H xs) : SrcA f (iEnum K (tCons tl tNil)) (gTup K 2 (gCons (gName j) (gCons (gName k) gNil))) σ H xs.length (fun i σ => (σ.set j (some (iv i))).set k (some (xs.getD i .non))) := fun H1 e R kk =>
  h H1 e _ fun p H2 hp e2 hx => ⟨p, xs, rfl, SqL.of hx, kk _ H2 e2 (runs_enum (SqL.of (by rw [drp_ne (ne_of_none (e _ _ hf) hp).symm]; exact hx)))⟩
theorem srcA_R1 {f : Addr} {ta : TA} {n : Nat} {j : Nat} (h : EvA ta σ H [.int (n : Int)]) (hn : n ≤ 100000) : SrcA f (iRng1 ta) (gName j) σ H n (fun i σ => σ.set j (some (.int (0 + (i : Int))))) := fun H1 e R k =>
  h H1 e _ fun H2 e2 => ⟨n, rfl, by omega, by omega, k _ H2 e2 (by rw [show (n : Int).toNat = n from Int.toNat_natCast n]; exact runs_range)⟩
theorem el_mapI {l : List Int} {j : Nat} {f : Int → V} (h : EvL tl σ H (l.map V.int)) (hz : l.length ≤ 40000) (hw : ∀ x, wipe ((wipe σ [j]).set j (some x)) [j] = wipe σ [j]) (he : ∀ x H1, Ex H H1 → x ∈ l → Ev te ((wipe σ [j]).set j (some (.int x))) H1 (f x)) :
    EvL (tLc (iList K tl) (gName j) tYes te [j]) σ H (l.map f) := by
  have hll : (l.map V.int).length = l.length := by simp
  have hS := src_NL (K := K) (j := j) h
  rw [hll] at hS
  have e : given l.length (fun _ => true) (fun i => f (l.getD i 0)) = l.map f := by
    rw [given_all]
    exact range_map_of rfl (fun i hi => by rw [getI_at hi])
  rw [← e]
  refine el_lc (vs := [j]) (fun _ => true) _ hS hz (fun i _ => hw _) (fun i H2 _ _ H3 _ Q2 q2 => q2 H3 (Ex.refl H3)) (fun i H2 e2 hi _ => ?_)
  rw [getD_at (by rw [hll]; exact hi), List.getElem_map, getI_at hi]
  exact he _ H2 e2 (List.getElem_mem hi)
end
theorem sum_abs : ∀ l : List Int, (l.map fun m => if m < 0 then -m else m).sum = (((l.map Int.natAbs).sum : Nat) : Int)
  | [] => rfl
  | a :: l => by
    rw [List.map_cons, List.map_cons, List.sum_cons, List.sum_cons, sum_abs l]
    by_cases h : a < 0
    · rw [if_pos h]; omega
    · rw [if_neg h]; omega
section
variable {P : Program} {w : World} {K : PySem.W.Frag} {mg : Str → Option Value} {base : Heap}
/-- two right texts, short, and a size -/
def Sec (vs : List V) (l e : Tx) (n : Nat) : Prop := vs = [tv l, tv e, iv n] ∧ Ok l ∧ Ok e ∧ l.length ≤ 60 ∧ e.length ≤ 60 ∧ 1 ≤ n ∧ n ≤ 6
theorem Sec.two {vs : List V} {l e : Tx} {n : Nat} (h : Sec vs l e n) : Two vs l e n := ⟨h.1, h.2.1, h.2.2.1, by have := h.2.2.2.1; omega, by have := h.2.2.2.2.1; omega, h.2.2.2.2.2.1, h.2.2.2.2.2.2⟩
theorem sv_need2 {H : Hp} {vs : List V} {l e : Tx} {n : Nat} (h : Sec vs l e n) : SpV spNeed2 vs H .non := fun H1 _ Q q E => ⟨l, e, n, h.1, h.2.1, h.2.2.2.1, h.2.2.1, h.2.2.2.2.1, h.2.2.2.2.2.1, h.2.2.2.2.2.2, q⟩
theorem sv_does {H : Hp} {vs : List V} {l e : Tx} {n : Nat} (h : Two vs l e n) : SpV spDoes vs H (.bl (doesM n l e)) := fun H1 _ Q q E => ⟨l, e, n, h, q⟩
theorem sv_kin {H : Hp} {vs : List V} {l e : Tx} {n : Nat} (h : Two vs l e n) : SpV spKin vs H (.bl (decide (rootM n l = rootM n e))) := fun H1 _ Q q E => ⟨l, e, n, h, q⟩
def spBco : Sp := fun vs H Q _ => ∃ l e n, Two vs l e n ∧ RetV (.int (betwM n l e)) H Q
theorem sv_bco {H : Hp} {vs : List V} {l e : Tx} {n : Nat} (h : Two vs l e n) : SpV spBco vs H (.int (betwM n l e)) := fun H1 _ Q q E => ⟨l, e, n, h, q⟩
theorem grow_small {n B : Nat} {l e : Tx} (hl : l.length ≤ B) (he : e.length ≤ B) : ∀ m ∈ growM n l e, -(B : Int) ≤ m ∧ m ≤ (B : Int) := by
  intro m hm
  have hs : ∀ {t : Tx} {x : Nat}, t.length ≤ B → x ∈ rns n t → x ≤ B := fun {t x} hz hx => by
    have h1 := rns_sum_le n t
    have h2 := mem_le_sum hx
    omega
  unfold growM at hm
  obtain ⟨i, hi, rfl⟩ := List.getElem_of_mem hm
  rw [List.length_zipWith] at hi
  rw [List.getElem_zipWith]
  have a := hs hl (List.getElem_mem (l := rns n l) (n := i) (by omega))
  have b := hs he (List.getElem_mem (l := rns n e) (n := i) (by omega))
  omega
theorem ok_between_count_of (T : Topf mg) (F : FnP K mg "between_count_of" s_between_count_of) (C_growths_of : Cal P w K mg base CX0 3 "growths_of" ["later", "elder", "size"] spGrow) : Cal P w K mg base CX0 4 "between_count_of" ["later", "elder", "size"] spBco := by
  refine cal_mk F sc_between_count_of (fun vs H Q E h => ?_) (fun _ _ _ _ _ _ us hl => match us, hl with | [_, _, _], _ => rfl) (fun f cdv A outer s H vs Q E hr h => ?_)
  · obtain ⟨l, e, n, ⟨rfl, _⟩, _⟩ := h; rfl
  · obtain ⟨l, u, n, ht, q⟩ := h
    have ht' := ht
    obtain ⟨rfl, hl, hu, zl, zu, h1, h6⟩ := ht
    refine ⟨_, (pss_cons (ps_set (i := 3) sc_between_count_of.nd rfl (Or.inl rfl) pe_int)
      (pss_cons (ps_for PassesOwn.never rfl (k_pil (K := K) rfl (pe_c C_growths_of (hr.mono (by decide)) rfl (pa_cons (pv 0) (pa_cons (pv 1) (pa_cons (pv 2) pa_nil))))) (pg_name (i := 4) sc_between_count_of.nd rfl (Or.inl rfl))
        (pss_one (ps_set (i := 3) sc_between_count_of.nd rfl (Or.inl rfl) (pe_op op_mul (pv 3) (pe_op op_add (pe_op op_fdiv (pv 4) (pv 2)) pe_int)))))
      (pss_one (ps_ret (pv 3))))), ?_⟩
    refine q_asg ev_c fun H1 e1 => ?_
    have hll : ((growM n l u).map V.int).length = (growM n l u).length := by simp
    have hS := src_NL (K := K) (j := 4) (el_cl (σ := (start N_between_count_of [tv l, tv u, iv n]).set 3 (some (.int 1))) (H := H1) (ta := tCons (tVar 0) (tCons (tVar 1) (tCons (tVar 2) tNil))) (ea_cons (ev_var rfl) (ea_cons (ev_var rfl) (ea_cons (ev_var rfl) ea_nil))) (sl_grow ht'))
    rw [hll] at hS
    refine q_forS hS (fun i σ' => ∃ y, σ' = [some (tv l), some (tv u), some (iv n), some (.int (((growM n l u).take i).foldl (fun c m => c * (m / (n : Int) + 1)) 1)), y]) ⟨_, rfl⟩ ?_ ?_
    · intro B i σ' H' hi eB eH pv
      obtain ⟨y, rfl⟩ := pv
      rw [getD_at (by rw [hll]; exact hi), List.getElem_map]
      have hm := grow_small (n := n) zl zu _ (List.getElem_mem hi)
      have hdv := ediv_small h1 h6 (m := (growM n l u)[i]) (by omega)
      refine s_asg (ev_I (ev_var rfl) (ev_I0 (ev_I (i := (growM n l u)[i]) (j := (n : Int)) (ev_var rfl) (ev_var rfl) ⟨by omega, by omega⟩) ev_c) (Or.inr ⟨by omega, by omega⟩)) fun H3 e3 => ⟨eH.trans e3, by rw [List.take_succ_eq_append_getElem hi, List.foldl_append]; exact ⟨_, rfl⟩⟩
    · intro σ' H' eH pv
      obtain ⟨y, rfl⟩ := pv
      rw [List.take_length]
      exact s_ret (ev_var rfl) fun H3 e3 => q H3 ((e1.trans eH).trans e3)
def spBc : Sp := fun vs H Q _ => ∃ l e n, Sec vs l e n ∧ RetV (.int (if doesM n l e then betwM n l e else 0)) H Q
theorem ok_between_count (T : Topf mg) (F : FnP K mg "between_count" s_between_count) (C_need_two : Cal P w K mg base CX0 3 "need_two" ["one", "other", "size"] spNeed2) (C_does_come : Cal P w K mg base CX0 5 "does_come" ["later", "elder", "size"] spDoes) (C_between_count_of : Cal P w K mg base CX0 4 "between_count_of" ["later", "elder", "size"] spBco) : Cal P w K mg base CX0 6 "between_count" ["later", "elder", "size"] spBc := by
  refine cal_mk F sc_between_count (fun vs H Q E h => ?_) (fun _ _ _ _ _ _ us hl => match us, hl with | [_, _, _], _ => rfl) (fun f cdv A outer s H vs Q E hr h => ?_)
  · obtain ⟨l, e, n, ⟨rfl, _⟩, _⟩ := h; rfl
  · obtain ⟨l, u, n, ht, q⟩ := h
    have ht' := ht
    obtain ⟨rfl, hl, hu, zl, zu, h1, h6⟩ := ht
    refine ⟨_, (pss_cons (ps_expr (pe_c C_need_two (hr.mono (by decide)) rfl (pa_cons (pv 0) (pa_cons (pv 1) (pa_cons (pv 2) pa_nil)))))
      (pss_one (ps_ret (pe_ifExp (pt_val (pe_c C_does_come (hr.mono (by decide)) rfl (pa_cons (pv 0) (pa_cons (pv 1) (pa_cons (pv 2) pa_nil))))) (pe_c C_between_count_of (hr.mono (by decide)) rfl (pa_cons (pv 0) (pa_cons (pv 1) (pa_cons (pv 2) pa_nil)))) pe_int)))), ?_⟩
    refine q_drop (v := .non) (ev_cl (ea_cons (ev_var rfl) (ea_cons (ev_var rfl) (ea_cons (ev_var rfl) ea_nil))) (sv_need2 ht')) fun H1 e1 => ?_
    refine s_ret (ev_if (b := doesM n l u) (et_B (ev_cl (ea_cons (ev_var rfl) (ea_cons (ev_var rfl) (ea_cons (ev_var rfl) ea_nil))) (sv_does ht'.two))) (fun hb => ?_) (fun hb => ?_)) fun H2 e2 => q H2 (e1.trans e2)
    · rw [if_pos hb]
      exact ev_cl (ea_cons (ev_var rfl) (ea_cons (ev_var rfl) (ea_cons (ev_var rfl) ea_nil))) (sv_bco ht'.two)
    · rw [if_neg (by rw [hb]; decide)]
      exact ev_c
def spAp : Sp := fun vs H Q _ => ∃ l e n, Two vs l e n ∧ RetV (iv (apM n l e)) H Q
theorem sv_ap {H : Hp} {vs : List V} {l e : Tx} {n : Nat} (h : Two vs l e n) : SpV spAp vs H (iv (apM n l e)) := fun H1 _ Q q E => ⟨l, e, n, h, q⟩
theorem Two.swap {l e : Tx} {n : Nat} (h : Two [tv l, tv e, iv n] l e n) : Two [tv e, tv l, iv n] e l n := ⟨rfl, h.2.2.1, h.2.1, h.2.2.2.2.1, h.2.2.2.1, h.2.2.2.2.2.1, h.2.2.2.2.2.2⟩
theorem ok_apart_of (T : Topf mg) (F : FnP K mg "apart_of" s_apart_of) (C_growths_of : Cal P w K mg base CX0 3 "growths_of" ["later", "elder", "size"] spGrow) : Cal P w K mg base CX0 4 "apart_of" ["one", "other", "size"] spAp := by
  refine cal_mk F sc_apart_of (fun vs H Q E h => ?_) (fun _ _ _ _ _ _ us hl => match us, hl with | [_, _, _], _ => rfl) (fun f cdv A outer s H vs Q E hr h => ?_)
  · obtain ⟨l, e, n, ⟨rfl, _⟩, _⟩ := h; rfl
  · obtain ⟨l, u, n, ht, q⟩ := h
    have ht' := ht
    obtain ⟨rfl, hl, hu, zl, zu, h1, h6⟩ := ht
    refine ⟨_, (pss_one (ps_ret (pe_op op_fdiv (pe_callB (k_sum (K := K) rfl rfl) (by rfl) T.b_sum (by decide +kernel) (pa_cons (pe_lc (own := [("more", 3)]) rfl sc_apart_of.nd (k_pil (K := K) rfl (pe_c C_growths_of (hr.mono (by decide)) rfl (pa_cons (pv 1) (pa_cons (pv 0) (pa_cons (pv 2) pa_nil))))) (blkOk_by (own := [("more", 3)]) (N := N_apart_of) (sc := defScope s_apart_of) (by decide +kernel)) (fun _ _ _ _ _ => (pg_name (i := 3) sc_apart_of.nd rfl (Or.inl rfl))) (fun _ _ _ _ _ => pts_nil) (fun _ _ _ _ _ => (pe_callB call_abs (by rfl) T.b_abs (by decide +kernel) (pa_cons (pv 3) pa_nil)))) pa_nil)) (pv 2)))), ?_⟩
    refine s_ret (v := iv (apM n l u)) ?_ q
    have r1 := rns_le (n := n) (t := u)
    refine ev_is (ev_I (i := ((((growM n u l).map Int.natAbs).sum : Nat) : Int)) (j := (n : Int)) (ev_is (ev_sumL (ns := (growM n u l).map fun m => if m < 0 then -m else m) ?_) (by rw [sum_abs])) (ev_var rfl) ⟨by omega, by omega⟩) ?_
    · rw [List.map_map]
      refine el_mapI (f := V.int ∘ fun m => if m < 0 then -m else m) (el_cl (ea_cons (ev_var rfl) (ea_cons (ev_var rfl) (ea_cons (ev_var rfl) ea_nil))) (sl_grow ht'.swap)) (by rw [grow_len]; omega) (fun x => rfl) fun x H1 e1 hx => ?_
      exact ev_cb (ea_cons (ev_var rfl) ea_nil) fun H2 e2 Q2 q2 => ⟨x, rfl, q2 H2 (Ex.refl H2)⟩
    · unfold apM
      congr 1
def apV (n : Nat) (l e : Tx) : V := if rootM n l = rootM n e then iv (apM n l e) else .non
def spDap : Sp := fun vs H Q _ => ∃ l e n, Sec vs l e n ∧ RetV (apV n l e) H Q
theorem ok_deeds_apart (T : Topf mg) (F : FnP K mg "deeds_apart" s_deeds_apart) (C_need_two : Cal P w K mg base CX0 3 "need_two" ["one", "other", "size"] spNeed2) (C_are_kin_of : Cal P w K mg base CX0 4 "are_kin_of" ["one", "other", "size"] spKin) (C_apart_of : Cal P w K mg base CX0 4 "apart_of" ["one", "other", "size"] spAp) : Cal P w K mg base CX0 5 "deeds_apart" ["one", "other", "size"] spDap := by
  refine cal_mk F sc_deeds_apart (fun vs H Q E h => ?_) (fun _ _ _ _ _ _ us hl => match us, hl with | [_, _, _], _ => rfl) (fun f cdv A outer s H vs Q E hr h => ?_)
  · obtain ⟨l, e, n, ⟨rfl, _⟩, _⟩ := h; rfl
  · obtain ⟨l, u, n, ht, q⟩ := h
    have ht' := ht
    obtain ⟨rfl, hl, hu, zl, zu, h1, h6⟩ := ht
    refine ⟨_, (pss_cons (ps_expr (pe_c C_need_two (hr.mono (by decide)) rfl (pa_cons (pv 0) (pa_cons (pv 1) (pa_cons (pv 2) pa_nil)))))
      (pss_one (ps_ret (pe_ifExp (pt_val (pe_c C_are_kin_of (hr.mono (by decide)) rfl (pa_cons (pv 0) (pa_cons (pv 1) (pa_cons (pv 2) pa_nil))))) (pe_c C_apart_of (hr.mono (by decide)) rfl (pa_cons (pv 0) (pa_cons (pv 1) (pa_cons (pv 2) pa_nil)))) pe_non)))), ?_⟩
    refine q_drop (v := .non) (ev_cl (ea_cons (ev_var rfl) (ea_cons (ev_var rfl) (ea_cons (ev_var rfl) ea_nil))) (sv_need2 ht')) fun H1 e1 => ?_
    refine s_ret (ev_if (v := apV n l u) (b := decide (rootM n l = rootM n u)) (et_B (ev_cl (ea_cons (ev_var rfl) (ea_cons (ev_var rfl) (ea_cons (ev_var rfl) ea_nil))) (sv_kin ht'.two))) (fun hb => ?_) (fun hb => ?_)) fun H2 e2 => q H2 (e1.trans e2)
    · unfold apV
      rw [if_pos (of_decide_eq_true hb)]
      exact ev_cl (ea_cons (ev_var rfl) (ea_cons (ev_var rfl) (ea_cons (ev_var rfl) ea_nil))) (sv_ap ht'.two)
    · unfold apV
      rw [if_neg (of_decide_eq_false hb)]
      exact ev_c
def spUnd : Sp := fun vs H Q _ => ∃ (t : Tx) (n p : Nat), vs = [tv t, iv n, iv p] ∧ t.length ≤ 1000 ∧ n ≤ 6 ∧ RetV (tv (und n t p)) H Q
theorem ok_undone_at (T : Topf mg) (F : FnP K mg "undone_at" s_undone_at) : Cal P w K mg base CX0 1 "undone_at" ["text", "size", "place"] spUnd := by
  refine cal_mk F sc_undone_at (fun vs H Q E h => ?_) (fun _ _ _ _ _ _ us hl => match us, hl with | [_, _, _], _ => rfl) (fun f cdv A outer s H vs Q E hr h => ?_)
  · obtain ⟨t, n, p, rfl, _⟩ := h; rfl
  · obtain ⟨t, n, p, rfl, hz, h6, q⟩ := h
    refine ⟨_, (pss_one (ps_ret (pe_op op_add_str (pe_slice sl_str (pv 0) po_none (po_some (pe_op op_add (pv 2) (pv 1)))) (pe_slice sl_str (pv 0) (po_some (pe_op op_add (pv 2) (pe_op op_mul pe_int (pv 1)))) po_none)))), ?_⟩
    refine s_ret (v := tv (und n t p)) ?_ q
    refine ev_is (ev_addS (ev_slTo (t := t) (i := (p : Int) + (n : Int)) (ev_var rfl) (ev_I0 (ev_var rfl) (ev_var rfl)) (by omega) (by omega)) (ev_slFrom (t := t) (i := (p : Int) + 2 * (n : Int)) (ev_var rfl) (ev_I0 (ev_var rfl) (ev_I ev_c (ev_var rfl) (Or.inl ⟨by decide, by decide⟩))) (by omega) (by omega)) ?_) ?_
    · simp only [List.length_take, List.length_drop]; omega
    · unfold und
      rw [show ((p : Int) + (n : Int)).toNat = p + n by omega, show ((p : Int) + 2 * (n : Int)).toNat = p + 2 * n by omega]
end
end K9
namespace K9
open PySem PySem.Spec PyProof.Rows L2 Evl
local macro_rules | `(tactic| walk_at "ev") => `(tactic| first
  | with_reducible exact ev_c
  | ((with_reducible refine' ev_var ?k0); (case k0 => exact rfl))
  | with_reducible assumption
  | ((with_reducible refine' ev_lenS ?k0 ?k1); (case k0 => walk_at "ev"); (case k1 => walk_at "sz"))
  | ((with_reducible refine' ev_I0 ?k0 ?k1); (case k0 => walk_at "ev"); (case k1 => walk_at "ev"))
  | ((with_reducible refine' ev_I ?k0 ?k1 ?k2); (case k0 => walk_at "ev"); (case k1 => walk_at "ev"); (case k2 => walk_at "sz"))
  | ((with_reducible refine' ev_eq ?k0 ?k1 ?k2); (case k0 => walk_at "ev"); (case k1 => walk_at "ev"); (case k2 => walk_at "sz"))
  | ((with_reducible refine' ev_ne ?k0 ?k1 ?k2); (case k0 => walk_at "ev"); (case k1 => walk_at "ev"); (case k2 => walk_at "sz"))
  | ((with_reducible refine' ev_slTo ?k0 ?k1 ?k2 ?k3); (case k0 => walk_at "ev"); (case k1 => walk_at "ev"); (case k2 => walk_at "sz"); (case k3 => walk_at "sz"))
  | ((with_reducible refine' ev_slFrom ?k0 ?k1 ?k2 ?k3); (case k0 => walk_at "ev"); (case k1 => walk_at "ev"); (case k2 => walk_at "sz"); (case k3 => walk_at "sz"))
  | ((with_reducible refine' ev_slMid ?k0 ?k1 ?k2 ?k3 ?k4 ?k5); (case k0 => walk_at "ev"); (case k1 => walk_at "ev"); (case k2 => walk_at "ev"); (case k3 => walk_at "sz"); (case k4 => walk_at "sz"); (case k5 => walk_at "sz"))
  | ((with_reducible refine' ev_addS ?k0 ?k1 ?k2); (case k0 => walk_at "ev"); (case k1 => walk_at "ev"); (case k2 => walk_at "sz"))
  | ((with_reducible refine' ev_cl ?k0 ?k1); (case k0 => walk_at "ea"); (case k1 => walk_at "sp"))
  | ((with_reducible refine' ev_notV ?k0); (case k0 => walk_at "ev"))
  | ((with_reducible refine' ev_un ?k0 ru_neg); (case k0 => walk_at "ev")))
local macro_rules | `(tactic| walk_at "ea") => `(tactic| first
  | with_reducible exact ea_nil
  | ((with_reducible refine' ea_cons ?k0 ?k1); (case k0 => walk_at "ev"); (case k1 => walk_at "ea")))
local macro_rules | `(tactic| walk_at "et") => `(tactic| first
  | with_reducible assumption
  | ((with_reducible refine' et_test ?k0); (case k0 => walk_at "ev"))
  | ((with_reducible refine' et_B ?k0); (case k0 => walk_at "ev"))
  | ((with_reducible refine' et_not ?k0); (case k0 => walk_at "et")))
local macro_rules | `(tactic| walk_at "sz") => `(tactic| first
  | rfl
  | omega
  | (simp only [List.length_take, List.length_drop, List.length_append]; omega)
  | (constructor <;> omega)
  | assumption)
local macro_rules | `(tactic| walk_at "sp") => `(tactic| first | assumption)

def wdS (wd : Bool) : Str := if wd then "copy" else "undo"
theorem wd_dec (wd : Bool) : decide (V.str (wdS wd) = V.str "copy") = wd := by cases wd <;> decide +kernel
def ddD (d : Bool × Nat) : PyData := .tuple [.str (wdS d.1), nD d.2]
/-- a list at p whose items are data that stand off p -/
def Acc (K : PySem.W.Frag) (p : Addr) (H : Hp) (ds : List PyData) : Prop := ∃ xs, H p = some (.lst xs) ∧ DpAll K (drp H p) xs ds
theorem drp_mono {H H' : Hp} {p : Addr} (e : Ex H H') : Ex (drp H p) (drp H' p) := fun a o q => by
  by_cases h : a = p
  · subst h; rw [drp_at] at q; cases q
  · rw [drp_ne h] at q ⊢; exact e a o q
theorem drp_upd {H : Hp} {p : Addr} {o : HO} : Ex (drp H p) (drp (upd H p o) p) := fun a o' q => by
  by_cases h : a = p
  · subst h; rw [drp_at] at q; cases q
  · rw [drp_ne h] at q ⊢
    show (if a = p then _ else _) = _
    rw [if_neg h]; exact q
section
variable {K : PySem.W.Frag} {σ : L2.St} {H H' : Hp}
theorem Acc.mono {p : Addr} {ds : List PyData} (h : Acc K p H ds) (e : Ex H H') : Acc K p H' ds := by
  obtain ⟨xs, h1, h2⟩ := h
  exact ⟨xs, e _ _ h1, DpAll.mono (drp_mono e) h2⟩
/-- one more item -/
theorem Acc.push {p : Addr} {xs : List V} {ds : List PyData} {v : V} {d : PyData} (h : DpAll K (drp H p) xs ds) (e : Ex H H') (hv : Dp K (drp H' p) v d) : Acc K p (upd H' p (.lst (xs ++ [v]))) (ds ++ [d]) :=
  ⟨_, upd_same, dpa_app (DpAll.mono ((drp_mono e).trans drp_upd) h) (dpa_one (Dp.mono drp_upd hv))⟩
theorem Acc.ex {B : Hp} {p : Addr} {o : HO} (e : Ex B H) (h : B p = none) : Ex B (upd H p o) := e.mut h
end
section
variable {P : Program} {w : World} {K : PySem.W.Frag} {mg : Str → Option Value} {base : Heap}
def spDds (K : PySem.W.Frag) : Sp := fun vs H Q _ => ∃ l e n, Sec vs l e n ∧ (∀ p H2 xs, H p = none → Ex H H2 → H2 p = some (.lst xs) → DpAll K H2 xs ((deedsM n l e).1.map ddD) → Q (.ref p) H2)
theorem dsum {w : Nat} {a b : Tx} (ha : a.length ≤ 60) (hb : b.length ≤ 60) (ho : Ok a) {wd : Bool} {s : DS} (hs : s = ([], a) ∨ s = dhalf w false (growM w b a) ([], a) (growM w b a).length) {i : Nat} (hi : i ≤ (growM w b a).length) :
    Ok (dhalf w wd (growM w b a) s i).2 ∧ (dhalf w wd (growM w b a) s i).2.length ≤ 120 ∧ (dhalf w wd (growM w b a) s i).1.length ≤ 240 := by
  have h1 : Ok s.2 ∧ s.2.length ≤ 60 ∧ s.1.length ≤ 120 := by
    rcases hs with rfl | rfl
    · exact ⟨ho, ha, Nat.zero_le _⟩
    · refine ⟨dhalf_ok ho _, ?_, ?_⟩
      · have := dhalf_le (w := w) (wd := false) (g := growM w b a) (s := ([], a)) (k := (growM w b a).length) (Nat.le_refl _)
        simp at this; omega
      · have := dhalf_many (w := w) (wd := false) (g := growM w b a) (s := ([], a)) (k := (growM w b a).length) (Nat.le_refl _)
        have h2 := absS_le w a b (growM w b a).length
        simp at this; omega
  have h2 := dhalf_le (w := w) (wd := wd) (g := growM w b a) (s := s) (k := i) hi
  have h3 := dhalf_many (w := w) (wd := wd) (g := growM w b a) (s := s) (k := i) hi
  have h4 := posS_le w a b i
  have h5 := absS_le w a b i
  refine ⟨dhalf_ok h1.1 _, ?_, ?_⟩
  · cases wd <;> simp at h2 <;> omega
  · omega
theorem rep_succ {α : Type} (l : List α) (k : Nat) (a : α) : l ++ List.replicate (k + 1) a = (l ++ List.replicate k a) ++ [a] := by
  rw [List.replicate_succ', List.append_assoc]
theorem ok_deeds_of (T : Topf mg) (F : FnP K mg "deeds_of" s_deeds_of) (C_growths_of : Cal P w K mg base CX0 3 "growths_of" ["later", "elder", "size"] spGrow) (C_first_place : Cal P w K mg base CX0 3 "first_place" ["text", "size", "number"] spFp) (C_copied_of : Cal P w K mg base CX0 1 "copied_of" ["text", "size", "place"] spCop) (C_undone_at : Cal P w K mg base CX0 1 "undone_at" ["text", "size", "place"] spUnd) : Cal P w K mg base CX0 4 "deeds_of" ["one", "other", "size"] (spDds K) := by
  refine cal_mk F sc_deeds_of (fun vs H Q E h => ?_) (fun _ _ _ _ _ _ us hl => match us, hl with | [_, _, _], _ => rfl) (fun f cdv A outer s H vs Q E hr h => ?_)
  · obtain ⟨l, e, n, ⟨rfl, _⟩, _⟩ := h; rfl
  · obtain ⟨a, b, n, ht, q⟩ := h
    have ht' := ht
    obtain ⟨rfl, ha, hb, za, zb, h1, h6⟩ := ht
    refine ⟨_, (pss_cons (ps_par (i := 3) (j := 4) rfl sc_deeds_of.nd rfl rfl (by decide) rfl rfl (pa_cons (pe_lst pa_nil) (pa_cons (pv 0) pa_nil)) rfl)
      (pss_cons (ps_for PassesOwn.never rfl (k_pit (K := K) rfl (pe_tup (pa_cons (pe_gc rfl T.c_UNDO) (pa_cons (pe_gc rfl T.c_COPY) pa_nil)))) (pg_name (i := 5) sc_deeds_of.nd rfl (Or.inl rfl))
        (pss_one (ps_for PassesOwn.never rfl (k_pienum (K := K) rfl rfl T.b_enumerate (pa_cons (pe_c C_growths_of (hr.mono (by decide)) rfl (pa_cons (pv 1) (pa_cons (pv 0) (pa_cons (pv 2) pa_nil)))) pa_nil)) (k_pgtup (K := K) (n := 2) rfl (by rfl) (pgs_cons (pg_name (i := 6) sc_deeds_of.nd rfl (Or.inl rfl)) (pgs_cons (pg_name (i := 7) sc_deeds_of.nd rfl (Or.inl rfl)) pgs_nil)))
          (pss_cons (ps_set (i := 8) sc_deeds_of.nd rfl (Or.inl rfl) (pe_c C_first_place (hr.mono (by decide)) rfl (pa_cons (pv 4) (pa_cons (pv 2) (pa_cons (pv 6) pa_nil)))))
            (pss_one (ps_for PassesOwn.never rfl (pi_range1 rfl T.b_range (pa_cons (pe_op op_fdiv (pe_callB (call_max2 rfl) (by rfl) T.b_max (by decide +kernel) (pa_cons pe_int (pa_cons (pe_ifExp (pt_cmpR op_eq (pv 5) (pe_gc rfl T.c_COPY) (nomark _)) (pv 7) (pe_op op_sub pe_int (pv 7))) pa_nil))) (pv 2)) pa_nil)) (pg_name (i := 9) sc_deeds_of.nd rfl (Or.inl rfl))
            (pss_cons (ps_expr (k_bm (K := K) rfl PySem.F.plainAttrs_list PySem.F.slot_list_append PySem.F.type_list_append mt_append (pv 3) (pa_cons (pe_tup (pa_cons (pv 5) (pa_cons (pv 8) pa_nil))) pa_nil)))
              (pss_one (ps_set (i := 4) sc_deeds_of.nd rfl (Or.inl rfl) (pe_ifExp (pt_cmpR op_eq (pv 5) (pe_gc rfl T.c_COPY) (nomark _)) (pe_c C_copied_of (hr.mono (by decide)) rfl (pa_cons (pv 4) (pa_cons (pv 2) (pa_cons (pv 8) pa_nil)))) (pe_c C_undone_at (hr.mono (by decide)) rfl (pa_cons (pv 4) (pa_cons (pv 2) (pa_cons (pv 8) pa_nil))))))))))))))
      (pss_one (ps_ret (pv 3))))), ?_⟩
    refine ⟨by decide, fun p hp => ⟨tv a, rfl, .ref p, tv a, rfl, ?_⟩⟩
    have hpx : upd H p (.lst []) p = some (.lst []) := upd_same
    have e1 : Ex H (upd H p (.lst [])) := Ex.new hp
    generalize upd H p (.lst []) = H1 at hpx e1
    have hS := srcA_NU (K := K) (f := p) (σ := [some (tv a), some (tv b), some (iv n), some (.ref p), some (tv a), none, none, none, none, none]) (H := H1) (j := 5) hpx (xs := [.str "undo", .str "copy"]) (tl := tTup (tCons (tC (.str "undo")) (tCons (tC (.str "copy")) tNil))) (eu_tup (ea_cons ev_c (ea_cons ev_c ea_nil)) (by decide))
    let st : Nat → DS := fun i => match i with | 0 => ([], a) | 1 => dhalf n false (growM n b a) ([], a) (growM n b a).length | _ => deedsM n a b
    refine q_for hS (fun i σ' H' => (∃ y1 y2 y3 y4 y5, σ' = [some (tv a), some (tv b), some (iv n), some (.ref p), some (tv (st i).2), y1, y2, y3, y4, y5]) ∧ Acc K p H' ((st i).1.map ddD)) (fun H3 e3 => ⟨⟨_, _, _, _, _, rfl⟩, [], e3 _ _ hpx, .nil⟩) ?_ ?_
    · intro B i σ' H' H'' hi eB hB pv e4 e5
      obtain ⟨⟨y1, y2, y3, y4, y5, rfl⟩, hacc⟩ := pv
      have hi : i < 2 := hi
      obtain ⟨wd, hwd, hst, hst2⟩ : ∃ wd : Bool, ([V.str "undo", V.str "copy"].getD i .non) = .str (wdS wd) ∧ st (i + 1) = dhalf n wd (growM n b a) (st i) (growM n b a).length ∧ (st i = ([], a) ∨ st i = dhalf n false (growM n b a) ([], a) (growM n b a).length) := by
        rcases (show i = 0 ∨ i = 1 by omega) with rfl | rfl
        · exact ⟨false, rfl, rfl, .inl rfl⟩
        · exact ⟨true, rfl, rfl, .inr rfl⟩
      rw [hwd, hst]
      generalize st i = s0 at hst2 hacc
      obtain ⟨xs0, hx0, hd0⟩ := hacc.mono e5
      have hll : ((growM n b a).map V.int).length = (growM n b a).length := by simp
      have hS2 := srcA_enumN (K := K) (f := p) (j := 6) (k := 7) hx0 (el_cl (σ := [some (tv a), some (tv b), some (iv n), some (.ref p), some (tv s0.2), some (.str (wdS wd)), y2, y3, y4, y5]) (H := H'') (ta := tCons (tVar 1) (tCons (tVar 0) (tCons (tVar 2) tNil))) (ea_cons (ev_var rfl) (ea_cons (ev_var rfl) (ea_cons (ev_var rfl) ea_nil))) (sl_grow ht'.two.swap))
      rw [hll] at hS2
      refine s_for hS2 (fun j σ2 H2 => (∃ y2 y3 y4 y5, σ2 = [some (tv a), some (tv b), some (iv n), some (.ref p), some (tv (dhalf n wd (growM n b a) s0 j).2), some (.str (wdS wd)), y2, y3, y4, y5]) ∧ Acc K p H2 ((dhalf n wd (growM n b a) s0 j).1.map ddD)) (fun H3 e3 => ⟨⟨_, _, _, _, rfl⟩, Acc.mono ⟨xs0, hx0, hd0⟩ e3⟩) ?_ ?_
      · intro B2 j σ2 H2 H2' hj eB2 hB2 pv2 e6 e7
        obtain ⟨⟨y2, y3, y4, y5, rfl⟩, hacc2⟩ := pv2
        obtain ⟨ho, hz, hm⟩ := dsum (w := n) za zb ha (wd := wd) hst2 (Nat.le_of_lt hj)
        rw [getD_at (by rw [hll]; exact hj), List.getElem_map, dhalf_succ]
        have hgj : (growM n b a).getD j 0 = (growM n b a)[j] := getI_at hj
        have hgs := grow_small (n := n) (l := b) (e := a) zb za _ (List.getElem_mem hj)
        unfold dstep
        rw [hgj]
        have hpos : dtimes n true (growM n b a)[j] * n ≤ (growM n b a)[j].toNat := dt_pos
        have hab : dtimes n wd (growM n b a)[j] ≤ (growM n b a)[j].natAbs := dt_abs
        generalize (growM n b a)[j] = m at hgs hpos hab
        generalize dhalf n wd (growM n b a) s0 j = s1 at ho hz hm hacc2
        refine q_asg (v := iv (fplM n s1.2 j)) (ev_cl (ea_cons (ev_var rfl) (ea_cons (ev_var rfl) (ea_cons (ev_var rfl) ea_nil))) (sv_fp ho (by omega))) fun H3 e8 => ?_
        generalize fplM n s1.2 j = pl
        obtain ⟨xs1, hx1, hd1⟩ := (hacc2.mono e7).mono e8
        have hk : dtimes n wd m ≤ 1000 := by omega
        have hS3 := srcA_R1 (f := p) (j := 9) (σ := [some (tv a), some (tv b), some (iv n), some (.ref p), some (tv s1.2), some (.str (wdS wd)), some (iv j), some (.int m), some (iv pl), y5]) (H := H3) (n := dtimes n wd m)
          (ta := tCons (tOp (rI CDiv fun i j => .int (i / j)) (tCB (fun xs H Q => ∃ i j, xs = [.int i, .int j] ∧ Q (.int (if j > i then j else i)) H) (tCons (tC (.int 0)) (tCons (tIf (tTest (tOp rEq (tVar 5) (tC (.str "copy")))) (tVar 7) (tOp (rI0 fun i j => .int (i - j)) (tC (.int 0)) (tVar 7))) tNil))) (tVar 2)) tNil)
          (ea_cons (by
            refine ev_is (ev_I (i := ((if wd then m else -m).toNat : Int)) (j := (n : Int)) (ev_is (ev_max2 ev_c (ev_if (v := .int (if wd then m else -m)) (b := wd) (et_test (ev_is (ev_eq (ev_var rfl) ev_c rfl) (by rw [wd_dec]))) (fun hb => ?_) (fun hb => ?_))) ?_) (ev_var rfl) ⟨by omega, by omega⟩) ?_
            · rw [if_pos hb]; exact ev_var rfl
            · rw [hb]; exact ev_is (ev_I0 ev_c (ev_var rfl)) (by simp)
            · congr 1
              cases wd
              · simp; split <;> omega
              · simp; split <;> omega
            · rfl) ea_nil) (by omega)
        refine s_for hS3 (fun t σ3 H3 => (∃ y5, σ3 = [some (tv a), some (tv b), some (iv n), some (.ref p), some (tv (opK n wd pl t s1.2)), some (.str (wdS wd)), some (iv j), some (.int m), some (iv pl), y5]) ∧ Acc K p H3 ((s1.1 ++ List.replicate t (wd, pl)).map ddD)) (fun H4 e9 => ⟨⟨_, rfl⟩, by rw [List.replicate_zero, List.append_nil]; exact Acc.mono ⟨xs1, hx1, hd1⟩ e9⟩) ?_ ?_
        · intro B3 t σ3 H4 H4' ht3 eB3 hB3 pv3 e9 e10
          obtain ⟨⟨y5, rfl⟩, hacc3⟩ := pv3
          obtain ⟨xs2, hx2, hd2⟩ := hacc3.mono e10
          have hl2 : xs2.length < 100000 := by
            rw [dpa_len hd2, List.length_map, List.length_append, List.length_replicate]
            omega
          have hoK : Ok (opK n wd pl t s1.2) := opK_ok ho t
          have hzK : (opK n wd pl t s1.2).length ≤ 1000 := by
            have := opK_le n pl wd s1.2 t
            cases wd
            · simp at this; omega
            · have h8 : t * n ≤ dtimes n true m * n := Nat.mul_le_mul_right _ (Nat.le_of_lt ht3)
              simp at this
              omega
          refine q_appU hx2 (ev_var rfl) (eu_tup (vs := [.str (wdS wd), iv pl]) (ea_cons (ev_var rfl) (ea_cons (ev_var rfl) ea_nil)) (show 2 ≤ 100000 by decide)) hl2 fun c H5 hc e11 hcx => ?_
          have hne : c ≠ p := fun e => by rw [e, hx2] at hc; cases hc
          have hAcc := Acc.push (d := ddD (wd, pl)) hd2 e11 (Dp.tup (SqT.of (by rw [drp_ne hne]; exact hcx)) (.cons (.str _) (.cons (.int _) .nil)))
          have eB4 : Ex B3 (upd H5 p (.lst (xs2 ++ [.ref c]))) := ((e9.trans e10).trans e11).mut hB3
          generalize upd H5 p (.lst (xs2 ++ [.ref c])) = H6 at hAcc eB4
          refine s_asg (v := tv (opM n wd (opK n wd pl t s1.2) pl)) (ev_if (b := wd) (et_test (ev_is (ev_eq (ev_var rfl) ev_c rfl) (by rw [wd_dec]))) (fun hb => ?_) (fun hb => ?_)) fun H7 e12 => ⟨eB4.trans e12, ⟨_, rfl⟩, ?_⟩
          · subst hb
            exact ev_cl (ea_cons (ev_var rfl) (ea_cons (ev_var rfl) (ea_cons (ev_var rfl) ea_nil))) fun H8 _ Q8 q8 E8 => ⟨opK n true pl t s1.2, n, pl, rfl, hzK, q8⟩
          · subst hb
            exact ev_cl (ea_cons (ev_var rfl) (ea_cons (ev_var rfl) (ea_cons (ev_var rfl) ea_nil))) fun H8 _ Q8 q8 E8 => ⟨opK n false pl t s1.2, n, pl, rfl, hzK, h6, q8⟩
          · rw [rep_succ, List.map_append]
            exact hAcc.mono e12
        · intro σ3 H4 eH4 pv3
          obtain ⟨⟨y5, rfl⟩, hacc3⟩ := pv3
          exact ⟨(drp_of (e6.trans (e7.trans e8)) hB2).trans eH4, ⟨_, _, _, _, rfl⟩, hacc3⟩
      · intro σ2 H2 eH2 pv2
        obtain ⟨⟨y2, y3, y4, y5, rfl⟩, hacc2⟩ := pv2
        exact ⟨(drp_of (e4.trans e5) hB).trans eH2, ⟨_, _, _, _, _, rfl⟩, hacc2⟩
    · intro σ' H' eH pv
      obtain ⟨⟨y1, y2, y3, y4, y5, rfl⟩, xs, hx, hd⟩ := pv
      refine s_ret (v := .ref p) (ev_var rfl) fun H3 e3 => q p H3 xs hp ((drp_of e1 hp).trans (eH.trans e3)) (e3 _ _ hx) (DpAll.mono ((drp_ex _ _).trans e3) hd)
def rowD (n : Nat) (l e : Tx) : PyData := if rootM n l = rootM n e then .tuple ((deedsM n l e).1.map ddD) else .none
def spRow (K : PySem.W.Frag) : Sp := fun vs H Q _ => ∃ l e n, Sec vs l e n ∧ RetD K (rowD n l e) H Q
theorem ok_deed_row (T : Topf mg) (F : FnP K mg "deed_row" s_deed_row) (C_need_two : Cal P w K mg base CX0 3 "need_two" ["one", "other", "size"] spNeed2) (C_are_kin_of : Cal P w K mg base CX0 4 "are_kin_of" ["one", "other", "size"] spKin) (C_deeds_of : Cal P w K mg base CX0 4 "deeds_of" ["one", "other", "size"] (spDds K)) : Cal P w K mg base CX0 5 "deed_row" ["one", "other", "size"] (spRow K) := by
  refine cal_mk F sc_deed_row (fun vs H Q E h => ?_) (fun _ _ _ _ _ _ us hl => match us, hl with | [_, _, _], _ => rfl) (fun f cdv A outer s H vs Q E hr h => ?_)
  · obtain ⟨l, e, n, ⟨rfl, _⟩, _⟩ := h; rfl
  · obtain ⟨l, u, n, ht, q⟩ := h
    have ht' := ht
    obtain ⟨rfl, hl, hu, zl, zu, h1, h6⟩ := ht
    refine ⟨_, (pss_cons (ps_expr (pe_c C_need_two (hr.mono (by decide)) rfl (pa_cons (pv 0) (pa_cons (pv 1) (pa_cons (pv 2) pa_nil)))))
      (pss_one (ps_ret (pe_ifExp (pt_val (pe_c C_are_kin_of (hr.mono (by decide)) rfl (pa_cons (pv 0) (pa_cons (pv 1) (pa_cons (pv 2) pa_nil))))) (pe_callTy (k_tuple (K := K) rfl) (by rfl) T.b_tuple (by decide +kernel) (pa_cons (pe_c C_deeds_of (hr.mono (by decide)) rfl (pa_cons (pv 0) (pa_cons (pv 1) (pa_cons (pv 2) pa_nil)))) pa_nil)) pe_non)))), ?_⟩
    refine q_drop (v := .non) (ev_cl (ea_cons (ev_var rfl) (ea_cons (ev_var rfl) (ea_cons (ev_var rfl) ea_nil))) (sv_need2 ht')) fun H1 e1 => ?_
    have hk : EvT _ (start N_deed_row [tv l, tv u, iv n]) H1 (decide (rootM n l = rootM n u)) := et_B (ev_cl (ta := tCons (tVar 0) (tCons (tVar 1) (tCons (tVar 2) tNil))) (ea_cons (ev_var rfl) (ea_cons (ev_var rfl) (ea_cons (ev_var rfl) ea_nil))) (sv_kin ht'.two))
    refine hk H1 (Ex.refl H1) _ fun H2 e2 => ?_
    unfold rowD at q
    by_cases hb : rootM n l = rootM n u
    · rw [if_pos hb] at q
      rw [decide_eq_true hb]
      refine iteT ?_
      refine ⟨_, rfl, _, rfl, _, rfl, l, u, n, ht', fun p H3 xs hp e3 hx hd => ?_⟩
      exact ⟨p, xs, rfl, .inl ⟨SqL.of hx, fun c hc => q (.ref c) _ (e1.trans (e2.trans (e3.trans (Ex.new hc)))) (.tup (SqT.of upd_same) (DpAll.mono (Ex.new hc) hd))⟩⟩
    · rw [if_neg hb] at q
      rw [decide_eq_false hb]
      exact iteF (q .non H2 (e1.trans e2) .non)
end
end K9
namespace K9
open PySem PySem.Spec PyProof.Rows L2 Evl
local macro_rules | `(tactic| walk_at "ev") => `(tactic| first
  | with_reducible exact ev_c
  | ((with_reducible refine' ev_var ?k0); (case k0 => exact rfl))
  | with_reducible assumption
  | ((with_reducible refine' ev_lenS ?k0 ?k1); (case k0 => walk_at "ev"); (case k1 => walk_at "sz"))
  | ((with_reducible refine' ev_I0 ?k0 ?k1); (case k0 => walk_at "ev"); (case k1 => walk_at "ev"))
  | ((with_reducible refine' ev_I ?k0 ?k1 ?k2); (case k0 => walk_at "ev"); (case k1 => walk_at "ev"); (case k2 => walk_at "sz"))
  | ((with_reducible refine' ev_eq ?k0 ?k1 ?k2); (case k0 => walk_at "ev"); (case k1 => walk_at "ev"); (case k2 => walk_at "sz"))
  | ((with_reducible refine' ev_ne ?k0 ?k1 ?k2); (case k0 => walk_at "ev"); (case k1 => walk_at "ev"); (case k2 => walk_at "sz"))
  | ((with_reducible refine' ev_slTo ?k0 ?k1 ?k2 ?k3); (case k0 => walk_at "ev"); (case k1 => walk_at "ev"); (case k2 => walk_at "sz"); (case k3 => walk_at "sz"))
  | ((with_reducible refine' ev_slFrom ?k0 ?k1 ?k2 ?k3); (case k0 => walk_at "ev"); (case k1 => walk_at "ev"); (case k2 => walk_at "sz"); (case k3 => walk_at "sz"))
  | ((with_reducible refine' ev_slMid ?k0 ?k1 ?k2 ?k3 ?k4 ?k5); (case k0 => walk_at "ev"); (case k1 => walk_at "ev"); (case k2 => walk_at "ev"); (case k3 => walk_at "sz"); (case k4 => walk_at "sz"); (case k5 => walk_at "sz"))
  | ((with_reducible refine' ev_addS ?k0 ?k1 ?k2); (case k0 => walk_at "ev"); (case k1 => walk_at "ev"); (case k2 => walk_at "sz"))
  | ((with_reducible refine' ev_cl ?k0 ?k1); (case k0 => walk_at "ea"); (case k1 => walk_at "sp"))
  | ((with_reducible refine' ev_notV ?k0); (case k0 => walk_at "ev"))
  | ((with_reducible refine' ev_un ?k0 ru_neg); (case k0 => walk_at "ev")))
local macro_rules | `(tactic| walk_at "ea") => `(tactic| first
  | with_reducible exact ea_nil
  | ((with_reducible refine' ea_cons ?k0 ?k1); (case k0 => walk_at "ev"); (case k1 => walk_at "ea")))
local macro_rules | `(tactic| walk_at "et") => `(tactic| first
  | with_reducible assumption
  | ((with_reducible refine' et_test ?k0); (case k0 => walk_at "ev"))
  | ((with_reducible refine' et_B ?k0); (case k0 => walk_at "ev"))
  | ((with_reducible refine' et_not ?k0); (case k0 => walk_at "et")))
local macro_rules | `(tactic| walk_at "sz") => `(tactic| first
  | rfl
  | omega
  | (simp only [List.length_take, List.length_drop, List.length_append]; omega)
  | (constructor <;> omega)
  | assumption)
local macro_rules | `(tactic| walk_at "sp") => `(tactic| first | assumption)

/-- an exception that is told as dt -/
def EchT (K : PySem.W.Frag) (z : ExA) (Q : VK) : XK := fun cls d H' => ∃ (C dd : Addr) (fs : List (Str × V)) (dt : PyData), cls = .ref C ∧ d = some dd ∧ H' dd = some (.xd fs) ∧
  ((C = z.pa ∧ ∃ s : Str, fs = [(("word" : Str), V.str s)] ∧ dt = .tuple [.str "paper", .str s]) ∨ (C = z.tm ∧ ∃ n : Int, fs = [(("most" : Str), V.int n)] ∧ dt = .tuple [.str "many", .int n])) ∧ RetD K dt H' Q
def QokT (Q : VK) : VK := fun v H' => ∀ p H2, H' p = none → Ex H' H2 → H2 p = some (.lst [v]) → Q (.ref p) H2
def TTold (K : PySem.W.Frag) (z : ExA) : (XK → Hp → VK → Prop) → Hp → VK → Prop := fun tl H Q => ∀ (H0 : Hp) (Eb : XK) (Qb : VK), Ex H H0 → (∀ v H', QokT Q v H' → Qb v H') → (∀ cls d H', EchT K z Q cls d H' → Eb cls d H') → tl Eb H0 Qb
theorem told_body {X : Cx} {W : WX} {body : List Stmt} {t : XK → TS} (h : ∀ Ech : XK, (∀ cls d σ' H', Ech cls d H' → W cls d σ' H') → PSs X body (t Ech)) : PSs X body (fun D σ H => ∃ Ech : XK, (∀ cls d σ' H', Ech cls d H' → W cls d σ' H') ∧ t Ech D σ H) :=
  ⟨fun pins s σ H D I ⟨Ech, hW, q⟩ => (h Ech hW).run pins s σ H D I q⟩
theorem told_gives {X : Cx} {K : PySem.W.Frag} {z : ExA} {q : Str} {g : Addr} {cdg : Value} (hK : X.K = K) (T : Topf X.mg) (XF : Excf X.prog K X.mg z) :
    LamX.GivesTo X N_l_told "_law_told" (defScope s_l_told) g cdg (defBody s_l_told) "_law_call" q (TTold K z) := by
  subst hK
  intro f c' s H Q tl act hc h
  refine ⟨_, (pss_cons (ps_asg (pe_tup (pa_cons pe_non (pa_cons pe_non pa_nil))) (k_pgtup (K := X.K) (n := 2) rfl (by rfl) (pgs_cons (pg_name (i := 1) sc_l_told.nd rfl (Or.inl rfl)) (pgs_cons (pg_name (i := 2) sc_l_told.nd rfl (Or.inl rfl)) pgs_nil))))
      (pss_cons (ps_try_kept (i := 3) rfl rfl sc_l_told.nd rfl rfl ⟨rfl, rfl, XF.n_TwiceError⟩ ⟨rfl, rfl, XF.n_TooLong⟩ ⟨rfl, rfl, XF.n_TooMany⟩ (fun W pn xe tk _ => told_body (fun Ech hW => pss_one (ps_set (i := 1) sc_l_told.nd rfl (Or.inl rfl) (act W pn xe Ech _ _ tk hW)))) (fun a pn => (pss_one (ps_set (i := 2) sc_l_told.nd rfl (Or.inl rfl) (pv 3)))))
      (pss_cons (ps_if (pt_cmpR op_isN (pv 2) pe_non (nomark _)) (pss_one (ps_ret (pe_lst (pa_cons (pv 1) pa_nil)))) pss_nil)
      (pss_cons (ps_set (i := 4) sc_l_told.nd rfl (Or.inl rfl) (pe_ifExp (pt_val (pe_callB (k_isX (K := X.K) rfl) (by rfl) T.b_isinstance (by decide +kernel) (pa_cons (pv 2) (pa_cons (pe_gc rfl (gcX XF.n_TooLong)) pa_nil)))) (pe_lst (pa_cons (pe_tup (pa_cons pe_str (pa_cons (pe_xz (K := X.K) rfl (pv 2)) pa_nil))) pa_nil)) (pe_lst pa_nil)))
      (pss_cons (ps_set (i := 4) sc_l_told.nd rfl (Or.inl rfl) (pe_ifExp (pt_val (pe_callB (k_isX (K := X.K) rfl) (by rfl) T.b_isinstance (by decide +kernel) (pa_cons (pv 2) (pa_cons (pe_gc rfl (gcX XF.n_TooMany)) pa_nil)))) (pe_op op_cat (pv 4) (pe_lst (pa_cons (pe_tup (pa_cons pe_str (pa_cons (pe_xz (K := X.K) rfl (pv 2)) pa_nil))) pa_nil))) (pv 4)))
      (pss_cons (ps_set (i := 4) sc_l_told.nd rfl (Or.inl rfl) (pe_ifExp (pt_val (pe_callB (k_isX (K := X.K) rfl) (by rfl) T.b_isinstance (by decide +kernel) (pa_cons (pv 2) (pa_cons (pe_gc rfl (gcX XF.n_BadLetters)) pa_nil)))) (pe_op op_cat (pv 4) (pe_lst (pa_cons (pe_tup (pa_cons pe_str (pa_cons (pe_xz (K := X.K) rfl (pv 2)) pa_nil))) pa_nil))) (pv 4)))
      (pss_cons (ps_set (i := 4) sc_l_told.nd rfl (Or.inl rfl) (pe_ifExp (pt_val (pe_callB (k_isX (K := X.K) rfl) (by rfl) T.b_isinstance (by decide +kernel) (pa_cons (pv 2) (pa_cons (pe_gc rfl (gcX XF.n_BadSize)) pa_nil)))) (pe_op op_cat (pv 4) (pe_lst (pa_cons (pe_tup (pa_cons pe_str (pa_cons (pe_xz (K := X.K) rfl (pv 2)) pa_nil))) pa_nil))) (pv 4)))
      (pss_cons (ps_set (i := 4) sc_l_told.nd rfl (Or.inl rfl) (pe_ifExp (pt_val (pe_callB (k_isX (K := X.K) rfl) (by rfl) T.b_isinstance (by decide +kernel) (pa_cons (pv 2) (pa_cons (pe_gc rfl (gcX XF.n_BadPlace)) pa_nil)))) (pe_op op_cat (pv 4) (pe_lst (pa_cons (pe_tup (pa_cons pe_str (pa_cons (pe_xz (K := X.K) rfl (pv 2)) pa_nil))) pa_nil))) (pv 4)))
      (pss_cons (ps_set (i := 4) sc_l_told.nd rfl (Or.inl rfl) (pe_ifExp (pt_val (pe_callB (k_isX (K := X.K) rfl) (by rfl) T.b_isinstance (by decide +kernel) (pa_cons (pv 2) (pa_cons (pe_gc rfl (gcX XF.n_BadNumber)) pa_nil)))) (pe_op op_cat (pv 4) (pe_lst (pa_cons (pe_tup (pa_cons pe_str (pa_cons (pe_xz (K := X.K) rfl (pv 2)) pa_nil))) pa_nil))) (pv 4)))
      (pss_cons (ps_set (i := 4) sc_l_told.nd rfl (Or.inl rfl) (pe_ifExp (pt_val (pe_callB (k_isX (K := X.K) rfl) (by rfl) T.b_isinstance (by decide +kernel) (pa_cons (pv 2) (pa_cons (pe_gc rfl (gcX XF.n_BadPaper)) pa_nil)))) (pe_op op_cat (pv 4) (pe_lst (pa_cons (pe_tup (pa_cons pe_str (pa_cons (pe_xz (K := X.K) rfl (pv 2)) pa_nil))) pa_nil))) (pv 4)))
      (pss_one (ps_ret (pe_ifExp (pt_cmpR op_eq (pe_callB (k_len (K := X.K) rfl) (by rfl) T.b_len (by decide +kernel) (pa_cons (pv 4) pa_nil)) pe_int (nomark _)) (pe_ix (k_ixL (K := X.K) rfl) (pv 4) pe_int (fun _ _ => rfl)) (pe_tup (pa_cons pe_str pa_nil))))))))))))))), ?_⟩
  refine ⟨by decide, fun p0 hp0 => ⟨p0, [.non, .non], rfl, SqT.of upd_same, rfl, .non, [.non], rfl, .non, [], rfl, rfl, ?_⟩⟩
  have e0 : Ex H (upd H p0 (.tup [.non, .non])) := Ex.new hp0
  generalize upd H p0 (.tup [.non, .non]) = H0 at e0
  refine ⟨EchT X.K z Q, fun cls d σ' H' hE => ?_, rfl, e0 _ _ hc, h H0 _ _ e0 (fun v H' hq => ?_) fun cls d H' he => he⟩
  · obtain ⟨C, dd, fs, dt, rfl, rfl, hdd, hcase, hret⟩ := hE
    have hexm : PySem.W.exmAny X.K (.ref C) [.ref z.tw, .ref z.tl, .ref z.tm] = some true := by
      rcases hcase with ⟨rfl, _⟩ | ⟨rfl, _⟩
      · exact XF.mP
      · exact XF.mM
    refine ⟨hexm, fun hl a ha => ?_⟩
    obtain ⟨y0, y1, y2, y3, y4, rfl⟩ : ∃ y0 y1 y2 y3 y4, σ' = [y0, y1, y2, y3, y4] := by
      have hl : σ'.length = 5 := hl
      match σ', hl with
      | [y0, y1, y2, y3, y4], _ => exact ⟨_, _, _, _, _, rfl⟩
    refine s_asg (v := .ref a) (ev_var rfl) fun H1 e1 => ?_
    have eA : Ex H' H1 := (Ex.new ha).trans e1
    have hA : ExAt H1 a C fs := ⟨dd, e1 _ _ upd_same, eA _ _ hdd⟩
    rcases hcase with ⟨rfl, s0, rfl, rfl⟩ | ⟨rfl, n0, rfl, rfl⟩
    · skip
      refine q_when (b := false) (et_B (ev_is (ev_isN (ev_var rfl)) rfl)) (fun z => by cases z) fun _ H2 e2 => ?_
      have hA2 := hA.mono e2
      refine q_asgLD (K := X.K) (ds := []) (ld_if (b := false) (et_B (ev_isX (ev_var rfl) hA2 XF.cP (XF.iP.1 z.tl (by simp)))) (fun z => by cases z) (fun _ => ld_nil)) fun p xs H3 hp e3 hx hd => ?_
      obtain rfl : xs = [] := by cases hd; rfl
      have hA3 := hA2.mono e3
      refine q_asg (v := .ref p) (ev_if (b := false) (et_B (ev_isX (ev_var rfl) hA3 XF.cP (XF.iP.1 z.tm (by simp)))) (fun z => by cases z) (fun _ => ev_var rfl)) fun H4 e4 => ?_
      replace hx := e4 _ _ hx
      have hA4 := hA3.mono e4
      refine q_asg (v := .ref p) (ev_if (b := false) (et_B (ev_isX (ev_var rfl) hA4 XF.cP (XF.iP.1 z.bl (by simp)))) (fun z => by cases z) (fun _ => ev_var rfl)) fun H5 e5 => ?_
      replace hx := e5 _ _ hx
      have hA5 := hA4.mono e5
      refine q_asg (v := .ref p) (ev_if (b := false) (et_B (ev_isX (ev_var rfl) hA5 XF.cP (XF.iP.1 z.bs (by simp)))) (fun z => by cases z) (fun _ => ev_var rfl)) fun H6 e6 => ?_
      replace hx := e6 _ _ hx
      have hA6 := hA5.mono e6
      refine q_asg (v := .ref p) (ev_if (b := false) (et_B (ev_isX (ev_var rfl) hA6 XF.cP (XF.iP.1 z.bp (by simp)))) (fun z => by cases z) (fun _ => ev_var rfl)) fun H7 e7 => ?_
      replace hx := e7 _ _ hx
      have hA7 := hA6.mono e7
      refine q_asg (v := .ref p) (ev_if (b := false) (et_B (ev_isX (ev_var rfl) hA7 XF.cP (XF.iP.1 z.bn (by simp)))) (fun z => by cases z) (fun _ => ev_var rfl)) fun H8 e8 => ?_
      replace hx := e8 _ _ hx
      have hA8 := hA7.mono e8
      refine q_asgLD (K := X.K) (ds := [] ++ [(.tuple [.str "paper", .str s0])]) (ld_if (b := true) (et_B (ev_isX (ev_var rfl) hA8 XF.cP (XF.iP.2))) (fun _ => ld_catV (ev_var rfl) hx .nil (ld_lst (ad_cons (ed_u (ud_tup (ad_cons (ed_ev ev_c (.str _)) (ad_cons (ed_ev (ev_xz (ev_var rfl) hA8 XF.xP XF.fP rfl) (.str _)) ad_nil)) (Nat.le_of_ble_eq_true rfl))) ad_nil) (Nat.le_of_ble_eq_true rfl)) (Nat.le_of_ble_eq_true rfl)) (fun z => by cases z)) fun r ys H9 hr e9 hy hdy => ?_
      obtain ⟨y, rfl, hdv⟩ : ∃ y, ys = [y] ∧ Dp X.K H9 y (.tuple [.str "paper", .str s0]) := by cases hdy with | cons a b => cases b; exact ⟨_, rfl, a⟩
      have hA9 := hA8.mono e9
      refine s_retD (d := (.tuple [.str "paper", .str s0])) (ed_if (b := true) (et_B (ev_is (ev_eq (ev_len (ev_var (v := .ref r) rfl) (SqL.of hy)) ev_c rfl) rfl)) (fun _ => ed_ev (ev_op (ev_var (v := .ref r) rfl) ev_c (rv_ixL (SqL.of hy) (atI_nat (j := 0) rfl))) hdv) (fun z => by cases z)) fun v HF eF hv => hret v HF ?_ hv
      exact eA.trans (e2.trans (e3.trans (e4.trans (e5.trans (e6.trans (e7.trans (e8.trans (e9.trans eF))))))))
    · skip
      refine q_when (b := false) (et_B (ev_is (ev_isN (ev_var rfl)) rfl)) (fun z => by cases z) fun _ H2 e2 => ?_
      have hA2 := hA.mono e2
      refine q_asgLD (K := X.K) (ds := []) (ld_if (b := false) (et_B (ev_isX (ev_var rfl) hA2 XF.cM (XF.iM.1 z.tl (by simp)))) (fun z => by cases z) (fun _ => ld_nil)) fun p xs H3 hp e3 hx hd => ?_
      obtain rfl : xs = [] := by cases hd; rfl
      have hA3 := hA2.mono e3
      refine q_asgLD (K := X.K) (ds := [] ++ [(.tuple [.str "many", .int n0])]) (ld_if (b := true) (et_B (ev_isX (ev_var rfl) hA3 XF.cM (XF.iM.2))) (fun _ => ld_catV (ev_var rfl) hx .nil (ld_lst (ad_cons (ed_u (ud_tup (ad_cons (ed_ev ev_c (.str _)) (ad_cons (ed_ev (ev_xz (ev_var rfl) hA3 XF.xM XF.fM rfl) (.int _)) ad_nil)) (Nat.le_of_ble_eq_true rfl))) ad_nil) (Nat.le_of_ble_eq_true rfl)) (Nat.le_of_ble_eq_true rfl)) (fun z => by cases z)) fun r ys H4 hr e4 hy hdy => ?_
      obtain ⟨y, rfl, hdv⟩ : ∃ y, ys = [y] ∧ Dp X.K H4 y (.tuple [.str "many", .int n0]) := by cases hdy with | cons a b => cases b; exact ⟨_, rfl, a⟩
      have hA4 := hA3.mono e4
      refine q_asg (v := .ref r) (ev_if (b := false) (et_B (ev_isX (ev_var rfl) hA4 XF.cM (XF.iM.1 z.bl (by simp)))) (fun z => by cases z) (fun _ => ev_var rfl)) fun H5 e5 => ?_
      replace hy := e5 _ _ hy; replace hdv := Dp.mono e5 hdv
      have hA5 := hA4.mono e5
      refine q_asg (v := .ref r) (ev_if (b := false) (et_B (ev_isX (ev_var rfl) hA5 XF.cM (XF.iM.1 z.bs (by simp)))) (fun z => by cases z) (fun _ => ev_var rfl)) fun H6 e6 => ?_
      replace hy := e6 _ _ hy; replace hdv := Dp.mono e6 hdv
      have hA6 := hA5.mono e6
      refine q_asg (v := .ref r) (ev_if (b := false) (et_B (ev_isX (ev_var rfl) hA6 XF.cM (XF.iM.1 z.bp (by simp)))) (fun z => by cases z) (fun _ => ev_var rfl)) fun H7 e7 => ?_
      replace hy := e7 _ _ hy; replace hdv := Dp.mono e7 hdv
      have hA7 := hA6.mono e7
      refine q_asg (v := .ref r) (ev_if (b := false) (et_B (ev_isX (ev_var rfl) hA7 XF.cM (XF.iM.1 z.bn (by simp)))) (fun z => by cases z) (fun _ => ev_var rfl)) fun H8 e8 => ?_
      replace hy := e8 _ _ hy; replace hdv := Dp.mono e8 hdv
      have hA8 := hA7.mono e8
      refine q_asg (v := .ref r) (ev_if (b := false) (et_B (ev_isX (ev_var rfl) hA8 XF.cM (XF.iM.1 z.pa (by simp)))) (fun z => by cases z) (fun _ => ev_var rfl)) fun H9 e9 => ?_
      replace hy := e9 _ _ hy; replace hdv := Dp.mono e9 hdv
      have hA9 := hA8.mono e9
      refine s_retD (d := (.tuple [.str "many", .int n0])) (ed_if (b := true) (et_B (ev_is (ev_eq (ev_len (ev_var (v := .ref r) rfl) (SqL.of hy)) ev_c rfl) rfl)) (fun _ => ed_ev (ev_op (ev_var (v := .ref r) rfl) ev_c (rv_ixL (SqL.of hy) (atI_nat (j := 0) rfl))) hdv) (fun z => by cases z)) fun v HF eF hv => hret v HF ?_ hv
      exact eA.trans (e2.trans (e3.trans (e4.trans (e5.trans (e6.trans (e7.trans (e8.trans (e9.trans eF))))))))
  · refine q_when (b := true) (et_B (ev_is (ev_isN (ev_var rfl)) rfl)) (fun _ H1 e1 => ?_) (fun z => by cases z)
    exact s_retL (el_one (ev_var rfl)) fun p H2 hp e2 hx => hq p H2 (fresh_back e1 hp) (e1.trans e2) hx
end K9
namespace K9
open PySem PySem.Spec PyProof.Rows L2 Evl
local macro_rules | `(tactic| walk_at "ev") => `(tactic| first
  | with_reducible exact ev_c
  | ((with_reducible refine' ev_var ?k0); (case k0 => exact rfl))
  | with_reducible assumption
  | ((with_reducible refine' ev_lenS ?k0 ?k1); (case k0 => walk_at "ev"); (case k1 => walk_at "sz"))
  | ((with_reducible refine' ev_I0 ?k0 ?k1); (case k0 => walk_at "ev"); (case k1 => walk_at "ev"))
  | ((with_reducible refine' ev_I ?k0 ?k1 ?k2); (case k0 => walk_at "ev"); (case k1 => walk_at "ev"); (case k2 => walk_at "sz"))
  | ((with_reducible refine' ev_eq ?k0 ?k1 ?k2); (case k0 => walk_at "ev"); (case k1 => walk_at "ev"); (case k2 => walk_at "sz"))
  | ((with_reducible refine' ev_ne ?k0 ?k1 ?k2); (case k0 => walk_at "ev"); (case k1 => walk_at "ev"); (case k2 => walk_at "sz"))
  | ((with_reducible refine' ev_slTo ?k0 ?k1 ?k2 ?k3); (case k0 => walk_at "ev"); (case k1 => walk_at "ev"); (case k2 => walk_at "sz"); (case k3 => walk_at "sz"))
  | ((with_reducible refine' ev_slFrom ?k0 ?k1 ?k2 ?k3); (case k0 => walk_at "ev"); (case k1 => walk_at "ev"); (case k2 => walk_at "sz"); (case k3 => walk_at "sz"))
  | ((with_reducible refine' ev_slMid ?k0 ?k1 ?k2 ?k3 ?k4 ?k5); (case k0 => walk_at "ev"); (case k1 => walk_at "ev"); (case k2 => walk_at "ev"); (case k3 => walk_at "sz"); (case k4 => walk_at "sz"); (case k5 => walk_at "sz"))
  | ((with_reducible refine' ev_addS ?k0 ?k1 ?k2); (case k0 => walk_at "ev"); (case k1 => walk_at "ev"); (case k2 => walk_at "sz"))
  | ((with_reducible refine' ev_cl ?k0 ?k1); (case k0 => walk_at "ea"); (case k1 => walk_at "sp"))
  | ((with_reducible refine' ev_notV ?k0); (case k0 => walk_at "ev"))
  | ((with_reducible refine' ev_un ?k0 ru_neg); (case k0 => walk_at "ev")))
local macro_rules | `(tactic| walk_at "ea") => `(tactic| first
  | with_reducible exact ea_nil
  | ((with_reducible refine' ea_cons ?k0 ?k1); (case k0 => walk_at "ev"); (case k1 => walk_at "ea")))
local macro_rules | `(tactic| walk_at "et") => `(tactic| first
  | with_reducible assumption
  | ((with_reducible refine' et_test ?k0); (case k0 => walk_at "ev"))
  | ((with_reducible refine' et_B ?k0); (case k0 => walk_at "ev"))
  | ((with_reducible refine' et_not ?k0); (case k0 => walk_at "et")))
local macro_rules | `(tactic| walk_at "sz") => `(tactic| first
  | rfl
  | omega
  | (simp only [List.length_take, List.length_drop, List.length_append]; omega)
  | (constructor <;> omega)
  | assumption)
local macro_rules | `(tactic| walk_at "sp") => `(tactic| first | assumption)

section
variable {P : Program} {w : World} {K : PySem.W.Frag} {mg : Str → Option Value} {base : Heap}
/-- the rule for a def that lets exceptions out -/
theorem cal_mkX {x : Str} {st : Stmt} {N ps : List Str} {k : Nat} {sp : Sp} (F : FnP K mg x st) (S : FnScope N ps (defScope st)) (len : ∀ vs H Q E, sp vs H Q E → vs.length = ps.length)
    (hb : ∀ (kV doc pm : Value) (an : Option Addr) (cdv ct : Value) (us : List Value), us.length = ps.length → bindArgs (PySem.W.fnOf x x (defArgs st) (defBody st) (defScope st) .none kV doc pm an cdv ct) ⟨us, []⟩ = pure (ps.zip us))
    (hbody : ∀ (f : Addr) (cdv : Value) (A : Around) (outer : List Env) (s : Shared) (H : Hp) (vs : List V) (Q : VK) (E : XK), Room k (A.deeper (envOfC x (defScope st) s.heap.objs.size f cdv)) → sp vs H Q E →
      ∃ t, PSs (cxOf (L2.CX P w) P w K mg base N x (defScope st) f cdv A outer s H E) (defBody st) t ∧ t { nx := fun _ H' => Q .non H', rt := Q } (start N vs) H) : Cal P w K mg base (L2.CX P w) (k + 1) x ps sp := by
  obtain ⟨f, fd, D, hm⟩ := F
  exact ⟨f, fd, D.ok S len (fun cdv A outer s H vs Q E hr h => hbody f cdv A outer s H vs Q E hr h), hm, D.kp, D.bindsN hb⟩
theorem tkX {N : List Str} {q : Str} {sc : Scope} {f : Addr} {cdv : Value} {A : Around} {outer : List Env} {s : Shared} {H : Hp} {E : XK} : Takes (cxOf (L2.CX P w) P w K mg base N q sc f cdv A outer s H E) (fun cls d _ H => E cls d H) :=
  takes_of rfl rfl rfl rfl
end
/-! ### values that may be of any kind -/
mutual
inductive Od (K : PySem.W.Frag) (H : Hp) : V → PyData → Prop
  | non : Od K H .non .none
  | bl (b : Bool) : Od K H (.bl b) (.bool b)
  | int (i : Int) : Od K H (.int i) (.int i)
  | str (x : Str) : Od K H (.str x) (.str x)
  | lst {a : Addr} {xs : List V} {ds : List PyData} : SqL K H a xs → OdAll K H xs ds → Od K H (.ref a) (.list ds)
  | tup {a : Addr} {xs : List V} {ds : List PyData} : SqT K H a xs → OdAll K H xs ds → Od K H (.ref a) (.tuple ds)
  | dic {a : Addr} : H a = some (.dK []) → Od K H (.ref a) (.dict [])
inductive OdAll (K : PySem.W.Frag) (H : Hp) : List V → List PyData → Prop
  | nil : OdAll K H [] []
  | cons {v : V} {vs : List V} {d : PyData} {ds : List PyData} : Od K H v d → OdAll K H vs ds → OdAll K H (v :: vs) (d :: ds)
end
section
variable {K : PySem.W.Frag} {H H' : Hp}
mutual
theorem Od.mono (e : Ex H H') : ∀ {v : V} {d : PyData}, Od K H v d → Od K H' v d
  | _, _, .non => .non
  | _, _, .bl b => .bl b
  | _, _, .int i => .int i
  | _, _, .str x => .str x
  | _, _, .lst h hs => .lst (ex_l e h) (OdAll.mono e hs)
  | _, _, .tup h hs => .tup (ex_t e h) (OdAll.mono e hs)
  | _, _, .dic h => .dic (e _ _ h)
theorem OdAll.mono (e : Ex H H') : ∀ {vs : List V} {ds : List PyData}, OdAll K H vs ds → OdAll K H' vs ds
  | _, _, .nil => .nil
  | _, _, .cons h hs => .cons (Od.mono e h) (OdAll.mono e hs)
end
mutual
theorem Od.of : ∀ {v : V} {d : PyData}, Dp K H v d → Od K H v d
  | _, _, .non => .non
  | _, _, .bl b => .bl b
  | _, _, .int i => .int i
  | _, _, .str x => .str x
  | _, _, .lst h hs => .lst h (OdAll.of hs)
  | _, _, .tup h hs => .tup h (OdAll.of hs)
theorem OdAll.of : ∀ {vs : List V} {ds : List PyData}, DpAll K H vs ds → OdAll K H vs ds
  | _, _, .nil => .nil
  | _, _, .cons h hs => .cons (Od.of h) (OdAll.of hs)
end
theorem oda_len : ∀ {vs : List V} {ds : List PyData}, OdAll K H vs ds → vs.length = ds.length
  | _, _, .nil => rfl
  | _, _, .cons _ hs => congrArg (· + 1) (oda_len hs)
theorem oda_get : ∀ {vs : List V} {ds : List PyData}, OdAll K H vs ds → ∀ (i : Nat) (h1 : i < vs.length) (h2 : i < ds.length), Od K H vs[i] ds[i]
  | _, _, .cons a b, 0, _, _ => a
  | _, _, .cons a b, i + 1, h1, h2 => oda_get b i (Nat.lt_of_succ_lt_succ h1) (Nat.lt_of_succ_lt_succ h2)
theorem oda_two {vs : List V} {ds : List PyData} (h : OdAll K H vs ds) (h2 : vs.length = 2) : ∃ x0 x1 d0 d1, vs = [x0, x1] ∧ ds = [d0, d1] ∧ Od K H x0 d0 := by
  cases h with
  | nil => cases h2
  | cons h0 hr =>
    cases hr with
    | nil => cases h2
    | cons h1 hr2 =>
      cases hr2 with
      | nil => exact ⟨_, _, _, _, rfl, rfl, h0⟩
      | cons _ _ => simp at h2
/-- a value's kind -/
def kindN : PyData → String
  | .none => "NoneType"
  | .bool _ => "bool"
  | .int _ => "int"
  | .str _ => "str"
  | .list _ => "list"
  | .tuple _ => "tuple"
  | .dict _ => "dict"
theorem Od.knd {v : V} {d : PyData} (h : Od K H v d) : Knd K H v (kindN d) := by
  cases h with
  | non => exact .non
  | bl b => exact .bl b
  | int i => exact .int i
  | str x => exact .str x
  | lst h _ => exact .lst h
  | tup h _ => exact .tup h
  | dic h => exact .dic h
end
theorem kind_not_str {d : PyData} (h : ∀ s, d ≠ .str s) : kindN d ≠ "str" := by
  intro z
  cases d with
  | str s => exact h s rfl
  | _ => simp [kindN] at z
theorem kind_tup {d : PyData} (h : kindN d = "tuple") : ∃ ds, d = .tuple ds := by
  cases d with
  | tuple ds => exact ⟨ds, rfl⟩
  | _ => simp [kindN] at h
def wholeD : PyData → Int → Int → Bool
  | .int i, lo, hi => decide (lo ≤ i) && decide (i ≤ hi)
  | _, _, _ => false
theorem whole_eq {K : PySem.W.Frag} {H : Hp} {v : V} {d : PyData} (h : Od K H v d) (lo hi : Int) : whole v lo hi = wholeD d lo hi := by cases h <;> rfl
theorem wholeD_int {d : PyData} {lo hi : Int} (h : wholeD d lo hi = true) : ∃ i : Int, d = .int i ∧ lo ≤ i ∧ i ≤ hi := by
  match d, h with
  | .int i, h =>
    have h' : (decide (lo ≤ i) && decide (i ≤ hi)) = true := h
    rw [Bool.and_eq_true_iff, decide_eq_true_iff, decide_eq_true_iff] at h'
    exact ⟨i, rfl, h'.1, h'.2⟩
def natD : PyData → Nat
  | .int i => i.toNat
  | _ => 0
/-- whether data are a deed -/
def isDeedM (n : Nat) (t : Tx) : PyData → Bool
  | .tuple [.str s, d] => if s = "copy" then wholeD d 0 ((t.length : Int) - n) else (decide (s = "undo") && (wholeD d 0 t.length && decide (natD d ∈ dbls n t)))
  | _ => false
def doD (n : Nat) (t : Tx) : PyData → Tx
  | .tuple [.str s, d] => opM n (decide (s = "copy")) t (natD d)
  | _ => t
theorem inV_nat (i : Int) (h : 0 ≤ i) (l : List Nat) : inV (.int i) (l.map iv) = decide (i.toNat ∈ l) := by
  unfold inV
  rw [Bool.eq_iff_iff, decide_eq_true_iff, List.any_eq_true]
  constructor
  · rintro ⟨y, hy, e⟩
    obtain ⟨x, hx, rfl⟩ := List.mem_map.mp hy
    have e2 : ((x : Int) == i) = true := e
    have : (x : Int) = i := by simpa using e2
    rw [← this]
    simpa using hx
  · intro hx
    refine ⟨iv i.toNat, List.mem_map.mpr ⟨_, hx, rfl⟩, ?_⟩
    show (((i.toNat : Nat) : Int) == i) = true
    rw [show ((i.toNat : Nat) : Int) = i by omega]
    simp
theorem flat_nats (l : List Nat) : (l.map iv).all flatV = true := by
  rw [List.all_eq_true]
  intro y hy
  obtain ⟨x, _, rfl⟩ := List.mem_map.mp hy
  rfl
section
variable {P : Program} {w : World} {K : PySem.W.Frag} {mg : Str → Option Value} {base : Heap}
theorem ev_lenT {ta : TE} {σ : L2.St} {H : Hp} {p : Addr} {xs : List V} (ha : Ev ta σ H (.ref p)) (h : SqT K H p xs) : Ev (tCB (rLenQ K) (tCons ta tNil)) σ H (.int (xs.length : Int)) := fun H1 e Q q =>
  ha H1 e _ fun H2 e2 => ⟨p, xs, rfl, .inr (ex_t (e.trans e2) h), q H2 e2⟩
theorem ev_opUL {r : R2} {ta tb : TE} {σ : L2.St} {H : Hp} {x z : V} {xs : List V} (ha : Ev ta σ H x) (hb : EvL tb σ H xs) (hr : ∀ q H1, H1 q = some (.lst xs) → Ex H H1 → RV r x (.ref q) H1 z) : Ev (tOp r ta tb) σ H z := ev_opVL ha hb hr
def spIsd (K : PySem.W.Frag) : Sp := fun vs H Q _ => ∃ (t : Tx) (n : Nat) (v : V) (d : PyData), vs = [tv t, iv n, v] ∧ t.length ≤ 1000 ∧ n ≤ 6 ∧ Od K H v d ∧ RetV (.bl (isDeedM n t d)) H Q
theorem ok_is_deed (T : Topf mg) (F : FnP K mg "is_deed" s_is_deed) (C_is_whole : Cal P w K mg base CX0 1 "is_whole" ["value", "least", "most"] (spWhole K)) (C_doublings_of : Cal P w K mg base CX0 1 "doublings_of" ["text", "size"] spDbl) : Cal P w K mg base CX0 2 "is_deed" ["text", "size", "value"] (spIsd K) := by
  refine cal_mk F sc_is_deed (fun vs H Q E h => ?_) (fun _ _ _ _ _ _ us hl => match us, hl with | [_, _, _], _ => rfl) (fun f cdv A outer s H vs Q E hr h => ?_)
  · obtain ⟨t, n, v, d, rfl, _⟩ := h; rfl
  · obtain ⟨t, n, v, d, rfl, hz, h6, hd, q⟩ := h
    refine ⟨_, (pss_cons (ps_if (PW.pt (pw_or (pt_not (pt_val (pe_callB (k_isi (K := K) rfl) (by rfl) T.b_isinstance (by decide +kernel) (pa_cons (pv 2) (pa_cons (pe_tyb (n := "tuple") rfl T.b_tuple (by decide +kernel)) pa_nil))))) (pw_or (pt_cmpR op_ne (pe_callB (k_len (K := K) rfl) (by rfl) T.b_len (by decide +kernel) (pa_cons (pv 2) pa_nil)) pe_int (nomark _)) (pw_or1 (pt_not (pt_val (pe_callB (k_isi (K := K) rfl) (by rfl) T.b_isinstance (by decide +kernel) (pa_cons (pe_ix (k_ixT (K := K) rfl) (pv 2) pe_int (fun _ _ => rfl)) (pa_cons (pe_tyb (n := "str") rfl T.b_str (by decide +kernel)) pa_nil))))))))) (pss_one (ps_ret pe_bl)) pss_nil)
      (pss_cons (ps_if (pt_cmpR op_eq (pe_ix (k_ixT (K := K) rfl) (pv 2) pe_int (fun _ _ => rfl)) (pe_gc rfl T.c_COPY) (nomark _)) (pss_one (ps_ret (pe_c C_is_whole (hr.mono (by decide)) rfl (pa_cons (pe_ix (k_ixT (K := K) rfl) (pv 2) pe_int (fun _ _ => rfl)) (pa_cons pe_int (pa_cons (pe_op op_sub (pe_callB call_len_str (by rfl) T.b_len (by decide +kernel) (pa_cons (pv 0) pa_nil)) (pv 1)) pa_nil)))))) pss_nil)
      (pss_one (ps_ret (pe_and (pe_cmpR op_eq (pe_ix (k_ixT (K := K) rfl) (pv 2) pe_int (fun _ _ => rfl)) (pe_gc rfl T.c_UNDO) (nomark _)) (pe_and (pe_c C_is_whole (hr.mono (by decide)) rfl (pa_cons (pe_ix (k_ixT (K := K) rfl) (pv 2) pe_int (fun _ _ => rfl)) (pa_cons pe_int (pa_cons (pe_callB call_len_str (by rfl) T.b_len (by decide +kernel) (pa_cons (pv 0) pa_nil)) pa_nil)))) (pe_one (pe_cmpR (k_in (K := K) rfl) (pe_ix (k_ixT (K := K) rfl) (pv 2) pe_int (fun _ _ => rfl)) (pe_c C_doublings_of (hr.mono (by decide)) rfl (pa_cons (pv 0) (pa_cons (pv 1) pa_nil))) rfl)))))))), ?_⟩
    have hv : Ev (tVar 2) (start N_is_deed [tv t, iv n, v]) H v := ev_var rfl
    have hk := hd.knd
    by_cases hm : isDeedM n t d = true ∨ ∃ s x, d = .tuple [.str s, x]
    · obtain ⟨s0, d1, rfl⟩ : ∃ s x, d = .tuple [.str s, x] := by
        rcases hm with hm | hm
        · unfold isDeedM at hm
          split at hm
          · exact ⟨_, _, rfl⟩
          · cases hm
        · exact hm
      cases hd with
      | tup hs has =>
        rename_i a xs
        cases has with
        | cons h0 hr0 =>
          rename_i x0 xr
          cases h0
          cases hr0 with
          | cons h1 hr1 =>
            rename_i x1 xr1
            cases hr1
            have i0 : ∀ {H'}, Ex H H' → Ev (tOp (rIxT K) (tVar 2) (tC (.int 0))) (start N_is_deed [tv t, iv n, .ref a]) H' (.str s0) := fun e => ev_op (ev_var (v := .ref a) rfl) ev_c (rv_ixT (ex_t e hs) (atI_nat (j := 0) rfl))
            have i1 : ∀ {H'}, Ex H H' → Ev (tOp (rIxT K) (tVar 2) (tC (.int 1))) (start N_is_deed [tv t, iv n, .ref a]) H' x1 := fun e => ev_op (ev_var (v := .ref a) rfl) ev_c (rv_ixT (ex_t e hs) (atI_nat (j := 1) rfl))
            refine q_when (b := false) ?_ (fun z => by cases z) fun _ H1 e1 => ?_
            · refine et_is (et_or (a := false) (b := false) (et_is (et_not (et_B (ev_isTup hv hk))) rfl) fun _ => ?_) rfl
              refine et_is (et_or (a := false) (b := false) (et_B (ev_is (ev_ne (ev_lenT hv hs) ev_c rfl) rfl)) fun _ => ?_) rfl
              exact et_is (et_not (et_B (ev_isStr (i0 (Ex.refl H)) (.str s0)))) rfl
            · have hsc : decide (V.str s0 = V.str "copy") = decide (s0 = "copy") := by
                rw [decide_eq_decide]; exact ⟨fun e => V.str.inj e, fun e => by rw [e]⟩
              have hsu : decide (V.str s0 = V.str "undo") = decide (s0 = "undo") := by
                rw [decide_eq_decide]; exact ⟨fun e => V.str.inj e, fun e => by rw [e]⟩
              refine q_when (b := decide (s0 = "copy")) (et_B (ev_is (ev_eq (i0 e1) ev_c rfl) (by rw [hsc]))) (fun hb H2 e2 => ?_) fun hb H2 e2 => ?_
              · have hm : isDeedM n t (.tuple [.str s0, d1]) = wholeD d1 0 ((t.length : Int) - n) := by
                  show (if s0 = "copy" then _ else _) = _
                  rw [if_pos (of_decide_eq_true hb)]
                rw [hm] at q
                refine s_ret (ev_is (ev_cl (ea_cons (i1 (e1.trans e2)) (ea_cons ev_c (ea_cons (ev_I0 (ev_lenS (ev_var rfl) (by omega)) (ev_var rfl)) ea_nil))) (sv_whole (h1.mono (e1.trans e2)).knd)) (by rw [whole_eq h1])) fun H3 e3 => q H3 (e1.trans (e2.trans e3))
              · have hm : isDeedM n t (.tuple [.str s0, d1]) = (decide (s0 = "undo") && (wholeD d1 0 t.length && decide (natD d1 ∈ dbls n t))) := by
                  show (if s0 = "copy" then _ else _) = _
                  rw [if_neg (of_decide_eq_false hb)]
                rw [hm] at q
                refine s_ret (ev_andV (ev_is (ev_eq (i0 (e1.trans e2)) ev_c rfl) (by rw [hsu])) fun _ => ev_andV (ev_is (ev_cl (ea_cons (i1 (e1.trans e2)) (ea_cons ev_c (ea_cons (ev_lenS (ev_var rfl) (by omega)) ea_nil))) (sv_whole (h1.mono (e1.trans e2)).knd)) (by rw [whole_eq h1])) fun hw => ?_) fun H3 e3 => q H3 (e1.trans (e2.trans e3))
                obtain ⟨i, rfl, hi, _⟩ := wholeD_int hw
                cases h1
                refine ev_is (ev_opVL (r := rIn K false) (i1 (e1.trans e2)) (el_cl (sp := spDbl) (xs := (dbls n t).map iv) (ea_cons (ev_var rfl) (ea_cons (ev_var rfl) ea_nil)) fun H4 e4 Q4 q4 E4 => ⟨t, n, rfl, hz, h6, q4⟩) fun p H4 hp e4 => rv_isL (SqL.of hp) rfl (flat_nats _)) ?_
                rw [inV_nat i hi]
                rfl
    · have hm0 : isDeedM n t d = false := Bool.eq_false_iff.mpr fun z => hm (.inl z)
      rw [hm0] at q
      refine q_when (b := true) ?_ (fun _ H1 e1 => s_ret ev_c fun H2 e2 => q H2 (e1.trans e2)) (fun z => by cases z)
      by_cases ht : kindN d = "tuple"
      · obtain ⟨ds, rfl⟩ := kind_tup ht
        cases hd with
        | tup hs has =>
          rename_i a xs
          refine et_is (et_or (a := false) (b := true) (et_is (et_not (et_B (ev_isTup hv hk))) rfl) fun _ => ?_) rfl
          have hll := oda_len has
          by_cases h2 : xs.length = 2
          · refine et_is (et_or (a := false) (b := true) (et_B (ev_is (ev_ne (ev_lenT hv hs) ev_c rfl) ?_)) fun _ => ?_) rfl
            · rw [show ((xs.length : Nat) : Int) = 2 by omega]; rfl
            · obtain ⟨x0, x1, d0, d1, rfl, rfl, h0⟩ := oda_two has h2
              · have hk0 : kindN d0 ≠ "str" := kind_not_str fun s e => hm (.inr ⟨s, d1, by rw [e]⟩)
                refine et_is (et_not (et_B (ev_isStr (ev_op (ev_var (v := .ref a) rfl) ev_c (rv_ixT hs (atI_nat (j := 0) rfl))) h0.knd))) ?_
                rw [beq_eq_false_iff_ne.mpr hk0]; rfl
          · refine et_is (et_or (a := true) (b := true) (et_B (ev_is (ev_ne (ev_lenT hv hs) ev_c rfl) ?_)) (fun z => by cases z)) rfl
            congr 1
            rw [Bool.not_eq_true', decide_eq_false_iff_not]
            intro e
            exact h2 (by have := V.int.inj e; omega)
      · refine et_is (et_or (a := true) (b := true) (et_is (et_not (et_B (ev_isTup hv hk))) ?_) (fun z => by cases z)) rfl
        rw [beq_eq_false_iff_ne.mpr ht]; rfl
end
end K9
namespace K9
open PySem PySem.Spec PyProof.Rows L2 Evl
local macro_rules | `(tactic| walk_at "ev") => `(tactic| first
  | with_reducible exact ev_c
  | ((with_reducible refine' ev_var ?k0); (case k0 => exact rfl))
  | with_reducible assumption
  | ((with_reducible refine' ev_lenS ?k0 ?k1); (case k0 => walk_at "ev"); (case k1 => walk_at "sz"))
  | ((with_reducible refine' ev_I0 ?k0 ?k1); (case k0 => walk_at "ev"); (case k1 => walk_at "ev"))
  | ((with_reducible refine' ev_I ?k0 ?k1 ?k2); (case k0 => walk_at "ev"); (case k1 => walk_at "ev"); (case k2 => walk_at "sz"))
  | ((with_reducible refine' ev_eq ?k0 ?k1 ?k2); (case k0 => walk_at "ev"); (case k1 => walk_at "ev"); (case k2 => walk_at "sz"))
  | ((with_reducible refine' ev_ne ?k0 ?k1 ?k2); (case k0 => walk_at "ev"); (case k1 => walk_at "ev"); (case k2 => walk_at "sz"))
  | ((with_reducible refine' ev_slTo ?k0 ?k1 ?k2 ?k3); (case k0 => walk_at "ev"); (case k1 => walk_at "ev"); (case k2 => walk_at "sz"); (case k3 => walk_at "sz"))
  | ((with_reducible refine' ev_slFrom ?k0 ?k1 ?k2 ?k3); (case k0 => walk_at "ev"); (case k1 => walk_at "ev"); (case k2 => walk_at "sz"); (case k3 => walk_at "sz"))
  | ((with_reducible refine' ev_slMid ?k0 ?k1 ?k2 ?k3 ?k4 ?k5); (case k0 => walk_at "ev"); (case k1 => walk_at "ev"); (case k2 => walk_at "ev"); (case k3 => walk_at "sz"); (case k4 => walk_at "sz"); (case k5 => walk_at "sz"))
  | ((with_reducible refine' ev_addS ?k0 ?k1 ?k2); (case k0 => walk_at "ev"); (case k1 => walk_at "ev"); (case k2 => walk_at "sz"))
  | ((with_reducible refine' ev_cl ?k0 ?k1); (case k0 => walk_at "ea"); (case k1 => walk_at "sp"))
  | ((with_reducible refine' ev_notV ?k0); (case k0 => walk_at "ev"))
  | ((with_reducible refine' ev_un ?k0 ru_neg); (case k0 => walk_at "ev")))
local macro_rules | `(tactic| walk_at "ea") => `(tactic| first
  | with_reducible exact ea_nil
  | ((with_reducible refine' ea_cons ?k0 ?k1); (case k0 => walk_at "ev"); (case k1 => walk_at "ea")))
local macro_rules | `(tactic| walk_at "et") => `(tactic| first
  | with_reducible assumption
  | ((with_reducible refine' et_test ?k0); (case k0 => walk_at "ev"))
  | ((with_reducible refine' et_B ?k0); (case k0 => walk_at "ev"))
  | ((with_reducible refine' et_not ?k0); (case k0 => walk_at "et")))
local macro_rules | `(tactic| walk_at "sz") => `(tactic| first
  | rfl
  | omega
  | (simp only [List.length_take, List.length_drop, List.length_append]; omega)
  | (constructor <;> omega)
  | assumption)
local macro_rules | `(tactic| walk_at "sp") => `(tactic| first | assumption)

/-- where told deeds lead -/
def ledGo (n : Nat) : Tx → List PyData → Option Tx
  | t, [] => some t
  | t, d :: ds => if isDeedM n t d then ledGo n (doD n t d) ds else none
/-- what check_deeds answers: a number, or the word of its error -/
def chkM (n : Nat) (a b : Tx) : PyData → Nat ⊕ Str
  | .tuple ds => if 120 < ds.length then .inr "form" else if ledGo n a ds = some b then .inl ds.length else .inr "deeds"
  | _ => .inr "form"
theorem doD_ok {n : Nat} {t : Tx} (h : Ok t) (d : PyData) : Ok (doD n t d) := by
  unfold doD
  split
  · exact op_ok h
  · exact h
theorem doD_le {n : Nat} {t : Tx} (d : PyData) : (doD n t d).length ≤ t.length + n := by
  unfold doD
  split
  · unfold opM
    split
    · exact cop_le _ _ _
    · have := und_le n (natD ‹_›) t; omega
  · omega
theorem isDeed_form {n : Nat} {t : Tx} {d : PyData} (h : isDeedM n t d = true) : ∃ (s : Str) (i : Int), d = .tuple [.str s, .int i] ∧ 0 ≤ i ∧ doD n t d = opM n (decide (s = "copy")) t i.toNat := by
  unfold isDeedM at h
  split at h
  · rename_i s d1
    by_cases hs : s = "copy"
    · rw [if_pos hs] at h
      obtain ⟨i, rfl, h0, _⟩ := wholeD_int h
      exact ⟨s, i, rfl, h0, rfl⟩
    · rw [if_neg hs] at h
      obtain ⟨i, rfl, h0, _⟩ := wholeD_int (Bool.and_eq_true_iff.mp (Bool.and_eq_true_iff.mp h).2).1
      exact ⟨s, i, rfl, h0, rfl⟩
  · cases h
section
variable {P : Program} {w : World} {K : PySem.W.Frag} {mg : Str → Option Value} {base : Heap} {z : ExA}
/-- BadPaper(word) flies -/
def FliesP (z : ExA) (s : Str) (H : Hp) (E : XK) : Prop := ∀ dd H2, Ex H H2 → H2 dd = some (.xd [(("word" : Str), V.str s)]) → E (.ref z.pa) (some dd) H2
def FliesM (z : ExA) (n : Int) (H : Hp) (E : XK) : Prop := ∀ dd H2, Ex H H2 → H2 dd = some (.xd [(("most" : Str), V.int n)]) → E (.ref z.tm) (some dd) H2
def RetC (z : ExA) (r : Nat ⊕ Str) (H : Hp) (Q : VK) (E : XK) : Prop := match r with
  | .inl k => RetV (iv k) H Q
  | .inr s => FliesP z s H E
def spChk (K : PySem.W.Frag) (z : ExA) : Sp := fun vs H Q E => ∃ a b n v d, Sec [tv a, tv b, iv n] a b n ∧ vs = [tv a, tv b, iv n, v] ∧ Od K H v d ∧ RetC z (chkM n a b d) H Q E
theorem ok_check_deeds (T : Topf mg) (XF : Excf P K mg z) (F : FnP K mg "check_deeds" s_check_deeds) (C_need_two : Cal P w K mg base CX0 3 "need_two" ["one", "other", "size"] spNeed2) (C_is_deed : Cal P w K mg base CX0 2 "is_deed" ["text", "size", "value"] (spIsd K)) (C_copied_of : Cal P w K mg base CX0 1 "copied_of" ["text", "size", "place"] spCop) (C_undone_at : Cal P w K mg base CX0 1 "undone_at" ["text", "size", "place"] spUnd) : Cal P w K mg base (L2.CX P w) 4 "check_deeds" ["one", "other", "size", "deeds"] (spChk K z) := by
  refine cal_mkX F sc_check_deeds (fun vs H Q E h => ?_) (fun _ _ _ _ _ _ us hl => match us, hl with | [_, _, _, _], _ => rfl) (fun f cdv A outer s H vs Q E hr h => ?_)
  · obtain ⟨a, b, n, v, d, _, rfl, _⟩ := h; rfl
  · obtain ⟨a, b, n, v, d, ht, rfl, hd, q⟩ := h
    have ht' := ht
    obtain ⟨_, ha, hb, za, zb, h1, h6⟩ := ht
    refine ⟨_, (pss_cons (ps_expr (pe_c C_need_two (hr.mono (by decide)) rfl (pa_cons (pv 0) (pa_cons (pv 1) (pa_cons (pv 2) pa_nil)))))
      (pss_cons (ps_if (PW.pt (pw_or (pt_not (pt_val (pe_callB (k_isi (K := K) rfl) (by rfl) T.b_isinstance (by decide +kernel) (pa_cons (pv 3) (pa_cons (pe_tyb (n := "tuple") rfl T.b_tuple (by decide +kernel)) pa_nil))))) (pw_or1 (pt_cmpR op_gt (pe_callB (k_len (K := K) rfl) (by rfl) T.b_len (by decide +kernel) (pa_cons (pv 3) pa_nil)) (pe_gc rfl T.c_MOST_DEEDS) (nomark _))))) (pss_one (ps_raise rfl tkX (pmk_sup (k := 0) XF.kP (hr.mono (by decide)) rfl (pa_cons pe_str pa_nil)))) pss_nil)
      (pss_cons (ps_set (i := 4) sc_check_deeds.nd rfl (Or.inl rfl) (pv 0))
      (pss_cons (ps_for (passes_of rfl) rfl (k_pit (K := K) rfl (pv 3)) (pg_name (i := 5) sc_check_deeds.nd rfl (Or.inl rfl))
        (pss_cons (ps_if (pt_not (pt_val (pe_c C_is_deed (hr.mono (by decide)) rfl (pa_cons (pv 4) (pa_cons (pv 2) (pa_cons (pv 5) pa_nil)))))) (pss_one (ps_raise rfl tkX (pmk_sup (k := 0) XF.kP (hr.mono (by decide)) rfl (pa_cons pe_str pa_nil)))) pss_nil)
          (pss_one (ps_set (i := 4) sc_check_deeds.nd rfl (Or.inl rfl) (pe_ifExp (pt_cmpR op_eq (pe_ix (k_ixT (K := K) rfl) (pv 5) pe_int (fun _ _ => rfl)) (pe_gc rfl T.c_COPY) (nomark _)) (pe_c C_copied_of (hr.mono (by decide)) rfl (pa_cons (pv 4) (pa_cons (pv 2) (pa_cons (pe_ix (k_ixT (K := K) rfl) (pv 5) pe_int (fun _ _ => rfl)) pa_nil)))) (pe_c C_undone_at (hr.mono (by decide)) rfl (pa_cons (pv 4) (pa_cons (pv 2) (pa_cons (pe_ix (k_ixT (K := K) rfl) (pv 5) pe_int (fun _ _ => rfl)) pa_nil)))))))))
      (pss_cons (ps_if (pt_cmpR op_ne (pv 4) (pv 1) (nomark _)) (pss_one (ps_raise rfl tkX (pmk_sup (k := 0) XF.kP (hr.mono (by decide)) rfl (pa_cons pe_str pa_nil)))) pss_nil)
      (pss_one (ps_ret (pe_callB (k_len (K := K) rfl) (by rfl) T.b_len (by decide +kernel) (pa_cons (pv 3) pa_nil))))))))), ?_⟩
    refine q_drop (v := .non) (ev_cl (ea_cons (ev_var rfl) (ea_cons (ev_var rfl) (ea_cons (ev_var rfl) ea_nil))) (sv_need2 ht')) fun H1 e1 => ?_
    have hd1 := hd.mono e1
    by_cases hf : ∃ ds, d = .tuple ds ∧ ds.length ≤ 120
    · obtain ⟨ds, rfl, hz⟩ := hf
      cases hd1 with
      | tup hs has =>
        rename_i p xs
        have hll := oda_len has
        refine q_when (b := false) ?_ (fun z => by cases z) fun _ H2 e2 => ?_
        · refine et_is (et_or (a := false) (b := false) (et_is (et_not (et_B (ev_isTup (ev_var rfl) (.tup hs)))) rfl) fun _ => ?_) rfl
          refine et_B (ev_is (ev_I0 (ev_lenT (ev_var (v := .ref p) rfl) hs) ev_c) ?_)
          congr 1
          rw [decide_eq_false_iff_not]
          omega
        · refine q_asg (ev_var rfl) fun H3 e3 => ?_
          have e13 := e2.trans e3
          have hS := src_T (K := K) (j := 5) (σ := [some (tv a), some (tv b), some (iv n), some (.ref p), some (tv a), none]) (H := H3) (tl := tVar 3) (ev_var (v := .ref p) rfl) (ex_t e13 hs)
          have qd : ledGo n a ds = none → FliesP z "deeds" H E := fun hn => by
            have : chkM n a b (.tuple ds) = .inr "deeds" := by
              show (if 120 < ds.length then _ else if ledGo n a ds = some b then _ else _) = _
              rw [if_neg (by omega), if_neg (by rw [hn]; exact fun z => by cases z)]
            rw [this] at q
            exact q
          refine q_forS hS (fun i σ' => ∃ t y, σ' = [some (tv a), some (tv b), some (iv n), some (.ref p), some (tv t), y] ∧ Ok t ∧ t.length ≤ 60 + i * 6 ∧ ledGo n a ds = ledGo n t (ds.drop i)) ⟨a, _, rfl, ha, by omega, rfl⟩ ?_ ?_
          · intro B i σ' H' hi eB eH pv
            obtain ⟨t, y, rfl, ho, hzt, hgo⟩ := pv
            have hi2 : i < ds.length := by omega
            rw [getD_at hi]
            have hdi : Od K H' xs[i] ds[i] := (oda_get has i hi hi2).mono (e13.trans (eB.trans eH))
            have hdr : ds.drop i = ds[i] :: ds.drop (i + 1) := List.drop_eq_getElem_cons hi2
            rw [hdr] at hgo
            generalize xs[i] = x at hdi
            generalize ds[i] = di at hdi hgo
            refine q_when (b := !isDeedM n t di) (et_not (et_B (ev_cl (ea_cons (ev_var rfl) (ea_cons (ev_var rfl) (ea_cons (ev_var rfl) ea_nil))) fun H4 e4 Q4 q4 E4 => ⟨t, n, x, di, rfl, by omega, h6, hdi.mono e4, q4⟩))) (fun hb H4 e4 => ?_) fun hb H4 e4 => ?_
            · have hb' : isDeedM n t di = false := by simpa using hb
              have hn : ledGo n a ds = none := by
                rw [hgo]
                show (if isDeedM n t di then _ else none) = none
                rw [hb']; rfl
              refine fun dd hdd => qd hn dd _ (e1.trans (e13.trans (eB.trans (eH.trans (e4.trans (Ex.new hdd)))))) upd_same
            · have hb' : isDeedM n t di = true := by simpa using hb
              obtain ⟨s0, i0, rfl, h0, hdo⟩ := isDeed_form hb'
              have hgo2 : ledGo n a ds = ledGo n (opM n (decide (s0 = "copy")) t i0.toNat) (ds.drop (i + 1)) := by
                rw [hgo, ← hdo]
                show (if isDeedM n t _ then _ else none) = _
                rw [hb']; rfl
              have hdi4 := hdi.mono e4
              cases hdi4 with
              | tup hs2 has2 =>
                rename_i p2 xs2
                cases has2 with
                | cons k0 kr =>
                  cases k0
                  cases kr with
                  | cons k1 kr1 =>
                    cases k1
                    cases kr1
                    have hi0 : V.int i0 = iv i0.toNat := by congr 1; omega
                    rw [hi0] at hs2
                    have hsc : decide (V.str s0 = V.str "copy") = decide (s0 = "copy") := by
                      rw [decide_eq_decide]; exact ⟨fun e => V.str.inj e, fun e => by rw [e]⟩
                    have hlen : (opM n (decide (s0 = "copy")) t i0.toNat).length ≤ 60 + (i + 1) * 6 := by
                      have h7 := doD_le (n := n) (t := t) (.tuple [.str s0, .int i0])
                      rw [hdo] at h7
                      omega
                    refine s_asg (v := tv (opM n (decide (s0 = "copy")) t i0.toNat)) (ev_if (b := decide (s0 = "copy")) (et_test (ev_is (ev_eq (ev_op (ev_var (v := .ref p2) rfl) ev_c (rv_ixT hs2 (atI_nat (j := 0) rfl))) ev_c rfl) (by rw [hsc]))) (fun hb => ?_) (fun hb => ?_)) fun H5 e5 => ⟨eH.trans (e4.trans e5), _, _, rfl, op_ok ho, hlen, hgo2⟩
                    · rw [hb]
                      exact ev_cl (ea_cons (ev_var rfl) (ea_cons (ev_var rfl) (ea_cons (ev_op (ev_var (v := .ref p2) rfl) ev_c (rv_ixT hs2 (atI_nat (j := 1) rfl))) ea_nil))) fun H8 _ Q8 q8 E8 => ⟨t, n, i0.toNat, rfl, by omega, q8⟩
                    · rw [hb]
                      exact ev_cl (ea_cons (ev_var rfl) (ea_cons (ev_var rfl) (ea_cons (ev_op (ev_var (v := .ref p2) rfl) ev_c (rv_ixT hs2 (atI_nat (j := 1) rfl))) ea_nil))) fun H8 _ Q8 q8 E8 => ⟨t, n, i0.toNat, rfl, by omega, h6, q8⟩
          · intro σ' H' eH pv
            obtain ⟨t, y, rfl, ho, hzt, hgo⟩ := pv
            rw [hll, List.drop_length] at hgo
            have hgo : ledGo n a ds = some t := hgo
            have hch : chkM n a b (.tuple ds) = if t = b then .inl ds.length else .inr "deeds" := by
              show (if 120 < ds.length then _ else if ledGo n a ds = some b then _ else _) = _
              rw [if_neg (by omega), hgo]
              by_cases h : t = b
              · rw [if_pos h, if_pos (by rw [h])]
              · rw [if_neg h, if_neg (fun e => h (Option.some.inj e))]
            rw [hch] at q
            refine q_when (b := !decide (t = b)) (et_B (ev_is (ev_ne (ev_var rfl) (ev_var rfl) rfl) (by rw [tv_dec]))) (fun hb H4 e4 => ?_) fun hb H4 e4 => ?_
            · rw [if_neg (by simpa using hb)] at q
              exact fun dd hdd => q dd _ (e1.trans (e13.trans (eH.trans (e4.trans (Ex.new hdd))))) upd_same
            · rw [if_pos (by simpa using hb)] at q
              refine s_ret (ev_is (ev_lenT (ev_var (v := .ref p) rfl) (ex_t (e13.trans (eH.trans e4)) hs)) (by rw [hll])) fun H5 e5 => q H5 (e1.trans (e13.trans (eH.trans (e4.trans e5))))
    · have hch : chkM n a b d = .inr "form" := by
        unfold chkM
        split
        · rename_i ds
          rw [if_pos]
          exact Nat.lt_of_not_le fun h => hf ⟨ds, rfl, h⟩
        · rfl
      rw [hch] at q
      refine q_when (b := true) ?_ (fun _ H2 e2 => ?_) (fun z => by cases z)
      · by_cases hk : kindN d = "tuple"
        · obtain ⟨ds, rfl⟩ := kind_tup hk
          cases hd1 with
          | tup hs has =>
            rename_i p xs
            have hll := oda_len has
            refine et_is (et_or (a := false) (b := true) (et_is (et_not (et_B (ev_isTup (ev_var rfl) (.tup hs)))) rfl) fun _ => ?_) rfl
            refine et_B (ev_is (ev_I0 (ev_lenT (ev_var (v := .ref p) rfl) hs) ev_c) ?_)
            congr 1
            rw [decide_eq_true_iff]
            have : ¬ ds.length ≤ 120 := fun h => hf ⟨ds, rfl, h⟩
            omega
        · refine et_is (et_or (a := true) (b := true) (et_is (et_not (et_B (ev_isTup (ev_var rfl) hd1.knd))) ?_) (fun z => by cases z)) rfl
          rw [beq_eq_false_iff_ne.mpr hk]; rfl
      · exact fun dd hdd => q dd _ (e1.trans (e2.trans (Ex.new hdd))) upd_same
end
end K9
namespace K9
open PySem PySem.Spec PyProof.Rows L2 Evl
section
variable {P : Program} {w : World} {A : Around} {s : Shared}
abbrev keyBody (x : Str) (kt : Nat) (p1 p2 p3 p4 p5 : Pos) : Expr := .Tuple [.Call (.Name "len" p1) [.Name x p2] [] p3, .Name x p4] kt p5
/-- the key's call -/
theorem key_call {mg : Str → Option Value} {f c' : Addr} {qual x : Str} {params : Arguments} {scope : Scope} {kt : Nat} {p1 p2 p3 p4 p5 : Pos} {pm ctv : Value} {h : Heap} {tk : Nat} {z : Str} {t : Tok}
    (hf : h.get? f = some (PySem.W.kla_obj "<lambda>" qual params (keyBody x kt p1 p2 p3 p4 p5) scope [] pm c' ctv)) (hc : ∃ (oc : Obj) (vs : Array Value) (u : Tok), h.get? c' = some oc ∧ oc.data = .fields vs ∧ vs[1]? = some (.str qual u))
    (G : GlobH mg h) (hlen : mg "len" = none) (hl : h.NoLimit) (hroom : A.depth < recursionLimit) (hz : z.length ≤ sizeLine)
    (hk : scope.kind = .function) (hco : scope.isCoroutine = false) (hgn : scope.isGenerator = false) (hnc : ∀ y ∈ scope.names, y.2 ≠ .cell) (hx1 : scope.names.lookup x = some .local) (hx2 : scope.names.lookup ("len" : Str) = some .globalImplicit) (hxd : (x == ("__debug__" : Str)) = false)
    (hb : ∀ (q : Str) (body : Expr) (pm cv ctv u : Value), bindArgs (PySem.W.kla_fn "<lambda>" q params body scope [] pm cv ctv) ⟨[u], []⟩ = pure [(x, u)]) :
    wpAny (model P w) A (call (.ref f) [.str z t]) (PySem.W.KeyPure (.tuple [.int z.length, .str z]) { s with heap := h, toks := tk }) (fun _ _ => False) { s with heap := h, toks := tk } := by
  obtain ⟨oc, vs, u, e1, e2, e3⟩ := hc
  refine wpAny_call (PySem.W.kla_callFunE hroom hf rfl hco hgn rfl ⟨c', oc, vs, u, rfl, e1, e2, e3⟩ ?_)
  rw [hb]
  refine wpAny_pure (wpAny_newFunctionEnv hnc (fun y hy => ?_) (fun h1 hns hsb => ⟨hl.fresh _ hsb, ?_⟩) hk)
  · simp only [List.mem_cons, List.not_mem_nil, or_false] at hy
    rw [hy]
    exact hx1
  have kp : ∀ b o, h.get? b = some o → h1.get? b = some o := fun b o e => hsb.extBut b o (Nat.ne_of_lt (Heap.lt_size e)) (Heap.get?_push_of_some _ e)
  obtain ⟨mb, b1, b2⟩ := G.bl
  have hva : ([(x, Value.str z t)] : List (Str × Value)).reverse.lookup x = some (.str z t) := by
    show ([(x, Value.str z t)] : List (Str × Value)).lookup x = _
    simp only [List.lookup, beq_self_eq_true]
  have hn63 := line63
  refine PySem.W.kla_codeExpr (wpAny_Tuple_spliced ?_)
  refine Calls.spliced_cons (wpAny_Call_Name_kw ?_)
  refine Calls.Name_function_global hk hx2 (Calls.loadGlobal_builtin (v := .builtin "len") (G.gl.keeps kp) hlen (b1.keeps kp) ((b2 _ (by decide +kernel)).trans (by decide +kernel)) ?_) (by decide)
  refine Calls.callWith_builtin rfl (Calls.evalArgs_plain (Calls.spliced_cons (wpAny_Name (wpAny_loadName_local hk hx1 hns hva (Calls.spliced_nil ?_)) hxd)))
  refine len_str (by omega) ?_
  refine Calls.spliced_cons (wpAny_Name (wpAny_loadName_local hk hx1 hns hva (Calls.spliced_nil ⟨?_, ?_⟩)) hxd)
  · show 2 ≤ sizeLine
    rw [sizeLine_eq]; omega
  · refine ⟨_, _, rfl, fun b o e => Heap.get?_push_of_some _ (kp b o e), ?_⟩
    exact .tuple (Heap.get?_push_size _ rfl) rfl rfl (.cons (.int _ _) (.cons (.str _ _) .nil))
end
end K9
namespace K9
open PySem PySem.Spec PyProof.Rows L2 Evl
/-- by length, then by letters -/
def keyT (t : Tx) : PyData := .tuple [.int (t.length : Int), tD t]
def leT (t u : Tx) : Bool := PySem.W.dataLe false keyT t u
def sortT (ts : List Tx) : List Tx := ts.mergeSort leT
def tSortK (T : List (Addr × Str)) (te : TE) : TE := fun σ H Q => te σ H fun v H1 => ∃ (a : Addr) (ts : List Tx), v = .ref a ∧ H1 a = some (.lst (ts.map tv)) ∧ ts.length ≤ 100000 ∧ (∀ t ∈ ts, t.length ≤ 1000) ∧ LamX.Tabs T H1 ∧
  ∀ H2 p, LamX.ExtN H1 H2 → LamX.Tabs T H2 → H2 p = none → Q (.ref p) (upd H2 p (.lst ((sortT ts).map tv)))
def RtV (v : Value) (t : Tx) : Prop := ∃ u, v = .str ⟨t.toArray⟩ u
theorem each_of_vals : ∀ {ts : List Tx} {us : List Value}, Vals (ts.map tv) us → PySem.W.EachIs RtV us ts
  | [], _, .nil => .nil
  | t :: ts, _, .cons h hs => by
    obtain ⟨u, hu⟩ := (show ∃ u, _ = Value.str ⟨t.toArray⟩ u from h)
    exact .cons ⟨u, hu⟩ (each_of_vals hs)
theorem vals_of_each : ∀ {ts : List Tx} {us : List Value}, PySem.W.EachIs RtV us ts → Vals (ts.map tv) us
  | _, _, .nil => .nil
  | _, _, .cons ⟨u, hu⟩ hs => .cons ⟨u, hu⟩ (vals_of_each hs)
/-- the form of the lambda -/
structure KeyF (x : Str) (params : Arguments) (scope : Scope) : Prop where
  hk : scope.kind = .function
  hco : scope.isCoroutine = false
  hgn : scope.isGenerator = false
  hnc : ∀ y ∈ scope.names, y.2 ≠ .cell
  hnf : ∀ y ∈ scope.names, y.2 ≠ .free
  hx1 : scope.names.lookup x = some .local
  hx2 : scope.names.lookup ("len" : Str) = some .globalImplicit
  hxd : (x == ("__debug__" : Str)) = false
  hb : ∀ (q : Str) (body : Expr) (pm cv ctv u : Value), bindArgs (PySem.W.kla_fn "<lambda>" q params body scope [] pm cv ctv) ⟨[u], []⟩ = pure [(x, u)]
  hcl : ∀ cells : List (Str × Addr), cloFrom cells scope.names [] = []
theorem pe_sortedKey {X : Cx} {T : List (Addr × Str)} {c P : Addr} {x : Str} {params : Arguments} {scope : Scope} {kt k : Nat} {p p1 p2 p3 p4 p5 lpos pos kpos : Pos} {e : Expr} {te : TE} (KF : KeyF x params scope) (hg : Gl X "sorted") (hm : X.mg "sorted" = none) (hlen : X.mg "len" = none)
    (hr : Room (k + 2) X.A) (TB : LamX.TabB X.base X.mg c P) (hcode : X.env.code = .ref c) (hmT : (P, X.env.qual ++ "<lambda>") ∈ T) (hu : ∀ q ∈ T, q.1 = P → q.2 = X.env.qual ++ "<lambda>") (ha : PA X [e] (tCons te tNil)) (hdef : defaultsOf params X.env = ([], []))
    (he : backTo pos (starEach [e] X.env) = (false, eval e X.env) :: backTo pos (starEach [] X.env) := by rfl) (hpl : (backTo pos (starEach [e] X.env)).any (·.1) = false := by rfl)
    (hall : (backToKw pos (keywordEach [⟨some "key", .Lambda params (keyBody x kt p1 p2 p3 p4 p5) scope lpos, kpos⟩] X.env)).all (·.1.isSome) = true := by rfl)
    (hnone : (backToKw pos (keywordEach [⟨some "key", .Lambda params (keyBody x kt p1 p2 p3 p4 p5) scope lpos, kpos⟩] X.env)).any (·.1.isNone) = false := by rfl)
    (hks : (backToKw pos (keywordEach [⟨some "key", .Lambda params (keyBody x kt p1 p2 p3 p4 p5) scope lpos, kpos⟩] X.env)).filterMap (·.1) = [("key" : Str)] := by rfl)
    (hke : ((backToKw pos (keywordEach [⟨some "key", .Lambda params (keyBody x kt p1 p2 p3 p4 p5) scope lpos, kpos⟩] X.env)).map (·.2)) = [do let v ← eval (.Lambda params (keyBody x kt p1 p2 p3 p4 p5) scope lpos) X.env; standAt pos; pure v] := by rfl) :
    PE X (.Call (.Name "sorted" p) [e] [⟨some "key", .Lambda params (keyBody x kt p1 p2 p3 p4 p5) scope lpos, kpos⟩] pos) (tSortK T te) := by
  refine ⟨fun pins s σ H Q I h => ?_⟩
  refine wpAny_Call_Name_kw (ld_blt I hg hm (u := .builtin "sorted") (by decide +kernel) ?_ (by decide) (by decide))
  refine PyProof.Rows.callWith_kw (thn (ha.run pos pins s σ H (fun vs H1 => ∃ v, vs = [v] ∧ ∃ (a : Addr) (ts : List Tx), v = .ref a ∧ H1 a = some (.lst (ts.map tv)) ∧ ts.length ≤ 100000 ∧ (∀ t ∈ ts, t.length ≤ 1000) ∧ LamX.Tabs T H1 ∧
      ∀ H2 p, LamX.ExtN H1 H2 → LamX.Tabs T H2 → H2 p = none → Q (.ref p) (upd H2 p (.lst ((sortT ts).map tv)))) I ?_) fun us s1 ⟨vs, H1, I1, r1, v, ev, a, ts, ea, hl, hz, hzt, hT, q⟩ => ?_) he hpl hall hnone
  · have e0 : (fun (x : V) (H1 : Hp) => tNil σ H1 fun (xs : List V) (H2 : Hp) => ∃ v, x :: xs = [v] ∧ ∃ (a : Addr) (ts : List Tx), v = .ref a ∧ H2 a = some (.lst (ts.map tv)) ∧ ts.length ≤ 100000 ∧ (∀ t ∈ ts, t.length ≤ 1000) ∧ LamX.Tabs T H2 ∧
      ∀ H3 p, LamX.ExtN H2 H3 → LamX.Tabs T H3 → H3 p = none → Q (.ref p) (upd H3 p (.lst ((sortT ts).map tv)))) = fun v H1 => ∃ (a : Addr) (ts : List Tx), v = .ref a ∧ H1 a = some (.lst (ts.map tv)) ∧ ts.length ≤ 100000 ∧ (∀ t ∈ ts, t.length ≤ 1000) ∧ LamX.Tabs T H1 ∧
      ∀ H2 p, LamX.ExtN H1 H2 → LamX.Tabs T H2 → H2 p = none → Q (.ref p) (upd H2 p (.lst ((sortT ts).map tv))) := by
      funext x H1
      refine propext ⟨fun ⟨y, e, q⟩ => ?_, fun q => ⟨x, rfl, q⟩⟩
      cases e
      exact q
    show te σ H (fun (x : V) (H1 : Hp) => tNil σ H1 fun (xs : List V) (H2 : Hp) => ∃ v, x :: xs = [v] ∧ ∃ (a : Addr) (ts : List Tx), v = .ref a ∧ H2 a = some (.lst (ts.map tv)) ∧ ts.length ≤ 100000 ∧ (∀ t ∈ ts, t.length ≤ 1000) ∧ LamX.Tabs T H2 ∧
      ∀ H3 p, LamX.ExtN H2 H3 → LamX.Tabs T H3 → H3 p = none → Q (.ref p) (upd H3 p (.lst ((sortT ts).map tv))))
    rw [e0]
    exact h
  · subst ev
    subst ea
    obtain ⟨u, rfl, ru⟩ := vals1 r1
    obtain rfl : u = Value.ref a := ru
    rw [hke, hks]
    refine wpAny_evalAll_cons (wpAny_bind (LamX.lam_make2 I1 TB hcode hmT hu hT hdef (fun y hy hf => absurd hf (KF.hnf y hy)) fun f c' pm' ctv H2 s2 I2 eN T2 hf hfn hfr hco => ?_))
    refine wpAny_bind (wpAny_standAt (wpAny_pure (wpAny_evalAll_nil ?_)))
    have hl2 : H2 a = some (.lst (ts.map tv)) := eN _ _ hl (fun ps z => by cases z)
    obtain ⟨hzz, its, n, hvs, hget⟩ := I2.hok a _ hl2
    obtain ⟨⟨oc, cvs, ct, h1, h2, h3⟩, _, _⟩ := I2.hok c' _ hco
    rw [KF.hcl] at hf
    have G : GlobH X.mg s2.heap := ⟨I2.mod.glob.keeps I2.bk, by obtain ⟨mb, b1, b2⟩ := I2.mod.blt; exact ⟨mb, b1.keeps I2.bk, b2⟩⟩
    have hE := each_of_vals hvs
    have hd1 : ∀ t : Tx, (keyT t).depth = 1 := fun t => by unfold keyT tD; simp [PyData.depth, PyData.depthAll]
    have hun := hr.un
    refine PySem.W.sorted_key_data (b := false) (kw := [("key", .ref f)]) (f := .ref f) keyT ⟨_, hget, rfl, n, rfl⟩ hE (PySem.W.AllAlike.of fun _ _ => by unfold keyT tD; simp [PySem.W.alike, PySem.W.alikeAll]) (PySem.W.Sortable.tuples fun t => ⟨_, _, rfl⟩) (sz60 (by omega))
      (fun t _ => by rw [hd1]; have := hr.units; omega) (PyProof.Rows.ksk_s1 _ _) (fun _ => PyProof.Rows.ksk_l1 _ _) (fun _ => PyProof.Rows.ksk_t1 _ _) (fun v t hv ht h tk kp => ?_) fun out cc h' tk kp hnew hD ho eo => ?_
    · obtain ⟨tok, rfl⟩ := hv
      have hkk : keyT t = .tuple [.int ((⟨t.toArray⟩ : Str).length : Int), .str ⟨t.toArray⟩] := by unfold keyT tD; rw [tv_len]
      rw [hkk]
      exact key_call (kp _ _ hf) ⟨oc, cvs, ct, kp _ _ h1, h2, h3⟩ ⟨G.gl.keeps kp, by obtain ⟨mb, b1, b2⟩ := G.bl; exact ⟨mb, b1.keeps kp, b2⟩⟩ hlen (I2.nolimit.keeps kp) (by have := hr.depth; exact this) (by rw [tv_len]; exact sz60 (by have := hzt t ht; omega)) KF.hk KF.hco KF.hgn KF.hnc KF.hx1 KF.hx2 KF.hxd KF.hb
    · have hfr2 : H2 (s2.heap.objs.size + 1) = none := I2.hok.fresh (Nat.le_succ _)
      have J := I2.laid (t' := tk) (a := s2.heap.objs.size + 1) (o := .lst ((sortT ts).map tv)) (h' := h') kp (Nat.le_succ _) ⟨by
        rw [List.length_map]
        unfold sortT
        rw [List.length_mergeSort]
        exact sz60 (by omega), out, cc, vals_of_each eo, hD⟩
      exact ⟨.ref (s2.heap.objs.size + 1), _, J, rfl, q H2 _ eN T2 hfr2⟩
end K9
namespace K9
open PySem PySem.Spec PyProof.Rows L2 Evl
/-- a def, its code object at c, the table of that at p -/
def FnPC (K : PySem.W.Frag) (mg : Str → Option Value) (base : Heap) (x : Str) (st : Stmt) (c p : Addr) : Prop :=
  ∃ (f : Addr) (fd : FuncData), FunD K x x (defArgs st) (defBody st) (defScope st) [] [] f fd ∧ mg x = some (.ref f) ∧ fd.code = .ref c ∧ LamX.TabB base mg c p
/-- as FnOk, where nothing guards -/
structure FnOkG (P : Program) (w : World) (K : PySem.W.Frag) (mg : Str → Option Value) (base : Heap) (CX : CXT) (k : Nat) (f : Addr) (fd : FuncData) (ps : List Str) (sp : Sp) : Prop where
  len : ∀ vs H Q E, sp vs H Q E → vs.length = ps.length
  run : ∀ (A : Around) (outer : List Env) (s : Shared) (H : Hp) (args : Args) (us : List Value) (vs : List V) (Q : VK) (E : XK), Room k A → A.guards = some [] → Env0 P w K mg base A outer s H → BindsTo s fd args (ps.zip us) → Vals vs us → sp vs H Q E →
    codeAny (model P w) A (.call (.ref f) args) (CR CX outer P w H s Q E) s
structure CalG (P : Program) (w : World) (K : PySem.W.Frag) (mg : Str → Option Value) (base : Heap) (CX : CXT) (k : Nat) (x : Str) (ps : List Str) (sp : Sp) : Prop where
  ex : ∃ (f : Addr) (fd : FuncData), FnOkG P w K mg base CX k f fd ps sp ∧ mg x = some (.ref f) ∧ PySem.W.keepIn K (.ref f) = true ∧ L2.Binds K fd ps []
section
variable {P : Program} {w : World} {K : PySem.W.Frag} {mg : Str → Option Value} {base : Heap}
/-- the rule for a def, its code object's place told -/
theorem cal_mkC {CX : CXT} {x : Str} {st : Stmt} {N ps : List Str} {k : Nat} {sp : Sp} {c p : Addr} (F : FnPC K mg base x st c p) (S : FnScope N ps (defScope st)) (len : ∀ vs H Q E, sp vs H Q E → vs.length = ps.length)
    (hb : ∀ (kV doc pm : Value) (an : Option Addr) (cdv ct : Value) (us : List Value), us.length = ps.length → bindArgs (PySem.W.fnOf x x (defArgs st) (defBody st) (defScope st) .none kV doc pm an cdv ct) ⟨us, []⟩ = pure (ps.zip us))
    (hbody : ∀ (f : Addr) (A : Around) (outer : List Env) (s : Shared) (H : Hp) (vs : List V) (Q : VK) (E : XK), Room k (A.deeper (envOfC x (defScope st) s.heap.objs.size f (.ref c))) → LamX.TabB base mg c p → sp vs H Q E →
      ∃ t, PSs (cxOf CX P w K mg base N x (defScope st) f (.ref c) A outer s H E) (defBody st) t ∧ t { nx := fun _ H' => Q .non H', rt := Q } (start N vs) H) : Cal P w K mg base CX (k + 1) x ps sp := by
  obtain ⟨f, fd, D, hm, hc, TB⟩ := F
  have hbd := D.bindsN hb
  obtain ⟨oc, od, dV, kV, doc, pm, an, cdv, ct, osl, rfl, lk, hcd, _, _⟩ := D.ex
  have hc : cdv = .ref c := hc
  subst hc
  exact ⟨f, _, ⟨len, fun A outer s H args us vs Q E hr e0 hb2 r hsp => LamX.run_ofS lk hcd S hr e0 hb2 r (len _ _ _ _ hsp) fun hr' => hbody f A outer s H vs Q E hr' TB hsp⟩, hm, D.kp, hbd⟩
/-- .., and nothing guards -/
theorem cal_mkGC {CX : CXT} {x : Str} {st : Stmt} {N ps : List Str} {k : Nat} {sp : Sp} {c p : Addr} (F : FnPC K mg base x st c p) (S : FnScope N ps (defScope st)) (len : ∀ vs H Q E, sp vs H Q E → vs.length = ps.length)
    (hb : ∀ (kV doc pm : Value) (an : Option Addr) (cdv ct : Value) (us : List Value), us.length = ps.length → bindArgs (PySem.W.fnOf x x (defArgs st) (defBody st) (defScope st) .none kV doc pm an cdv ct) ⟨us, []⟩ = pure (ps.zip us))
    (hbody : ∀ (f : Addr) (A : Around) (outer : List Env) (s : Shared) (H : Hp) (vs : List V) (Q : VK) (E : XK), Room k (A.deeper (envOfC x (defScope st) s.heap.objs.size f (.ref c))) → (A.deeper (envOfC x (defScope st) s.heap.objs.size f (.ref c))).guards = some [] → LamX.TabB base mg c p → sp vs H Q E →
      ∃ t, PSs (cxOf CX P w K mg base N x (defScope st) f (.ref c) A outer s H E) (defBody st) t ∧ t { nx := fun _ H' => Q .non H', rt := Q } (start N vs) H) : CalG P w K mg base CX (k + 1) x ps sp := by
  obtain ⟨f, fd, D, hm, hc, TB⟩ := F
  have hbd := D.bindsN hb
  obtain ⟨oc, od, dV, kV, doc, pm, an, cdv, ct, osl, rfl, lk, hcd, _, _⟩ := D.ex
  have hc : cdv = .ref c := hc
  subst hc
  exact ⟨f, _, ⟨len, fun A outer s H args us vs Q E hr hg e0 hb2 r hsp => LamX.run_ofS lk hcd S hr e0 hb2 r (len _ _ _ _ hsp) fun hr' => hbody f A outer s H vs Q E hr' hg TB hsp⟩, hm, D.kp, hbd⟩
/-- nothing guards; the code object's place is not asked -/
theorem cal_mkG {CX : CXT} {x : Str} {st : Stmt} {N ps : List Str} {k : Nat} {sp : Sp} (F : FnP K mg x st) (S : FnScope N ps (defScope st)) (len : ∀ vs H Q E, sp vs H Q E → vs.length = ps.length)
    (hb : ∀ (kV doc pm : Value) (an : Option Addr) (cdv ct : Value) (us : List Value), us.length = ps.length → bindArgs (PySem.W.fnOf x x (defArgs st) (defBody st) (defScope st) .none kV doc pm an cdv ct) ⟨us, []⟩ = pure (ps.zip us))
    (hbody : ∀ (f : Addr) (cdv : Value) (A : Around) (outer : List Env) (s : Shared) (H : Hp) (vs : List V) (Q : VK) (E : XK), Room k (A.deeper (envOfC x (defScope st) s.heap.objs.size f cdv)) → (A.deeper (envOfC x (defScope st) s.heap.objs.size f cdv)).guards = some [] → sp vs H Q E →
      ∃ t, PSs (cxOf CX P w K mg base N x (defScope st) f cdv A outer s H E) (defBody st) t ∧ t { nx := fun _ H' => Q .non H', rt := Q } (start N vs) H) : CalG P w K mg base CX (k + 1) x ps sp := by
  obtain ⟨f, fd, D, hm⟩ := F
  have hbd := D.bindsN hb
  obtain ⟨oc, od, dV, kV, doc, pm, an, cdv, ct, osl, rfl, lk, hcd, _, _⟩ := D.ex
  exact ⟨f, _, ⟨len, fun A outer s H args us vs Q E hr hg e0 hb2 r hsp => LamX.run_ofS lk hcd S hr e0 hb2 r (len _ _ _ _ hsp) fun hr' => hbody f cdv A outer s H vs Q E hr' hg hsp⟩, hm, D.kp, hbd⟩
end
section
variable {X : Cx} {CX : CXT} {k : Nat} {x : Str} {ps : List Str} {sp : Sp} {p pos : Pos} {e : Expr} {es : List Expr} {t : TA} {E : XK}
theorem pe_gG (C : CalG X.prog X.w X.K X.mg X.base CX k x ps sp) (hr : Room k X.A) (hgd : X.A.guards = some []) (hx : Passes CX X E) (hg : Gl X x) (ha : PA X (e :: es) t) (hdb : (x == ("__debug__" : Str)) = false := by decide)
    (he : starEach (e :: es) X.env = (false, eval e X.env) :: starEach es X.env := by rfl) (hpl : (backTo pos (starEach es X.env)).any (·.1) = false := by rfl) : PE X (.Call (.Name x p) (e :: es) [] pos) (tCall sp [] E t) := by
  obtain ⟨f, fd, F, hm, hk, hb⟩ := C.ex
  refine ⟨fun pins s σ H Q I h => ?_⟩
  refine wpAny_Call_Name_kw (ld_glob I hg hm ?_ hdb)
  refine PySem.W.callWith_K (h₀ := X.base) I.ok.mod.kin hk (thn (ha.run pos pins s σ H _ I h) fun us s1 ⟨vs, H1, I1, r, q⟩ => ⟨I1.kIn, ?_⟩) he hpl
  have r2 : Vals (vs ++ []) us := by rw [List.append_nil]; exact r
  have hl : us.length = ps.length := by rw [← r2.length]; exact F.len _ _ _ _ q
  have hbb : BindsTo s1 fd ⟨us, []⟩ (ps.zip us) := by
    have := hb s1 us I1.kIn (by rw [List.append_nil]; exact hl)
    rw [List.append_nil] at this
    exact this
  refine wpAny_call (codeAny_mono (F.run X.A X.stack s1 H1 ⟨us, []⟩ us (vs ++ []) Q E hr hgd I1.env0 hbb r2 q) fun r s' hq => ?_)
  cases r with
  | error e => exact hx pins σ H1 s1 e s' I1 hq
  | ok fl =>
    cases fl with
    | ret u => exact I1.after hq
    | next => exact False.elim hq
    | brk => exact False.elim hq
    | cont => exact False.elim hq
/-- one that lets nothing out -/
theorem pe_cG (C : CalG X.prog X.w X.K X.mg X.base CX0 k x ps sp) (hr : Room k X.A) (hgd : X.A.guards = some []) (hg : Gl X x) (ha : PA X (e :: es) t) (hdb : (x == ("__debug__" : Str)) = false := by decide)
    (he : starEach (e :: es) X.env = (false, eval e X.env) :: starEach es X.env := by rfl) (hpl : (backTo pos (starEach es X.env)).any (·.1) = false := by rfl) : PE X (.Call (.Name x p) (e :: es) [] pos) (tCl sp t) := by
  refine ⟨fun pins s σ H Q I h => (pe_gG (E := E0) C hr hgd pass0 hg ha hdb he hpl).run pins s σ H Q I ?_⟩
  have e0 : (fun (vs : List V) (H1 : Hp) => sp (vs ++ []) H1 Q E0) = fun vs H1 => sp vs H1 Q E0 := by
    funext vs H1
    rw [List.append_nil]
  show t σ H (fun vs H1 => sp (vs ++ []) H1 Q E0)
  rw [e0]
  exact h
/-- a def that may raise, called -/
theorem pe_cX {CX : CXT} (C : Cal X.prog X.w X.K X.mg X.base CX k x ps sp) (hr : Room k X.A) (hx : Passes CX X E) (hg : Gl X x) (ha : PA X (e :: es) t) (hdb : (x == ("__debug__" : Str)) = false := by decide)
    (he : starEach (e :: es) X.env = (false, eval e X.env) :: starEach es X.env := by rfl) (hpl : (backTo pos (starEach es X.env)).any (·.1) = false := by rfl) : PE X (.Call (.Name x p) (e :: es) [] pos) (tCall sp [] E t) := by
  obtain ⟨f, fd, F, hm, hk, hb⟩ := C.ex
  exact pe_call (dvs := []) (E := E) F hr hg hm hk hb .nil hx ha hdb he hpl
end
/-! ### heaps without tables -/
def noT (H : Hp) : Hp := fun a => match H a with
  | some (.tbl _) => none
  | o => o
theorem noT_ex (H : Hp) : Ex (noT H) H := fun a o e => by
  unfold noT at e
  cases h : H a with
  | none => rw [h] at e; cases e
  | some o2 =>
    rw [h] at e
    cases o2 <;> first | exact e | cases e
theorem noT_of {H : Hp} {a : Addr} {o : HO} (h : H a = some o) (n : ∀ ps, o ≠ .tbl ps) : noT H a = some o := by
  unfold noT
  rw [h]
  cases o <;> first | rfl | exact absurd rfl (n _)
theorem ext_noT {H H' : Hp} (e : LamX.ExtN H H') : Ex (noT H) H' := fun a o q => by
  have h := noT_ex H a o q
  refine e a o h fun ps z => ?_
  subst z
  unfold noT at q
  rw [h] at q
  cases q
theorem noT_mono {H H' : Hp} (e : Ex H H') : Ex (noT H) (noT H') := fun a o q => by
  have h := noT_ex H a o q
  refine noT_of (e _ _ h) fun ps z => ?_
  subst z
  unfold noT at q
  rw [h] at q
  cases q
theorem noT_idem {H H' : Hp} (e : Ex (noT H) H') : Ex (noT H) (noT H') := fun a o q => by
  refine noT_of (e _ _ q) fun ps z => ?_
  subst z
  have h := noT_ex H a _ q
  unfold noT at q
  rw [h] at q
  cases q
end K9
namespace K9
open PySem PySem.Spec PyProof.Rows L2 Evl
/-- a new object -/
def EvF (te : TE) (σ : L2.St) (H : Hp) (o : HO) : Prop := ∀ H1, Ex H H1 → ∀ Q : VK, (∀ p H2, H1 p = none → Ex H1 H2 → H2 p = some o → Q (.ref p) H2) → te σ H1 Q
section
variable {K : PySem.W.Frag} {σ : L2.St} {H : Hp} {te : TE} {tt tt1 : TT} {wi wi1 : TI} {g g1 : TG}
theorem nat_lst {H' : Hp} {p : Addr} {l : List Nat} (h : H' p = some (.lst (l.map iv))) : Dp K H' (.ref p) (.list (l.map nD)) := dp_ns (SqL.of h)
theorem gvn_yes {n : Nat} {f : Nat → Bool} {α : Type} {d : Nat → α} (h : f n = true) : ((List.range (n + 1)).filter f).map d = ((List.range n).filter f).map d ++ [d n] := by
  rw [List.range_succ, List.filter_append, List.map_append, List.filter_cons, if_pos h] <;> rfl
theorem gvn_no {n : Nat} {f : Nat → Bool} {α : Type} {d : Nat → α} (h : f n = false) : ((List.range (n + 1)).filter f).map d = ((List.range n).filter f).map d := by
  rw [List.range_succ, List.filter_append, List.map_append, List.filter_cons, if_neg (by rw [h]; decide)]
  show _ ++ [] = _
  rw [List.append_nil]
theorem gvn_len (n : Nat) (f : Nat → Bool) {α : Type} (d : Nat → α) : (((List.range n).filter f).map d).length ≤ n := by
  rw [List.length_map]
  have h := List.length_filter_le f (List.range n)
  rw [List.length_range] at h
  exact h
theorem ld_lcF {vs : List Nat} {n : Nat} {τ : Nat → L2.St → L2.St} (f : Nat → Bool) (o : Nat → HO) (d : Nat → PyData) (hd : ∀ i (H' : Hp) p, H' p = some (o i) → Dp K H' (.ref p) (d i)) (hS : Src wi g σ H n τ) (hn : n ≤ 40000) (hw : ∀ i, i < n → wipe (τ i (wipe σ vs)) vs = wipe σ vs)
    (ht : ∀ i H1, Ex H H1 → i < n → EvT tt (τ i (wipe σ vs)) H1 (f i)) (he : ∀ i H1, Ex H H1 → i < n → f i = true → EvF te (τ i (wipe σ vs)) H1 (o i)) : EvLD K (tLc wi g tt te vs) σ H (((List.range n).filter f).map d) := fun H0 e Q q =>
  hS H0 e _ fun J H1 e1 R D hD => by
    refine ⟨fun i m H' => i + m = n ∧ Ex H1 H' ∧ Acc K D H' (((List.range i).filter f).map d), ⟨n, by omega, Ex.new hD, [], upd_same, .nil⟩, fun i m H' hW => ?_⟩
    obtain ⟨em, p1, p2⟩ := hW
    obtain ⟨r1, r2⟩ := R H' p1
    by_cases hi : i < n
    · obtain ⟨a, b⟩ := r1 i hi
      refine .inr ⟨a, fun H'' => Ex H1 H'' ∧ Acc K D H'' (((List.range (i + 1)).filter f).map d), fun H'' p' => ⟨m - 1, by omega, by omega, p'.1, p'.2⟩, fun x H'' y => ?_⟩
      obtain ⟨e2, c⟩ := b (wipe σ vs) x H'' y
      refine c _ ⟨hw i hi, ht i H1 (e.trans e1) hi H'' (p1.trans e2) _ fun H3 e3 => ?_⟩
      cases hf : f i with
      | true =>
        show te _ H3 fun y H4 => ∃ acc, H4 D = some (.lst acc) ∧ acc.length < sizeLine ∧ (Ex H1 (upd H4 D (.lst (acc ++ [y]))) ∧ Acc K D (upd H4 D (.lst (acc ++ [y]))) _)
        obtain ⟨xs, hx, hdx⟩ := (p2.mono e2).mono e3
        refine he i H1 (e.trans e1) hi hf H3 ((p1.trans e2).trans e3) _ fun p H4 hp e4 ho => ⟨xs, e4 _ _ hx, sz60' (by rw [dpa_len hdx]; have := gvn_len i f d; omega), Ex.mut (((p1.trans e2).trans e3).trans e4) hD, ?_⟩
        rw [gvn_yes hf]
        have hne : p ≠ D := fun z => by rw [z, hx] at hp; cases hp
        exact Acc.push hdx e4 (hd i _ p (by rw [drp_ne hne]; exact ho))
      | false =>
        refine ⟨(p1.trans e2).trans e3, ?_⟩
        rw [gvn_no hf]
        exact (p2.mono e2).mono e3
    · have : i = n := by omega
      subst this
      obtain ⟨xs, hx, hdx⟩ := p2
      exact .inl ⟨r2, q D xs H' (fresh_back e1 hD) (e1.trans p1) hx (DpAll.mono (drp_ex _ _) hdx)⟩
/-- two loops, no tests -/
theorem ld_lc2F {vs vs1 : List Nat} {n : Nat} {τ : Nat → L2.St → L2.St} {m : Nat → Nat} {τ1 : Nat → Nat → L2.St → L2.St} (o : Nat → Nat → HO) (d : Nat → Nat → PyData) (hd : ∀ i j (H' : Hp) p, H' p = some (o i j) → Dp K H' (.ref p) (d i j)) (hS : Src wi g σ H n τ) (hm : ((List.range n).map m).sum ≤ 40000)
    (hw : ∀ i, i < n → wipe (τ i (wipe σ vs)) vs = wipe σ vs) (hS1 : ∀ i H1 D, Ex H H1 → i < n → SrcA D wi1 g1 (τ i (wipe σ vs)) H1 (m i) (τ1 i)) (hwi : ∀ i, i < n → wipe (τ i (wipe σ vs)) vs1 = τ i (wipe σ vs)) (hw1 : ∀ i j, i < n → j < m i → wipe (τ1 i j (τ i (wipe σ vs))) vs1 = τ i (wipe σ vs))
    (he : ∀ i j H1, Ex H H1 → i < n → j < m i → EvF te (τ1 i j (τ i (wipe σ vs))) H1 (o i j)) : EvLD K (tLc2 wi g tYes wi1 g1 tYes te vs vs1) σ H ((List.range n).flatMap fun i => (List.range (m i)).map (d i)) := fun H0 e Q q =>
  hS H0 e _ fun J H1 e1 R D hD => by
    have hlen : ∀ i, ((List.range i).flatMap fun i => (List.range (m i)).map (d i)).length = ((List.range i).map m).sum := by
      intro i
      induction i with
      | zero => rfl
      | succ i ih =>
        rw [List.range_succ, List.flatMap_append, List.map_append, List.sum_append, List.length_append, ih]
        simp
    have hsum : ∀ i, i < n → ((List.range i).map m).sum + m i ≤ 40000 := by
      intro i hi
      have h1 : ((List.range (i + 1)).map m).sum = ((List.range i).map m).sum + m i := by rw [List.range_succ, List.map_append, List.sum_append]; simp
      have h2 : ((List.range n).map m).take (i + 1) = (List.range (i + 1)).map m := by
        rw [← List.map_take, List.take_range, Nat.min_eq_left (by omega)]
      have h3 := sum_take_le ((List.range n).map m) (i + 1)
      rw [h2] at h3
      omega
    refine ⟨fun i k H' => i + k = n ∧ Ex H1 H' ∧ Acc K D H' ((List.range i).flatMap fun i => (List.range (m i)).map (d i)), ⟨n, by omega, Ex.new hD, [], upd_same, .nil⟩, fun i k H' hW => ?_⟩
    obtain ⟨em, p1, p2⟩ := hW
    obtain ⟨r1, r2⟩ := R H' p1
    by_cases hi : i < n
    · obtain ⟨a, b⟩ := r1 i hi
      refine .inr ⟨a, fun H'' => Ex H1 H'' ∧ Acc K D H'' ((List.range (i + 1)).flatMap fun i => (List.range (m i)).map (d i)), fun H'' p' => ⟨k - 1, by omega, by omega, p'.1, p'.2⟩, fun x H'' y => ?_⟩
      obtain ⟨e2, c⟩ := b (wipe σ vs) x H'' y
      refine c _ ⟨hw i hi, ?_⟩
      dsimp only [tYes]
      rw [if_pos rfl]
      refine hS1 i H1 D (e.trans e1) hi H'' (p1.trans e2) _ fun J1 H4 e4 R1 => ?_
      have hf : (List.range (i + 1)).flatMap (fun i => (List.range (m i)).map (d i)) = (List.range i).flatMap (fun i => (List.range (m i)).map (d i)) ++ (List.range (m i)).map (d i) := by
        rw [List.range_succ, List.flatMap_append]; simp
      have p4 := (p1.trans e2).trans e4
      have a4 := (p2.mono e2).mono e4
      refine ⟨fun j k' H5 => j + k' = m i ∧ Ex H1 H5 ∧ Ex (drp H4 D) H5 ∧ Acc K D H5 ((List.range i).flatMap (fun i => (List.range (m i)).map (d i)) ++ (List.range j).map (d i)), ⟨m i, by omega, p4, drp_ex _ _, by rw [List.range_zero, List.map_nil, List.append_nil]; exact a4⟩, fun j k' H5 hW1 => ?_⟩
      obtain ⟨em1, q1, q2, q3⟩ := hW1
      obtain ⟨s1, s2⟩ := R1 H5 q2
      by_cases hj : j < m i
      · obtain ⟨a1, b1⟩ := s1 j hj
        refine .inr ⟨a1, fun H6 => Ex H1 H6 ∧ Ex (drp H4 D) H6 ∧ Acc K D H6 ((List.range i).flatMap (fun i => (List.range (m i)).map (d i)) ++ (List.range (j + 1)).map (d i)), fun H6 p' => ⟨k' - 1, by omega, by omega, p'⟩, fun x1 H6 y1 => ?_⟩
        obtain ⟨e6, c1⟩ := b1 (wipe (τ i (wipe σ vs)) vs1) x1 H6 y1
        rw [hwi i hi] at c1 ⊢
        refine c1 _ ⟨hw1 i j hi hj, ?_⟩
        rw [if_pos rfl]
        obtain ⟨xs, hx, hdx⟩ := q3.mono e6
        refine he i j H1 (e.trans e1) hi hj H6 (q1.trans e6) _ fun p H7 hp e7 ho => ⟨xs, e7 _ _ hx, sz60' (by
          rw [dpa_len hdx, List.length_append, hlen, List.length_map, List.length_range]
          have := hsum i hi
          omega), Ex.mut ((q1.trans e6).trans e7) hD, drp_mut ((q2.trans e6).trans e7), ?_⟩
        have hne : p ≠ D := fun z => by rw [z, hx] at hp; cases hp
        rw [List.range_succ, List.map_append, ← List.append_assoc]
        exact Acc.push hdx e7 (hd i j _ p (by rw [drp_ne hne]; exact ho))
      · have : j = m i := by omega
        subst this
        exact .inl ⟨s2, q1, by rw [hf]; exact q3⟩
    · have : i = n := by omega
      subst this
      obtain ⟨xs, hx, hdx⟩ := p2
      exact .inl ⟨r2, q D xs H' (fresh_back e1 hD) (e1.trans p1) hx (DpAll.mono (drp_ex _ _) hdx)⟩
end
end K9
namespace K9
open PySem PySem.Spec PyProof.Rows L2 Evl
local macro_rules | `(tactic| walk_at "ev") => `(tactic| first
  | with_reducible exact ev_c
  | ((with_reducible refine' ev_var ?k0); (case k0 => exact rfl))
  | with_reducible assumption
  | ((with_reducible refine' ev_lenS ?k0 ?k1); (case k0 => walk_at "ev"); (case k1 => walk_at "sz"))
  | ((with_reducible refine' ev_I0 ?k0 ?k1); (case k0 => walk_at "ev"); (case k1 => walk_at "ev"))
  | ((with_reducible refine' ev_I ?k0 ?k1 ?k2); (case k0 => walk_at "ev"); (case k1 => walk_at "ev"); (case k2 => walk_at "sz"))
  | ((with_reducible refine' ev_eq ?k0 ?k1 ?k2); (case k0 => walk_at "ev"); (case k1 => walk_at "ev"); (case k2 => walk_at "sz"))
  | ((with_reducible refine' ev_ne ?k0 ?k1 ?k2); (case k0 => walk_at "ev"); (case k1 => walk_at "ev"); (case k2 => walk_at "sz"))
  | ((with_reducible refine' ev_slTo ?k0 ?k1 ?k2 ?k3); (case k0 => walk_at "ev"); (case k1 => walk_at "ev"); (case k2 => walk_at "sz"); (case k3 => walk_at "sz"))
  | ((with_reducible refine' ev_slFrom ?k0 ?k1 ?k2 ?k3); (case k0 => walk_at "ev"); (case k1 => walk_at "ev"); (case k2 => walk_at "sz"); (case k3 => walk_at "sz"))
  | ((with_reducible refine' ev_slMid ?k0 ?k1 ?k2 ?k3 ?k4 ?k5); (case k0 => walk_at "ev"); (case k1 => walk_at "ev"); (case k2 => walk_at "ev"); (case k3 => walk_at "sz"); (case k4 => walk_at "sz"); (case k5 => walk_at "sz"))
  | ((with_reducible refine' ev_addS ?k0 ?k1 ?k2); (case k0 => walk_at "ev"); (case k1 => walk_at "ev"); (case k2 => walk_at "sz"))
  | ((with_reducible refine' ev_cl ?k0 ?k1); (case k0 => walk_at "ea"); (case k1 => walk_at "sp"))
  | ((with_reducible refine' ev_notV ?k0); (case k0 => walk_at "ev"))
  | ((with_reducible refine' ev_un ?k0 ru_neg); (case k0 => walk_at "ev")))
local macro_rules | `(tactic| walk_at "ea") => `(tactic| first
  | with_reducible exact ea_nil
  | ((with_reducible refine' ea_cons ?k0 ?k1); (case k0 => walk_at "ev"); (case k1 => walk_at "ea")))
local macro_rules | `(tactic| walk_at "et") => `(tactic| first
  | with_reducible assumption
  | ((with_reducible refine' et_test ?k0); (case k0 => walk_at "ev"))
  | ((with_reducible refine' et_B ?k0); (case k0 => walk_at "ev"))
  | ((with_reducible refine' et_not ?k0); (case k0 => walk_at "et")))
local macro_rules | `(tactic| walk_at "sz") => `(tactic| first
  | rfl
  | omega
  | (simp only [List.length_take, List.length_drop, List.length_append]; omega)
  | (constructor <;> omega)
  | assumption)
local macro_rules | `(tactic| walk_at "sp") => `(tactic| first | assumption)

theorem k_star {X : Cx} {K : PySem.W.Frag} {e : Expr} {es : List Expr} {te : TE} {t : TA} {p : Pos} (hK : X.K = K) (he : PE X e te) (hr : PA X es t) (hs : starEach (.Starred e p :: es) X.env = (true, eval e X.env) :: starEach es X.env := by rfl) : PA X (.Starred e p :: es) (StX.tStar K te t) := by
  subst hK; exact StX.pa_star he hr hs
/-- the texts between, as told -/
def btM (n : Nat) (l u : Tx) : List Tx := if u.length < n then [u] else sortT ((rowsM n l u).map fun row => tx (u.take n) (stp n u) row)
theorem dp_nats {K : PySem.W.Frag} {H : Hp} {v : V} {r : List Nat} (h : Dp K H v (.list (r.map nD))) : ∃ a, v = .ref a ∧ SqL K H a (r.map iv) := by
  cases h with
  | lst hs ha =>
    rename_i a xs
    refine ⟨a, rfl, ?_⟩
    have : xs = r.map iv := by
      clear hs
      induction r generalizing xs with
      | nil => cases ha; rfl
      | cons x r ih =>
        cases ha with
        | cons h0 hr =>
          cases h0
          rw [List.map_cons, ih hr]
    rw [← this]
    exact hs
theorem dpa_get {K : PySem.W.Frag} {H : Hp} : ∀ {vs : List V} {ds : List PyData}, DpAll K H vs ds → ∀ (i : Nat) (h1 : i < vs.length) (h2 : i < ds.length), Dp K H vs[i] ds[i]
  | _, _, .cons a b, 0, _, _ => a
  | _, _, .cons a b, i + 1, h1, h2 => dpa_get b i (Nat.lt_of_succ_lt_succ h1) (Nat.lt_of_succ_lt_succ h2)
section
variable {K : PySem.W.Frag} {σ : L2.St} {H : Hp} {te ta tb tl tl2 : TE} {D : Ends} {wi : TI} {g : TG} {tu tz : TS} {n : Nat} {τ : Nat → L2.St → L2.St}
/-- a loop whose word speaks of the heap too -/
theorem q_forH (hS : Src wi g σ H n τ) (Pv : Nat → L2.St → Hp → Prop) (h0 : ∀ H1, Ex H H1 → Pv 0 σ H1) (hm : ∀ i σ' H1 H2, Ex H1 H2 → Pv i σ' H1 → Pv i σ' H2)
    (hs : ∀ B i σ' H', i < n → Ex H B → Ex B H' → Pv i σ' H' → tu { D with nx := fun σ2 H2 => Ex B H2 ∧ Pv (i + 1) σ2 H2, ct := fun σ2 H2 => Ex B H2 ∧ Pv (i + 1) σ2 H2, bk := tz D } (τ i σ') H')
    (hd : ∀ σ' H', Ex H H' → Pv n σ' H' → tz D σ' H') : tSeq (tFor wi g tu) tz D σ H :=
  hS H (Ex.refl H) _ fun J H2 e R => for_runs (D := { D with nx := tz D }) R (fun i σ' H' => Ex H2 H' ∧ Pv i σ' H') ⟨Ex.refl H2, h0 H2 e⟩ (fun i σ' H' p => p.1)
    (fun i σ' H' H'' hi p e3 => hs H2 i σ' H'' hi e (p.1.trans e3) (hm i σ' H' H'' e3 p.2)) (fun σ' H' p => hd σ' H' (e.trans p.1) p.2)
theorem ea_star {t : TA} {p : Addr} {xs ys : List V} (h : Ev te σ H (.ref p)) (hp : SqL K H p xs) (h2 : EvA t σ H ys) : EvA (StX.tStar K te t) σ H (xs ++ ys) := fun H1 e Q q =>
  h H1 e _ fun H2 e2 => ⟨p, xs, rfl, .inr (ex_l (e.trans e2) hp), h2 H2 (e.trans e2) _ fun H3 e3 => q H3 (e2.trans e3)⟩
end
section
variable {P : Program} {w : World} {K : PySem.W.Frag} {mg : Str → Option Value} {base : Heap} {z : ExA}
/-- a new tuple, the tables as they may be -/
def RetUN (T : List (Addr × Str)) (xs : List V) (H : Hp) (Q : VK) : Prop := ∀ p H2, Ex (noT H) H2 → LamX.Tabs T H2 → H2 p = some (.tup xs) → Q (.ref p) H2
def spBt (T : List (Addr × Str)) (z : ExA) : Sp := fun vs H Q E => ∃ l u n, Sec vs l u n ∧ LamX.Tabs T H ∧ (if doesM n l u then (if 2000 < betwM n l u then FliesM z 2000 H E else RetUN T ((btM n l u).map tv) H Q) else RetUN T [] H Q)
def rowDat (r : List Nat) : PyData := .list (r.map nD)
theorem flat_idx {α β : Type} (dflt : α) (f : α → List β) : ∀ l : List α, (List.range l.length).flatMap (fun i => f (l.getD i dflt)) = l.flatMap f
  | [] => rfl
  | a :: l => by
    rw [List.length_cons, List.range_succ_eq_map, List.flatMap_cons, List.flatMap_map, List.flatMap_cons, ← flat_idx dflt f l]
    rfl
theorem ev_clSLV {te ta tl : TE} {σ : L2.St} {H : Hp} {sp : Sp} {v y z : V} {xs : List V} (h1 : Ev te σ H v) (h2 : EvL tl σ H xs) (h3 : Ev ta σ H y)
    (hs : ∀ a H2, Ex H H2 → H2 a = some (.lst xs) → SpV sp [v, .ref a, y] H2 z) : Ev (tCl sp (tCons te (tCons tl (tCons ta tNil)))) σ H z := fun H1 e Q q =>
  h1 H1 e _ fun H2 e2 => h2 H2 (e.trans e2) _ fun a H3 ha e3 hx => h3 H3 ((e.trans e2).trans e3) _ fun H4 e4 =>
    hs a H4 (((e.trans e2).trans e3).trans e4) (e4 _ _ hx) H4 (Ex.refl H4) Q (fun H5 e5 => q H5 (((e2.trans e3).trans e4).trans e5)) E0
theorem row_map (rows : List (List Nat)) (f : List Nat → V) : given rows.length (fun _ => true) (fun i => f (rows.getD i [])) = rows.map f := by
  rw [given_all]
  exact range_map_of rfl (fun i hi => by rw [List.getD_eq_getElem?_getD, List.getElem?_eq_getElem hi]; rfl)
theorem ok_between_texts {Tt : List (Addr × Str)} {c p : Addr} (T : Topf mg) (XF : Excf P K mg z) (F : FnPC K mg base "between_texts" s_between_texts c p) (hmT : (p, ("between_texts" : Str) ++ ".<locals>." ++ "<lambda>") ∈ Tt) (huT : ∀ q ∈ Tt, q.1 = p → q.2 = ("between_texts" : Str) ++ ".<locals>." ++ "<lambda>")
    (C_need_two : Cal P w K mg base CX0 3 "need_two" ["one", "other", "size"] spNeed2) (C_does_come : Cal P w K mg base CX0 5 "does_come" ["later", "elder", "size"] spDoes) (C_between_count_of : Cal P w K mg base CX0 4 "between_count_of" ["later", "elder", "size"] spBco) (C_growths_of : Cal P w K mg base CX0 3 "growths_of" ["later", "elder", "size"] spGrow) (C_runs_of : Cal P w K mg base CX0 2 "runs_of" ["text", "size"] spRun) (C_steps_of : Cal P w K mg base CX0 2 "steps_of" ["text", "size"] spStp) (C_built_of : Cal P w K mg base CX0 2 "built_of" ["front", "own_steps", "own_runs"] (spBlt K)) :
    Cal P w K mg base (L2.CX P w) 6 "between_texts" ["later", "elder", "size"] (spBt Tt z) := by
  refine cal_mkC F sc_between_texts (fun vs H Q E h => ?_) (fun _ _ _ _ _ _ us hl => match us, hl with | [_, _, _], _ => rfl) (fun f A outer s H vs Q E hr TB h => ?_)
  · obtain ⟨l, u, n, ⟨rfl, _⟩, _⟩ := h; rfl
  · obtain ⟨l, u, n, ht, hT, q⟩ := h
    have ht' := ht
    obtain ⟨rfl, hl, hu, zl, zu, h1, h6⟩ := ht
    refine ⟨_, (pss_cons (ps_expr (pe_c C_need_two (hr.mono (by decide)) rfl (pa_cons (pv 0) (pa_cons (pv 1) (pa_cons (pv 2) pa_nil)))))
      (pss_cons (ps_if (pt_not (pt_val (pe_c C_does_come (hr.mono (by decide)) rfl (pa_cons (pv 0) (pa_cons (pv 1) (pa_cons (pv 2) pa_nil)))))) (pss_one (ps_ret (pe_tup pa_nil))) pss_nil)
      (pss_cons (ps_if (pt_cmpR op_gt (pe_c C_between_count_of (hr.mono (by decide)) rfl (pa_cons (pv 0) (pa_cons (pv 1) (pa_cons (pv 2) pa_nil)))) (pe_gc rfl T.c_MOST_LISTED) (nomark _)) (pss_one (ps_raise rfl tkX (pmk_sup (k := 0) XF.kM (hr.mono (by decide)) rfl (pa_cons (pe_gc rfl T.c_MOST_LISTED) pa_nil)))) pss_nil)
      (pss_cons (ps_if (pt_cmpR op_lt (pe_callB call_len_str (by rfl) T.b_len (by decide +kernel) (pa_cons (pv 1) pa_nil)) (pv 2) (nomark _)) (pss_one (ps_ret (pe_tup (pa_cons (pv 1) pa_nil)))) pss_nil)
      (pss_cons (ps_set (i := 3) sc_between_texts.nd rfl (Or.inl rfl) (pe_lst (pa_cons (pe_lst pa_nil) pa_nil)))
      (pss_cons (ps_for (passes_of rfl) rfl (k_pizip (K := K) rfl rfl T.b_zip (pa_cons (pe_c C_runs_of (hr.mono (by decide)) rfl (pa_cons (pv 1) (pa_cons (pv 2) pa_nil))) (pa_cons (pe_c C_growths_of (hr.mono (by decide)) rfl (pa_cons (pv 0) (pa_cons (pv 1) (pa_cons (pv 2) pa_nil)))) pa_nil))) (k_pgtup (K := K) (n := 2) rfl (by rfl) (pgs_cons (pg_name (i := 4) sc_between_texts.nd rfl (Or.inr rfl)) (pgs_cons (pg_name (i := 5) sc_between_texts.nd rfl (Or.inr rfl)) pgs_nil)))
        (pss_one (ps_setLc2 (vs1 := [8]) (i := 3) (own := [("row", 7), ("extra", 8)]) rfl sc_between_texts.nd rfl rfl (sw_true rfl rfl rfl (by decide +kernel)) (k_pil (K := K) rfl (pv 3)) (blkOk_by (own := [("row", 7), ("extra", 8)]) (N := N_between_texts) (sc := defScope s_between_texts) (by decide +kernel)) (by decide) (fun _ _ _ _ _ => (pg_name (i := 7) sc_between_texts.nd rfl (Or.inl rfl))) (fun _ _ _ _ _ => pts_nil) (fun _ _ _ _ _ => (pi_range1 rfl T.b_range (pa_cons (pe_op op_add (pe_op op_fdiv (pv 5) (pv 2)) pe_int) pa_nil))) (fun _ _ _ _ _ => (pg_name (i := 8) sc_between_texts.nd rfl (Or.inl rfl))) (fun _ _ _ _ _ => pts_nil) (fun _ _ _ _ _ => (pe_lst (k_star (K := K) rfl (pv 7) (pa_cons (pe_op op_add (pv 4) (pe_op op_mul (pv 2) (pv 8))) pa_nil)))))))
      (pss_cons (ps_setLc (i := 6) (own := [("row", 7)]) rfl sc_between_texts.nd rfl rfl (sw_true rfl rfl rfl (by decide +kernel)) (k_pil (K := K) rfl (pv 3)) (blkOk_by (own := [("row", 7)]) (N := N_between_texts) (sc := defScope s_between_texts) (by decide +kernel)) (fun _ _ _ _ _ => (pg_name (i := 7) sc_between_texts.nd rfl (Or.inl rfl))) (fun _ _ _ _ _ => pts_nil) (fun _ _ _ _ _ => (pe_c C_built_of (hr.mono (by decide)) rfl (pa_cons (pe_slice sl_str (pv 1) po_none (po_some (pv 2))) (pa_cons (pe_c C_steps_of (hr.mono (by decide)) rfl (pa_cons (pv 1) (pa_cons (pv 2) pa_nil))) (pa_cons (pv 7) pa_nil))))))
      (pss_one (ps_ret (pe_callTy (k_tuple (K := K) rfl) (by rfl) T.b_tuple (by decide +kernel) (pa_cons (pe_sortedKey (k := 0) (by exact ⟨rfl, rfl, rfl, by decide, by decide, rfl, rfl, rfl, by intros; rfl, fun _ => rfl⟩) rfl T.b_sorted T.b_len (hr.mono (by decide)) TB rfl hmT huT (pa_cons (pv 6) pa_nil) rfl) pa_nil))))))))))), ?_⟩
    refine q_drop (v := .non) (ev_cl (ea_cons (ev_var rfl) (ea_cons (ev_var rfl) (ea_cons (ev_var rfl) ea_nil))) (sv_need2 ht')) fun H1 e1 => ?_
    refine q_when (b := !doesM n l u) (et_not (et_B (ev_cl (ea_cons (ev_var rfl) (ea_cons (ev_var rfl) (ea_cons (ev_var rfl) ea_nil))) (sv_does ht'.two)))) (fun hb H2 e2 => ?_) fun hb H2 e2 => ?_
    · have hd : doesM n l u = false := by simpa using hb
      rw [hd] at q
      exact s_retU (eu_tup ea_nil (by decide)) fun c H3 hc e3 hx => q c H3 ((noT_ex H).trans (e1.trans (e2.trans e3))) (hT.ext (e1.trans (e2.trans e3))) hx
    have hd : doesM n l u = true := by simpa using hb
    rw [hd, if_pos rfl] at q
    have e12 := e1.trans e2
    refine q_when (b := decide (2000 < betwM n l u)) (et_B (ev_I0 (ev_cl (ea_cons (ev_var rfl) (ea_cons (ev_var rfl) (ea_cons (ev_var rfl) ea_nil))) (sv_bco ht'.two)) ev_c)) (fun hb H3 e3 => ?_) fun hb H3 e3 => ?_
    · rw [if_pos (of_decide_eq_true hb)] at q
      exact fun dd hdd => q dd _ (e12.trans (e3.trans (Ex.new hdd))) upd_same
    have hbt := of_decide_eq_false hb
    rw [if_neg hbt] at q
    have e13 := e12.trans e3
    refine q_when (et_ltS (ev_var rfl) (ev_var rfl) (by omega)) (fun hb H4 e4 => ?_) fun hb H4 e4 => ?_
    · have hu1 : btM n l u = [u] := by unfold btM; rw [if_pos (of_decide_eq_true hb)]
      rw [hu1] at q
      exact s_retU (eu_tup (ea_cons (ev_var rfl) ea_nil) (Nat.le_of_ble_eq_true rfl)) fun c H5 hc e5 hx => q c H5 ((noT_ex H).trans (e13.trans (e4.trans e5))) (hT.ext (e13.trans (e4.trans e5))) hx
    have hun : ¬ u.length < n := of_decide_eq_false hb
    have hbm : btM n l u = sortT ((rowsM n l u).map fun row => tx (u.take n) (stp n u) row) := by unfold btM; rw [if_neg hun]
    rw [hbm] at q
    have e14 := e13.trans e4
    refine q_asgLD (K := K) (ds := [rowDat []]) (ld_lst (ad_cons (ed_l ld_nil) ad_nil) (by decide)) fun pr xs H5 hp e5 hx hdx => ?_
    have e15 := e14.trans e5
    have hzl : (rns n u).length = (growM n l u).length := does_lens hd
    have hll1 : ((rns n u).map iv).length = (rns n u).length := by simp
    have hll2 : ((growM n l u).map V.int).length = (growM n l u).length := by simp
    have hS := src_zip (K := K) (j := 4) (k := 5) (evp_LL (K := K) (σ := (start N_between_texts [tv l, tv u, iv n]).set 3 (some (.ref pr))) (H := H5) (el_cl (ta := tCons (tVar 1) (tCons (tVar 2) tNil)) (ea_cons (ev_var rfl) (ea_cons (ev_var rfl) ea_nil)) (sl_run hu (by omega))) (el_cl (ta := tCons (tVar 0) (tCons (tVar 1) (tCons (tVar 2) tNil))) (ea_cons (ev_var rfl) (ea_cons (ev_var rfl) (ea_cons (ev_var rfl) ea_nil))) (sl_grow ht'.two)))
    rw [hll1, hll2, ← hzl, Nat.min_self] at hS
    have hrl : (rns n u).length ≤ 61 := by have := rns_le (n := n) (t := u); omega
    refine q_forH hS (fun i σ' H' => ∃ pr xs y4 y5, σ' = [some (tv l), some (tv u), some (iv n), some (.ref pr), y4, y5, none, none, none] ∧ H' pr = some (.lst xs) ∧ DpAll K H' xs ((rowsGo n (((rns n u).zip (growM n l u)).take i) [[]]).map rowDat))
      (fun H6 e6 => ⟨pr, xs, _, _, rfl, e6 _ _ hx, DpAll.mono e6 hdx⟩) (fun i σ' Ha Hb e pv => by obtain ⟨pr, xs, y4, y5, h1, h2, h3⟩ := pv; exact ⟨pr, xs, y4, y5, h1, e _ _ h2, DpAll.mono e h3⟩) ?_ ?_
    · intro B i σ' H' hi eB eH pv
      obtain ⟨pr, xs, y4, y5, rfl, hx, hdx⟩ := pv
      have hpl := prefix_len hd i
      have hpl2 := prefix_len hd (i + 1)
      have hzi : i < ((rns n u).zip (growM n l u)).length := by rw [List.length_zip]; omega
      have htk : ((rns n u).zip (growM n l u)).take (i + 1) = ((rns n u).zip (growM n l u)).take i ++ [((rns n u)[i], (growM n l u)[i]'(by omega))] := by
        rw [List.take_succ_eq_append_getElem hzi, List.getElem_zip]
      rw [htk, rowsGo_app] at hpl2 ⊢
      have hrow : ∀ row ∈ rowsGo n (((rns n u).zip (growM n l u)).take i) [[]], row.length ≤ 61 := fun row hr => by
        obtain ⟨pre, hp, ext, rfl, hf⟩ := (mem_rowsGo n _ _ _).mp hr
        rw [List.mem_singleton.mp hp, List.nil_append, fits_len hf, List.length_take]
        omega
      generalize rowsGo n (((rns n u).zip (growM n l u)).take i) [[]] = rows at hdx hpl hpl2 hrow ⊢
      rw [getD_at (by rw [hll1]; exact hi), getD_at (by rw [hll2]; omega), List.getElem_map, List.getElem_map]
      have hm0 := does_pos hd _ (List.getElem_mem (l := growM n l u) (n := i) (by omega))
      have hgs := grow_small (n := n) (l := l) (e := u) zl zu _ (List.getElem_mem (l := growM n l u) (n := i) (by omega))
      have hr60 : (rns n u)[i] ≤ 60 := by
        have h1 := rns_sum_le n u
        have h2 := mem_le_sum (List.getElem_mem (l := rns n u) (n := i) hi)
        omega
      generalize (rns n u)[i] = r at hr60 hpl2 ⊢
      generalize (growM n l u)[i]'(by omega) = m at hm0 hgs hpl2 ⊢
      have hdv := ediv_small h1 h6 (m := m) (by omega)
      have hd0 : 0 ≤ m / (n : Int) := Int.ediv_nonneg hm0 (by omega)
      obtain ⟨k, hk⟩ : ∃ k : Nat, m / (n : Int) + 1 = (k : Int) := ⟨(m / (n : Int) + 1).toNat, by omega⟩
      have hgo : rowsGo n [(r, m)] rows = rows.flatMap fun row => (List.range k).map fun e => row ++ [r + n * e] := by
        show rows.flatMap (fun row => (List.range (m / (n : Int) + 1).toNat).map fun e => row ++ [r + n * e]) = _
        rw [hk, Int.toNat_natCast]
      have hlen2 : (rowsGo n [(r, m)] rows).length = rows.length * k := by
        rw [rowsGo_len]
        show rows.length * (m / (n : Int) + 1).toNat = _
        rw [hk, Int.toNat_natCast]
      rw [hlen2] at hpl2
      have hxl : xs.length = rows.length := by rw [dpa_len hdx, List.length_map]
      have hSi := src_L (K := K) (j := 7) (σ := [some (tv l), some (tv u), some (iv n), some (.ref pr), some (iv r), some (.int m), none, none, none]) (H := H') (tl := tVar 3) (ev_var (v := .ref pr) rfl) (SqL.of hx)
      rw [hxl] at hSi
      have hE := ld_lc2F (K := K) (vs := [7, 8]) (vs1 := [8]) (m := fun _ => k) (te := tLst (StX.tStar K (tVar 7) (tCons (tOp (rI0 fun i j => .int (i + j)) (tVar 4) (tOp (rI CMul fun i j => .int (i * j)) (tVar 2) (tVar 8))) tNil)))
        (wi1 := iRng1 (tCons (tOp (rI0 fun i j => .int (i + j)) (tOp (rI CDiv fun i j => .int (i / j)) (tVar 5) (tVar 2)) (tC (.int 1))) tNil)) (g1 := gName 8) (τ1 := fun _ j σ => σ.set 8 (some (.int (0 + (j : Int)))))
        (fun i j => .lst ((rows.getD i [] ++ [r + n * j]).map iv)) (fun i j => rowDat (rows.getD i [] ++ [r + n * j])) (fun i j H' p h => nat_lst h) hSi
        (by rw [List.map_const', List.sum_replicate_nat, List.length_range]; omega) (fun i _ => rfl)
        (fun i H6 D6 e6 hi6 => srcA_R1 (ea_cons (ev_is (ev_I0 (ev_I (i := m) (j := (n : Int)) (ev_var rfl) (ev_var rfl) ⟨by omega, by omega⟩) ev_c) (by rw [hk])) ea_nil) (by omega)) (fun i _ => rfl) (fun i j _ _ => rfl)
        (fun i j H6 e6 hi6 hj6 => by
          have hdi := dpa_get (DpAll.mono e6 hdx) i (by omega) (by rw [List.length_map]; exact hi6)
          rw [List.getElem_map] at hdi
          obtain ⟨ra, hra, hsq⟩ := dp_nats hdi
          have hgi : rows.getD i [] = rows[i] := by rw [List.getD_eq_getElem?_getD, List.getElem?_eq_getElem hi6]; rfl
          rw [getD_at (by omega), hra, hgi, List.map_append]
          have hmj : n * j ≤ 6 * 1001 := Nat.mul_le_mul h6 (by omega)
          refine el_lst (ea_star (ev_var rfl) hsq (ea_cons (ev_is (ev_I0 (ev_var rfl) (ev_I (i := (n : Int)) (j := (j : Int)) (ev_var rfl) (ev_is (ev_var rfl) (by rw [Int.zero_add])) (Or.inl ⟨by omega, by omega⟩))) ?_) ea_nil)) ?_
          · show V.int ((r : Int) + (n : Int) * (j : Int)) = V.int ((r + n * j : Nat) : Int)
            congr 1
          · rw [List.length_append, List.length_map]
            have := hrow _ (List.getElem_mem (l := rows) (n := i) hi6)
            simp
            omega)
      refine hE H' (Ex.refl H') _ fun p2 xs2 H6 hp2 e6 hx6 hd6 => ⟨eH.trans e6, p2, xs2, _, _, rfl, hx6, ?_⟩
      rw [hgo, List.map_flatMap]
      rw [flat_idx [] (fun row => (List.range k).map fun j => rowDat (row ++ [r + n * j])) rows] at hd6
      have : (fun row => ((List.range k).map fun e => row ++ [r + n * e]).map rowDat) = fun row => (List.range k).map fun j => rowDat (row ++ [r + n * j]) := by
        funext row
        rw [List.map_map]
        rfl
      rw [this]
      exact hd6
    · intro σ' H' eH pv
      obtain ⟨pr, xs, y4, y5, rfl, hx, hdx⟩ := pv
      have htl : ((rns n u).zip (growM n l u)).take (rns n u).length = (rns n u).zip (growM n l u) := List.take_of_length_le (by rw [List.length_zip]; omega)
      rw [htl] at hdx
      have hdx : DpAll K H' xs ((rowsM n l u).map rowDat) := hdx
      have hcnt : (rowsM n l u).length ≤ 2000 := by
        have h1 := prefix_len hd (rns n u).length
        rw [htl] at h1
        have h2 : ((rowsM n l u).length : Int) ≤ betwM n l u := h1
        omega
      have hsl := rns_sum_le n l
      have hrw : ∀ row ∈ rowsM n l u, row.length = (stp n u).length + 1 ∧ row.sum ≤ 60 := fun row hr => by
        obtain ⟨a, b⟩ := row_ok hd hr
        exact ⟨by rw [a]; exact (rns_lay hun).1, by omega⟩
      have hsu := rns_sum hun
      have htk0 : (u.take n).length = n := by rw [List.length_take]; omega
      have htx : ∀ row ∈ rowsM n l u, (tx (u.take n) (stp n u) row).length ≤ 1000 ∧ (u.take n).length + (lay (stp n u) row).length ≤ 1000 := fun row hr => by
        obtain ⟨a, b⟩ := hrw row hr
        have h1 := lay_len (stp n u) row a
        unfold tx
        rw [bld_len, h1, htk0]
        omega
      have hxl : xs.length = (rowsM n l u).length := by rw [dpa_len hdx, List.length_map]
      have hSi := src_L (K := K) (j := 7) (σ := [some (tv l), some (tv u), some (iv n), some (.ref pr), y4, y5, none, none, none]) (H := H') (tl := tVar 3) (ev_var (v := .ref pr) rfl) (SqL.of hx)
      rw [hxl] at hSi
      refine q_asgL (xs := (rowsM n l u).map fun row => tv (tx (u.take n) (stp n u) row)) ?_ fun pf H6 hpf e6 hx6 => ?_
      · rw [← row_map (rowsM n l u) fun row => tv (tx (u.take n) (stp n u) row)]
        refine el_lc (vs := [7]) (fun _ => true) _ hSi (by omega) (fun i _ => rfl) (fun i H7 _ _ H8 _ Q q => q H8 (Ex.refl H8)) (fun i H7 e7 hi _ => ?_)
        have hdi := dpa_get (DpAll.mono e7 hdx) i (by omega) (by rw [List.length_map]; exact hi)
        rw [List.getElem_map] at hdi
        obtain ⟨ra, hra, hsq⟩ := dp_nats hdi
        have hgi : (rowsM n l u).getD i [] = (rowsM n l u)[i] := by rw [List.getD_eq_getElem?_getD, List.getElem?_eq_getElem hi]; rfl
        rw [getD_at (by omega), hra, hgi]
        have hmem := List.getElem_mem (l := rowsM n l u) (n := i) hi
        generalize (rowsM n l u)[i] = row at hmem hsq
        refine ev_clSLV (v := tv (u.take n)) (xs := (stp n u).map iv) ?_ (el_cl (ea_cons (ev_var rfl) (ea_cons (ev_var rfl) ea_nil)) (sl_stp hu (by omega))) (ev_var rfl) fun a H8 e8 ha H9 e9 Q9 q9 E9 => ?_
        · have := ev_slTo (te := tVar 1) (tb := tVar 2) (σ := [some (tv l), some (tv u), some (iv n), some (.ref pr), y4, y5, none, some (.ref ra), none]) (H := H7) (t := u) (i := (n : Int)) (ev_var rfl) (ev_var rfl) (by omega) (by omega)
          rw [Int.toNat_natCast] at this
          exact this
        · exact ⟨u.take n, a, ra, stp n u, row, rfl, hu.take n, by omega, SqL.of (e9 _ _ ha), ex_l (e8.trans e9) hsq, stp_lt, (htx row hmem).2, q9⟩
      · have eH6 : Ex H H6 := e15.trans (eH.trans e6)
        have hx6' : H6 pf = some (.lst (((rowsM n l u).map fun row => tx (u.take n) (stp n u) row).map tv)) := by rw [List.map_map]; exact hx6
        refine ⟨.ref pf, rfl, pf, _, rfl, hx6', by rw [List.length_map]; omega, fun t ht => ?_, hT.ext eH6, fun H7 p2 eN T7 hp2 => ?_⟩
        · obtain ⟨row, hr, rfl⟩ := List.mem_map.mp ht
          exact (htx row hr).1
        · refine ⟨p2, _, rfl, .inl ⟨SqL.of upd_same, fun c hc => ?_⟩⟩
          have e8 : Ex H7 (upd (upd H7 p2 (.lst ((sortT ((rowsM n l u).map fun row => tx (u.take n) (stp n u) row)).map tv))) c (.tup ((sortT ((rowsM n l u).map fun row => tx (u.take n) (stp n u) row)).map tv))) := (Ex.new hp2).trans (Ex.new hc)
          exact q c _ ((noT_mono eH6).trans ((ext_noT eN).trans e8)) (T7.ext e8) upd_same
end
end K9
namespace K9
open PySem PySem.Spec PyProof.Rows L2 Evl
local macro_rules | `(tactic| walk_at "ev") => `(tactic| first
  | with_reducible exact ev_c
  | ((with_reducible refine' ev_var ?k0); (case k0 => exact rfl))
  | with_reducible assumption
  | ((with_reducible refine' ev_lenS ?k0 ?k1); (case k0 => walk_at "ev"); (case k1 => walk_at "sz"))
  | ((with_reducible refine' ev_I0 ?k0 ?k1); (case k0 => walk_at "ev"); (case k1 => walk_at "ev"))
  | ((with_reducible refine' ev_I ?k0 ?k1 ?k2); (case k0 => walk_at "ev"); (case k1 => walk_at "ev"); (case k2 => walk_at "sz"))
  | ((with_reducible refine' ev_eq ?k0 ?k1 ?k2); (case k0 => walk_at "ev"); (case k1 => walk_at "ev"); (case k2 => walk_at "sz"))
  | ((with_reducible refine' ev_ne ?k0 ?k1 ?k2); (case k0 => walk_at "ev"); (case k1 => walk_at "ev"); (case k2 => walk_at "sz"))
  | ((with_reducible refine' ev_slTo ?k0 ?k1 ?k2 ?k3); (case k0 => walk_at "ev"); (case k1 => walk_at "ev"); (case k2 => walk_at "sz"); (case k3 => walk_at "sz"))
  | ((with_reducible refine' ev_slFrom ?k0 ?k1 ?k2 ?k3); (case k0 => walk_at "ev"); (case k1 => walk_at "ev"); (case k2 => walk_at "sz"); (case k3 => walk_at "sz"))
  | ((with_reducible refine' ev_slMid ?k0 ?k1 ?k2 ?k3 ?k4 ?k5); (case k0 => walk_at "ev"); (case k1 => walk_at "ev"); (case k2 => walk_at "ev"); (case k3 => walk_at "sz"); (case k4 => walk_at "sz"); (case k5 => walk_at "sz"))
  | ((with_reducible refine' ev_addS ?k0 ?k1 ?k2); (case k0 => walk_at "ev"); (case k1 => walk_at "ev"); (case k2 => walk_at "sz"))
  | ((with_reducible refine' ev_cl ?k0 ?k1); (case k0 => walk_at "ea"); (case k1 => walk_at "sp"))
  | ((with_reducible refine' ev_notV ?k0); (case k0 => walk_at "ev"))
  | ((with_reducible refine' ev_un ?k0 ru_neg); (case k0 => walk_at "ev")))
local macro_rules | `(tactic| walk_at "ea") => `(tactic| first
  | with_reducible exact ea_nil
  | ((with_reducible refine' ea_cons ?k0 ?k1); (case k0 => walk_at "ev"); (case k1 => walk_at "ea")))
local macro_rules | `(tactic| walk_at "et") => `(tactic| first
  | with_reducible assumption
  | ((with_reducible refine' et_test ?k0); (case k0 => walk_at "ev"))
  | ((with_reducible refine' et_B ?k0); (case k0 => walk_at "ev"))
  | ((with_reducible refine' et_not ?k0); (case k0 => walk_at "et")))
local macro_rules | `(tactic| walk_at "sz") => `(tactic| first
  | rfl
  | omega
  | (simp only [List.length_take, List.length_drop, List.length_append]; omega)
  | (constructor <;> omega)
  | assumption)
local macro_rules | `(tactic| walk_at "sp") => `(tactic| first | assumption)

theorem k_sortI {X : Cx} {K : PySem.W.Frag} (hK : X.K = K) : CallR X (.builtin "sorted") (rSortedI K) := by subst hK; exact cr_sortedI
section
variable {K : PySem.W.Frag} {σ : L2.St} {H : Hp} {te ta tb tl : TE} {D : Ends}
theorem el_sortN {a : Addr} {l : List Nat} (h : Ev te σ H (.ref a)) (hx : SqL K H a (l.map iv)) : EvL (tCB (rSortedI K) (tCons te tNil)) σ H ((srtN l).map iv) := fun H1 e Q q =>
  h H1 e _ fun H2 e2 => ⟨a, l.map fun (n : Nat) => (n : Int), rfl, by rw [List.map_map]; exact ex_l (e.trans e2) hx, fun ns' p hp hs hf => by
    rw [srtN_int hp hs, List.map_map]
    exact q p _ (fresh_back e2 hf) (e2.trans (Ex.new hf)) upd_same⟩
theorem txs_map (ts : List Tx) (f : Tx → V) : given ts.length (fun _ => true) (fun i => f (ts.getD i [])) = ts.map f := by
  rw [given_all]
  exact range_map_of rfl (fun i hi => by rw [List.getD_eq_getElem?_getD, List.getElem?_eq_getElem hi]; rfl)
theorem txs_at {ts : List Tx} {i : Nat} (h : i < ts.length) : (ts.map tv).getD i .non = tv (ts.getD i []) := by
  rw [getD_at (by rw [List.length_map]; exact h), List.getElem_map, List.getD_eq_getElem?_getD, List.getElem?_eq_getElem h]; rfl
theorem txs_in {ts : List Tx} {i : Nat} (h : i < ts.length) : ts.getD i [] ∈ ts := by
  rw [List.getD_eq_getElem?_getD, List.getElem?_eq_getElem h]; exact List.getElem_mem h
/-- a comprehension over a held tuple of texts -/
theorem el_txs {a : Addr} {ts : List Tx} {j : Nat} {f : Tx → V} (h : Ev tl σ H (.ref a)) (hx : SqT K H a (ts.map tv)) (hz : ts.length ≤ 40000) (hw : ∀ x, wipe ((wipe σ [j]).set j (some x)) [j] = wipe σ [j]) (he : ∀ t H1, Ex H H1 → t ∈ ts → Ev te ((wipe σ [j]).set j (some (tv t))) H1 (f t)) :
    EvL (tLc (iTup K tl) (gName j) tYes te [j]) σ H (ts.map f) := by
  have hll : (ts.map tv).length = ts.length := by simp
  have hS := src_T (K := K) (j := j) h hx
  rw [hll] at hS
  rw [← txs_map ts f]
  refine el_lc (vs := [j]) (fun _ => true) _ hS hz (fun i _ => hw _) (fun i H2 _ _ H3 _ Q2 q2 => q2 H3 (Ex.refl H3)) (fun i H2 e2 hi _ => ?_)
  rw [txs_at hi]
  exact he _ H2 e2 (txs_in hi)
end
section
variable {P : Program} {w : World} {K : PySem.W.Frag} {mg : Str → Option Value} {base : Heap}
/-- a tuple of right texts -/
def Bun (K : PySem.W.Frag) (H : Hp) (a : Addr) (ts : List Tx) : Prop := SqT K H a (ts.map tv) ∧ (1 ≤ ts.length ∧ ts.length ≤ 8) ∧ ∀ t ∈ ts, Ok t ∧ t.length ≤ 60
theorem Bun.mono {H H' : Hp} {a : Addr} {ts : List Tx} (h : Bun K H a ts) (e : Ex H H') : Bun K H' a ts := ⟨ex_t e h.1, h.2⟩
def spNts (K : PySem.W.Frag) : Sp := fun vs H Q _ => ∃ a ts, vs = [.ref a] ∧ Bun K H a ts ∧ RetV (.ref a) H Q
theorem sv_nts {H : Hp} {a : Addr} {ts : List Tx} (h : Bun K H a ts) : SpV (spNts K) [.ref a] H (.ref a) := fun H1 e Q q E => ⟨a, ts, rfl, h.mono e, q⟩
theorem ok_need_texts (T : Topf mg) (F : FnP K mg "need_texts" s_need_texts) (C_is_text : Cal P w K mg base CX0 1 "is_text" ["value"] spText) : Cal P w K mg base CX0 2 "need_texts" ["texts"] (spNts K) := by
  refine cal_mk F sc_need_texts (fun vs H Q E h => ?_) (fun _ _ _ _ _ _ us hl => match us, hl with | [_], _ => rfl) (fun f cdv A outer s H vs Q E hr h => ?_)
  · obtain ⟨a, ts, rfl, _⟩ := h; rfl
  · obtain ⟨a, ts, rfl, hB, q⟩ := h
    obtain ⟨hs, hz, ho⟩ := hB
    refine ⟨_, (pss_cons (ps_if (PW.pt (pw_or (pt_not (pt_val (pe_callB (k_isi (K := K) rfl) (by rfl) T.b_isinstance (by decide +kernel) (pa_cons (pv 0) (pa_cons (pe_tyb (n := "tuple") rfl T.b_tuple (by decide +kernel)) pa_nil))))) (pw_or (pt_not (pt_chain op_le op_le pe_int (pe_callB (k_len (K := K) rfl) (by rfl) T.b_len (by decide +kernel) (pa_cons (pv 0) pa_nil)) (pe_gc rfl T.c_MOST_TEXTS))) (pw_or1 (pt_not (pt_val (pe_callB (k_all (K := K) rfl rfl) (by rfl) T.b_all (by decide +kernel) (pa_cons (pe_lc (own := [("one", 1)]) rfl sc_need_texts.nd (k_pit (K := K) rfl (pv 0)) (blkOk_by (own := [("one", 1)]) (N := N_need_texts) (sc := defScope s_need_texts) (by decide +kernel)) (fun _ _ _ _ _ => (pg_name (i := 1) sc_need_texts.nd rfl (Or.inl rfl))) (fun _ _ _ _ _ => pts_nil) (fun _ _ _ _ _ => (pe_c C_is_text (hr.mono (by decide)) rfl (pa_cons (pv 1) pa_nil)))) pa_nil)))))))) (pss_one ps_never) pss_nil)
      (pss_one (ps_ret (pv 0)))), ?_⟩
    refine q_when (b := false) ?_ (fun z => by cases z) fun _ H1 e1 => s_ret (ev_var rfl) fun H2 e2 => q H2 (e1.trans e2)
    refine et_is (et_or (a := false) (b := false) (et_is (et_not (et_B (ev_isTup (ev_var rfl) (.tup hs)))) rfl) fun _ => ?_) rfl
    refine et_is (et_or (a := false) (b := false) (et_is (et_not (a := true) ?_) rfl) fun _ => ?_) rfl
    · refine et_test (ev_is (ev_chainI ev_c (ev_lenT (ev_var (v := .ref a) rfl) hs) ev_c rv_I0 (fun _ => rv_I0)) ?_)
      rw [List.length_map]
      congr 1
      rw [Bool.and_eq_true_iff, decide_eq_true_iff, decide_eq_true_iff]
      omega
    · refine et_is (et_not (a := true) (et_B (ev_is (ev_allL (bs := ts.map fun _ => true) ?_) ?_))) rfl
      · rw [List.map_map]
        refine el_txs (ev_var rfl) hs (by omega) (fun x => rfl) fun t H1 e1 ht => ?_
        exact ev_cl (ea_cons (ev_var rfl) ea_nil) fun H2 e2 Q2 q2 E2 => ⟨t, rfl, (ho t ht).1, (ho t ht).2, q2⟩
      · congr 1
        rw [List.all_eq_true]
        intro b hb
        obtain ⟨t, _, rfl⟩ := List.mem_map.mp hb
        rfl
def spAkn (K : PySem.W.Frag) : Sp := fun vs H Q _ => ∃ a ts n, vs = [.ref a, iv n] ∧ SqT K H a (ts.map tv) ∧ (1 ≤ ts.length ∧ ts.length ≤ 9) ∧ (∀ t ∈ ts, Ok t ∧ t.length ≤ 60) ∧ (1 ≤ n ∧ n ≤ 6) ∧ RetV (.bl (allKin n ts)) H Q
theorem headD_at {ts : List Tx} (h : 1 ≤ ts.length) : (ts.map tv)[0]? = some (tv (ts.headD [])) := by
  cases ts with
  | nil => simp at h
  | cons t r => rfl
theorem headD_in {ts : List Tx} (h : 1 ≤ ts.length) : ts.headD [] ∈ ts := by
  cases ts with
  | nil => simp at h
  | cons t r => exact List.mem_cons_self
theorem ok_are_all_kin (T : Topf mg) (F : FnP K mg "are_all_kin" s_are_all_kin) (C_are_kin_of : Cal P w K mg base CX0 4 "are_kin_of" ["one", "other", "size"] spKin) : Cal P w K mg base CX0 5 "are_all_kin" ["texts", "size"] (spAkn K) := by
  refine cal_mk F sc_are_all_kin (fun vs H Q E h => ?_) (fun _ _ _ _ _ _ us hl => match us, hl with | [_, _], _ => rfl) (fun f cdv A outer s H vs Q E hr h => ?_)
  · obtain ⟨a, ts, n, rfl, _⟩ := h; rfl
  · obtain ⟨a, ts, n, rfl, hs, hz, ho, hn, q⟩ := h
    refine ⟨_, (pss_one (ps_ret (pe_callB (k_all (K := K) rfl rfl) (by rfl) T.b_all (by decide +kernel) (pa_cons (pe_lc (own := [("one", 2)]) rfl sc_are_all_kin.nd (k_pit (K := K) rfl (pv 0)) (blkOk_by (own := [("one", 2)]) (N := N_are_all_kin) (sc := defScope s_are_all_kin) (by decide +kernel)) (fun _ _ _ _ _ => (pg_name (i := 2) sc_are_all_kin.nd rfl (Or.inl rfl))) (fun _ _ _ _ _ => pts_nil) (fun _ _ _ _ _ => (pe_c C_are_kin_of (hr.mono (by decide)) rfl (pa_cons (pe_ix (k_ixT (K := K) rfl) (pv 0) pe_int (fun _ _ => rfl)) (pa_cons (pv 2) (pa_cons (pv 1) pa_nil)))))) pa_nil)))), ?_⟩
    refine s_ret (v := .bl (allKin n ts)) ?_ q
    refine ev_is (ev_allL (bs := ts.map fun t => decide (rootM n (ts.headD []) = rootM n t)) ?_) (by unfold allKin; rw [List.all_map]; rfl)
    rw [List.map_map]
    refine el_txs (f := V.bl ∘ fun t => decide (rootM n (ts.headD []) = rootM n t)) (ev_var rfl) hs (by omega) (fun x => rfl) fun t H1 e1 ht => ?_
    have h0 := ho _ (headD_in hz.1)
    have h1 := ho t ht
    exact ev_cl (ea_cons (ev_op (ev_var (v := .ref a) rfl) ev_c (rv_ixT (ex_t e1 hs) (atI_nat (j := 0) (headD_at hz.1)))) (ea_cons (ev_var rfl) (ea_cons (ev_var rfl) ea_nil))) (sv_kin ⟨rfl, h0.1, h1.1, by have := h0.2; omega, by have := h1.2; omega, hn.1, hn.2⟩)
def spMid (K : PySem.W.Frag) : Sp := fun vs H Q _ => ∃ a l, vs = [.ref a] ∧ SqL K H a (l.map iv) ∧ l ≠ [] ∧ l.length ≤ 100 ∧ RetV (iv (midN l)) H Q
theorem ok_middle_of (T : Topf mg) (F : FnP K mg "middle_of" s_middle_of) : Cal P w K mg base CX0 1 "middle_of" ["numbers"] (spMid K) := by
  refine cal_mk F sc_middle_of (fun vs H Q E h => ?_) (fun _ _ _ _ _ _ us hl => match us, hl with | [_], _ => rfl) (fun f cdv A outer s H vs Q E hr h => ?_)
  · obtain ⟨a, l, rfl, _⟩ := h; rfl
  · obtain ⟨a, l, rfl, hs, hne, hz, q⟩ := h
    refine ⟨_, (pss_one (ps_ret (pe_ix (k_ixL (K := K) rfl) (pe_callB (k_sortI (K := K) rfl) (by rfl) T.b_sorted (by decide +kernel) (pa_cons (pv 0) pa_nil)) (pe_op op_fdiv (pe_op op_sub (pe_callB (k_len (K := K) rfl) (by rfl) T.b_len (by decide +kernel) (pa_cons (pv 0) pa_nil)) pe_int) pe_int) (fun _ _ => rfl)))), ?_⟩
    have hl : 0 < l.length := by cases l with | nil => exact absurd rfl hne | cons _ _ => exact Nat.succ_pos _
    have hi : (l.length - 1) / 2 < (srtN l).length := by rw [srtN_len]; omega
    refine s_ret (v := iv (midN l)) ?_ q
    refine ev_opL1 (el_sortN (ev_var (v := .ref a) rfl) hs) (fun H1 e1 => ev_is (ev_I (i := (l.length : Int) - 1) (j := 2) (ev_I0 (ev_is (ev_len (ev_var (v := .ref a) rfl) (ex_l e1 hs)) (by rw [List.length_map])) ev_c) ev_c ⟨by decide, by decide⟩) (show _ = iv ((l.length - 1) / 2) by congr 1; omega)) fun p H1 hp e1 => rv_ixL (SqL.of hp) (atI_nat ?_)
    rw [List.getElem?_map, List.getElem?_eq_getElem hi]
    unfold midN
    rw [List.getD_eq_getElem?_getD, List.getElem?_eq_getElem hi]
    rfl
theorem ev_clL {sp : Sp} {tl : TE} {σ : L2.St} {H : Hp} {xs : List V} {z : V} (h : EvL tl σ H xs) (hs : ∀ a H2, Ex H H2 → H2 a = some (.lst xs) → SpV sp [.ref a] H2 z) : Ev (tCl sp (tCons tl tNil)) σ H z := fun H1 e Q q =>
  h H1 e _ fun a H2 ha e2 hx => hs a H2 (e.trans e2) hx H2 (Ex.refl H2) Q (fun H3 e3 => q H3 (e2.trans e3)) E0
theorem sv_akn {H : Hp} {a : Addr} {ts : List Tx} {n : Nat} (hs : SqT K H a (ts.map tv)) (hz : 1 ≤ ts.length ∧ ts.length ≤ 9) (ho : ∀ t ∈ ts, Ok t ∧ t.length ≤ 60) (hn : 1 ≤ n ∧ n ≤ 6) : SpV (spAkn K) [.ref a, iv n] H (.bl (allKin n ts)) := fun H1 e Q q E => ⟨a, ts, n, rfl, ex_t e hs, hz, ho, hn, q⟩
def midV (n : Nat) (ts : List Tx) : V := if allKin n ts then tv (midT n ts) else .non
def spMt (K : PySem.W.Frag) : Sp := fun vs H Q _ => ∃ a ts n, vs = [.ref a, iv n] ∧ Bun K H a ts ∧ (1 ≤ n ∧ n ≤ 6) ∧ RetV (midV n ts) H Q
theorem ok_middle_text (T : Topf mg) (F : FnP K mg "middle_text" s_middle_text) (C_need_texts : Cal P w K mg base CX0 2 "need_texts" ["texts"] (spNts K)) (C_need_size : Cal P w K mg base CX0 2 "need_size" ["size"] spNeedS) (C_are_all_kin : Cal P w K mg base CX0 5 "are_all_kin" ["texts", "size"] (spAkn K)) (C_runs_of : Cal P w K mg base CX0 2 "runs_of" ["text", "size"] spRun) (C_middle_of : Cal P w K mg base CX0 1 "middle_of" ["numbers"] (spMid K)) (C_built_of : Cal P w K mg base CX0 2 "built_of" ["front", "own_steps", "own_runs"] (spBlt K)) (C_steps_of : Cal P w K mg base CX0 2 "steps_of" ["text", "size"] spStp) : Cal P w K mg base CX0 6 "middle_text" ["texts", "size"] (spMt K) := by
  refine cal_mk F sc_middle_text (fun vs H Q E h => ?_) (fun _ _ _ _ _ _ us hl => match us, hl with | [_, _], _ => rfl) (fun f cdv A outer s H vs Q E hr h => ?_)
  · obtain ⟨a, ts, n, rfl, _⟩ := h; rfl
  · obtain ⟨a, ts, n, rfl, hB, hn, q⟩ := h
    have hB' := hB
    obtain ⟨hs, hz, ho⟩ := hB
    refine ⟨_, (pss_cons (ps_expr (pe_c C_need_texts (hr.mono (by decide)) rfl (pa_cons (pv 0) pa_nil)))
      (pss_cons (ps_expr (pe_c C_need_size (hr.mono (by decide)) rfl (pa_cons (pv 1) pa_nil)))
      (pss_cons (ps_if (pt_not (pt_val (pe_c C_are_all_kin (hr.mono (by decide)) rfl (pa_cons (pv 0) (pa_cons (pv 1) pa_nil))))) (pss_one (ps_ret pe_non)) pss_nil)
      (pss_cons (ps_set (i := 2) sc_middle_text.nd rfl (Or.inl rfl) (pe_ix (k_ixT (K := K) rfl) (pv 0) pe_int (fun _ _ => rfl)))
      (pss_cons (ps_if (pt_cmpR op_lt (pe_callB call_len_str (by rfl) T.b_len (by decide +kernel) (pa_cons (pv 2) pa_nil)) (pv 1) (nomark _)) (pss_one (ps_ret (pv 2))) pss_nil)
      (pss_cons (ps_set (i := 3) sc_middle_text.nd rfl (Or.inr rfl) (pe_lc (own := [("one", 5)]) rfl sc_middle_text.nd (k_pit (K := K) rfl (pv 0)) (blkOk_by (own := [("one", 5)]) (N := N_middle_text) (sc := defScope s_middle_text) (by decide +kernel)) (fun _ _ _ _ _ => (pg_name (i := 5) sc_middle_text.nd rfl (Or.inl rfl))) (fun _ _ _ _ _ => pts_nil) (fun _ _ _ _ _ => (pe_c C_runs_of (hr.mono (by decide)) rfl (pa_cons (pv 5) (pa_cons (pv 1) pa_nil))))))
      (pss_cons (ps_setLc (i := 4) (own := [("number", 6)]) rfl sc_middle_text.nd rfl rfl (sw_true rfl rfl rfl (by decide +kernel)) (pi_range1 rfl T.b_range (pa_cons (pe_callB (k_len (K := K) rfl) (by rfl) T.b_len (by decide +kernel) (pa_cons (pe_ix (k_ixL (K := K) rfl) (pv 3) pe_int (fun _ _ => rfl)) pa_nil)) pa_nil)) (blkOk_by (own := [("number", 6)]) (N := N_middle_text) (sc := defScope s_middle_text) (by decide +kernel)) (fun _ _ _ _ _ => (pg_name (i := 6) sc_middle_text.nd rfl (Or.inr rfl))) (fun _ _ _ _ _ => pts_nil) (fun _ _ _ _ _ => (pe_c C_middle_of (hr.mono (by decide)) rfl (pa_cons (pe_lc (own := [("row", 7)]) rfl sc_middle_text.nd (k_pil (K := K) rfl (pv 3)) (blkOk_by (own := [("row", 7)]) (N := N_middle_text) (sc := _) (by rfl)) (fun _ _ _ _ _ => (pg_name (i := 7) sc_middle_text.nd rfl (Or.inl rfl))) (fun _ _ _ _ _ => pts_nil) (fun _ _ _ _ _ => (pe_ix (k_ixL (K := K) rfl) (pv 7) (pv 6) (fun _ _ => rfl)))) pa_nil))))
      (pss_one (ps_ret (pe_c C_built_of (hr.mono (by decide)) rfl (pa_cons (pe_slice sl_str (pv 2) po_none (po_some (pv 1))) (pa_cons (pe_c C_steps_of (hr.mono (by decide)) rfl (pa_cons (pv 2) (pa_cons (pv 1) pa_nil))) (pa_cons (pv 4) pa_nil))))))))))))), ?_⟩
    refine q_drop (v := .ref a) (ev_cl (ea_cons (ev_var rfl) ea_nil) (sv_nts hB')) fun H1 e1 => ?_
    refine q_drop (v := iv n) (ev_cl (ea_cons (ev_var rfl) ea_nil) (fun H2 e Q q E => ⟨n, rfl, hn.1, hn.2, q⟩)) fun H2 e2 => ?_
    have e12 := e1.trans e2
    unfold midV at q
    refine q_when (b := !allKin n ts) (et_not (et_B (ev_cl (ea_cons (ev_var rfl) (ea_cons (ev_var rfl) ea_nil)) (sv_akn (ex_t e12 hs) ⟨hz.1, by omega⟩ ho hn)))) (fun hb H3 e3 => ?_) fun hb H3 e3 => ?_
    · rw [if_neg (by simpa using hb)] at q
      exact s_ret ev_c fun H4 e4 => q H4 (e12.trans (e3.trans e4))
    have hk : allKin n ts = true := by simpa using hb
    rw [if_pos hk] at q
    have e13 := e12.trans e3
    refine q_asg (v := tv (ts.headD [])) (ev_op (ev_var (v := .ref a) rfl) ev_c (rv_ixT (ex_t e13 hs) (atI_nat (j := 0) (headD_at hz.1)))) fun H4 e4 => ?_
    have h0 := ho _ (headD_in hz.1)
    have e14 := e13.trans e4
    refine q_when (et_ltS (ev_var rfl) (ev_var rfl) (by omega)) (fun hb H5 e5 => ?_) fun hb H5 e5 => ?_
    · have e : midT n ts = ts.headD [] := by unfold midT; rw [if_pos (of_decide_eq_true hb)]
      rw [e] at q
      exact s_ret (ev_var rfl) fun H6 e6 => q H6 (e14.trans (e5.trans e6))
    have hlt := of_decide_eq_false hb
    have e : midT n ts = tx ((ts.headD []).take n) (stp n (ts.headD [])) (midR n ts) := by unfold midT; rw [if_neg hlt]
    rw [e] at q
    have e15 := e14.trans e5
    have hrl : ∀ t ∈ ts, (rns n t).length = (rns n (ts.headD [])).length := fun t ht => (allKin_in hn.1 (fun t ht => (ho t ht).1) hk hz.1 ht).len.symm
    have hr0 := rns_le (n := n) (t := ts.headD [])
    have hll : (ts.map tv).length = ts.length := by simp
    have hS1 := src_T (K := K) (j := 5) (σ := (start N_middle_text [.ref a, iv n]).set 2 (some (tv (ts.headD [])))) (H := H5) (tl := tVar 0) (ev_var (v := .ref a) rfl) (ex_t e15 hs)
    rw [hll] at hS1
    have hE := ld_lcF (K := K) (vs := [5]) (tt := tYes) (te := tCl spRun (tCons (tVar 5) (tCons (tVar 1) tNil))) (fun _ => true) (fun i => .lst ((rns n (ts.getD i [])).map iv)) (fun i => .list ((rns n (ts.getD i [])).map nD)) (fun i H' p h => nat_lst h) hS1 (by omega) (fun i _ => rfl) (fun i H6 _ _ H7 _ Q7 q7 => q7 H7 (Ex.refl H7)) (fun i H6 e6 hi _ => by
      rw [txs_at hi]
      have h1 := ho _ (txs_in hi)
      exact el_cl (ea_cons (ev_var rfl) (ea_cons (ev_var rfl) ea_nil)) (sl_run h1.1 (by have := h1.2; omega)))
    have eds : ((List.range ts.length).filter fun _ => true).map (fun i => PyData.list ((rns n (ts.getD i [])).map nD)) = ts.map fun t => PyData.list ((rns n t).map nD) := by
      rw [List.filter_eq_self.mpr (fun _ _ => rfl)]
      apply List.ext_getElem
      · simp
      · intro i g1 g2
        rw [List.getElem_map, List.getElem_map, List.getElem_range, List.getD_eq_getElem?_getD, List.getElem?_eq_getElem (by simpa using g2)]
        rfl
    rw [eds] at hE
    refine q_asgLD (K := K) hE fun po xs H6 hp e6 hx hdx => ?_
    have e16 := e15.trans e6
    have hxl : xs.length = ts.length := by rw [dpa_len hdx, List.length_map]
    have own : ∀ {H'} i (hi : i < ts.length), Ex H6 H' → ∃ ra, xs[i]? = some (.ref ra) ∧ SqL K H' ra ((rns n ts[i]).map iv) := fun {H'} i hi e => by
      have hdi := dpa_get (DpAll.mono e hdx) i (by omega) (by rw [List.length_map]; exact hi)
      rw [List.getElem_map] at hdi
      obtain ⟨ra, hra, hsq⟩ := dp_nats hdi
      exact ⟨ra, by rw [List.getElem?_eq_getElem (by omega), hra], hsq⟩
    refine q_asgL (xs := (midR n ts).map iv) ?_ fun pm H7 hpm e7 hxm => ?_
    · obtain ⟨r0, hr0x, hr0s⟩ := own 0 hz.1 (Ex.refl H6)
      have hd0 : ts[0]'hz.1 = ts.headD [] := by
        cases ts with
        | nil => simp at hz
        | cons t r => rfl
      rw [hd0] at hr0s
      have hSr := src_R1 (σ := ((start N_middle_text [.ref a, iv n]).set 2 (some (tv (ts.headD [])))).set 3 (some (.ref po))) (H := H6) (j := 6) (n := ((rns n (ts.headD [])).length : Int)) (ta := tCons (tCB (rLenQ K) (tCons (tOp (rIxL K) (tVar 3) (tC (.int 0))) tNil)) tNil)
        (ea_cons (ev_is (ev_len (ev_op (ev_var (v := .ref po) rfl) ev_c (rv_ixL (SqL.of hx) (atI_nat (j := 0) hr0x))) hr0s) (by rw [List.length_map])) ea_nil) (by omega) (by omega)
      rw [Int.toNat_natCast] at hSr
      have eg : given (rns n (ts.headD [])).length (fun _ => true) (fun i => iv (midN (colN (ts.map (rns n)) i))) = (midR n ts).map iv := by
        rw [given_all]
        unfold midR
        rw [List.map_map]
        rfl
      rw [← eg]
      refine el_lc (vs := [6]) (fun _ => true) _ hSr (by omega) (fun i _ => rfl) (fun i H8 _ _ H9 _ Q9 q9 => q9 H9 (Ex.refl H9)) (fun i H8 e8 hi _ => ?_)
      refine ev_clL (xs := (colN (ts.map (rns n)) i).map iv) ?_ fun ac H9 e9 hac H10 e10 Q10 q10 E10 => ?_
      · have hSo := src_L (K := K) (j := 7) (σ := [some (.ref a), some (iv n), some (tv (ts.headD [])), some (.ref po), none, none, some (.int (0 + (i : Int))), none]) (H := H8) (tl := tVar 3) (ev_var (v := .ref po) rfl) (ex_l e8 (SqL.of hx))
        rw [hxl] at hSo
        have ec : given ts.length (fun _ => true) (fun k => iv ((rns n (ts.getD k [])).getD i 0)) = (colN (ts.map (rns n)) i).map iv := by
          rw [txs_map ts fun t => iv ((rns n t).getD i 0)]
          unfold colN
          rw [List.map_map, List.map_map]
          rfl
        rw [← ec]
        refine el_lc (vs := [7]) (fun _ => true) _ hSo (by omega) (fun k _ => rfl) (fun k H9 _ _ H10 _ Q9 q9 => q9 H10 (Ex.refl H10)) (fun k H9 e9 hk _ => ?_)
        obtain ⟨rk, hrk, hrs⟩ := own k hk (e8.trans e9)
        have hgk : xs.getD k .non = .ref rk := by rw [List.getD_eq_getElem?_getD, hrk]; rfl
        have htk : ts.getD k [] = ts[k] := by rw [List.getD_eq_getElem?_getD, List.getElem?_eq_getElem hk]; rfl
        have hik : i < (rns n ts[k]).length := by rw [hrl _ (List.getElem_mem hk)]; exact hi
        rw [hgk, htk]
        refine ev_op (ev_var (v := .ref rk) rfl) (ev_is (ev_var rfl) (by rw [Int.zero_add])) (rv_ixL hrs (atI_nat (j := i) ?_))
        rw [List.getElem?_map, List.getElem?_eq_getElem hik, getN_at hik]
        rfl
      · refine ⟨ac, colN (ts.map (rns n)) i, rfl, ex_l e10 (SqL.of hac), fun z => ?_, ?_, q10⟩
        · have := congrArg List.length z
          unfold colN at this
          simp at this
          rw [this] at hz
          simp at hz
        · unfold colN; simp; omega
    · have e17 := e16.trans e7
      have hstl := (rns_lay hlt).1
      have hsum := rns_sum hlt
      have hmr : (midR n ts).length = (stp n (ts.headD [])).length + 1 := by unfold midR; rw [List.length_map, List.length_range, hstl]
      have hms := midR_sum (n := n) hz.1 (fun t ht => (ho t ht).2) hz.2
      refine s_ret (v := tv (tx ((ts.headD []).take n) (stp n (ts.headD [])) (midR n ts))) ?_ fun H8 e8 => q H8 (e17.trans e8)
      refine ev_clSLV (v := tv ((ts.headD []).take n)) (xs := (stp n (ts.headD [])).map iv) ?_ (el_cl (ea_cons (ev_var rfl) (ea_cons (ev_var rfl) ea_nil)) (sl_stp h0.1 (by omega))) (ev_var rfl) fun aa H8 e8 ha H9 e9 Q9 q9 E9 => ?_
      · have := ev_slTo (te := tVar 2) (tb := tVar 1) (σ := [some (.ref a), some (iv n), some (tv (ts.headD [])), some (.ref po), some (.ref pm), none, none, none]) (H := H7) (t := ts.headD []) (i := (n : Int)) (ev_var rfl) (ev_var rfl) (by omega) (by omega)
        rw [Int.toNat_natCast] at this
        exact this
      · refine ⟨(ts.headD []).take n, aa, pm, stp n (ts.headD []), midR n ts, rfl, h0.1.take n, ?_, SqL.of (e9 _ _ ha), SqL.of ((e8.trans e9) _ _ hxm), stp_lt, ?_, q9⟩
        · rw [List.length_take]; omega
        · rw [lay_len _ _ hmr, List.length_take]; omega
theorem ev_clU2 {sp : Sp} {tu tb : TE} {σ : L2.St} {H : Hp} {xs : List V} {y z : V} (h : EvU tu σ H xs) (h2 : Ev tb σ H y) (hs : ∀ p H2, Ex H H2 → H2 p = some (.tup xs) → SpV sp [.ref p, y] H2 z) : Ev (tCl sp (tCons tu (tCons tb tNil))) σ H z := fun H1 e Q q =>
  h H1 e _ fun p H2 hp e2 hx => h2 H2 (e.trans e2) _ fun H3 e3 => hs p H3 (e.trans (e2.trans e3)) (e3 _ _ hx) H3 (Ex.refl H3) Q (fun H4 e4 => q H4 (e2.trans (e3.trans e4))) E0
def allV (n : Nat) (t : Tx) (ts : List Tx) : V := if allKin n (t :: ts) then iv (allSum n t ts) else .non
def spDta (K : PySem.W.Frag) : Sp := fun vs H Q _ => ∃ t a ts n, vs = [tv t, .ref a, iv n] ∧ Ok t ∧ t.length ≤ 60 ∧ Bun K H a ts ∧ (1 ≤ n ∧ n ≤ 6) ∧ RetV (allV n t ts) H Q
theorem ok_deeds_to_all (T : Topf mg) (F : FnP K mg "deeds_to_all" s_deeds_to_all) (C_need_text : Cal P w K mg base CX0 2 "need_text" ["text"] spNeedT) (C_need_texts : Cal P w K mg base CX0 2 "need_texts" ["texts"] (spNts K)) (C_need_size : Cal P w K mg base CX0 2 "need_size" ["size"] spNeedS) (C_are_all_kin : Cal P w K mg base CX0 5 "are_all_kin" ["texts", "size"] (spAkn K)) (C_apart_of : Cal P w K mg base CX0 4 "apart_of" ["one", "other", "size"] spAp) : Cal P w K mg base CX0 6 "deeds_to_all" ["text", "texts", "size"] (spDta K) := by
  refine cal_mk F sc_deeds_to_all (fun vs H Q E h => ?_) (fun _ _ _ _ _ _ us hl => match us, hl with | [_, _, _], _ => rfl) (fun f cdv A outer s H vs Q E hr h => ?_)
  · obtain ⟨t, a, ts, n, rfl, _⟩ := h; rfl
  · obtain ⟨t, a, ts, n, rfl, ht, zt, hB, hn, q⟩ := h
    have hB' := hB
    obtain ⟨hs, hz, ho⟩ := hB
    refine ⟨_, (pss_cons (ps_expr (pe_c C_need_text (hr.mono (by decide)) rfl (pa_cons (pv 0) pa_nil)))
      (pss_cons (ps_expr (pe_c C_need_texts (hr.mono (by decide)) rfl (pa_cons (pv 1) pa_nil)))
      (pss_cons (ps_expr (pe_c C_need_size (hr.mono (by decide)) rfl (pa_cons (pv 2) pa_nil)))
      (pss_cons (ps_if (pt_not (pt_val (pe_c C_are_all_kin (hr.mono (by decide)) rfl (pa_cons (pe_tup (pa_cons (pv 0) (k_star (K := K) rfl (pv 1) pa_nil))) (pa_cons (pv 2) pa_nil))))) (pss_one (ps_ret pe_non)) pss_nil)
      (pss_one (ps_ret (pe_callB (k_sum (K := K) rfl rfl) (by rfl) T.b_sum (by decide +kernel) (pa_cons (pe_lc (own := [("one", 3)]) rfl sc_deeds_to_all.nd (k_pit (K := K) rfl (pv 1)) (blkOk_by (own := [("one", 3)]) (N := N_deeds_to_all) (sc := defScope s_deeds_to_all) (by decide +kernel)) (fun _ _ _ _ _ => (pg_name (i := 3) sc_deeds_to_all.nd rfl (Or.inl rfl))) (fun _ _ _ _ _ => pts_nil) (fun _ _ _ _ _ => (pe_c C_apart_of (hr.mono (by decide)) rfl (pa_cons (pv 0) (pa_cons (pv 3) (pa_cons (pv 2) pa_nil)))))) pa_nil)))))))), ?_⟩
    refine q_drop (v := tv t) (ev_cl (ea_cons (ev_var rfl) ea_nil) (fun H2 e Q q E => ⟨t, rfl, ht, zt, q⟩)) fun H1 e1 => ?_
    refine q_drop (v := .ref a) (ev_cl (ea_cons (ev_var rfl) ea_nil) (sv_nts (hB'.mono e1))) fun H2 e2 => ?_
    refine q_drop (v := iv n) (ev_cl (ea_cons (ev_var rfl) ea_nil) (fun H2 e Q q E => ⟨n, rfl, hn.1, hn.2, q⟩)) fun H3 e3 => ?_
    have e13 := e1.trans (e2.trans e3)
    unfold allV at q
    have ho2 : ∀ u ∈ t :: ts, Ok u ∧ u.length ≤ 60 := fun u hu => by
      rcases List.mem_cons.mp hu with rfl | hu
      · exact ⟨ht, zt⟩
      · exact ho u hu
    have hU : EvU (tTup (tCons (tVar 0) (StX.tStar K (tVar 1) tNil))) (start N_deeds_to_all [tv t, .ref a, iv n]) H3 ((t :: ts).map tv) := by
      have : EvA (tCons (tVar 0) (StX.tStar K (tVar 1) tNil)) (start N_deeds_to_all [tv t, .ref a, iv n]) H3 (tv t :: (ts.map tv ++ [])) := ea_cons (ev_var rfl) fun H4 e4 Q4 q4 => ⟨.ref a, rfl, a, ts.map tv, rfl, .inl (ex_t (e13.trans e4) hs), q4 H4 (Ex.refl H4)⟩
      rw [List.append_nil] at this
      exact eu_tup this (by simp; omega)
    have hk : EvT _ (start N_deeds_to_all [tv t, .ref a, iv n]) H3 (!allKin n (t :: ts)) := et_not (et_B (ev_clU2 (sp := spAkn K) hU (ev_var (i := 2) rfl) fun p H4 e4 hx => sv_akn (SqT.of hx) ⟨by simp, by simp; omega⟩ ho2 hn))
    refine q_when hk (fun hb H4 e4 => ?_) fun hb H4 e4 => ?_
    · rw [if_neg (by simpa using hb)] at q
      exact s_ret ev_c fun H5 e5 => q H5 (e13.trans (e4.trans e5))
    · have hkk : allKin n (t :: ts) = true := by simpa using hb
      rw [if_pos hkk] at q
      refine s_ret (v := iv (allSum n t ts)) ?_ fun H5 e5 => q H5 (e13.trans (e4.trans e5))
      refine ev_is (ev_sumL (ns := (ts.map fun u => apM n t u).map fun (n : Nat) => (n : Int)) ?_) (by rw [sum_cast]; rfl)
      rw [List.map_map, List.map_map]
      refine el_txs (f := (V.int ∘ fun (n : Nat) => (n : Int)) ∘ fun u => apM n t u) (ev_var rfl) (ex_t (e13.trans e4) hs) (by omega) (fun x => rfl) fun u H5 e5 hu => ?_
      have h1 := ho u hu
      exact ev_cl (ea_cons (ev_var rfl) (ea_cons (ev_var rfl) (ea_cons (ev_var rfl) ea_nil))) (sv_ap ⟨rfl, ht, h1.1, by omega, by have := h1.2; omega, hn.1, hn.2⟩)
end
end K9
namespace K9
open PySem PySem.Spec PyProof.Rows L2 Evl
local macro_rules | `(tactic| walk_at "ev") => `(tactic| first
  | with_reducible exact ev_c
  | ((with_reducible refine' ev_var ?k0); (case k0 => exact rfl))
  | with_reducible assumption
  | ((with_reducible refine' ev_lenS ?k0 ?k1); (case k0 => walk_at "ev"); (case k1 => walk_at "sz"))
  | ((with_reducible refine' ev_I0 ?k0 ?k1); (case k0 => walk_at "ev"); (case k1 => walk_at "ev"))
  | ((with_reducible refine' ev_I ?k0 ?k1 ?k2); (case k0 => walk_at "ev"); (case k1 => walk_at "ev"); (case k2 => walk_at "sz"))
  | ((with_reducible refine' ev_eq ?k0 ?k1 ?k2); (case k0 => walk_at "ev"); (case k1 => walk_at "ev"); (case k2 => walk_at "sz"))
  | ((with_reducible refine' ev_ne ?k0 ?k1 ?k2); (case k0 => walk_at "ev"); (case k1 => walk_at "ev"); (case k2 => walk_at "sz"))
  | ((with_reducible refine' ev_slTo ?k0 ?k1 ?k2 ?k3); (case k0 => walk_at "ev"); (case k1 => walk_at "ev"); (case k2 => walk_at "sz"); (case k3 => walk_at "sz"))
  | ((with_reducible refine' ev_slFrom ?k0 ?k1 ?k2 ?k3); (case k0 => walk_at "ev"); (case k1 => walk_at "ev"); (case k2 => walk_at "sz"); (case k3 => walk_at "sz"))
  | ((with_reducible refine' ev_slMid ?k0 ?k1 ?k2 ?k3 ?k4 ?k5); (case k0 => walk_at "ev"); (case k1 => walk_at "ev"); (case k2 => walk_at "ev"); (case k3 => walk_at "sz"); (case k4 => walk_at "sz"); (case k5 => walk_at "sz"))
  | ((with_reducible refine' ev_addS ?k0 ?k1 ?k2); (case k0 => walk_at "ev"); (case k1 => walk_at "ev"); (case k2 => walk_at "sz"))
  | ((with_reducible refine' ev_cl ?k0 ?k1); (case k0 => walk_at "ea"); (case k1 => walk_at "sp"))
  | ((with_reducible refine' ev_notV ?k0); (case k0 => walk_at "ev"))
  | ((with_reducible refine' ev_un ?k0 ru_neg); (case k0 => walk_at "ev")))
local macro_rules | `(tactic| walk_at "ea") => `(tactic| first
  | with_reducible exact ea_nil
  | ((with_reducible refine' ea_cons ?k0 ?k1); (case k0 => walk_at "ev"); (case k1 => walk_at "ea")))
local macro_rules | `(tactic| walk_at "et") => `(tactic| first
  | with_reducible assumption
  | ((with_reducible refine' et_test ?k0); (case k0 => walk_at "ev"))
  | ((with_reducible refine' et_B ?k0); (case k0 => walk_at "ev"))
  | ((with_reducible refine' et_not ?k0); (case k0 => walk_at "et")))
local macro_rules | `(tactic| walk_at "sz") => `(tactic| first
  | rfl
  | omega
  | (simp only [List.length_take, List.length_drop, List.length_append]; omega)
  | (constructor <;> omega)
  | assumption)
local macro_rules | `(tactic| walk_at "sp") => `(tactic| first | assumption)

def mixM (c n : Int) : Int := ((c * (1 + 2 * n) * 48271 % 2147483647 + 7919 * n * n + 104729 * n) * 69621 % 2147483629) / 7
theorem mix_lo (c n : Int) : 0 ≤ mixM c n := Int.ediv_nonneg (Int.emod_nonneg _ (by decide)) (by decide)
theorem mix_hi (c n : Int) : mixM c n < 2147483648 := by
  have h := Int.emod_lt_of_pos ((c * (1 + 2 * n) * 48271 % 2147483647 + 7919 * n * n + 104729 * n) * 69621) (show (0 : Int) < 2147483629 by decide)
  have h2 := Int.emod_nonneg ((c * (1 + 2 * n) * 48271 % 2147483647 + 7919 * n * n + 104729 * n) * 69621) (show (2147483629 : Int) ≠ 0 by decide)
  unfold mixM
  omega
section
variable {P : Program} {w : World} {K : PySem.W.Frag} {mg : Str → Option Value} {base : Heap}
theorem ev_int1 {te : TE} {σ : L2.St} {H : Hp} {i : Int} (h : Ev te σ H (.int i)) : Ev (tCB (fun xs H Q => (∃ i, xs = [.int i] ∧ Q (.int i) H) ∨ ∃ k, xs = [.bl k] ∧ Q (.int (if k then 1 else 0)) H) (tCons te tNil)) σ H (.int i) := fun H1 e Q q => h H1 e _ fun H2 e2 => .inl ⟨i, rfl, q H2 e2⟩
def spMix : Sp := fun vs H Q _ => ∃ c n : Int, vs = [.int c, .int n] ∧ 0 ≤ n ∧ n ≤ 4294967296 ∧ -1000000000000000000 ≤ c ∧ c ≤ 1000000000000000000 ∧ RetV (.int (mixM c n)) H Q
theorem ok_mixed (T : Topf mg) (F : FnP K mg "_law_mixed" s_l_mixed) : Cal P w K mg base CX0 1 "_law_mixed" ["_law_cell", "_law_n"] spMix := by
  refine cal_mk F sc_l_mixed (fun vs H Q E h => ?_) (fun _ _ _ _ _ _ us hl => match us, hl with | [_, _], _ => rfl) (fun f cdv A outer s H vs Q E hr h => ?_)
  · obtain ⟨c, n, rfl, _⟩ := h; rfl
  · obtain ⟨c, n, rfl, n0, n1, c0, c1, q⟩ := h
    refine ⟨_, (pss_cons (ps_set (i := 2) sc_l_mixed.nd rfl (Or.inl rfl) (pe_op op_add (pe_op op_add (pe_op op_mod (pe_callTy call_int1 (by rfl) T.b_int (by decide +kernel) (pa_cons (pe_op op_mul (pe_op op_mul (pv 0) (pe_op op_add pe_int (pe_op op_mul pe_int (pv 1)))) pe_int) pa_nil)) pe_int) (pe_op op_mul (pe_op op_mul pe_int (pv 1)) (pv 1))) (pe_op op_mul pe_int (pv 1))))
      (pss_one (ps_ret (pe_op op_fdiv (pe_op op_mod (pe_callTy call_int1 (by rfl) T.b_int (by decide +kernel) (pa_cons (pe_op op_mul (pv 2) pe_int) pa_nil)) pe_int) pe_int)))), ?_⟩
    refine q_asg (v := .int (c * (1 + 2 * n) * 48271 % 2147483647 + 7919 * n * n + 104729 * n)) ?_ fun H1 e1 => ?_
    · exact ev_I0 (ev_I0 (ev_I (ev_int1 (ev_I (ev_I (ev_var rfl) (ev_I0 ev_c (ev_I ev_c (ev_var rfl) (.inl ⟨by decide, by decide⟩))) (.inl ⟨by omega, by omega⟩)) ev_c (.inr ⟨by decide, by decide⟩))) ev_c (by decide)) (ev_I (ev_I ev_c (ev_var rfl) (.inl ⟨by decide, by decide⟩)) (ev_var rfl) (.inr ⟨by omega, by omega⟩))) (ev_I ev_c (ev_var rfl) (.inl ⟨by decide, by decide⟩))
    · refine s_ret (v := .int (mixM c n)) ?_ fun H2 e2 => q H2 (e1.trans e2)
      exact ev_I (ev_I (ev_int1 (ev_I (ev_var rfl) ev_c (.inr ⟨by decide, by decide⟩))) ev_c (by decide)) ev_c ⟨by decide, by decide⟩
def spTw : Sp := fun vs H Q _ => ∃ (t : Tx) (n p : Nat), vs = [tv t, iv n, iv p] ∧ t.length ≤ 1000 ∧ n ≤ 1000 ∧ RetV (.bl (isdb n t p)) H Q
theorem ok_is_twice (T : Topf mg) (F : FnP K mg "_law_is_twice" s_l_is_twice) : Cal P w K mg base CX0 1 "_law_is_twice" ["_law_text", "_law_wide", "_law_at"] spTw := by
  refine cal_mk F sc_l_is_twice (fun vs H Q E h => ?_) (fun _ _ _ _ _ _ us hl => match us, hl with | [_, _, _], _ => rfl) (fun f cdv A outer s H vs Q E hr h => ?_)
  · obtain ⟨t, n, p, rfl, _⟩ := h; rfl
  · obtain ⟨t, n, p, rfl, hz, hn, q⟩ := h
    refine ⟨_, (pss_one (ps_ret (pe_and (pe_cmpR op_le (pe_op op_add (pv 2) (pe_op op_mul pe_int (pv 1))) (pe_callB call_len_str (by rfl) T.b_len (by decide +kernel) (pa_cons (pv 0) pa_nil)) (nomark _)) (pe_one (pe_cmpR op_eq (pe_slice sl_str (pv 0) (po_some (pv 2)) (po_some (pe_op op_add (pv 2) (pv 1)))) (pe_slice sl_str (pv 0) (po_some (pe_op op_add (pv 2) (pv 1))) (po_some (pe_op op_add (pv 2) (pe_op op_mul pe_int (pv 1))))) (nomark _)))))), ?_⟩
    refine s_ret (v := .bl (isdb n t p)) ?_ fun H2 e2 => q H2 e2
    refine ev_is (ev_andV (a := decide (p + 2 * n ≤ t.length)) (b := decide ((t.drop p).take n = (t.drop (p + n)).take n)) (ev_is (ev_I0 (ev_I0 (ev_var rfl) (ev_I ev_c (ev_var rfl) (.inl ⟨by decide, by decide⟩))) (ev_lenS (ev_var rfl) (by omega))) ?_) fun hb => ?_) rfl
    · congr 1
      rw [decide_eq_decide]
      omega
    · refine ev_is (ev_eq (ev_slMid (ev_var rfl) (ev_var rfl) (ev_I0 (ev_var rfl) (ev_var rfl)) (by omega) (by omega) (by omega)) (ev_slMid (ev_var rfl) (ev_I0 (ev_var rfl) (ev_var rfl)) (ev_I0 (ev_var rfl) (ev_I ev_c (ev_var rfl) (.inl ⟨by decide, by decide⟩))) (by omega) (by omega) (by omega)) rfl) ?_
      rw [tv_dec]
      congr 1
      rw [show (p : Int).toNat = p by omega, show ((p : Int) + (n : Int) - (p : Int)).toNat = n by omega, show ((p : Int) + (n : Int)).toNat = p + n by omega, show ((p : Int) + 2 * (n : Int) - ((p : Int) + (n : Int))).toNat = n by omega]
end
end K9
namespace K9
open PySem PySem.Spec PyProof.Rows L2 Evl
def insS (l : List Str) (k : Str) : List Str := if k ∈ l then l else k :: l
def dedS (ks : List Str) : List Str := ks.foldl insS []
theorem insS_mem {l : List Str} {k x : Str} : x ∈ insS l k ↔ x = k ∨ x ∈ l := by
  unfold insS
  split
  · rename_i h
    exact ⟨.inr, fun z => z.elim (fun e => e ▸ h) id⟩
  · rw [List.mem_cons]
theorem insS_len {l : List Str} {k : Str} : (insS l k).length ≤ l.length + 1 := by
  unfold insS
  split
  · omega
  · rw [List.length_cons]; omega
theorem fold_mem : ∀ (ks l : List Str) (x : Str), x ∈ ks.foldl insS l ↔ x ∈ ks ∨ x ∈ l
  | [], l, x => by simp
  | k :: ks, l, x => by
    rw [List.foldl_cons, fold_mem ks, insS_mem, List.mem_cons]
    constructor
    · rintro (h | h | h)
      · exact .inl (.inr h)
      · exact .inl (.inl h)
      · exact .inr h
    · rintro ((h | h) | h)
      · exact .inr (.inl h)
      · exact .inl h
      · exact .inr (.inr h)
theorem fold_len : ∀ (ks l : List Str), (ks.foldl insS l).length ≤ ks.length + l.length
  | [], l => by simp
  | k :: ks, l => by
    rw [List.foldl_cons, List.length_cons]
    have h1 := fold_len ks (insS l k)
    have h2 := insS_len (l := l) (k := k)
    omega
theorem insS_nodup {l : List Str} {k : Str} (h : l.Nodup) : (insS l k).Nodup := by
  unfold insS
  split
  · exact h
  · rename_i hk
    exact List.nodup_cons.mpr ⟨hk, h⟩
theorem fold_nodup : ∀ (ks l : List Str), l.Nodup → (ks.foldl insS l).Nodup
  | [], l, h => h
  | k :: ks, l, h => fold_nodup ks _ (insS_nodup h)
/-- a set of texts, its members in some order -/
def SS (P : Program) (w : World) (h : Heap) (a : Addr) (l : List Str) : Prop := ∃ D : PySem.Froz.SD, h.get? a = some (PySem.Froz.sObj "set" D) ∧ PySem.Froz.TxOk P w D l ∧ Ris D.2.2.place.toList ∧ (w.params.followText "set-order" = true ∨ D.2.2.led = true)
theorem SS.at {P : Program} {w : World} {h h' : Heap} {a : Addr} {l : List Str} (R : SS P w h a l) (k : ∀ o, h.get? a = some o → h'.get? a = some o) : SS P w h' a l := by
  obtain ⟨D, h1, h2⟩ := R
  exact ⟨D, k _ h1, h2⟩
theorem tailTx_ris {ep : Nat} {es : Array (Int × Value)} {t : SetTable} {b : Bool} (r : Ris t.place.toList) : Ris (PySem.Froz.tailTx ep es t b).2.2.place.toList := by
  unfold PySem.Froz.tailTx
  split
  · exact relayAll_ris _ _ _
  · exact r
theorem tailTx_led {ep : Nat} {es : Array (Int × Value)} {t : SetTable} {b : Bool} : (PySem.Froz.tailTx ep es t b).2.2.led = t.led := by
  unfold PySem.Froz.tailTx
  split
  · exact relayAll_led _ _ _
  · rfl
theorem addTx_ris (h : Int) (v : Value) (D : PySem.Froz.SD) (r : Ris D.2.2.place.toList) : Ris (PySem.Froz.addTx h v D).2.2.place.toList := by
  have h1 := layNew_ris D.2.2 D.1 h v r
  unfold PySem.Froz.addTx
  refine tailTx_ris ?_
  split
  · exact h1
  · exact h1
theorem addTx_led (h : Int) (v : Value) (D : PySem.Froz.SD) : (PySem.Froz.addTx h v D).2.2.led = D.2.2.led := by
  have h1 := layNew_led D.2.2 D.1 h v
  unfold PySem.Froz.addTx
  rw [tailTx_led]
  split
  · exact h1
  · exact h1
theorem strsAt : ∀ {vs : List Value} {xs : List Str}, StrsAre vs xs → ∀ (i : Nat) (v : Value), vs[i]? = some v → ∃ t, v = .str (xs.getD i Str.empty) t
  | _, _, .nil, i, v, h => by simp at h
  | _, _, .cons n t hr, 0, v, h => by simp at h; exact ⟨t, by rw [← h]; rfl⟩
  | _, _, .cons n t hr, i + 1, v, h => by
    simp only [List.getElem?_cons_succ] at h
    obtain ⟨t', e⟩ := strsAt hr i v h
    exact ⟨t', by rw [e]; rfl⟩
section
variable {P : Program} {w : World} {A : Around} {E : Value → Shared → Prop} {s : Shared} {a : Addr} {l : List Str}
theorem ss_add {k : Str} {u : Tok} {Q : Bool → Shared → Prop} (S : SS P w s.heap a l) (hb : l.length + 1 < scanBound)
    (hQ : ∀ b h', Heap.SameBut a s.heap h' → SS P w h' a (insS l k) → Q b { s with heap := h' }) : wpAny (model P w) A (setAddHashed a (.str k u) (hashStr w k)) Q E s := by
  obtain ⟨D, ho, F, hr, hl⟩ := S
  by_cases hk : k ∈ l
  · have hS : insS l k = l := by unfold insS; rw [if_pos hk]
    obtain ⟨es, ep, t⟩ := D
    have hd : (PySem.Froz.sObj "set" (es, ep, t)).data = .set es ep t := rfl
    have hf : t.fits es.size = true := F.fit
    have hel : ElemsOf (PySem.strKind P w) es.toList := F.el
    have hsz : es.size = l.length := F.sz
    have hb0 : es.size < scanBound := by omega
    have hkey : (PySem.strKind P w).is k (.str k u) = true := PySem.Froz.is_str k u
    unfold setAddHashed setAddHashedIn
    refine wpAny_holding (wpAny_bind (wpAny_setState_of ho hd hf ?_))
    dsimp only
    rw [byScan_of rfl hb0 hel]
    simp only [↓reduceIte]
    unfold setAddByScan
    refine wpAny_bind ?_
    refine wpAny_bind (wpAny_rule ?_)
    refine wpAny_bind (wpAny_setScan_of (knd := PySem.strKind P w) (k := k) hkey ho hd hf hel ?_)
    cases hfi : List.findIdx? (fun e => (PySem.strKind P w).is k e.2) es.toList with
    | some j =>
      dsimp only
      refine wpAny_pure (wpAny_pure ?_)
      exact hQ _ s.heap (Heap.SameBut.refl a s.heap) ⟨(es, ep, t), ho, by rw [hS]; exact F, hr, hl⟩
    | none =>
      obtain ⟨e, he, q⟩ := (F.mem k).mp hk
      have c := List.findIdx?_eq_none_iff.mp hfi e he
      rw [q] at c
      cases c
  · have hS : insS l k = k :: l := by unfold insS; rw [if_neg hk]
    refine PySem.Froz.add_x ho F hk hb ?_
    refine hQ _ _ (Heap.SameBut.update _ _ _) ⟨PySem.Froz.addTx (hashStr w k) (.str k u) D, PySem.Froz.get_upd _ ho rfl, by rw [hS]; exact PySem.Froz.add_ok u F, addTx_ris _ _ _ hr, by rw [addTx_led]; exact hl⟩
end
section
variable {prog : Program} {w : World} {A : Around} {R : Result → Shared → Prop} {I : Addr} {fp wr : List Addr} {G : Array GenState → Array GenState → Prop} {n : Nat} {P : Nat → Value → Prop} {St : Nat → Shared → Prop}
theorem loopS (W : WalksS prog w A.in1 I fp wr G n P St) (S : Addr) (hSf : S ∉ fp)
    (xs : List Str) (hsz : xs.length = n) (hval : ∀ i v, P i v → ∃ t, v = .str (xs.getD i Str.empty) t) (hb : n + 1 < scanBound) :
    ∀ (k i : Nat) (s : Shared), n - i = k → i ≤ n → St i s → SS prog w s.heap S (dedS (xs.take i)) →
      (∀ s', Moved (S :: wr) G s s' → SS prog w s'.heap S (dedS xs) → R (.ok (.ret .none)) s') →
      codeAny (model prog w) A (.builtin "set.update.loop" ⟨[.ref S, .ref I], []⟩) R s := by
  have hSw : S ∉ wr := fun h => hSf (W.sub _ h)
  have hsub : ∀ b ∈ wr, b ∈ S :: wr := fun b hb => List.mem_cons_of_mem _ hb
  intro k
  induction k with
  | zero =>
    intro i s hk hi hst hS hR
    have hin : i = n := by omega
    subst hin
    refine codeAny_builtin PyProof.Rows.F.entry_set_update_loop ?_
    rw [Around.under_plainId PyProof.Rows.F.plain_set_update_loop _]
    show wpAny _ A.in1 (pyNext (.ref I) >>= _) _ _ s
    refine wpAny_bind (W.done s _ _ hst fun s' hm => ?_)
    show wpAny _ A.in1 (ret Value.none) _ _ s'
    rw [List.take_of_length_le (by omega)] at hS
    exact wpAny_pure (hR s' (hm.mono hsub) (hS.at fun o e => hm.heap S o hSw e))
  | succ k ih =>
    intro i s hk hi hst hS hR
    have hlt : i < n := by omega
    refine codeAny_builtin PyProof.Rows.F.entry_set_update_loop ?_
    rw [Around.under_plainId PyProof.Rows.F.plain_set_update_loop _]
    show wpAny _ A.in1 (pyNext (.ref I) >>= _) _ _ s
    refine wpAny_bind (W.item i s _ _ hlt hst fun v s' hP hst' hm => ?_)
    obtain ⟨t, rfl⟩ := hval i v hP
    have hS' : SS prog w s'.heap S (dedS (xs.take i)) := hS.at fun o e => hm.heap S o hSw e
    show wpAny _ A.in1 (holding [Value.str (xs.getD i Str.empty) t] (setAdd S (.str (xs.getD i Str.empty) t)) >>= _) _ _ s'
    refine wpAny_bind (wpAny_holding ?_)
    unfold setAdd
    refine wpAny_holding ?_
    refine wpAny_bind ((PySem.strKind prog w).pyHash (k := xs.getD i Str.empty) (PySem.Froz.is_str _ _) ?_)
    have hlen : (dedS (xs.take i)).length ≤ i := by
      have h1 := fold_len (xs.take i) []
      rw [List.length_take] at h1
      unfold dedS
      simp at h1
      omega
    refine ss_add (s := { s' with toks := s'.toks + 1 }) hS' (by omega) fun b h' hsb hS2 => ?_
    have hSi : SS prog w h' S (dedS (xs.take (i + 1))) := by
      have e : dedS (xs.take (i + 1)) = insS (dedS (xs.take i)) (xs.getD i Str.empty) := by
        have hix : i < xs.length := by omega
        unfold dedS
        rw [List.take_succ_eq_append_getElem hix, List.foldl_append, List.getD_eq_getElem?_getD, List.getElem?_eq_getElem hix]
        rfl
      rw [e]
      exact hS2
    refine wpAny_pure ⟨plainId_quiet PyProof.Rows.F.plain_set_update_loop _, ih (i + 1) _ (by omega) hlt (W.frame _ s' _ _ hst' (Nat.le_succ _) fun b hb o e => ?_) hSi fun s'' hm'' hS'' => ?_⟩
    · rw [hsb.2 b (fun h : b = S => hSf (by rw [← h]; exact hb))]; exact e
    · refine hR s'' (Moved.trans W.gtrans ((hm.mono hsub).then_heap (Nat.le_succ _) fun b o hb e => ?_) hm'') hS''
      rw [hsb.2 b (fun h : b = S => hb (by rw [h]; exact List.mem_cons_self))]; exact e
end
section
variable {prog : Program} {w : World} {A : Around} {E : Value → Shared → Prop} {s : Shared}
theorem code_set_led1 (a : Value) {Q₁ : Value → Shared → Prop}
    (h : Q₁ (.ref s.heap.objs.size) { s with heap := s.heap.push { cls := .type "set", dict := none, data := .set #[] 0 (.fresh 0 0 (!w.params.followText "set-order")) } }) :
    codeAny (model prog w) A (.call (.builtin "set.__new__") ⟨[.type "set", a], []⟩) (wants Q₁ E) s := by
  refine codeAny_of_tree ?_
  show wpAny _ A.in1 (do checkBuiltinCall "set.__new__" ⟨[.type "set", a], []⟩; again (.builtin "set.__new__" ⟨[.type "set", a], []⟩)) _ _ s
  refine wpAny_bind (wpAny_of_eq (PySem.F.newCall_set_1 a) (wpAny_pure ⟨plainId_quiet PySem.F.plain_set_new _, codeAny_builtin PySem.F.entry_set_new ?_⟩))
  rw [Around.under_plainId PySem.F.plain_set_new _]
  unfold Builtin.«set.__new__» Builtin.Frozenset.newClass
  have hsub := sub_set_self
  obtain ⟨hp, g, d, tk, os⟩ := s
  dsimp only
  wp_walk
  refine wpAny_askSetting (wpAny_pure ?_)
  dsimp only
  simp only [newObj]
  refine wpAny_bind (wpAny_alloc (wpAny_pure ?_))
  exact wpAny_pure h
theorem ss_fresh {P : Program} {h : Heap} (w : World) : SS P w (h.push { cls := .type "set", dict := none, data := .set #[] 0 (.fresh 0 0 (!w.params.followText "set-order")) }) h.objs.size [] :=
  ⟨(#[], 0, .fresh 0 0 (!w.params.followText "set-order")), Heap.get?_push_size _ rfl, PySem.Froz.TxOk.nil (by rfl), List.Pairwise.nil, by
    show _ ∨ (!w.params.followText "set-order") = true
    cases w.params.followText "set-order"
    · exact .inr rfl
    · exact .inl rfl⟩
theorem call_set_txs {l : Addr} {items : Array Value} {xs : List Str} {Q : Value → Shared → Prop}
    (hh : A.handled = none) (hl : s.heap.IsList l items) (hi : PyProof.Rows.StrsAre items.toList xs) (hn1 : xs.length + 1 < scanBound)
    (h : ∀ (h' : Heap) (tk : Nat), SS prog w h' s.heap.objs.size (dedS xs) →
      (∀ b o, b < s.heap.objs.size → s.heap.get? b = some o → h'.get? b = some o) → Q (.ref s.heap.objs.size) { s with heap := h', toks := tk }) :
    wpAny (model prog w) A (call (.type "set") [.ref l]) Q E s := by
  obtain ⟨c, tl, hmro⟩ := PySem.F.called_set.mro
  have hmade := PySem.F.called_set.made
  have hsub := PySem.F.called_set.sub
  refine wpAny_call (codeAny_of_tree ?_)
  show wpAny _ _ (callAny (.type "set") _) _ _ _
  refine wpAny_pure ⟨Code.quiet_builtin _ (by decide +kernel), codeAny_builtin PySem.F.entry_type_call ?_⟩
  rw [Around.under_plain (weight_type_call_type "set" [.ref l] []) rfl]
  have h1 := PySem.F.called_set.notType
  have h2 := PySem.F.called_set.canCreate
  have hct := PySem.F.typeCall_set_1 (.ref l)
  repeat (any_goals (first | assumption | wp_step))
  obtain ⟨led, hled⟩ : ∃ led, led = !w.params.followText "set-order" := ⟨_, rfl⟩
  refine codeAny_mono (code_set_led1 (.ref l) (E := E) (Q₁ := fun obj s₁ => obj = .ref s.heap.objs.size ∧ s₁ = { s with heap := s.heap.push { cls := .type "set", dict := none, data := .set #[] 0 (.fresh 0 0 led) } }) (by rw [hled]; exact ⟨rfl, rfl⟩)) fun r s₁ hr => ?_
  cases r with
  | error e => exact hr
  | ok fl =>
    cases fl with
    | ret obj =>
      obtain ⟨rfl, rfl⟩ := hr
      have hS : (s.heap.push { cls := .type "set", dict := none, data := .set #[] 0 (.fresh 0 0 led) }).get? s.heap.objs.size = some { cls := .type "set", dict := none, data := .set #[] 0 (.fresh 0 0 led) } := Heap.get?_push_size _ rfl
      have hT : Shared.TypeIs { s with heap := s.heap.push { cls := .type "set", dict := none, data := .set #[] 0 (.fresh 0 0 led) } } (.ref s.heap.objs.size) "set" := ⟨_, hS, rfl⟩
      have hli := PySem.F.called_set.init.lookup
      have hbi := PySem.F.called_set.init.bind (.ref s.heap.objs.size)
      repeat (any_goals (first | assumption | wp_step))
      refine codeAny_mono (codeAny_call_builtin (R := wants (fun r s₂ => r = .none ∧ ∃ h' tk, s₂ = { s with heap := h', toks := tk } ∧
          SS prog w h' s.heap.objs.size (dedS xs) ∧
          (∀ b o, b < s.heap.objs.size → s.heap.get? b = some o → h'.get? b = some o)) E) PySem.F.called_set.init.plain PySem.F.entry_set_init (check_set_init_1 hT ?_)) fun r₂ s₂ hr₂ => ?_
      · obtain ⟨ol, hol, hcl, nl, hdl⟩ := hl
        obtain ⟨ocls, odict, odata, oslots⟩ := ol
        simp only at hcl hdl
        subst hcl; subst hdl
        have hol' : (s.heap.push { cls := .type "set", dict := none, data := .set #[] 0 (.fresh 0 0 led) }).get? l = some { cls := .type "list", dict := odict, data := .seq items nl, slots := oslots } := Heap.get?_push_of_some _ hol
        have hsls := PySem.F.sub_list_set
        have hslf := PySem.F.sub_list_frozenset
        have hne : (Value.type "list" == Value.type "dict") = false := by decide
        have hl1 : (s.heap.push { cls := .type "set", dict := none, data := .set #[] 0 (.fresh 0 0 led) }).IsList l items := ⟨_, hol', rfl, nl, rfl⟩
        unfold Builtin.«set.__init__» noKeywords Builtin.Frozenset.updateFrom
        generalize hPI : pyIter = PI
        wp_walk
        subst hPI
        refine wpAny_pyIter_list hl1 ?_
        refine wpAny_bind (wpAny_runValue ?_)
        have hlS : l < s.heap.objs.size := Heap.lt_size hol
        have hh3 : A.in1.in1.in1.handled = none := by simp [hh]
        have hneI : l ≠ (s.heap.push { cls := .type "set", dict := none, data := .set #[] 0 (.fresh 0 0 led) }).objs.size := by
          rw [Heap.size_push]; exact Nat.ne_of_lt (Nat.lt_succ_of_lt hlS)
        have hSf : s.heap.objs.size ∉ [(s.heap.push { cls := .type "set", dict := none, data := .set #[] 0 (.fresh 0 0 led) }).objs.size, l] := by
          rw [Heap.size_push]; simp only [List.mem_cons, List.mem_singleton, List.not_mem_nil, or_false, not_or]
          exact ⟨Nat.ne_of_lt (Nat.lt_succ_self _), Nat.ne_of_gt hlS⟩
        have hsz : xs.length = items.size := by rw [← StrsAre.len_eq hi, Array.length_toList]
        have hval : ∀ (i : Nat) (v : Value), items[i]? = some v → ∃ t, v = .str (xs.getD i Str.empty) t := fun i v hv => strsAt hi i v (by rw [Array.getElem?_toList]; exact hv)
        refine loopS ((Walks.list hh3 _ l hneI items).toS) s.heap.objs.size
          hSf xs hsz hval (by rw [← hsz]; exact hn1) (items.size - 0) 0 _ (by omega) (Nat.zero_le _)
          ⟨⟨_, Heap.get?_push_size _ rfl, rfl, rfl⟩, (hl1.push _)⟩ ?hS0 ?hR
        case hS0 =>
          have hf := ss_fresh (P := prog) (h := s.heap) w
          rw [← hled] at hf
          exact hf.at fun o e => Heap.get?_push_of_some _ e
        case hR =>
          intro s' hm hS'
          obtain ⟨h', g', d', tk', os'⟩ := s'
          have eg : g' = s.gens := hm.gens
          have ed : d' = s.drawn := hm.drawn
          have eo : os' = s.os := hm.os
          subst eg; subst ed; subst eo
          show wpAny _ _ _ _ _ _
          refine wpAny_pure ?_
          show wpAny _ _ (ret Value.none) _ _ _
          refine wpAny_pure ⟨rfl, h', tk', rfl, hS', fun b o hb e => ?_⟩
          have hb1 : b ≠ s.heap.objs.size := Nat.ne_of_lt hb
          have hb2 : b ≠ (s.heap.push { cls := .type "set", dict := none, data := .set #[] 0 (.fresh 0 0 led) }).objs.size := by
            rw [Heap.size_push]; exact Nat.ne_of_lt (Nat.lt_succ_of_lt hb)
          exact hm.heap b o (by simp only [List.mem_cons, List.mem_singleton, List.not_mem_nil, or_false, not_or]; exact ⟨hb1, hb2⟩) (Heap.get?_push_of_some _ (Heap.get?_push_of_some _ e))
      · cases r₂ with
        | error e => exact hr₂
        | ok fl₂ =>
          cases fl₂ with
          | ret r =>
            obtain ⟨rfl, h', tk, rfl, hS', hk'⟩ := hr₂
            repeat (any_goals (first | assumption | wp_step))
            exact h _ _ hS' hk'
          | _ => exact hr₂.elim
    | _ => exact hr.elim
theorem strs_of : ∀ (l : List Value), (∀ v ∈ l, ∃ k tk, v = Value.str k tk) → StrsAre l (l.map strOf)
  | [], _ => .nil
  | v :: l, h => by
    obtain ⟨k, tk, rfl⟩ := h v List.mem_cons_self
    exact .cons k tk (strs_of l fun u hu => h u (List.mem_cons_of_mem _ hu))
theorem sorted_txs {a : Addr} {l : List Str} {Q : Value → Shared → Prop} (S : SS prog w s.heap a l) (hh : A.handled = none) (h64 : l.length < 64)
    (hQ : ∀ s' p (out : Array Value) (c : Nat) (ts : List Str), (∀ b o, s.heap.get? b = some o → s'.heap.get? b = some o) → s'.gens = s.gens → s'.os = s.os → s.heap.objs.size ≤ p →
      s'.heap.get? p = some (seqObj "list" out c) → StrsAre out.toList ts → (∀ k, k ∈ ts ↔ k ∈ l) → ts.length = l.length → Q (.ref p) s') :
    wpAny (model prog w) A (call (.builtin "sorted") [.ref a]) Q E s := by
  obtain ⟨⟨es, ep, t⟩, ho, F, hr, hl⟩ := S
  have hsz : es.size = l.length := F.sz
  have hel : ElemsOf (PySem.strKind prog w) es.toList := F.el
  have hmem : ∀ k : Str, k ∈ l ↔ ∃ e ∈ es.toList, (PySem.strKind prog w).is k e.2 = true := F.mem
  refine Calls.call_function_entry kind_sorted plain_sorted entry_sorted (args_sorted1 _) ?_
  unfold Builtin.«sorted»
  refine wpAny_bind (m := checkCount "sorted" 1 1 _) (wpAny_pure ?_)
  refine wpAny_bind (collect_set (A := A.in1) hh ⟨_, ho, rfl, rfl⟩ F.fit (show es.size < scanBound by unfold scanBound; omega) hr hl fun s1 vs k1 hz g1 o1 pm => ?_)
  have hvl : vs.length = l.length := by rw [pm.length_eq, List.length_map, Array.length_toList]; exact hsz
  have hstr : ∀ e ∈ es.toList, ∃ k tk, e.2 = Value.str k tk := fun e he => by
    obtain ⟨⟨k, h1, _⟩, _⟩ := hel e he
    have h1 : Value.isStrOf k e.2 = true := h1
    cases hv : e.2 with
    | str x u => exact ⟨x, u, rfl⟩
    | _ => rw [hv] at h1; simp [Value.isStrOf] at h1
  have hI : StrsAre vs (vs.map strOf) := strs_of vs fun v hv => by
    obtain ⟨e, he, q⟩ := List.mem_map.mp (pm.mem_iff.mp hv)
    obtain ⟨k, tk, h1⟩ := hstr e he
    exact ⟨k, tk, by rw [← q]; exact h1⟩
  refine wpAny_bind (wpAny_newList ?_ (by rw [hvl, sizeLine_eq]; omega))
  have hoL : (s1.heap.push (seqObj "list" vs.toArray 0)).get? s1.heap.objs.size = some (seqObj "list" vs.toArray 0) := Heap.get?_push_size _ rfl
  refine wpAny_bind (wpAny_holding (wpAny_call_entry slot_list_sort ⟨_, hoL, rfl⟩ entry_list_sort (list_sort_treeK strKind_oneLt hoL hI.keysOf (fun v₁ v₂ rest e => keyKind_strs (by rw [← e]; exact hI)) (by rw [hvl]; exact h64) fun st' hp hs => ⟨_, rfl, ?_⟩) (args_list_sort _)))
  obtain ⟨ts, a1, a2, a3⟩ := sorted_out_str hI hp hs
  obtain ⟨c, hc⟩ := sortedHeap_at (vs := vs) (out := (PyProof.Rows.arrOf st').map (·.2)) hoL
  refine wpAny_pure ⟨_, rfl, hQ _ s1.heap.objs.size _ c ts (fun b u e => ?_) g1 o1 hz hc a1 (fun k => ?_) ?_⟩
  · have q := k1 b u e
    have hlt := Heap.lt_size q
    show (sortedHeap (s1.heap.push (seqObj "list" vs.toArray 0)) s1.heap.objs.size vs _).get? b = some u
    rw [sortedHeap_old (Nat.ne_of_lt hlt) (by rw [size_push']; exact Nat.lt_succ_of_lt hlt)]
    exact Heap.get?_push_of_some _ q
  · rw [a2.mem_iff, List.mem_map, hmem]
    constructor
    · rintro ⟨v, hv, rfl⟩
      obtain ⟨e, he, q⟩ := List.mem_map.mp (pm.mem_iff.mp hv)
      obtain ⟨k, tk, h1⟩ := hstr e he
      refine ⟨e, he, ?_⟩
      rw [← q, h1]
      exact PySem.Froz.is_str _ _
    · rintro ⟨e, he, q⟩
      obtain ⟨x, tk, h1⟩ := hstr e he
      have hx : (PySem.strKind prog w).is x e.2 = true := by rw [h1]; exact PySem.Froz.is_str _ _
      refine ⟨e.2, pm.mem_iff.mpr (List.mem_map.mpr ⟨e, he, rfl⟩), ?_⟩
      rw [h1]
      exact (PySem.strKind prog w).inj e.2 x k hx q
  · rw [a2.length_eq, List.length_map, hvl]
end
/-- the set at a -/
def SetT (P : Program) (w : World) (a : Addr) (l : List Str) : HO := .ext fun h => SS P w h a l
section
variable {X : Cx}
theorem setT_new {w : World} {P : Program} {H : Hp} {h : Heap} {a : Addr} {l : List Str} (R : SS P w h a l) : ObjOk P w H h a (SetT P w a l) := by
  have ⟨D, ho, _⟩ := R
  exact ⟨R, ⟨_, ho⟩, fun h1 h2 p k => SS.at p k⟩
theorem setT_get {pins : List (Addr × Obj)} {σ : L2.St} {H : Hp} {s : Shared} {a : Addr} {l : List Str} (I : Inv X pins σ H s) (ha : H a = some (SetT X.prog X.w a l)) : SS X.prog X.w s.heap a l := (I.hok a _ ha).1
/-- set(texts) -/
def rSetT (P : Program) (w : World) (K : PySem.W.Frag) : List V → Hp → VK → Prop := fun vs H Q => ∃ (a : Addr) (xs : List Str), vs = [V.ref a] ∧ SqL K H a (xs.map V.str) ∧ xs.length < 60 ∧ ∀ p, H p = none → Q (.ref p) (upd H p (SetT P w p (dedS xs)))
theorem cr_setT (hc : X.calm = true) : CallR X (.type "set") (rSetT X.prog X.w X.K) := by
  intro pins s σ H vs us Q I r h
  obtain ⟨a, xs, rfl, hs, h64, q⟩ := h
  obtain ⟨its, rv, hl, _⟩ := I.list hs
  rw [Vals.ref1 r]
  refine call_set_txs (I.ok.hd hc) hl.isList (by simpa using rv.strs) (by unfold scanBound; omega) fun h' tk S k => ?_
  exact ⟨.ref _, upd H s.heap.objs.size (SetT X.prog X.w s.heap.objs.size (dedS xs)), I.laid (t' := tk) (fun b u e => k b u (Heap.lt_size e) e) (Nat.le_refl _) (setT_new S), rfl, q _ (I.hok.fresh (Nat.le_refl _))⟩
/-- sorted(set of texts) -/
def rSortT (P : Program) (w : World) : List V → Hp → VK → Prop := fun vs H Q => ∃ (a : Addr) (l : List Str), vs = [V.ref a] ∧ H a = some (SetT P w a l) ∧ l.length < 64 ∧
  ∀ (ts : List Str) (p : Addr), (∀ k, k ∈ ts ↔ k ∈ l) → ts.length = l.length → H p = none → Q (.ref p) (upd H p (.lst (ts.map V.str)))
theorem cr_sortT (hc : X.calm = true) : CallR X (.builtin "sorted") (rSortT X.prog X.w) := by
  intro pins s σ H vs us Q I r h
  obtain ⟨a, l, rfl, ha, h64, q⟩ := h
  have R := setT_get I ha
  rw [Vals.ref1 r]
  refine sorted_txs R (I.ok.hd hc) h64 fun s' p out c ts k g o hp hg hi hm hl => ?_
  have hlen : (ts.map V.str).length ≤ sizeLine := by rw [List.length_map, hl, sizeLine_eq]; omega
  have hn : H p = none := I.hok.fresh hp
  have J : Inv X pins σ (upd H p (.lst (ts.map V.str))) { s with heap := s'.heap, gens := s'.gens, drawn := s'.drawn, toks := s'.toks } :=
    I.call (ch := []) (Un.laid k hp hn) (I.hok.laid k hp ⟨hlen, out.toList, c, vals_of_strs hi, hg⟩) (by rw [g]; exact I.bare) (fun _ z => nomatch z)
  have e : s' = { s with heap := s'.heap, gens := s'.gens, drawn := s'.drawn, toks := s'.toks } := by
    cases s'
    cases s
    cases o
    rfl
  rw [e]
  exact ⟨.ref p, _, J, rfl, q ts p hm hl hn⟩
theorem k_setT {K : PySem.W.Frag} {P : Program} {w : World} (hK : X.K = K) (hP : X.prog = P) (hw : X.w = w) (hc : X.calm = true) : CallR X (.type "set") (rSetT P w K) := by subst hK hP hw; exact cr_setT hc
theorem k_sortT {P : Program} {w : World} (hP : X.prog = P) (hw : X.w = w) (hc : X.calm = true) : CallR X (.builtin "sorted") (rSortT P w) := by subst hP hw; exact cr_sortT hc
end
end K9
namespace K9
/-! Copies by coordinates; plain Lean. -/
theorem cop_len {n k : Nat} {t : Tx} (h : k + n ≤ t.length) : (cop n t k).length = t.length + n := by
  unfold cop
  rw [List.length_append, List.length_take, List.length_drop]
  omega
theorem cop_get? {n k : Nat} {t : Tx} (h : k + n ≤ t.length) (i : Nat) : (cop n t k)[i]? = if i < k + n then t[i]? else t[i - n]? := by
  unfold cop
  rw [List.getElem?_append, List.length_take, Nat.min_eq_left h]
  split
  · rw [List.getElem?_take, if_pos ‹_›]
  · rw [List.getElem?_drop]
    congr 1
    omega
theorem gaps_get? {w : Nat} {t : Tx} {i : Nat} (h : i + w < t.length) : (gaps w t)[i]? = some (gp (t.getD i 0) (t.getD (w + i) 0)) := by
  have h1 : i < (gaps w t).length := by rw [gaps_len]; omega
  rw [List.getElem?_eq_getElem h1, gaps_get h1, List.getD_eq_getElem?_getD, List.getD_eq_getElem?_getD, List.getElem?_eq_getElem (by omega), List.getElem?_eq_getElem (by omega)]
  rfl
theorem cop_getD {n k : Nat} {t : Tx} (h : k + n ≤ t.length) (i : Nat) : (cop n t k).getD i 0 = if i < k + n then t.getD i 0 else t.getD (i - n) 0 := by
  rw [List.getD_eq_getElem?_getD, cop_get? h]
  split
  · rw [List.getD_eq_getElem?_getD]
  · rw [List.getD_eq_getElem?_getD]
theorem gaps_cop {n k : Nat} {t : Tx} (h : k + n ≤ t.length) : gaps n (cop n t k) = (gaps n t).take k ++ (List.replicate n 0 ++ (gaps n t).drop k) := by
  have hl : (gaps n t).length = t.length - n := gaps_len n t
  apply List.ext_getElem?
  intro i
  by_cases hi : i < t.length
  · rw [gaps_get? (by rw [cop_len h]; omega), cop_getD h, cop_getD h]
    by_cases h1 : i < k
    · rw [if_pos (by omega), if_pos (by omega), List.getElem?_append_left (by rw [List.length_take]; omega), List.getElem?_take, if_pos h1, gaps_get? (by omega)]
    · rw [List.getElem?_append_right (by rw [List.length_take]; omega), List.length_take, Nat.min_eq_left (by omega), if_neg (show ¬ n + i < k + n by omega), show n + i - n = i by omega]
      by_cases h2 : i < k + n
      · rw [if_pos h2, List.getElem?_append_left (by rw [List.length_replicate]; omega), List.getElem?_replicate, if_pos (by omega), gp_self]
      · rw [if_neg h2, List.getElem?_append_right (by rw [List.length_replicate]; omega), List.length_replicate, List.getElem?_drop, gaps_get? (by omega)]
        congr 3
        · congr 1; omega
        · congr 1; omega
  · rw [List.getElem?_eq_none (by rw [gaps_len, cop_len h]; omega), List.getElem?_eq_none]
    rw [List.length_append, List.length_append, List.length_replicate, List.length_take, List.length_drop]
    omega
theorem cop_take {n k : Nat} {t : Tx} (h : k + n ≤ t.length) : (cop n t k).take n = t.take n := by
  apply List.ext_getElem?
  intro i
  rw [List.getElem?_take, List.getElem?_take]
  split
  · rw [cop_get? h, if_pos (by omega)]
  · rfl
theorem rns_eq {n : Nat} {t : Tx} (h : ¬ t.length < n) : rns n t = rg (gaps n t) := by unfold rns; rw [if_neg h]
theorem rns_len {n : Nat} {t : Tx} (h : ¬ t.length < n) : (rns n t).length = (stp n t).length + 1 := by rw [rns_eq h, rg_len]; rfl
theorem cop_coord {n k : Nat} {t : Tx} (h : k + n ≤ t.length) : stp n (cop n t k) = stp n t ∧ rns n (cop n t k) = bump (rns n t) (sg ((gaps n t).take k)).length n := by
  have ht : ¬ t.length < n := by omega
  have hc : ¬ (cop n t k).length < n := by rw [cop_len h]; omega
  have hg : (gaps n t).take k ++ (gaps n t).drop k = gaps n t := List.take_append_drop _ _
  refine ⟨?_, ?_⟩
  · unfold stp
    rw [gaps_cop h, sg_ins, hg]
  · rw [rns_eq hc, rns_eq ht, gaps_cop h, rg_ins, hg]
theorem cop_run {n k : Nat} {t : Tx} (h : k + n ≤ t.length) : (sg ((gaps n t).take k)).length < (rns n t).length := by
  have ht : ¬ t.length < n := by omega
  rw [rns_len ht]
  unfold stp
  have : sg (gaps n t) = sg ((gaps n t).take k) ++ sg ((gaps n t).drop k) := by rw [← sg_append, List.take_append_drop]
  rw [this, List.length_append]
  omega
/-- each run can be made longer -/
theorem cop_at {n i : Nat} {t : Tx} (h : ¬ t.length < n) (hi : i < (rns n t).length) : ∃ k, k + n ≤ t.length ∧ rns n (cop n t k) = bump (rns n t) i n := by
  obtain ⟨hl, hg⟩ := rns_lay h
  have hf := sg_fpl (stp n t) (rns n t) i stp_ne0 hl hi
  rw [hg] at hf
  have hgl := gaps_len n t
  refine ⟨fpl (rns n t) i, by omega, ?_⟩
  rw [(cop_coord (by omega)).2, hf.1]
theorem cop_isdb {n k : Nat} {t : Tx} (h : k + n ≤ t.length) : isdb n (cop n t k) k = true ∧ und n (cop n t k) k = t := by
  have hl := cop_len h
  constructor
  · unfold isdb
    rw [decide_eq_true (by omega), Bool.true_and, decide_eq_true_iff]
    apply List.ext_getElem?
    intro i
    rw [List.getElem?_take, List.getElem?_take]
    split
    · rw [List.getElem?_drop, List.getElem?_drop, cop_get? h, cop_get? h, if_pos (by omega), if_neg (by omega)]
      congr 1
      omega
    · rfl
  · apply List.ext_getElem?
    intro i
    unfold und
    rw [List.getElem?_append, List.length_take, hl, Nat.min_eq_left (by omega)]
    split
    · rw [List.getElem?_take, if_pos ‹_›, cop_get? h, if_pos ‹_›]
    · rw [List.getElem?_drop, cop_get? h, if_neg (by omega)]
      congr 1
      omega
theorem und_cop {n k : Nat} {t : Tx} (h : isdb n t k = true) : k + n ≤ (und n t k).length ∧ (und n t k).length + n = t.length ∧ cop n (und n t k) k = t := by
  unfold isdb at h
  obtain ⟨h1, h2⟩ := Bool.and_eq_true_iff.mp h
  have h1 : k + 2 * n ≤ t.length := of_decide_eq_true h1
  have h2 := of_decide_eq_true h2
  have hl : (und n t k).length + n = t.length := by
    unfold und
    rw [List.length_append, List.length_take, List.length_drop]
    omega
  refine ⟨by omega, hl, ?_⟩
  apply List.ext_getElem?
  intro i
  rw [cop_get? (by omega)]
  unfold und
  have hm : ∀ j, j < n → t[k + j]? = t[k + n + j]? := fun j hj => by
    have := congrArg (fun l => l[j]?) h2
    simp only [List.getElem?_take, List.getElem?_drop, if_pos hj] at this
    exact this
  split
  · rw [List.getElem?_append_left (by rw [List.length_take]; omega), List.getElem?_take, if_pos ‹_›]
  · by_cases hi : i - n < k + n
    · rw [List.getElem?_append_left (by rw [List.length_take]; omega), List.getElem?_take, if_pos hi]
      have := hm (i - (k + n)) (by omega)
      rw [show k + (i - (k + n)) = i - n by omega, show k + n + (i - (k + n)) = i by omega] at this
      exact this
    · rw [List.getElem?_append_right (by rw [List.length_take]; omega), List.length_take, Nat.min_eq_left (by omega), List.getElem?_drop]
      congr 1
      omega
end K9
namespace K9
/-! plain: the doublings undone -/
theorem und_len {n : Nat} {t : Tx} {p : Nat} (h : isdb n t p = true) : (und n t p).length + n = t.length := by
  unfold isdb at h
  have h1 : p + 2 * n ≤ t.length := of_decide_eq_true (Bool.and_eq_true_iff.mp h).1
  unfold und
  rw [List.length_append, List.length_take, List.length_drop]
  omega
def bareF (n : Nat) : Nat → Tx → Tx
  | 0, t => t
  | f + 1, t => match dbls n t with
    | [] => t
    | p :: _ => bareF n f (und n t p)
def bareM (n : Nat) (t : Tx) : Tx := bareF n t.length t
theorem dbls_nil {n : Nat} (h1 : 1 ≤ n) {t : Tx} (h : t.length = 0) : dbls n t = [] := by
  have : ∀ p, p ∉ dbls n t := fun p hp => by
    have := und_len (mem_dbls.mp hp)
    omega
  exact List.eq_nil_iff_forall_not_mem.mpr this
theorem bareF_nil {n f : Nat} {t : Tx} (h : dbls n t = []) : bareF n f t = t := by
  cases f with
  | zero => rfl
  | succ f =>
    show (match dbls n t with | [] => t | p :: _ => bareF n f (und n t p)) = t
    rw [h]
theorem bareF_cons {n f : Nat} {t : Tx} {p : Nat} {r : List Nat} (h : dbls n t = p :: r) : bareF n (f + 1) t = bareF n f (und n t p) := by
  show (match dbls n t with | [] => t | p :: _ => bareF n f (und n t p)) = _
  rw [h]
theorem bareF_more {n : Nat} (h1 : 1 ≤ n) : ∀ (f : Nat) (t : Tx), t.length ≤ f → bareF n (f + 1) t = bareF n f t
  | 0, t, h => by rw [bareF_nil (dbls_nil h1 (by omega))]; rfl
  | f + 1, t, h => by
    cases hd : dbls n t with
    | nil => rw [bareF_nil hd, bareF_nil hd]
    | cons p r =>
      have hp : p ∈ dbls n t := by rw [hd]; exact List.mem_cons_self
      have hl := und_len (mem_dbls.mp hp)
      show (match dbls n t with | [] => t | p :: _ => bareF n (f + 1) (und n t p)) = (match dbls n t with | [] => t | p :: _ => bareF n f (und n t p))
      rw [hd]
      exact bareF_more h1 f _ (by omega)
theorem bareF_any {n : Nat} (h1 : 1 ≤ n) (t : Tx) : ∀ k, bareF n (t.length + k) t = bareM n t
  | 0 => rfl
  | k + 1 => by rw [← Nat.add_assoc, bareF_more h1 _ _ (by omega)]; exact bareF_any h1 t k
theorem bare_nil {n : Nat} {t : Tx} (h : dbls n t = []) : bareM n t = t := bareF_nil h
theorem bare_cons {n : Nat} (h1 : 1 ≤ n) {t : Tx} {p : Nat} {r : List Nat} (h : dbls n t = p :: r) : bareM n t = bareM n (und n t p) := by
  have hp : p ∈ dbls n t := by rw [h]; exact List.mem_cons_self
  have hl := und_len (mem_dbls.mp hp)
  obtain ⟨k, hk⟩ : ∃ k, t.length = (und n t p).length + k + 1 := ⟨n - 1, by omega⟩
  have e : bareF n ((und n t p).length + k + 1) t = bareF n ((und n t p).length + k) (und n t p) := bareF_cons h
  unfold bareM
  rw [hk, e]
  exact bareF_any h1 _ k
theorem dbls_full {n : Nat} (h1 : 1 ≤ n) (t : Tx) : (List.range t.length).filter (isdb n t) = dbls n t := by
  have hle : t.length + 1 - 2 * n ≤ t.length := by omega
  obtain ⟨k, hk⟩ := Nat.exists_eq_add_of_le hle
  rw [hk, List.range_add, List.filter_append]
  have e2 : ((List.range k).map fun x => t.length + 1 - 2 * n + x).filter (isdb n t) = [] := by
    rw [List.filter_eq_nil_iff]
    intro x hx
    obtain ⟨y, _, rfl⟩ := List.mem_map.mp hx
    unfold isdb
    intro z
    have := of_decide_eq_true (Bool.and_eq_true_iff.mp z).1
    omega
  rw [e2, List.append_nil]
  unfold dbls
  apply List.filter_congr
  intro x hx
  have hx' := List.mem_range.mp hx
  unfold isdb
  rw [decide_eq_true (show x + 2 * n ≤ t.length by omega), Bool.true_and]
end K9
namespace K9
/-! The kin of a text by vectors; plain Lean. -/
def mixR (n : Nat) (p q : List Nat) : List Nat := List.zipWith (fun a b => a + n * b) p q
theorem mixR_bump (n : Nat) : ∀ (p q : List Nat) (i : Nat), mixR n p (bump q i 1) = bump (mixR n p q) i n
  | [], q, i => by
    have : ∀ l : List Nat, mixR n [] l = [] := fun l => by cases l <;> rfl
    rw [this, this]; rfl
  | a :: p, [], i => rfl
  | a :: p, b :: q, 0 => by
    show (a + n * (b + 1)) :: mixR n p q = (a + n * b + n) :: mixR n p q
    rw [Nat.mul_succ, Nat.add_assoc]
  | a :: p, b :: q, i + 1 => by
    show (a + n * b) :: mixR n p (bump q i 1) = (a + n * b) :: bump (mixR n p q) i n
    rw [mixR_bump n p q i]
theorem mixR_len {n : Nat} {p q : List Nat} (h : p.length = q.length) : (mixR n p q).length = q.length := by
  unfold mixR
  rw [List.length_zipWith, h, Nat.min_self]
theorem mixR_mod {n : Nat} : ∀ (p q : List Nat), p.length = q.length → (∀ x ∈ p, x < n) → (mixR n p q).map (· % n) = p ∧ (mixR n p q).map (· / n) = q
  | [], [], _, _ => ⟨rfl, rfl⟩
  | [], _ :: _, h, _ => by simp at h
  | _ :: _, [], h, _ => by simp at h
  | a :: p, b :: q, h, hp => by
    obtain ⟨i1, i2⟩ := mixR_mod p q (by simpa using h) fun x hx => hp x (List.mem_cons_of_mem _ hx)
    have ha := hp a List.mem_cons_self
    have e1 : (a + n * b) % n = a := by rw [Nat.add_mul_mod_self_left]; exact Nat.mod_eq_of_lt ha
    have e2 : (a + n * b) / n = b := by rw [Nat.add_mul_div_left _ _ (by omega), Nat.div_eq_of_lt ha, Nat.zero_add]
    exact ⟨by show (a + n * b) % n :: (mixR n p q).map (· % n) = _; rw [e1, i1], by show (a + n * b) / n :: (mixR n p q).map (· / n) = _; rw [e2, i2]⟩
theorem mixR_sum {n : Nat} : ∀ (p q : List Nat), p.length = q.length → (mixR n p q).sum = p.sum + n * q.sum
  | [], [], _ => rfl
  | [], _ :: _, h => by simp at h
  | _ :: _, [], h => by simp at h
  | a :: p, b :: q, h => by
    have := mixR_sum (n := n) p q (by simpa using h)
    show (a + n * b) + (mixR n p q).sum = (a + p.sum) + n * (b + q.sum)
    rw [this, Nat.mul_add]
    omega
theorem mixR_self {n : Nat} : ∀ (r : List Nat), mixR n (r.map (· % n)) (r.map (· / n)) = r
  | [] => rfl
  | a :: r => by
    show (a % n + n * (a / n)) :: mixR n (r.map (· % n)) (r.map (· / n)) = _
    rw [mixR_self r, Nat.mod_add_div]
def qv (n : Nat) (t : Tx) : List Nat := (rns n t).map (· / n)
theorem qv_len {n : Nat} {t : Tx} : (qv n t).length = (rns n t).length := List.length_map _
/-- the text of these, kin to t -/
def fam (n : Nat) (t : Tx) (q : List Nat) : Tx := tx (t.take n) (stp n t) (mixR n ((rns n t).map (· % n)) q)
def base (n : Nat) (t : Tx) : Nat := n + (stp n t).length + ((rns n t).map (· % n)).sum
section
variable {n : Nat} {t u v : Tx} {q : List Nat}
theorem fam_all (h1 : 1 ≤ n) (ho : Ok t) (hl : ¬ t.length < n) (hq : q.length = (rns n t).length) :
    (fam n t q).take n = t.take n ∧ stp n (fam n t q) = stp n t ∧ rns n (fam n t q) = mixR n ((rns n t).map (· % n)) q ∧ Ok (fam n t q) ∧ (fam n t q).length = base n t + n * q.sum := by
  have hh : (t.take n).length = n := by rw [List.length_take]; omega
  have hp : ((rns n t).map (· % n)).length = q.length := by rw [List.length_map, hq]
  obtain ⟨a, b, c, d, e⟩ := tx_coord (R := mixR n ((rns n t).map (· % n)) q) h1 hh (ho.take n) (stp_lt6 (n := n) (t := t)) stp_ne0 (by rw [mixR_len hp, hq]; exact rns_len hl)
  refine ⟨a, b, c, d, ?_⟩
  show (tx (t.take n) (stp n t) (mixR n ((rns n t).map (· % n)) q)).length = _
  rw [e, mixR_sum _ _ hp]
  unfold base
  omega
theorem fam_kin (h1 : 1 ≤ n) (ho : Ok t) (hl : ¬ t.length < n) (hq : q.length = (rns n t).length) : Kin n t (fam n t q) ∧ qv n (fam n t q) = q := by
  obtain ⟨a, b, c, d, e⟩ := fam_all h1 ho hl hq
  have hp : ((rns n t).map (· % n)).length = q.length := by rw [List.length_map, hq]
  obtain ⟨m1, m2⟩ := mixR_mod ((rns n t).map (· % n)) q hp fun x hx => by
    obtain ⟨y, _, rfl⟩ := List.mem_map.mp hx
    exact Nat.mod_lt _ (by omega)
  refine ⟨.inr ⟨hl, ?_, a.symm, b.symm, ?_⟩, ?_⟩
  · rw [e]; unfold base; omega
  · rw [c, m1]
  · unfold qv; rw [c, m2]
theorem fam_self (h1 : 1 ≤ n) (ho : Ok u) (hl : ¬ t.length < n) (hk : Kin n t u) : u = fam n t (qv n u) := by
  rcases hk with ⟨h, _⟩ | ⟨_, hu, e1, e2, e3⟩
  · exact absurd h hl
  · unfold fam qv
    rw [e1, e2, e3, mixR_self, tx_self h1 ho hu]
theorem fam_same (h1 : 1 ≤ n) (ho : Ok t) (hl : ¬ t.length < n) (hk : Kin n t u) (hq : q.length = (rns n t).length) : fam n u q = fam n t q := by
  rcases hk with ⟨h, _⟩ | ⟨_, hu, e1, e2, e3⟩
  · exact absurd h hl
  · unfold fam
    rw [e1, e2, e3]
/-- a copy -/
def Cop1 (n : Nat) (u t : Tx) : Prop := ∃ k, k + n ≤ u.length ∧ t = cop n u k
theorem cop1_kin (h1 : 1 ≤ n) (h : Cop1 n u t) : Kin n u t := by
  obtain ⟨k, hk, rfl⟩ := h
  obtain ⟨a, b⟩ := cop_coord hk
  refine .inr ⟨by omega, by rw [cop_len hk]; omega, (cop_take hk).symm, a.symm, ?_⟩
  rw [b]
  have : ∀ (R : List Nat) (i : Nat), (bump R i n).map (· % n) = R.map (· % n) := by
    intro R
    induction R with
    | nil => intro i; rfl
    | cons r R ih =>
      intro i
      cases i with
      | zero => show (r + n) % n :: _ = _; rw [Nat.add_mod_right]; rfl
      | succ i => show r % n :: (bump R i n).map (· % n) = _; rw [ih i]; rfl
  rw [this]
theorem fam_inj (h1 : 1 ≤ n) (ho : Ok t) (hl : ¬ t.length < n) {p : List Nat} (hp : p.length = (rns n t).length) (hq : q.length = (rns n t).length) (e : fam n t p = fam n t q) : p = q := by
  rw [← (fam_kin h1 ho hl hp).2, ← (fam_kin h1 ho hl hq).2, e]
theorem fam_cop (h1 : 1 ≤ n) (ho : Ok t) (hl : ¬ t.length < n) (hq : q.length = (rns n t).length) : Cop1 n (fam n t q) v ↔ ∃ i, i < q.length ∧ v = fam n t (bump q i 1) := by
  obtain ⟨a, b, c, d, e⟩ := fam_all h1 ho hl hq
  have hp : ((rns n t).map (· % n)).length = q.length := by rw [List.length_map, hq]
  have hf : ¬ (fam n t q).length < n := by rw [e]; unfold base; omega
  have key : ∀ k, k + n ≤ (fam n t q).length → ∀ i, rns n (cop n (fam n t q) k) = bump (rns n (fam n t q)) i n → cop n (fam n t q) k = fam n t (bump q i 1) := fun k hk i hi => by
    have hc : ¬ (cop n (fam n t q) k).length < n := by rw [cop_len hk]; omega
    rw [← tx_self h1 (cop_ok d) hc, cop_take hk, (cop_coord hk).1, hi, a, b, c]
    unfold fam
    rw [mixR_bump]
  have hrl : (rns n (fam n t q)).length = q.length := by rw [c, mixR_len hp]
  constructor
  · rintro ⟨k, hk, rfl⟩
    exact ⟨_, by rw [← hrl]; exact cop_run hk, key k hk _ (cop_coord hk).2⟩
  · rintro ⟨i, hi, rfl⟩
    obtain ⟨k, hk, e2⟩ := cop_at hf (by rw [hrl]; exact hi)
    exact ⟨k, hk, (key k hk i e2).symm⟩
theorem cop1_ok (h : Cop1 n u t) (ho : Ok t) : Ok u := by
  obtain ⟨k, hk, rfl⟩ := h
  rw [← (cop_isdb hk).2]
  exact und_ok ho
theorem Kin.symm (h : Kin n t u) : Kin n u t := by
  rcases h with ⟨a, rfl⟩ | ⟨a, b, c, d, e⟩
  · exact .inl ⟨a, rfl⟩
  · exact .inr ⟨b, a, c.symm, d.symm, e.symm⟩
theorem Kin.trans (h : Kin n t u) (h2 : Kin n u v) : Kin n t v := by
  rcases h with ⟨a, rfl⟩ | ⟨a, b, c, d, e⟩
  · exact h2
  · rcases h2 with ⟨a2, rfl⟩ | ⟨a2, b2, c2, d2, e2⟩
    · exact absurd a2 b
    · exact .inr ⟨a, b2, c.trans c2, d.trans d2, e.trans e2⟩
theorem Kin.refl (n : Nat) (t : Tx) : Kin n t t := by
  by_cases h : t.length < n
  · exact .inl ⟨h, rfl⟩
  · exact .inr ⟨h, h, rfl, rfl, rfl⟩
theorem fam_und (h1 : 1 ≤ n) (ho : Ok t) (hl : ¬ t.length < n) (hq : q.length = (rns n t).length) : Cop1 n v (fam n t q) ↔ ∃ p i, i < p.length ∧ q = bump p i 1 ∧ v = fam n t p := by
  constructor
  · intro h
    obtain ⟨a, b, c, d, e⟩ := fam_all h1 ho hl hq
    have hov := cop1_ok h d
    have hk : Kin n t v := (fam_kin h1 ho hl hq).1.trans (cop1_kin h1 h).symm
    have hlv : (qv n v).length = (rns n t).length := by rw [qv_len]; exact hk.len.symm
    have hv := fam_self h1 hov hl hk
    rw [hv, fam_cop h1 ho hl hlv] at h
    obtain ⟨i, hi, e⟩ := h
    exact ⟨qv n v, i, hi, fam_inj h1 ho hl hq (by rw [bump_len]; exact hlv) e, hv⟩
  · rintro ⟨p, i, hi, rfl, rfl⟩
    rw [bump_len] at hq
    exact (fam_cop h1 ho hl hq).mpr ⟨i, hi, rfl⟩
end
end K9
namespace K9
/-! Deeds between kin texts; plain Lean. -/
def l1 : List Nat → List Nat → Nat
  | x :: xs, y :: ys => (x - y) + (y - x) + l1 xs ys
  | _, _ => 0
theorem l1_self : ∀ x : List Nat, l1 x x = 0
  | [] => rfl
  | a :: x => by show (a - a) + (a - a) + l1 x x = 0; rw [l1_self x]; omega
theorem l1_comm : ∀ x y : List Nat, l1 x y = l1 y x
  | [], [] => rfl
  | [], _ :: _ => rfl
  | _ :: _, [] => rfl
  | a :: x, b :: y => by show (a - b) + (b - a) + l1 x y = (b - a) + (a - b) + l1 y x; rw [l1_comm x y]; omega
theorem l1_zero : ∀ x y : List Nat, x.length = y.length → l1 x y = 0 → x = y
  | [], [], _, _ => rfl
  | [], _ :: _, h, _ => by simp at h
  | _ :: _, [], h, _ => by simp at h
  | a :: x, b :: y, h, e => by
    have e : (a - b) + (b - a) + l1 x y = 0 := e
    rw [l1_zero x y (by simpa using h) (by omega), show a = b by omega]
theorem l1_bump : ∀ (x y : List Nat) (i : Nat), x.length = y.length → i < y.length → l1 x (bump y i 1) = l1 x y + 1 ∨ l1 x (bump y i 1) + 1 = l1 x y
  | [], [], _, _, h => by simp at h
  | [], _ :: _, _, h, _ => by simp at h
  | _ :: _, [], _, h, _ => by simp at h
  | a :: x, b :: y, 0, _, _ => by
    show (a - (b + 1)) + (b + 1 - a) + l1 x y = (a - b) + (b - a) + l1 x y + 1 ∨ (a - (b + 1)) + (b + 1 - a) + l1 x y + 1 = (a - b) + (b - a) + l1 x y
    omega
  | a :: x, b :: y, i + 1, h, hi => by
    have := l1_bump x y i (by simpa using h) (by simpa using hi)
    show (a - b) + (b - a) + l1 x (bump y i 1) = (a - b) + (b - a) + l1 x y + 1 ∨ (a - b) + (b - a) + l1 x (bump y i 1) + 1 = (a - b) + (b - a) + l1 x y
    omega
theorem bump_sum : ∀ (y : List Nat) (i : Nat), i < y.length → (bump y i 1).sum = y.sum + 1
  | [], _, h => by simp at h
  | b :: y, 0, _ => by show b + 1 + y.sum = b + y.sum + 1; omega
  | b :: y, i + 1, h => by
    have := bump_sum y i (by simpa using h)
    show b + (bump y i 1).sum = b + y.sum + 1
    omega
theorem l1_ge : ∀ (x v : List Nat), x.length = v.length → x.sum ≤ v.sum + l1 x v
  | [], [], _ => Nat.le_refl _
  | [], _ :: _, h => by simp at h
  | _ :: _, [], h => by simp at h
  | a :: x, b :: v, h => by
    have := l1_ge x v (by simpa using h)
    show a + x.sum ≤ b + v.sum + ((a - b) + (b - a) + l1 x v)
    omega
theorem l1_down : ∀ (x v : List Nat), x.length = v.length → (∃ p i, i < p.length ∧ v = bump p i 1 ∧ l1 x p + 1 = l1 x v) ∨ x.sum = v.sum + l1 x v
  | [], [], _ => .inr rfl
  | [], _ :: _, h => by simp at h
  | _ :: _, [], h => by simp at h
  | a :: x, b :: v, h => by
    by_cases hab : a < b
    · refine .inl ⟨(b - 1) :: v, 0, by simp, ?_, ?_⟩
      · show b :: v = (b - 1 + 1) :: v
        rw [Nat.sub_add_cancel (by omega)]
      · show (a - (b - 1)) + (b - 1 - a) + l1 x v + 1 = (a - b) + (b - a) + l1 x v
        omega
    · rcases l1_down x v (by simpa using h) with ⟨p, i, hi, rfl, e⟩ | e
      · refine .inl ⟨b :: p, i + 1, by simpa using hi, rfl, ?_⟩
        show (a - b) + (b - a) + l1 x p + 1 = (a - b) + (b - a) + l1 x (bump p i 1)
        omega
      · refine .inr ?_
        show a + x.sum = b + v.sum + ((a - b) + (b - a) + l1 x v)
        omega
theorem l1_up : ∀ (x v : List Nat), x.length = v.length → x.sum = v.sum + l1 x v → l1 x v ≠ 0 → ∃ i, i < v.length ∧ l1 x (bump v i 1) + 1 = l1 x v
  | [], [], _, _, h => absurd rfl h
  | [], _ :: _, h, _, _ => by simp at h
  | _ :: _, [], h, _, _ => by simp at h
  | a :: x, b :: v, h, hs, h0 => by
    have hs : a + x.sum = b + v.sum + ((a - b) + (b - a) + l1 x v) := hs
    have h0 : (a - b) + (b - a) + l1 x v ≠ 0 := h0
    have hl : x.length = v.length := by simpa using h
    have hge := l1_ge x v hl
    by_cases hab : b < a
    · refine ⟨0, by simp, ?_⟩
      show (a - (b + 1)) + (b + 1 - a) + l1 x v + 1 = (a - b) + (b - a) + l1 x v
      omega
    · obtain ⟨i, hi, e⟩ := l1_up x v hl (by omega) (by omega)
      refine ⟨i + 1, by simpa using hi, ?_⟩
      show (a - b) + (b - a) + l1 x (bump v i 1) + 1 = (a - b) + (b - a) + l1 x v
      omega
/-- the fewest deeds between kin texts -/
def dd (n : Nat) (t v : Tx) : Nat := l1 (qv n t) (qv n v)
/-- one deed, not longer than told -/
def Near (n m : Nat) (u v : Tx) : Prop := (Cop1 n u v ∧ v.length ≤ m) ∨ Cop1 n v u
section
variable {n m : Nat} {t u v : Tx}
theorem kin_qlen (h : Kin n t u) : (qv n t).length = (qv n u).length := by rw [qv_len, qv_len]; exact h.len
theorem cop1_ok2 (h : Cop1 n u t) (ho : Ok u) : Ok t := by
  obtain ⟨k, hk, rfl⟩ := h
  exact cop_ok ho
theorem cop1_len (h : Cop1 n u t) : t.length = u.length + n ∧ ¬ u.length < n := by
  obtain ⟨k, hk, rfl⟩ := h
  exact ⟨cop_len hk, by omega⟩
/-- a copy in vectors -/
theorem cop1_qv (h1 : 1 ≤ n) (ho : Ok u) (h : Cop1 n u v) : ∃ i, i < (qv n u).length ∧ qv n v = bump (qv n u) i 1 := by
  have hl := (cop1_len h).2
  have hs := fam_self h1 ho hl (Kin.refl n u)
  rw [hs] at h
  obtain ⟨i, hi, e⟩ := (fam_cop h1 ho hl qv_len).mp h
  refine ⟨i, hi, ?_⟩
  rw [e, (fam_kin h1 ho hl (by rw [bump_len]; exact qv_len)).2]
theorem near_step (h1 : 1 ≤ n) (hk : Kin n t u) (ho : Ok u) (hz : u.length ≤ m) (h : Near n m u v) : Kin n t v ∧ Ok v ∧ v.length ≤ m ∧ dd n t v ≤ dd n t u + 1 := by
  unfold dd
  rcases h with ⟨hc, hm⟩ | hc
  · obtain ⟨i, hi, e⟩ := cop1_qv h1 ho hc
    refine ⟨hk.trans (cop1_kin h1 hc), cop1_ok2 hc ho, hm, ?_⟩
    rw [e]
    have := l1_bump (qv n t) (qv n u) i (kin_qlen hk) hi
    omega
  · have hov := cop1_ok hc ho
    obtain ⟨i, hi, e⟩ := cop1_qv h1 hov hc
    have hkv := hk.trans (cop1_kin h1 hc).symm
    refine ⟨hkv, hov, by have := (cop1_len hc).1; omega, ?_⟩
    rw [e]
    have := l1_bump (qv n t) (qv n v) i (kin_qlen hkv) hi
    omega
theorem near_back (h1 : 1 ≤ n) (ht : Ok t) (hzt : t.length ≤ m) (hk : Kin n t v) (ho : Ok v) (hz : v.length ≤ m) {k : Nat} (hd : dd n t v = k + 1) :
    ∃ u, Kin n t u ∧ Ok u ∧ u.length ≤ m ∧ dd n t u = k ∧ Near n m u v := by
  by_cases hl : t.length < n
  · rcases hk with ⟨_, rfl⟩ | ⟨h, _⟩
    · unfold dd at hd; rw [l1_self] at hd; omega
    · exact absurd hl h
  · have hv := fam_self h1 ho hl hk
    have hvl : (qv n v).length = (rns n t).length := by rw [← kin_qlen hk, qv_len]
    have hlen := (fam_all h1 ht hl hvl).2.2.2.2
    have htl : t.length = base n t + n * (qv n t).sum := by
      have := (fam_all h1 ht hl (q := qv n t) qv_len).2.2.2.2
      rwa [← fam_self h1 ht hl (Kin.refl n t)] at this
    rw [← hv] at hlen
    unfold dd at hd
    rcases l1_down (qv n t) (qv n v) (kin_qlen hk) with ⟨p, i, hi, e, e2⟩ | e
    · have hpl : p.length = (rns n t).length := by rw [e, bump_len] at hvl; exact hvl
      obtain ⟨fk, fq⟩ := fam_kin h1 ht hl hpl
      have fl := (fam_all h1 ht hl hpl).2.2.2.2
      have hs := bump_sum p i hi
      rw [← e] at hs
      have hle : n * p.sum ≤ n * (qv n v).sum := Nat.mul_le_mul (Nat.le_refl _) (by omega)
      refine ⟨fam n t p, fk, (fam_all h1 ht hl hpl).2.2.2.1, by omega, ?_, .inl ⟨?_, hz⟩⟩
      · unfold dd; rw [fq]; omega
      · rw [hv, e]
        exact (fam_cop h1 ht hl hpl).mpr ⟨i, hi, rfl⟩
    · obtain ⟨i, hi, e2⟩ := l1_up (qv n t) (qv n v) (kin_qlen hk) e (by omega)
      have hpl : (bump (qv n v) i 1).length = (rns n t).length := by rw [bump_len]; exact hvl
      obtain ⟨fk, fq⟩ := fam_kin h1 ht hl hpl
      have fl := (fam_all h1 ht hl hpl).2.2.2.2
      rw [bump_sum _ _ hi] at fl
      have hle : n * ((qv n v).sum + 1) ≤ n * (qv n t).sum := Nat.mul_le_mul (Nat.le_refl _) (by omega)
      refine ⟨fam n t (bump (qv n v) i 1), fk, (fam_all h1 ht hl hpl).2.2.2.1, by omega, ?_, .inr ?_⟩
      · unfold dd; rw [fq]; omega
      · rw [fam_und h1 ht hl hpl]
        exact ⟨qv n v, i, hi, rfl, hv⟩
theorem dd_self : dd n t t = 0 := l1_self _
theorem dd_comm : dd n t u = dd n u t := l1_comm _ _
theorem dd_zero (h1 : 1 ≤ n) (ht : Ok t) (ho : Ok v) (hk : Kin n t v) (h : dd n t v = 0) : v = t := by
  by_cases hl : t.length < n
  · rcases hk with ⟨_, rfl⟩ | ⟨h, _⟩
    · rfl
    · exact absurd hl h
  · rw [fam_self h1 ho hl hk, ← l1_zero _ _ (kin_qlen hk) h, ← fam_self h1 ht hl (Kin.refl n t)]
end
/-! ### counting -/
theorem nodup_le {α : Type} [DecidableEq α] : ∀ (l m : List α), l.Nodup → (∀ x ∈ l, x ∈ m) → l.length ≤ m.length
  | [], m, _, _ => Nat.zero_le _
  | a :: l, m, h, hm => by
    obtain ⟨h1, h2⟩ := List.nodup_cons.mp h
    have ha := hm a List.mem_cons_self
    have := nodup_le l (m.erase a) h2 fun x hx => (List.mem_erase_of_ne (show x ≠ a from fun e => h1 (by rw [← e]; exact hx))).mpr (hm x (List.mem_cons_of_mem _ hx))
    rw [List.length_erase_of_mem ha] at this
    have hpos : 0 < m.length := List.length_pos_of_mem ha
    rw [List.length_cons]
    omega
def masks : Nat → List (List Bool)
  | 0 => [[]]
  | k + 1 => [] :: ((masks k).map (true :: ·) ++ (masks k).map (false :: ·))
theorem masks_len : ∀ k, (masks k).length + 1 = 2 ^ (k + 1)
  | 0 => rfl
  | k + 1 => by
    show ([] :: ((masks k).map (true :: ·) ++ (masks k).map (false :: ·))).length + 1 = _
    have := masks_len k
    rw [List.length_cons, List.length_append, List.length_map, List.length_map, Nat.pow_succ]
    omega
theorem mem_masks : ∀ (k : Nat) (l : List Bool), l.length ≤ k → l ∈ masks k
  | 0, [], _ => List.mem_singleton.mpr rfl
  | 0, _ :: _, h => by simp at h
  | k + 1, [], _ => List.mem_cons_self
  | k + 1, b :: l, h => by
    have := mem_masks k l (by simpa using h)
    show b :: l ∈ [] :: ((masks k).map (true :: ·) ++ (masks k).map (false :: ·))
    refine List.mem_cons_of_mem _ (List.mem_append.mpr ?_)
    cases b with
    | true => exact .inl (List.mem_map.mpr ⟨l, this, rfl⟩)
    | false => exact .inr (List.mem_map.mpr ⟨l, this, rfl⟩)
def maskG (g : List Nat) : List Bool := g.map (fun x => x != 0)
theorem mask_inj : ∀ g h : List Nat, sg g = sg h → maskG g = maskG h → g = h
  | [], [], _, _ => rfl
  | [], _ :: _, _, h => by simp [maskG] at h
  | _ :: _, [], _, h => by simp [maskG] at h
  | a :: g, b :: h, hs, hm => by
    have hm' : (a != 0) :: maskG g = (b != 0) :: maskG h := hm
    obtain ⟨h0, h2⟩ := List.cons.inj hm'
    have hs' : (a :: g).filter (fun x => x != 0) = (b :: h).filter (fun x => x != 0) := hs
    rw [List.filter_cons, List.filter_cons] at hs'
    cases ha : (a != 0) with
    | true =>
      rw [← h0, ha, if_pos rfl, if_pos rfl] at hs'
      obtain ⟨e, e2⟩ := List.cons.inj hs'
      rw [e, mask_inj g h e2 h2]
    | false =>
      rw [← h0, ha, if_neg (by decide), if_neg (by decide)] at hs'
      have hb : (b != 0) = false := by rw [← h0, ha]
      rw [mask_inj g h hs' h2]
      simp at ha hb
      rw [ha, hb]
theorem nodup_map_inj {α β : Type} {f : α → β} : ∀ l : List α, (∀ x ∈ l, ∀ y ∈ l, f x = f y → x = y) → l.Nodup → (l.map f).Nodup
  | [], _, _ => List.nodup_nil
  | a :: l, hf, h => by
    obtain ⟨h1, h2⟩ := List.nodup_cons.mp h
    rw [List.map_cons]
    refine List.nodup_cons.mpr ⟨fun z => ?_, nodup_map_inj l (fun x hx y hy => hf x (List.mem_cons_of_mem _ hx) y (List.mem_cons_of_mem _ hy)) h2⟩
    obtain ⟨b, hb, e⟩ := List.mem_map.mp z
    exact h1 (hf a List.mem_cons_self b (List.mem_cons_of_mem _ hb) e.symm ▸ hb)
/-- kin texts that are not long are few -/
theorem kin_few {n m : Nat} {t : Tx} (h1 : 1 ≤ n) (us : List Tx) (hn : us.Nodup) (h : ∀ u ∈ us, Kin n t u ∧ Ok u ∧ u.length ≤ m + 1) : us.length ≤ 2 ^ (m + 1) := by
  by_cases hl : t.length < n
  · have : us.length ≤ [t].length := nodup_le us [t] hn fun u hu => by
      rcases (h u hu).1 with ⟨_, rfl⟩ | ⟨h, _⟩
      · exact List.mem_singleton.mpr rfl
      · exact absurd hl h
    exact Nat.le_trans this Nat.one_le_two_pow
  · have hN : (us.map fun u => maskG (gaps n u)).Nodup := nodup_map_inj us (fun x hx y hy e => by
      obtain ⟨kx, ox, zx⟩ := h x hx
      obtain ⟨ky, oy, zy⟩ := h y hy
      rcases kx with ⟨z, _⟩ | ⟨_, lx, ax, bx, _⟩
      · exact absurd z hl
      rcases ky with ⟨z, _⟩ | ⟨_, ly, ay, by_, _⟩
      · exact absurd z hl
      exact coord_inj h1 ox oy (by omega) (by omega) (ax.symm.trans ay) (mask_inj _ _ (bx.symm.trans by_) e)) hn
    have hle := nodup_le _ (masks m) hN fun x hx => by
      obtain ⟨u, hu, rfl⟩ := List.mem_map.mp hx
      refine mem_masks m _ ?_
      have := (h u hu).2.2
      unfold maskG
      rw [List.length_map, gaps_len]
      omega
    rw [List.length_map] at hle
    have := masks_len m
    omega
end K9
namespace K9
/-! The package's answers between kin texts; plain Lean. -/
theorem und_cop1 {n : Nat} {t : Tx} {k : Nat} (h : isdb n t k = true) : Cop1 n (und n t k) t := by
  obtain ⟨a, b, c⟩ := und_cop h
  exact ⟨k, a, c.symm⟩
theorem cop1_und {n : Nat} {u t : Tx} (h : Cop1 n u t) : ∃ k, isdb n t k = true ∧ und n t k = u := by
  obtain ⟨k, hk, rfl⟩ := h
  exact ⟨k, cop_isdb hk⟩
/-- no doubling stands: the root -/
theorem root_of_nil {n : Nat} (h1 : 1 ≤ n) {t : Tx} (ho : Ok t) (h : dbls n t = []) : rootM n t = t := by
  have hno : ∀ v, ¬ Cop1 n v t := fun v hv => by
    obtain ⟨k, hk, _⟩ := cop1_und hv
    have := mem_dbls.mpr hk
    rw [h] at this
    cases this
  by_cases hl : t.length < n
  · unfold rootM; rw [if_pos hl]
  · have hs := fam_self h1 ho hl (Kin.refl n t)
    have hz : ∀ q : List Nat, q ≠ List.replicate q.length 0 → ∃ p i, i < p.length ∧ q = bump p i 1 := by
      intro q
      induction q with
      | nil => intro h; exact absurd rfl h
      | cons a q ih =>
        intro h
        by_cases ha : a = 0
        · subst ha
          obtain ⟨p, i, hi, rfl⟩ := ih fun e => h (by
            show 0 :: q = 0 :: List.replicate q.length 0
            rw [← e])
          exact ⟨0 :: p, i + 1, by simpa using hi, rfl⟩
        · refine ⟨(a - 1) :: q, 0, by simp, ?_⟩
          show a :: q = (a - 1 + 1) :: q
          rw [Nat.sub_add_cancel (by omega)]
    by_cases hq : qv n t = List.replicate (qv n t).length 0
    · have e : (rns n t).map (· % n) = rns n t := by
        have hd : ∀ (r : List Nat), r.map (· / n) = List.replicate r.length 0 → r.map (· % n) = r := by
          intro r
          induction r with
          | nil => intro _; rfl
          | cons a r ih =>
            intro h
            have h : (a / n) :: r.map (· / n) = 0 :: List.replicate r.length 0 := h
            obtain ⟨e1, e2⟩ := List.cons.inj h
            have := Nat.mod_add_div a n
            rw [e1, Nat.mul_zero, Nat.add_zero] at this
            rw [List.map_cons, this, ih e2]
        refine hd _ ?_
        have : (qv n t).length = (rns n t).length := qv_len
        rw [← this]
        exact hq
      unfold rootM
      rw [if_neg hl, e, tx_self h1 ho hl]
    · obtain ⟨p, i, hi, e⟩ := hz _ hq
      have hv := (fam_und h1 ho hl (q := qv n t) (v := fam n t p) qv_len).mpr ⟨p, i, hi, e, rfl⟩
      rw [← hs] at hv
      exact absurd hv (hno _)
theorem bare_root {n : Nat} (h1 : 1 ≤ n) : ∀ (k : Nat) (t : Tx), t.length ≤ k → Ok t → bareM n t = rootM n t
  | k, t, hz, ho => by
    cases hd : dbls n t with
    | nil => rw [bare_nil hd, root_of_nil h1 ho hd]
    | cons p r =>
      have hp : isdb n t p = true := mem_dbls.mp (by rw [hd]; exact List.mem_cons_self)
      have hl := und_len hp
      cases k with
      | zero => omega
      | succ k =>
        rw [bare_cons h1 hd, bare_root h1 k _ (by omega) (und_ok ho)]
        exact (kin_iff h1 (und_ok ho) ho).mpr (cop1_kin h1 (und_cop1 hp))
/-- each at most the other -/
def cle : List Nat → List Nat → Prop
  | x :: xs, y :: ys => x ≤ y ∧ cle xs ys
  | [], [] => True
  | _, _ => False
theorem cle_len : ∀ {x y : List Nat}, cle x y → x.length = y.length
  | [], [], _ => rfl
  | _ :: x, _ :: y, h => by rw [List.length_cons, List.length_cons, cle_len h.2]
theorem cle_refl : ∀ x : List Nat, cle x x
  | [] => trivial
  | a :: x => ⟨Nat.le_refl a, cle_refl x⟩
theorem cle_trans : ∀ {x y z : List Nat}, cle x y → cle y z → cle x z
  | [], [], [], _, _ => trivial
  | a :: x, b :: y, c :: z, h, h2 => ⟨Nat.le_trans h.1 h2.1, cle_trans h.2 h2.2⟩
theorem cle_antisymm : ∀ {x y : List Nat}, cle x y → cle y x → x = y
  | [], [], _, _ => rfl
  | a :: x, b :: y, h, h2 => by rw [Nat.le_antisymm h.1 h2.1, cle_antisymm h.2 h2.2]
theorem cle_bump : ∀ (x : List Nat) (i : Nat), cle x (bump x i 1)
  | [], _ => trivial
  | a :: x, 0 => ⟨Nat.le_succ a, cle_refl x⟩
  | a :: x, i + 1 => ⟨Nat.le_refl a, cle_bump x i⟩
theorem cle_sum : ∀ {x y : List Nat}, cle x y → x.sum ≤ y.sum
  | [], [], _ => Nat.le_refl _
  | a :: x, b :: y, h => by
    have := cle_sum h.2
    have := h.1
    show a + x.sum ≤ b + y.sum
    omega
/-- one more, below -/
theorem cle_step : ∀ {x y : List Nat}, cle x y → x ≠ y → ∃ p i, i < p.length ∧ y = bump p i 1 ∧ cle x p
  | [], [], _, h => absurd rfl h
  | a :: x, b :: y, h, hne => by
    by_cases hab : a = b
    · subst hab
      obtain ⟨p, i, hi, e, hc⟩ := cle_step h.2 fun e => hne (by rw [e])
      exact ⟨a :: p, i + 1, by simpa using hi, by rw [e]; rfl, Nat.le_refl a, hc⟩
    · have := h.1
      refine ⟨(b - 1) :: y, 0, by simp, ?_, by omega, h.2⟩
      show b :: y = (b - 1 + 1) :: y
      rw [Nat.sub_add_cancel (by omega)]
/-- what comes of what -/
def Comes (n : Nat) (l e : Tx) : Prop := Kin n e l ∧ cle (qv n e) (qv n l)
theorem grow_ok {n : Nat} (h1 : 1 ≤ n) : ∀ (a b : List Nat), a.length = b.length → (((List.zipWith (fun (a b : Nat) => (a : Int) - (b : Int)) a b).all fun m => !shortB n m) = true ↔ b.map (· % n) = a.map (· % n) ∧ cle (b.map (· / n)) (a.map (· / n)))
  | [], [], _ => by simp [cle]
  | [], _ :: _, h => by simp at h
  | _ :: _, [], h => by simp at h
  | x :: a, y :: b, h => by
    have ih := grow_ok h1 a b (by simpa using h)
    rw [List.zipWith_cons_cons, List.all_cons, Bool.and_eq_true, ih, List.map_cons, List.map_cons, List.map_cons, List.map_cons]
    have key : (!shortB n ((x : Int) - (y : Int))) = true ↔ y % n = x % n ∧ y / n ≤ x / n := by
      unfold shortB
      rw [Bool.not_eq_true', Bool.or_eq_false_iff, decide_eq_false_iff_not, Bool.not_eq_false', decide_eq_true_iff]
      have ex : ((x % n : Nat) : Int) = (x : Int) % (n : Int) := Int.natCast_emod x n
      have ey : ((y % n : Nat) : Int) = (y : Int) % (n : Int) := Int.natCast_emod y n
      constructor
      · rintro ⟨h0, hm⟩
        have hxy : y ≤ x := by omega
        have := Int.emod_emod_of_dvd
        have hh : (x : Int) % n = (y : Int) % n := Int.emod_eq_emod_iff_emod_sub_eq_zero.mpr hm
        exact ⟨by omega, Nat.div_le_div_right hxy⟩
      · rintro ⟨hm, hd⟩
        have hx := Nat.mod_add_div x n
        have hy := Nat.mod_add_div y n
        have hmul : n * (y / n) ≤ n * (x / n) := Nat.mul_le_mul (Nat.le_refl n) hd
        exact ⟨by omega, Int.emod_eq_emod_iff_emod_sub_eq_zero.mp (by omega)⟩
    rw [key, List.cons.injEq]
    constructor
    · rintro ⟨⟨a1, a2⟩, a3, a4⟩; exact ⟨⟨a1, a3⟩, a2, a4⟩
    · rintro ⟨⟨a1, a3⟩, a2, a4⟩; exact ⟨⟨a1, a2⟩, a3, a4⟩
theorem does_iff {n : Nat} (h1 : 1 ≤ n) {l e : Tx} : doesM n l e = true ↔ Comes n l e := by
  unfold doesM ulB Comes
  rw [Bool.and_eq_true, Bool.and_eq_true, Bool.and_eq_true, decide_eq_true_iff, decide_eq_true_iff, Bool.not_eq_true', Bool.and_eq_false_iff, decide_eq_false_iff_not, Bool.not_eq_false', decide_eq_true_iff]
  by_cases he : l = e
  · subst he
    constructor
    · intro _; exact ⟨Kin.refl n l, cle_refl _⟩
    · intro _
      refine ⟨⟨⟨rfl, .inr rfl⟩, rfl⟩, ?_⟩
      exact (grow_ok h1 (rns n l) (rns n l) rfl).mpr ⟨rfl, cle_refl _⟩
  · by_cases hs : min l.length e.length < n
    · constructor
      · rintro ⟨⟨⟨_, h⟩, _⟩, _⟩
        rcases h with h | h
        · exact absurd hs h
        · exact absurd h he
      · rintro ⟨hk, _⟩
        rcases hk with ⟨_, h⟩ | ⟨a, b, _⟩
        · exact absurd h.symm he
        · omega
    · have hl : ¬ l.length < n := by omega
      have hle : ¬ e.length < n := by omega
      constructor
      · rintro ⟨⟨⟨a, _⟩, b⟩, c⟩
        have hlen : (rns n l).length = (rns n e).length := by rw [rns_len hl, rns_len hle, b]
        obtain ⟨c1, c2⟩ := (grow_ok h1 _ _ hlen).mp c
        exact ⟨.inr ⟨hle, hl, a.symm, b.symm, c1⟩, c2⟩
      · rintro ⟨hk, hc⟩
        rcases hk with ⟨z, _⟩ | ⟨_, _, a, b, c⟩
        · exact absurd z hle
        · have hlen : (rns n l).length = (rns n e).length := by rw [rns_len hl, rns_len hle, b]
          exact ⟨⟨⟨a.symm, .inl hs⟩, b.symm⟩, (grow_ok h1 _ _ hlen).mpr ⟨c, hc⟩⟩
end K9
namespace K9
/-! The texts between two; plain Lean. -/
theorem nodup_fm {α β : Type} (f : α → List β) : ∀ (l : List α), l.Nodup → (∀ a ∈ l, (f a).Nodup) → (∀ a ∈ l, ∀ b ∈ l, ∀ x, x ∈ f a → x ∈ f b → a = b) → (l.flatMap f).Nodup
  | [], _, _, _ => List.nodup_nil
  | a :: l, h, hf, hd => by
    obtain ⟨h1, h2⟩ := List.nodup_cons.mp h
    rw [List.flatMap_cons]
    refine List.nodup_append.mpr ⟨hf a List.mem_cons_self, nodup_fm f l h2 (fun b hb => hf b (List.mem_cons_of_mem _ hb)) (fun b hb c hc => hd b (List.mem_cons_of_mem _ hb) c (List.mem_cons_of_mem _ hc)), ?_⟩
    intro x hx y hy e
    subst e
    obtain ⟨b, hb, hxb⟩ := List.mem_flatMap.mp hy
    exact h1 (hd a List.mem_cons_self b (List.mem_cons_of_mem _ hb) x hx hxb ▸ hb)
theorem rowsGo_nodup {n : Nat} (h1 : 1 ≤ n) : ∀ (zs : List (Nat × Int)) (rows : List (List Nat)), rows.Nodup → (rowsGo n zs rows).Nodup
  | [], rows, h => h
  | (r, m) :: zs, rows, h => by
    refine rowsGo_nodup h1 zs _ (nodup_fm _ rows h (fun row _ => nodup_map_inj _ (fun x _ y _ e => ?_) List.nodup_range) fun a _ b _ x hx hy => ?_)
    · have := List.append_inj_right' e rfl
      have := (List.cons.inj this).1
      have : n * x = n * y := by omega
      exact Nat.eq_of_mul_eq_mul_left (by omega) this
    · obtain ⟨e, _, rfl⟩ := List.mem_map.mp hx
      obtain ⟨e2, _, h2⟩ := List.mem_map.mp hy
      exact (List.append_inj_left' h2 rfl).symm
theorem fits_iff {n : Nat} (h1 : 1 ≤ n) : ∀ (a b row : List Nat), a.length = b.length → a.map (· % n) = b.map (· % n) → cle (a.map (· / n)) (b.map (· / n)) →
    (Fits n (a.zip (List.zipWith (fun (a b : Nat) => (a : Int) - (b : Int)) b a)) row ↔ row.map (· % n) = a.map (· % n) ∧ cle (a.map (· / n)) (row.map (· / n)) ∧ cle (row.map (· / n)) (b.map (· / n)))
  | [], [], [], _, _, _ => by simp [Fits, cle]
  | [], [], x :: row, _, _, _ => by simp [Fits]
  | [], _ :: _, _, h, _, _ => by simp at h
  | _ :: _, [], _, h, _, _ => by simp at h
  | x :: a, y :: b, [], _, _, _ => by simp [Fits]
  | x :: a, y :: b, z :: row, h, hm, hc => by
    have hm : (x % n) :: a.map (· % n) = (y % n) :: b.map (· % n) := hm
    obtain ⟨m1, m2⟩ := List.cons.inj hm
    have hc : x / n ≤ y / n ∧ cle (a.map (· / n)) (b.map (· / n)) := hc
    have ih := fits_iff h1 a b row (by simpa using h) m2 hc.2
    show (∃ e, e < (((y : Int) - (x : Int)) / (n : Int) + 1).toNat ∧ z = x + n * e) ∧ Fits n (a.zip (List.zipWith (fun (a b : Nat) => (a : Int) - (b : Int)) b a)) row ↔ (z % n) :: row.map (· % n) = (x % n) :: a.map (· % n) ∧ (x / n ≤ z / n ∧ cle (a.map (· / n)) (row.map (· / n))) ∧ (z / n ≤ y / n ∧ cle (row.map (· / n)) (b.map (· / n)))
    rw [ih, List.cons.injEq]
    have hx := Nat.mod_add_div x n
    have hy := Nat.mod_add_div y n
    have hz := Nat.mod_add_div z n
    have hd : ((y : Int) - (x : Int)) / (n : Int) = ((y / n : Nat) : Int) - ((x / n : Nat) : Int) := by
      have e : (y : Int) - (x : Int) = (n : Int) * (((y / n : Nat) : Int) - ((x / n : Nat) : Int)) := by
        rw [Int.mul_sub]
        have e1 : (y : Int) = ((y % n : Nat) : Int) + (n : Int) * ((y / n : Nat) : Int) := by rw [← Int.natCast_mul, ← Int.natCast_add, hy]
        have e2 : (x : Int) = ((x % n : Nat) : Int) + (n : Int) * ((x / n : Nat) : Int) := by rw [← Int.natCast_mul, ← Int.natCast_add, hx]
        rw [m1] at e2
        omega
      rw [e]
      exact Int.mul_ediv_cancel_left _ (by omega)
    have key : (∃ e, e < (((y : Int) - (x : Int)) / (n : Int) + 1).toNat ∧ z = x + n * e) ↔ z % n = x % n ∧ x / n ≤ z / n ∧ z / n ≤ y / n := by
      rw [hd]
      constructor
      · rintro ⟨e, he, rfl⟩
        have q1 : (x + n * e) % n = x % n := Nat.add_mul_mod_self_left _ _ _
        have q2 : (x + n * e) / n = x / n + e := Nat.add_mul_div_left _ _ (by omega)
        have := hc.1
        rw [q1, q2]
        refine ⟨rfl, by omega, by omega⟩
      · rintro ⟨q1, q2, q3⟩
        refine ⟨z / n - x / n, by omega, ?_⟩
        rw [Nat.mul_sub]
        have := Nat.mul_le_mul (Nat.le_refl n) q2
        omega
    rw [key]
    constructor
    · rintro ⟨⟨a1, a2, a3⟩, b1, b2, b3⟩; exact ⟨⟨a1, b1⟩, ⟨a2, b2⟩, a3, b3⟩
    · rintro ⟨⟨a1, b1⟩, ⟨a2, b2⟩, a3, b3⟩; exact ⟨⟨a1, a2, a3⟩, b1, b2, b3⟩
/-- the texts between, unsorted -/
def btL (n : Nat) (l u : Tx) : List Tx := if u.length < n then [u] else (rowsM n l u).map fun row => tx (u.take n) (stp n u) row
theorem bt_mem {n : Nat} (h1 : 1 ≤ n) {l u x : Tx} (hl : Ok l) (hu : Ok u) (hd : doesM n l u = true) : x ∈ btL n l u ↔ Ok x ∧ Comes n l x ∧ Comes n x u := by
  have hc := (does_iff h1).mp hd
  obtain ⟨hk, hq⟩ := hc
  unfold btL
  by_cases hs : u.length < n
  · rw [if_pos hs, List.mem_singleton]
    have hul : u = l := by
      rcases hk with ⟨_, e⟩ | ⟨a, _⟩
      · exact e
      · exact absurd hs a
    subst hul
    constructor
    · rintro rfl
      exact ⟨hu, ⟨Kin.refl n x, cle_refl _⟩, ⟨Kin.refl n x, cle_refl _⟩⟩
    · rintro ⟨_, ⟨_, _⟩, hk2, _⟩
      rcases hk2 with ⟨_, e⟩ | ⟨a, _⟩
      · exact e.symm
      · exact absurd hs a
  · rw [if_neg hs, List.mem_map]
    have hlen := hk.len
    obtain ⟨ha, hb, e1, e2, e3⟩ : ¬ u.length < n ∧ ¬ l.length < n ∧ u.take n = l.take n ∧ stp n u = stp n l ∧ (rns n u).map (· % n) = (rns n l).map (· % n) := by
      rcases hk with ⟨a, _⟩ | h
      · exact absurd a hs
      · exact h
    have hh : (u.take n).length = n := by rw [List.length_take]; omega
    have hf := fun row => fits_iff h1 (rns n u) (rns n l) row hlen e3 hq
    constructor
    · rintro ⟨row, hr, rfl⟩
      obtain ⟨r1, r2, r3⟩ := (hf row).mp (mem_rowsM.mp hr)
      have hrl : row.length = (stp n u).length + 1 := by
        have := congrArg List.length r1
        rw [List.length_map, List.length_map] at this
        rw [this, rns_len hs]
      obtain ⟨a, b, c, d, f⟩ := tx_coord (R := row) h1 hh (hu.take n) (stp_lt6 (n := n) (t := u)) stp_ne0 hrl
      have hx : ¬ (tx (u.take n) (stp n u) row).length < n := by omega
      refine ⟨d, ⟨.inr ⟨hx, hb, by rw [a, e1], by rw [b, e2], by rw [c, r1, e3]⟩, ?_⟩, ⟨.inr ⟨ha, hx, a.symm, b.symm, by rw [c, r1]⟩, ?_⟩⟩
      · unfold qv; rw [c]; exact r3
      · unfold qv; rw [c]; exact r2
    · rintro ⟨hox, ⟨kx, qx⟩, ⟨ky, qy⟩⟩
      rcases ky with ⟨a, _⟩ | ⟨_, hx, f1, f2, f3⟩
      · exact absurd a hs
      · refine ⟨rns n x, mem_rowsM.mpr ((hf _).mpr ⟨f3.symm, qy, qx⟩), ?_⟩
        rw [f1, f2]
        exact tx_self h1 hox hx
theorem bt_nodup {n : Nat} (h1 : 1 ≤ n) {l u : Tx} (hu : Ok u) (hd : doesM n l u = true) : (btL n l u).Nodup := by
  unfold btL
  by_cases hs : u.length < n
  · rw [if_pos hs]; exact List.nodup_cons.mpr ⟨by simp, List.nodup_nil⟩
  · rw [if_neg hs]
    have hh : (u.take n).length = n := by rw [List.length_take]; omega
    refine nodup_map_inj _ (fun x hx y hy e => ?_) (rowsGo_nodup h1 _ _ (List.nodup_cons.mpr ⟨by simp, List.nodup_nil⟩))
    have hlx := (row_ok hd hx).1
    have hly := (row_ok hd hy).1
    rw [rns_len hs] at hlx hly
    have ex := (tx_coord (R := x) h1 hh (hu.take n) (stp_lt6 (n := n) (t := u)) stp_ne0 hlx).2.2.1
    have ey := (tx_coord (R := y) h1 hh (hu.take n) (stp_lt6 (n := n) (t := u)) stp_ne0 hly).2.2.1
    rw [← ex, ← ey, e]
/-- closing up from the elder text gives all between -/
theorem bt_reach {n : Nat} (h1 : 1 ≤ n) {l u : Tx} (hu : Ok u) (S : Tx → Prop) (h0 : Comes n l u → S u) (hs : ∀ y z, S y → Cop1 n y z → z.length ≤ l.length → Comes n l z → S z) :
    ∀ (k : Nat) (x : Tx), (qv n x).sum ≤ k → Ok x → Comes n l x → Comes n x u → S x
  | k, x, hk, ho, hlx, hxu => by
    by_cases e : qv n u = qv n x
    · have : x = u := dd_zero h1 hu ho hxu.1 (by unfold dd; rw [e]; exact l1_self _)
      subst this
      exact h0 hlx
    · by_cases hsh : u.length < n
      · rcases hxu.1 with ⟨_, e2⟩ | ⟨a, _⟩
        · exact absurd (by rw [e2]) e
        · exact absurd hsh a
      · obtain ⟨p, i, hi, ep, hc⟩ := cle_step hxu.2 e
        have hql : (qv n x).length = (rns n u).length := by rw [qv_len]; exact hxu.1.len.symm
        have hpl : p.length = (rns n u).length := by rw [ep, bump_len] at hql; exact hql
        obtain ⟨fk, fq⟩ := fam_kin h1 hu hsh hpl
        have fo := (fam_all h1 hu hsh hpl).2.2.2.1
        have hx := fam_self h1 ho hsh hxu.1
        have hcop : Cop1 n (fam n u p) x := by
          rw [hx, ep]
          exact (fam_cop h1 hu hsh hpl).mpr ⟨i, hi, rfl⟩
        have hsum := bump_sum p i hi
        rw [← ep] at hsum
        have hlp : Comes n l (fam n u p) := ⟨(fk.symm.trans hxu.1).trans hlx.1, by rw [fq]; exact cle_trans (by rw [ep]; exact cle_bump p i) hlx.2⟩
        have hpu : Comes n (fam n u p) u := ⟨fk, by rw [fq]; exact hc⟩
        have hlen : x.length ≤ l.length := by
          have hxl : ¬ x.length < n := (cop1_len hcop).2 |> fun h => by have := (cop1_len hcop).1; omega
          rcases hlx.1 with ⟨a, e2⟩ | ⟨_, hll, a1, a2, a3⟩
          · rw [e2]; exact Nat.le_refl _
          · have s1 := rns_sum (n := n) hxl
            have s2 := rns_sum (n := n) hll
            have m1 := congrArg List.length a3
            have e1 := (mixR_sum (n := n) ((rns n x).map (· % n)) ((rns n x).map (· / n)) (by rw [List.length_map, List.length_map]))
            have e2 := (mixR_sum (n := n) ((rns n l).map (· % n)) ((rns n l).map (· / n)) (by rw [List.length_map, List.length_map]))
            rw [mixR_self] at e1 e2
            rw [a3] at e1
            have hq := Nat.mul_le_mul (Nat.le_refl n) (cle_sum hlx.2)
            unfold qv at hq
            rw [a2] at s1
            omega
        cases k with
        | zero => omega
        | succ k => exact hs _ _ (bt_reach h1 hu S h0 hs k _ (by rw [fq]; omega) fo hlp hpu) hcop hlen hlx
end K9
namespace K9
/-! The middle; plain Lean. -/
def ad (x y : Nat) : Nat := (x - y) + (y - x)
theorem l1_mod {n : Nat} : ∀ (a b : List Nat), a.map (· % n) = b.map (· % n) → n * l1 (a.map (· / n)) (b.map (· / n)) = l1 a b
  | [], [], _ => rfl
  | [], _ :: _, h => by simp at h
  | _ :: _, [], h => by simp at h
  | x :: a, y :: b, h => by
    have h : (x % n) :: a.map (· % n) = (y % n) :: b.map (· % n) := h
    obtain ⟨m1, m2⟩ := List.cons.inj h
    have ih := l1_mod a b m2
    show n * ((x / n - y / n) + (y / n - x / n) + l1 (a.map (· / n)) (b.map (· / n))) = (x - y) + (y - x) + l1 a b
    have hx := Nat.mod_add_div x n
    have hy := Nat.mod_add_div y n
    rw [Nat.mul_add, ih, Nat.mul_add, Nat.mul_sub, Nat.mul_sub]
    omega
theorem dd_runs {n : Nat} {a b : Tx} (h : Kin n a b) : n * dd n a b = l1 (rns n a) (rns n b) := by
  unfold dd qv
  rcases h with ⟨_, rfl⟩ | ⟨_, _, _, _, e⟩
  · exact l1_mod _ _ rfl
  · exact l1_mod _ _ e
theorem zip_l1 : ∀ (a b : List Nat), ((List.zipWith (fun (a b : Nat) => (a : Int) - (b : Int)) a b).map Int.natAbs).sum = l1 a b
  | [], [] => rfl
  | [], _ :: _ => rfl
  | _ :: _, [] => rfl
  | x :: a, y :: b => by
    have ih := zip_l1 a b
    show ((x : Int) - (y : Int)).natAbs + ((List.zipWith (fun (a b : Nat) => (a : Int) - (b : Int)) a b).map Int.natAbs).sum = (x - y) + (y - x) + l1 a b
    rw [ih]
    omega
theorem ap_dd {n : Nat} (h1 : 1 ≤ n) {a b : Tx} (h : Kin n a b) : apM n a b = dd n a b := by
  unfold apM growM
  rw [zip_l1, ← dd_runs h.symm, Nat.mul_div_cancel_left _ (by omega), dd_comm]
theorem l1_range : ∀ (x y : List Nat), x.length = y.length → l1 x y = ((List.range y.length).map fun j => ad (x.getD j 0) (y.getD j 0)).sum
  | [], [], _ => rfl
  | [], _ :: _, h => by simp at h
  | _ :: _, [], h => by simp at h
  | a :: x, b :: y, h => by
    have ih := l1_range x y (by simpa using h)
    rw [List.length_cons, List.range_succ_eq_map, List.map_cons, List.sum_cons, List.map_map]
    show (a - b) + (b - a) + l1 x y = ad a b + _
    rw [ih]
    rfl
theorem sum_add {α : Type} (f g : α → Nat) : ∀ l : List α, (l.map fun a => f a + g a).sum = (l.map f).sum + (l.map g).sum
  | [] => rfl
  | a :: l => by
    have := sum_add f g l
    show f a + g a + (l.map fun a => f a + g a).sum = (f a + (l.map f).sum) + (g a + (l.map g).sum)
    omega
theorem sum_zero {α : Type} : ∀ l : List α, (l.map fun _ => 0).sum = 0
  | [] => rfl
  | a :: l => by show 0 + (l.map fun _ => 0).sum = 0; rw [sum_zero l]
theorem sum_swap {α β : Type} (f : α → β → Nat) (js : List β) : ∀ ts : List α, (ts.map fun t => (js.map fun j => f t j).sum).sum = (js.map fun j => (ts.map fun t => f t j).sum).sum
  | [] => (sum_zero js).symm
  | t :: ts => by
    show (js.map fun j => f t j).sum + (ts.map fun t => (js.map fun j => f t j).sum).sum = (js.map fun j => f t j + (ts.map fun t => f t j).sum).sum
    rw [sum_swap f js ts, sum_add]
/-- what a column costs at x -/
def cost (col : List Nat) (x : Nat) : Nat := (col.map fun c => ad c x).sum
theorem cost_app (a b : List Nat) (x : Nat) : cost (a ++ b) x = cost a x + cost b x := by unfold cost; rw [List.map_append, List.sum_append]
theorem cost_perm {a b : List Nat} (h : a.Perm b) (x : Nat) : cost a x = cost b x := (h.map _).sum_nat
theorem cost_far : ∀ (a : List Nat) (x m : Nat), cost a m ≤ cost a x + a.length * ad x m
  | [], _, _ => Nat.zero_le _
  | c :: a, x, m => by
    have ih := cost_far a x m
    show ad c m + cost a m ≤ ad c x + cost a x + (a.length + 1) * ad x m
    rw [Nat.add_mul]
    have : ad c m ≤ ad c x + ad x m := by unfold ad; omega
    omega
theorem cost_up : ∀ (a : List Nat) (x m : Nat), (∀ c ∈ a, c ≤ m) → m ≤ x → cost a x = cost a m + a.length * (x - m)
  | [], _, _, _, _ => by simp [cost]
  | c :: a, x, m, h, hx => by
    have ih := cost_up a x m (fun d hd => h d (List.mem_cons_of_mem _ hd)) hx
    have hc := h c List.mem_cons_self
    show ad c x + cost a x = ad c m + cost a m + (a.length + 1) * (x - m)
    rw [ih, Nat.add_mul]
    unfold ad
    omega
theorem cost_dn : ∀ (a : List Nat) (x m : Nat), (∀ c ∈ a, m ≤ c) → x ≤ m → cost a x = cost a m + a.length * (m - x)
  | [], _, _, _, _ => by simp [cost]
  | c :: a, x, m, h, hx => by
    have ih := cost_dn a x m (fun d hd => h d (List.mem_cons_of_mem _ hd)) hx
    have hc := h c List.mem_cons_self
    show ad c x + cost a x = ad c m + cost a m + (a.length + 1) * (m - x)
    rw [ih, Nat.add_mul]
    unfold ad
    omega
theorem srtN_sorted (l : List Nat) : (srtN l).Pairwise (· ≤ ·) := by
  have := List.pairwise_mergeSort (le := fun a b : Nat => decide (a ≤ b)) (fun a b c h h2 => by simp at *; omega) (fun a b => by simp; omega) l
  exact this.imp fun {a b} h => by simpa using h
theorem mid_split {l : List Nat} (h : l ≠ []) : (∀ c ∈ (srtN l).take ((l.length - 1) / 2 + 1), c ≤ midN l) ∧ (∀ c ∈ (srtN l).drop ((l.length - 1) / 2), midN l ≤ c) := by
  have hs := srtN_sorted l
  have hl := srtN_len l
  have hpos : 0 < l.length := List.length_pos_iff.mpr h
  have hp : (l.length - 1) / 2 < (srtN l).length := by omega
  have hm : midN l = (srtN l)[(l.length - 1) / 2] := by
    unfold midN
    rw [List.getD_eq_getElem?_getD, List.getElem?_eq_getElem hp]
    rfl
  rw [List.pairwise_iff_getElem] at hs
  rw [hm]
  constructor
  · intro c hc
    obtain ⟨i, hi, e⟩ := List.getElem_of_mem hc
    rw [List.getElem_take] at e
    rw [List.length_take] at hi
    by_cases hi2 : i = (l.length - 1) / 2
    · subst hi2; omega
    · rw [← e]; exact hs i _ (by omega) hp (by omega)
  · intro c hc
    obtain ⟨i, hi, e⟩ := List.getElem_of_mem hc
    rw [List.getElem_drop] at e
    rw [List.length_drop] at hi
    by_cases hi2 : i = 0
    · subst hi2; rw [← e]; exact Nat.le_refl _
    · rw [← e]; exact hs _ _ hp (by omega) (by omega)
/-- the middle number costs least; any other that costs as little is greater -/
theorem mid_least {l : List Nat} (h : l ≠ []) (x : Nat) : cost l (midN l) ≤ cost l x ∧ (cost l x = cost l (midN l) → midN l ≤ x) := by
  obtain ⟨h1, h2⟩ := mid_split h
  have hl := srtN_len l
  have hpos : 0 < l.length := List.length_pos_iff.mpr h
  have e0 : ∀ y, cost l y = cost (srtN l) y := fun y => cost_perm (srtN_perm l).symm y
  generalize midN l = m at h1 h2
  rw [e0, e0]
  by_cases hx : m ≤ x
  · have e : srtN l = (srtN l).take ((l.length - 1) / 2 + 1) ++ (srtN l).drop ((l.length - 1) / 2 + 1) := (List.take_append_drop _ _).symm
    have hA : ((srtN l).take ((l.length - 1) / 2 + 1)).length = (l.length - 1) / 2 + 1 := by rw [List.length_take]; omega
    have hB : ((srtN l).drop ((l.length - 1) / 2 + 1)).length = l.length - ((l.length - 1) / 2 + 1) := by rw [List.length_drop, hl]
    have a := cost_up _ x m h1 hx
    have b := cost_far ((srtN l).drop ((l.length - 1) / 2 + 1)) x m
    rw [hA] at a
    rw [hB] at b
    refine ⟨?_, fun _ => hx⟩
    rw [e, cost_app, cost_app]
    have hd : ad x m = x - m := by unfold ad; omega
    rw [hd] at b
    have hm : (l.length - ((l.length - 1) / 2 + 1)) * (x - m) ≤ ((l.length - 1) / 2 + 1) * (x - m) := Nat.mul_le_mul_right _ (by omega)
    omega
  · have e : srtN l = (srtN l).take ((l.length - 1) / 2) ++ (srtN l).drop ((l.length - 1) / 2) := (List.take_append_drop _ _).symm
    have hA : ((srtN l).take ((l.length - 1) / 2)).length = (l.length - 1) / 2 := by rw [List.length_take]; omega
    have hB : ((srtN l).drop ((l.length - 1) / 2)).length = l.length - (l.length - 1) / 2 := by rw [List.length_drop, hl]
    have a := cost_dn _ x m h2 (by omega)
    have b := cost_far ((srtN l).take ((l.length - 1) / 2)) x m
    rw [hB] at a
    rw [hA] at b
    have hd : ad x m = m - x := by unfold ad; omega
    rw [hd] at b
    have hm : (l.length - 1) / 2 * (m - x) + (m - x) ≤ (l.length - (l.length - 1) / 2) * (m - x) := by
      rw [← Nat.succ_mul]
      exact Nat.mul_le_mul_right _ (by omega)
    have hc : cost (srtN l) m < cost (srtN l) x := by
      rw [e, cost_app, cost_app]
      omega
    exact ⟨Nat.le_of_lt hc, fun z => by omega⟩
end K9
namespace K9
/-! The middle text; plain Lean. -/
theorem sum_le {α : Type} {f g : α → Nat} : ∀ {l : List α}, (∀ i ∈ l, f i ≤ g i) → (l.map f).sum ≤ (l.map g).sum
  | [], _ => Nat.le_refl _
  | b :: l, h => by
    have hb := h b List.mem_cons_self
    have := sum_le (l := l) fun i hi => h i (List.mem_cons_of_mem _ hi)
    show f b + (l.map f).sum ≤ g b + (l.map g).sum
    omega
theorem sum_eq_each {α : Type} {f g : α → Nat} : ∀ {l : List α}, (∀ i ∈ l, f i ≤ g i) → (l.map f).sum = (l.map g).sum → ∀ i ∈ l, f i = g i
  | [], _, _, i, hi => by cases hi
  | a :: l, h, e, i, hi => by
    have e : f a + (l.map f).sum = g a + (l.map g).sum := e
    have h1 := h a List.mem_cons_self
    have h2 : (l.map f).sum ≤ (l.map g).sum := sum_le fun i hi => h i (List.mem_cons_of_mem _ hi)
    rcases List.mem_cons.mp hi with rfl | hi
    · omega
    · exact sum_eq_each (fun i hi => h i (List.mem_cons_of_mem _ hi)) (by omega) i hi
/-- the deeds from all -/
def toAll (n : Nat) (ts : List Tx) (v : Tx) : Nat := (ts.map fun t => dd n t v).sum
section
variable {n : Nat} {ts : List Tx} {t0 v : Tx}
theorem toAll_cols (hk : ∀ t ∈ ts, Kin n t0 t) (hv : Kin n t0 v) : n * toAll n ts v = ((List.range (rns n t0).length).map fun j => cost (colN (ts.map (rns n)) j) ((rns n v).getD j 0)).sum := by
  have e1 : n * toAll n ts v = (ts.map fun t => l1 (rns n t) (rns n v)).sum := by
    unfold toAll
    induction ts with
    | nil => rfl
    | cons t ts ih =>
      have h := ih fun u hu => hk u (List.mem_cons_of_mem _ hu)
      show n * (dd n t v + (ts.map fun t => dd n t v).sum) = l1 (rns n t) (rns n v) + (ts.map fun t => l1 (rns n t) (rns n v)).sum
      rw [Nat.mul_add, h, dd_runs ((hk t List.mem_cons_self).symm.trans hv)]
  rw [e1]
  have e2 : (ts.map fun t => l1 (rns n t) (rns n v)) = ts.map fun t => ((List.range (rns n t0).length).map fun j => ad ((rns n t).getD j 0) ((rns n v).getD j 0)).sum := by
    apply List.map_congr_left
    intro t ht
    rw [l1_range _ _ ((hk t ht).symm.trans hv).len, hv.len]
  rw [e2, sum_swap]
  congr 1
  apply List.map_congr_left
  intro j _
  unfold cost colN
  rw [List.map_map, List.map_map]
  rfl
theorem col_ne (hne : ts ≠ []) (j : Nat) : colN (ts.map (rns n)) j ≠ [] := fun e => by
  unfold colN at e
  simp at e
  exact hne e
theorem midR_at (ts : List Tx) (j : Nat) (hj : j < (rns n (ts.headD [])).length) : (midR n ts).getD j 0 = midN (colN (ts.map (rns n)) j) := by
  unfold midR
  rw [List.getD_eq_getElem?_getD, List.getElem?_map, List.getElem?_range hj]
  rfl
theorem mid_facts (h1 : 1 ≤ n) (hne : ts ≠ []) (ho : ∀ t ∈ ts, Ok t) (hk : ∀ t ∈ ts, Kin n (ts.headD []) t) (hl : ¬ (ts.headD []).length < n) :
    Kin n (ts.headD []) (midT n ts) ∧ Ok (midT n ts) ∧ rns n (midT n ts) = midR n ts ∧ (midT n ts).length = n + ((midR n ts).sum + (stp n (ts.headD [])).length) := by
  have h0 : ts.headD [] ∈ ts := by cases ts with | nil => exact absurd rfl hne | cons a r => exact List.mem_cons_self
  have ho0 := ho _ h0
  have hh : ((ts.headD []).take n).length = n := by rw [List.length_take]; omega
  have hml : (midR n ts).length = (rns n (ts.headD [])).length := by unfold midR; rw [List.length_map, List.length_range]
  have em : midT n ts = tx ((ts.headD []).take n) (stp n (ts.headD [])) (midR n ts) := by unfold midT; rw [if_neg hl]
  obtain ⟨a, b, c, d, e⟩ := tx_coord (R := midR n ts) h1 hh (ho0.take n) (stp_lt6 (n := n) (t := ts.headD [])) stp_ne0 (by rw [hml, rns_len hl])
  rw [em]
  refine ⟨.inr ⟨hl, by omega, a.symm, b.symm, ?_⟩, d, c, e⟩
  rw [c]
  apply List.ext_getElem
  · rw [List.length_map, List.length_map, hml]
  · intro j h2 h3
    rw [List.length_map] at h2
    rw [List.getElem_map, List.getElem_map]
    have hj : j < (rns n (ts.headD [])).length := h2
    have hm := midR_at (n := n) ts j hj
    rw [List.getD_eq_getElem?_getD, List.getElem?_eq_getElem (by omega)] at hm
    have hm : (midR n ts)[j]'(by omega) = midN (colN (ts.map (rns n)) j) := hm
    rw [hm]
    have hmem := midN_mem (col_ne (n := n) hne j)
    obtain ⟨r, hr, et⟩ := List.mem_map.mp (show _ ∈ (ts.map (rns n)).map (fun r => r.getD j 0) from hmem)
    obtain ⟨t, ht, rfl⟩ := List.mem_map.mp hr
    rw [← et]
    rcases hk t ht with ⟨z, _⟩ | ⟨_, _, _, _, e3⟩
    · exact absurd z hl
    · have hlen : (rns n t).length = (rns n (ts.headD [])).length := (hk t ht).len.symm
      have := congrArg (fun l => l[j]?) e3
      simp only [List.getElem?_map] at this
      rw [List.getElem?_eq_getElem hj, List.getElem?_eq_getElem (by omega)] at this
      rw [List.getD_eq_getElem?_getD, List.getElem?_eq_getElem (by omega)]
      exact Option.some.inj this
theorem mid_best (h1 : 1 ≤ n) (hne : ts ≠ []) (ho : ∀ t ∈ ts, Ok t) (hk : ∀ t ∈ ts, Kin n (ts.headD []) t) (hv : Kin n (ts.headD []) v) (hov : Ok v) :
    toAll n ts (midT n ts) ≤ toAll n ts v ∧ (toAll n ts v = toAll n ts (midT n ts) → (midT n ts).length ≤ v.length ∧ (v.length = (midT n ts).length → v = midT n ts)) := by
  by_cases hl : (ts.headD []).length < n
  · have em : midT n ts = ts.headD [] := by unfold midT; rw [if_pos hl]
    have ev : v = ts.headD [] := by
      rcases hv with ⟨_, e⟩ | ⟨z, _⟩
      · exact e.symm
      · exact absurd hl z
    rw [em, ev]
    exact ⟨Nat.le_refl _, fun _ => ⟨Nat.le_refl _, fun _ => rfl⟩⟩
  · obtain ⟨km, om, rm, lm⟩ := mid_facts h1 hne ho hk hl
    have cm := toAll_cols hk km
    have cv := toAll_cols hk hv
    rw [rm] at cm
    have hle : ∀ j ∈ List.range (rns n (ts.headD [])).length, cost (colN (ts.map (rns n)) j) ((midR n ts).getD j 0) ≤ cost (colN (ts.map (rns n)) j) ((rns n v).getD j 0) := fun j hj => by
      rw [midR_at ts j (List.mem_range.mp hj)]
      exact (mid_least (col_ne hne j) _).1
    have hs := sum_mono hle
    rw [← cm, ← cv] at hs
    refine ⟨Nat.le_of_mul_le_mul_left hs (by omega), fun e => ?_⟩
    rw [e, cm] at cv
    have each := sum_eq_each hle cv
    have hlen : (rns n v).length = (rns n (ts.headD [])).length := hv.len.symm
    have hml : (midR n ts).length = (rns n (ts.headD [])).length := by unfold midR; rw [List.length_map, List.length_range]
    have hge : ∀ j ∈ List.range (rns n (ts.headD [])).length, (midR n ts).getD j 0 ≤ (rns n v).getD j 0 := fun j hj => by
      have := each j hj
      rw [midR_at ts j (List.mem_range.mp hj)] at this ⊢
      exact (mid_least (col_ne hne j) _).2 this.symm
    have hsum : ∀ r : List Nat, r.length = (rns n (ts.headD [])).length → ((List.range (rns n (ts.headD [])).length).map fun j => r.getD j 0).sum = r.sum := by
      intro r hr
      rw [← hr]
      congr 1
      apply List.ext_getElem
      · rw [List.length_map, List.length_range]
      · intro i h2 h3
        rw [List.getElem_map, List.getElem_range, List.getD_eq_getElem?_getD, List.getElem?_eq_getElem h3]
        rfl
    have hsm := sum_mono hge
    rw [hsum _ hml, hsum _ hlen] at hsm
    rcases hv with ⟨z, _⟩ | ⟨_, hvl, a1, a2, a3⟩
    · exact absurd z hl
    · have lv := rns_sum (n := n) hvl
      rw [← a2] at lv
      refine ⟨by omega, fun el => ?_⟩
      have es : (midR n ts).sum = (rns n v).sum := by omega
      rw [← hsum _ hml, ← hsum _ hlen] at es
      have eqs := sum_eq_each hge es
      have er : rns n v = midR n ts := by
        apply List.ext_getElem (by omega)
        intro i h2 h3
        have := eqs i (List.mem_range.mpr (by omega))
        rw [List.getD_eq_getElem?_getD, List.getD_eq_getElem?_getD, List.getElem?_eq_getElem h2, List.getElem?_eq_getElem h3] at this
        exact this.symm
      rw [← tx_self h1 hov hvl, ← a1, ← a2, er]
      unfold midT
      rw [if_neg hl]
theorem sum_ge {a : List Nat} {m : Nat} (h : ∀ c ∈ a, m ≤ c) : a.length * m ≤ a.sum := by
  induction a with
  | nil => simp
  | cons c a ih =>
    have := ih fun d hd => h d (List.mem_cons_of_mem _ hd)
    have hc := h c List.mem_cons_self
    rw [List.length_cons, List.sum_cons, Nat.add_mul]
    omega
theorem mid_sum {l : List Nat} (h : l ≠ []) : (l.length - (l.length - 1) / 2) * midN l ≤ l.sum := by
  have h2 := sum_ge (mid_split h).2
  rw [List.length_drop, srtN_len] at h2
  have e : (srtN l).sum = l.sum := (srtN_perm l).sum_nat
  have e2 : (srtN l).sum = ((srtN l).take ((l.length - 1) / 2)).sum + ((srtN l).drop ((l.length - 1) / 2)).sum := by rw [← List.sum_append, List.take_append_drop]
  omega
/-- the middle text of few short texts is not long -/
theorem mid_short (h1 : 1 ≤ n) (hne : ts ≠ []) (ho : ∀ t ∈ ts, Ok t) (hk : ∀ t ∈ ts, Kin n (ts.headD []) t) (h4 : ts.length ≤ 4) (hz : ∀ t ∈ ts, t.length ≤ 8) : (midT n ts).length ≤ 11 := by
  have h0 : ts.headD [] ∈ ts := by cases ts with | nil => exact absurd rfl hne | cons a r => exact List.mem_cons_self
  have hz0 := hz _ h0
  by_cases hl : (ts.headD []).length < n
  · have em : midT n ts = ts.headD [] := by unfold midT; rw [if_pos hl]
    rw [em]; omega
  · obtain ⟨km, om, rm, lm⟩ := mid_facts h1 hne ho hk hl
    have hpos : 0 < ts.length := List.length_pos_iff.mpr hne
    have hcl : ∀ j, (colN (ts.map (rns n)) j).length = ts.length := fun j => by unfold colN; rw [List.length_map, List.length_map]
    have hm : ((List.range (rns n (ts.headD [])).length).map fun j => (ts.length - (ts.length - 1) / 2) * midN (colN (ts.map (rns n)) j)).sum ≤ ((List.range (rns n (ts.headD [])).length).map fun j => (colN (ts.map (rns n)) j).sum).sum := sum_mono fun j _ => by
      have := mid_sum (col_ne (n := n) hne j)
      rw [hcl] at this
      exact this
    have hcs := cols_sum (rns n (ts.headD [])).length (ts.map (rns n))
    have hmul : ∀ (c : Nat) (f : Nat → Nat) (l : List Nat), (l.map fun j => c * f j).sum = c * (l.map f).sum := by
      intro c f l
      induction l with
      | nil => rfl
      | cons a l ih => show c * f a + (l.map fun j => c * f j).sum = c * (f a + (l.map f).sum); rw [ih, Nat.mul_add]
    rw [hmul] at hm
    have hmr : ((List.range (rns n (ts.headD [])).length).map fun j => midN (colN (ts.map (rns n)) j)).sum = (midR n ts).sum := rfl
    rw [hmr] at hm
    have hall : ∀ l : List Tx, (∀ t ∈ l, t ∈ ts) → ((l.map (rns n)).map List.sum).sum + l.length * (n + (stp n (ts.headD [])).length) ≤ 8 * l.length := by
      intro l
      induction l with
      | nil => simp
      | cons t l ih =>
        intro h
        have hi := ih fun u hu => h u (List.mem_cons_of_mem _ hu)
        have ht := h t List.mem_cons_self
        have hzt := hz t ht
        rcases hk t ht with ⟨z, _⟩ | ⟨_, htl, _, a2, _⟩
        · exact absurd z hl
        · have := rns_sum (n := n) htl
          rw [← a2] at this
          rw [List.map_cons, List.map_cons, List.sum_cons, List.length_cons, Nat.add_mul]
          omega
    have ha := hall ts fun t h => h
    generalize (midR n ts).sum = M at lm hm
    generalize (stp n (ts.headD [])).length = S at lm ha
    generalize ((ts.map (rns n)).map List.sum).sum = Z at ha hcs
    generalize hk' : ts.length = k at h4 hm ha hpos
    have hk4 : k = 1 ∨ k = 2 ∨ k = 3 ∨ k = 4 := by omega
    rcases hk4 with rfl | rfl | rfl | rfl <;> omega
end
end K9
namespace K9
/-! The row of deeds leads there; plain Lean. -/
def okDeed (n : Nat) (t : Tx) (d : Bool × Nat) : Prop := if d.1 then d.2 + n ≤ t.length else isdb n t d.2 = true
def Leads (n : Nat) : Tx → List (Bool × Nat) → Tx → Prop
  | t, [], u => u = t
  | t, d :: ds, u => okDeed n t d ∧ Leads n (opM n d.1 t d.2) ds u
theorem leads_app {n : Nat} : ∀ {ds es : List (Bool × Nat)} {t u v : Tx}, Leads n t ds u → Leads n u es v → Leads n t (ds ++ es) v
  | [], _, _, _, _, h, h2 => by have h : _ = _ := h; subst h; exact h2
  | d :: ds, _, _, _, _, h, h2 => ⟨h.1, leads_app h.2 h2⟩
theorem bump_take : ∀ (R : List Nat) (i k : Nat), (bump R i k).take i = R.take i
  | [], _, _ => rfl
  | r :: R, 0, _ => rfl
  | r :: R, i + 1, k => by
    show r :: (bump R i k).take i = r :: R.take i
    rw [bump_take R i k]
theorem fpl_bump (R : List Nat) (i k : Nat) : fpl (bump R i k) i = fpl R i := by unfold fpl; rw [bump_take]
/-- the text of these runs -/
def tR (n : Nat) (t : Tx) (R : List Nat) : Tx := tx (t.take n) (stp n t) R
section
variable {n : Nat} {t : Tx}
theorem tR_facts (h1 : 1 ≤ n) (ho : Ok t) (hl : ¬ t.length < n) {R : List Nat} (hR : R.length = (rns n t).length) : (tR n t R).take n = t.take n ∧ stp n (tR n t R) = stp n t ∧ rns n (tR n t R) = R ∧ Ok (tR n t R) ∧ ¬ (tR n t R).length < n := by
  have hh : (t.take n).length = n := by rw [List.length_take]; omega
  obtain ⟨a, b, c, d, e⟩ := tx_coord (R := R) h1 hh (ho.take n) (stp_lt6 (n := n) (t := t)) stp_ne0 (by rw [hR]; exact rns_len hl)
  exact ⟨a, b, c, d, by unfold tR; omega⟩
theorem tR_cop (h1 : 1 ≤ n) (ho : Ok t) (hl : ¬ t.length < n) {R : List Nat} (hR : R.length = (rns n t).length) {i : Nat} (hi : i < R.length) : fpl R i + n ≤ (tR n t R).length ∧ cop n (tR n t R) (fpl R i) = tR n t (bump R i n) := by
  obtain ⟨a, b, c, d, e⟩ := tR_facts h1 ho hl hR
  obtain ⟨hlay, hg⟩ := rns_lay e
  have hf := sg_fpl (stp n (tR n t R)) (rns n (tR n t R)) i stp_ne0 hlay (by rw [c]; exact hi)
  rw [hg, c] at hf
  have hgl := gaps_len n (tR n t R)
  have hk : fpl R i + n ≤ (tR n t R).length := by omega
  refine ⟨hk, ?_⟩
  have hc : ¬ (cop n (tR n t R) (fpl R i)).length < n := by rw [cop_len hk]; omega
  rw [← tx_self h1 (cop_ok d) hc, cop_take hk, (cop_coord hk).1, (cop_coord hk).2, hf.1, a, b, c]
  rfl
theorem tR_copK (h1 : 1 ≤ n) (ho : Ok t) (hl : ¬ t.length < n) {R : List Nat} (hR : R.length = (rns n t).length) {i : Nat} (hi : i < R.length) : ∀ k, opK n true (fpl R i) k (tR n t R) = tR n t (bump R i (n * k))
  | 0 => by rw [Nat.mul_zero, bump_zero]; rfl
  | k + 1 => by
    show opM n true (opK n true (fpl R i) k (tR n t R)) (fpl R i) = _
    rw [tR_copK h1 ho hl hR hi k]
    have h := tR_cop h1 ho hl (R := bump R i (n * k)) (by rw [bump_len]; exact hR) (i := i) (by rw [bump_len]; exact hi)
    rw [fpl_bump] at h
    show cop n (tR n t (bump R i (n * k))) (fpl R i) = _
    rw [h.2, bump_bump, Nat.mul_succ]
theorem tR_copL (h1 : 1 ≤ n) (ho : Ok t) (hl : ¬ t.length < n) {i : Nat} {p : Nat} : ∀ (k : Nat) {R : List Nat}, R.length = (rns n t).length → i < R.length → fpl R i = p → Leads n (tR n t R) (List.replicate k (true, p)) (tR n t (bump R i (n * k)))
  | 0, R, _, _, _ => by rw [Nat.mul_zero, bump_zero]; rfl
  | k + 1, R, hR, hi, hp => by
    have h := tR_cop h1 ho hl hR hi
    rw [hp] at h
    refine ⟨h.1, ?_⟩
    show Leads n (cop n (tR n t R) p) (List.replicate k (true, p)) _
    rw [h.2]
    have := tR_copL h1 ho hl (p := p) k (R := bump R i n) (by rw [bump_len]; exact hR) (by rw [bump_len]; exact hi) (by rw [fpl_bump]; exact hp)
    rw [bump_bump] at this
    rw [Nat.mul_succ, Nat.add_comm (n * k)]
    exact this
theorem tR_und (h1 : 1 ≤ n) (ho : Ok t) (hl : ¬ t.length < n) {R : List Nat} (hR : R.length = (rns n t).length) {i : Nat} (hi : i < R.length) : isdb n (tR n t (bump R i n)) (fpl R i) = true ∧ und n (tR n t (bump R i n)) (fpl R i) = tR n t R := by
  obtain ⟨a, b⟩ := tR_cop h1 ho hl hR hi
  rw [← b]
  exact cop_isdb a
theorem tR_undL (h1 : 1 ≤ n) (ho : Ok t) (hl : ¬ t.length < n) {i p : Nat} : ∀ (k : Nat) {R : List Nat}, R.length = (rns n t).length → i < R.length → fpl R i = p → Leads n (tR n t (bump R i (n * k))) (List.replicate k (false, p)) (tR n t R)
  | 0, R, _, _, _ => by rw [Nat.mul_zero, bump_zero]; rfl
  | k + 1, R, hR, hi, hp => by
    have h := tR_und h1 ho hl (R := bump R i (n * k)) (by rw [bump_len]; exact hR) (i := i) (by rw [bump_len]; exact hi)
    rw [fpl_bump, bump_bump, hp, ← Nat.mul_succ] at h
    refine ⟨h.1, ?_⟩
    show Leads n (und n (tR n t (bump R i (n * (k + 1)))) p) (List.replicate k (false, p)) _
    rw [h.2]
    exact tR_undL h1 ho hl k hR hi hp
theorem leads_opK {p : Nat} {wd : Bool} : ∀ (k : Nat) {t u : Tx}, Leads n t (List.replicate k (wd, p)) u → opK n wd p k t = u
  | 0, t, u, h => by have h : u = t := h; subst h; rfl
  | k + 1, t, u, h => by
    have ih := leads_opK k h.2
    have e : ∀ (k : Nat) (t : Tx), opK n wd p (k + 1) t = opK n wd p k (opM n wd t p) := by
      intro k
      induction k with
      | zero => intro t; rfl
      | succ k ih => intro t; show opM n wd (opK n wd p (k + 1) t) p = opM n wd (opK n wd p k (opM n wd t p)) p; rw [ih]
    rw [e]
    exact ih
end
/-- one place further -/
theorem mix_step : ∀ (x y : List Nat) (k d : Nat) (hx : k < x.length) (hy : k < y.length), y[k] + d = x[k] → y.take k ++ x.drop k = bump (y.take (k + 1) ++ x.drop (k + 1)) k d
  | [], _, _, _, h, _, _ => by simp at h
  | _ :: _, [], _, _, _, h, _ => by simp at h
  | a :: x, b :: y, 0, d, _, _, h => by
    have h : b + d = a := h
    subst h
    rfl
  | a :: x, b :: y, k + 1, d, hx, hy, h => by
    have := mix_step x y k d (by simpa using hx) (by simpa using hy) (by simpa using h)
    show b :: (y.take k ++ x.drop k) = b :: bump (y.take (k + 1) ++ x.drop (k + 1)) k d
    rw [this]
end K9
namespace K9
/-! The row of deeds leads there, part two; plain Lean. -/
theorem mix_step2 : ∀ (x y : List Nat) (k d : Nat) (hx : k < x.length) (hy : k < y.length), y[k] = x[k] + d → y.take (k + 1) ++ x.drop (k + 1) = bump (y.take k ++ x.drop k) k d
  | [], _, _, _, h, _, _ => by simp at h
  | _ :: _, [], _, _, _, h, _ => by simp at h
  | a :: x, b :: y, 0, d, _, _, h => by
    have h : b = a + d := h
    subst h
    rfl
  | a :: x, b :: y, k + 1, d, hx, hy, h => by
    have := mix_step2 x y k d (by simpa using hx) (by simpa using hy) (by simpa using h)
    show b :: (y.take (k + 1) ++ x.drop (k + 1)) = b :: bump (y.take k ++ x.drop k) k d
    rw [this]
theorem sub_div {n x y : Nat} (h1 : 1 ≤ n) (h : x % n = y % n) : n * ((x - y) / n) = x - y ∧ (x - y) / n = x / n - y / n := by
  have hx := Nat.mod_add_div x n
  have hy := Nat.mod_add_div y n
  have e : x - y = n * (x / n - y / n) := by rw [Nat.mul_sub]; omega
  have e2 : (x - y) / n = x / n - y / n := by rw [e, Nat.mul_div_cancel_left _ (by omega)]
  exact ⟨by rw [e2, ← e], e2⟩
def mn (x y : List Nat) : List Nat := List.zipWith min x y
theorem mn_len {x y : List Nat} (h : x.length = y.length) : (mn x y).length = x.length := by unfold mn; rw [List.length_zipWith, h, Nat.min_self]
theorem mn_at {x y : List Nat} {i : Nat} (hx : i < x.length) (hy : i < y.length) (h : i < (mn x y).length) : (mn x y)[i] = min x[i] y[i] := List.getElem_zipWith
section
variable {n : Nat} {a b : Tx}
theorem grow_getD {i : Nat} (hb : i < (rns n b).length) (ha : i < (rns n a).length) : (growM n b a).getD i 0 = ((rns n b)[i] : Int) - ((rns n a)[i] : Int) := by
  have hg : i < (growM n b a).length := by rw [grow_len]; omega
  rw [getI_at hg, grow_at hg]
theorem half_und (h1 : 1 ≤ n) (hoa : Ok a) (hl : ¬ a.length < n) (hlen : (rns n a).length = (rns n b).length) (hm : (rns n a).map (· % n) = (rns n b).map (· % n)) : ∀ k, k ≤ (rns n a).length →
    Leads n a (dhalf n false (growM n b a) ([], a) k).1 (dhalf n false (growM n b a) ([], a) k).2 ∧ (dhalf n false (growM n b a) ([], a) k).2 = tR n a ((mn (rns n a) (rns n b)).take k ++ (rns n a).drop k)
  | 0, _ => ⟨rfl, by
    show a = tR n a (rns n a)
    exact (tx_self h1 hoa hl).symm⟩
  | k + 1, hk => by
    obtain ⟨ih1, ih2⟩ := half_und h1 hoa hl hlen hm k (by omega)
    rw [dhalf_succ]
    have hka : k < (rns n a).length := by omega
    have hkb : k < (rns n b).length := by omega
    have hkm : k < (mn (rns n a) (rns n b)).length := by rw [mn_len hlen]; omega
    have hmod : (rns n a)[k] % n = (rns n b)[k] % n := by
      have := congrArg (fun l => l[k]?) hm
      simp only [List.getElem?_map, List.getElem?_eq_getElem hka, List.getElem?_eq_getElem hkb] at this
      exact Option.some.inj this
    have hdt : dtimes n false ((growM n b a).getD k 0) = ((rns n a)[k] - (rns n b)[k]) / n := by
      rw [grow_getD hkb hka]
      unfold dtimes
      rw [if_neg (by decide)]
      congr 1
      omega
    obtain ⟨d1, d2⟩ := sub_div h1 hmod
    have hmix := mix_step (rns n a) (mn (rns n a) (rns n b)) k (n * (((rns n a)[k] - (rns n b)[k]) / n)) hka hkm (by rw [mn_at hka hkb, d1]; omega)
    have hRl : ((mn (rns n a) (rns n b)).take (k + 1) ++ (rns n a).drop (k + 1)).length = (rns n a).length := by rw [List.length_append, List.length_take, List.length_drop, mn_len hlen]; omega
    have hRk : ((mn (rns n a) (rns n b)).take k ++ (rns n a).drop k).length = (rns n a).length := by rw [List.length_append, List.length_take, List.length_drop, mn_len hlen]; omega
    have hf : fplM n (dhalf n false (growM n b a) ([], a) k).2 k = fpl ((mn (rns n a) (rns n b)).take (k + 1) ++ (rns n a).drop (k + 1)) k := by
      unfold fplM
      rw [ih2, (tR_facts h1 hoa hl hRk).2.2.1, hmix, fpl_bump]
    have hL := tR_undL h1 hoa hl (((rns n a)[k] - (rns n b)[k]) / n) hRl (i := k) (p := _) (by omega) rfl
    rw [← hmix, ← ih2] at hL
    unfold dstep
    dsimp only
    rw [hdt, hf]
    exact ⟨leads_app ih1 (by rw [leads_opK _ hL]; exact hL), leads_opK _ hL⟩
theorem half_cop (h1 : 1 ≤ n) (hoa : Ok a) (hl : ¬ a.length < n) (hlen : (rns n a).length = (rns n b).length) (hm : (rns n a).map (· % n) = (rns n b).map (· % n)) {s : DS} (hs : Leads n a s.1 s.2) (hs2 : s.2 = tR n a (mn (rns n a) (rns n b))) : ∀ k, k ≤ (rns n a).length →
    Leads n a (dhalf n true (growM n b a) s k).1 (dhalf n true (growM n b a) s k).2 ∧ (dhalf n true (growM n b a) s k).2 = tR n a ((rns n b).take k ++ (mn (rns n a) (rns n b)).drop k)
  | 0, _ => ⟨hs, hs2⟩
  | k + 1, hk => by
    obtain ⟨ih1, ih2⟩ := half_cop h1 hoa hl hlen hm hs hs2 k (by omega)
    rw [dhalf_succ]
    have hka : k < (rns n a).length := by omega
    have hkb : k < (rns n b).length := by omega
    have hkm : k < (mn (rns n a) (rns n b)).length := by rw [mn_len hlen]; omega
    have hmod : (rns n b)[k] % n = (rns n a)[k] % n := by
      have := congrArg (fun l => l[k]?) hm
      simp only [List.getElem?_map, List.getElem?_eq_getElem hka, List.getElem?_eq_getElem hkb] at this
      exact (Option.some.inj this).symm
    have hdt : dtimes n true ((growM n b a).getD k 0) = ((rns n b)[k] - (rns n a)[k]) / n := by
      rw [grow_getD hkb hka]
      unfold dtimes
      rw [if_pos rfl]
      congr 1
      omega
    obtain ⟨d1, d2⟩ := sub_div h1 hmod
    have hmix := mix_step2 (mn (rns n a) (rns n b)) (rns n b) k (n * (((rns n b)[k] - (rns n a)[k]) / n)) hkm hkb (by rw [mn_at hka hkb, d1]; omega)
    have hRk : ((rns n b).take k ++ (mn (rns n a) (rns n b)).drop k).length = (rns n a).length := by rw [List.length_append, List.length_take, List.length_drop, mn_len hlen]; omega
    have hf : fplM n (dhalf n true (growM n b a) s k).2 k = fpl ((rns n b).take k ++ (mn (rns n a) (rns n b)).drop k) k := by
      unfold fplM
      rw [ih2, (tR_facts h1 hoa hl hRk).2.2.1]
    have hL := tR_copL h1 hoa hl (i := k) (p := _) (((rns n b)[k] - (rns n a)[k]) / n) hRk (by omega) rfl
    rw [← hmix, ← ih2] at hL
    unfold dstep
    dsimp only
    rw [hdt, hf]
    exact ⟨leads_app ih1 (by rw [leads_opK _ hL]; exact hL), leads_opK _ hL⟩
theorem deeds_lead (h1 : 1 ≤ n) (hoa : Ok a) (hob : Ok b) (hk : Kin n a b) : Leads n a (deedsM n a b).1 b := by
  rcases hk with ⟨hs, rfl⟩ | ⟨hl, hlb, e1, e2, e3⟩
  · have hr : rns n a = [] := by unfold rns; rw [if_pos hs]
    have hg : growM n a a = [] := by unfold growM; rw [hr]; rfl
    unfold deedsM
    rw [hg]
    rfl
  · have hlen : (rns n a).length = (rns n b).length := by
      have := congrArg List.length e3
      rwa [List.length_map, List.length_map] at this
    have hgl : (growM n b a).length = (rns n a).length := by rw [grow_len, ← hlen, Nat.min_self]
    obtain ⟨u1, u2⟩ := half_und h1 hoa hl hlen e3 _ (Nat.le_refl _)
    rw [List.drop_length, List.append_nil, List.take_of_length_le (by rw [mn_len hlen]; exact Nat.le_refl _)] at u2
    obtain ⟨c1, c2⟩ := half_cop h1 hoa hl hlen e3 u1 u2 _ (Nat.le_refl _)
    rw [List.take_of_length_le (by omega), List.drop_of_length_le (by rw [mn_len hlen]; exact Nat.le_refl _), List.append_nil] at c2
    unfold deedsM
    rw [hgl]
    have hb : tR n a (rns n b) = b := by
      unfold tR
      rw [e1, e2]
      exact tx_self h1 hob hlb
    rw [hb] at c2
    rw [c2] at c1
    exact c1
end
end K9
namespace K9
/-! How many deeds; plain Lean. -/
theorem dhalf_len (n : Nat) (wd : Bool) (g : List Int) (s : DS) : ∀ k, (dhalf n wd g s k).1.length = s.1.length + ((List.range k).map fun i => dtimes n wd (g.getD i 0)).sum
  | 0 => rfl
  | k + 1 => by
    rw [dhalf_succ, List.range_succ, List.map_append, List.sum_append]
    unfold dstep
    dsimp only
    rw [List.length_append, List.length_replicate, dhalf_len n wd g s k]
    simp
    omega
theorem deeds_len {n : Nat} (h1 : 1 ≤ n) {a b : Tx} (hk : Kin n a b) : (deedsM n a b).1.length = dd n a b := by
  have hlen := hk.len
  have hgl : (growM n b a).length = (rns n a).length := by rw [grow_len, ← hlen, Nat.min_self]
  have hm : (rns n a).map (· % n) = (rns n b).map (· % n) := by
    rcases hk with ⟨_, rfl⟩ | ⟨_, _, _, _, e⟩
    · rfl
    · exact e
  unfold deedsM
  rw [dhalf_len, dhalf_len, hgl]
  show ([] : List (Bool × Nat)).length + _ + _ = _
  rw [List.length_nil, Nat.zero_add, ← sum_add]
  unfold dd
  rw [l1_range _ _ (kin_qlen hk), qv_len, ← hlen]
  congr 1
  apply List.map_congr_left
  intro i hi
  have hka : i < (rns n a).length := List.mem_range.mp hi
  have hkb : i < (rns n b).length := by omega
  have hmod : (rns n a)[i] % n = (rns n b)[i] % n := by
    have := congrArg (fun l => l[i]?) hm
    simp only [List.getElem?_map, List.getElem?_eq_getElem hka, List.getElem?_eq_getElem hkb] at this
    exact Option.some.inj this
  have q1 : (qv n a).getD i 0 = (rns n a)[i] / n := by
    unfold qv
    rw [List.getD_eq_getElem?_getD, List.getElem?_map, List.getElem?_eq_getElem hka]
    rfl
  have q2 : (qv n b).getD i 0 = (rns n b)[i] / n := by
    unfold qv
    rw [List.getD_eq_getElem?_getD, List.getElem?_map, List.getElem?_eq_getElem hkb]
    rfl
  have e1 := (sub_div h1 hmod).2
  have e2 := (sub_div h1 hmod.symm).2
  rw [grow_getD hkb hka, q1, q2]
  unfold dtimes ad
  rw [if_neg (by decide), if_pos rfl]
  rw [show (-(((rns n b)[i] : Int) - ((rns n a)[i] : Int))).toNat = (rns n a)[i] - (rns n b)[i] by omega, show (((rns n b)[i] : Int) - ((rns n a)[i] : Int)).toNat = (rns n b)[i] - (rns n a)[i] by omega, e1, e2]
/-- how many texts stand between -/
theorem bt_count {n : Nat} (h1 : 1 ≤ n) {l u : Tx} (hd : doesM n l u = true) : ((btL n l u).length : Int) = betwM n l u := by
  have hpos := does_pos hd
  have hlen := does_lens hd
  unfold btL
  by_cases hs : u.length < n
  · rw [if_pos hs]
    have hr : rns n u = [] := by unfold rns; rw [if_pos hs]
    have hg : growM n l u = [] := by
      rw [hr] at hlen
      exact List.eq_nil_of_length_eq_zero hlen.symm
    unfold betwM
    rw [hg]
    rfl
  · rw [if_neg hs, List.length_map]
    unfold rowsM betwM
    rw [rowsGo_len, prodF_int n _ _ _ hlen hpos]
    rfl
end K9
namespace K9
/-! By doublings undone, level by level; plain Lean. -/
def UndK (n : Nat) : Nat → Tx → Tx → Prop
  | 0, l, u => u = l
  | i + 1, l, u => ∃ v, UndK n i l v ∧ Cop1 n u v
def UndR (n : Nat) (l u : Tx) : Prop := ∃ i, UndK n i l u
section
variable {n : Nat} {l e u v : Tx}
theorem undK_len : ∀ {i : Nat} {l u : Tx}, UndK n i l u → u.length + n * i = l.length
  | 0, l, u, h => by have h : u = l := h; rw [h]; omega
  | i + 1, l, u, ⟨v, hv, hc⟩ => by
    have h1 := undK_len hv
    have h2 := (cop1_len hc).1
    rw [Nat.mul_succ]
    omega
theorem undK_ok : ∀ {i : Nat} {l u : Tx}, Ok l → UndK n i l u → Ok u
  | 0, l, u, ho, h => by have h : u = l := h; rw [h]; exact ho
  | i + 1, l, u, ho, ⟨v, hv, hc⟩ => cop1_ok hc (undK_ok ho hv)
theorem undK_comes (h1 : 1 ≤ n) : ∀ {i : Nat} {l u : Tx}, Ok l → UndK n i l u → Comes n l u
  | 0, l, u, ho, h => by have h : u = l := h; rw [h]; exact ⟨Kin.refl n l, cle_refl _⟩
  | i + 1, l, u, ho, ⟨v, hv, hc⟩ => by
    obtain ⟨k, c⟩ := undK_comes h1 ho hv
    have hov := undK_ok ho hv
    have hou := cop1_ok hc hov
    obtain ⟨j, hj, e⟩ := cop1_qv h1 hou hc
    refine ⟨(cop1_kin h1 hc).trans k, cle_trans ?_ c⟩
    rw [e]
    exact cle_bump _ _
theorem undR_comes (h1 : 1 ≤ n) (ho : Ok l) (h : UndR n l u) : Comes n l u := by
  obtain ⟨i, h⟩ := h
  exact undK_comes h1 ho h
/-- one step ahead -/
theorem undK_front : ∀ {i : Nat} {l u v : Tx}, Cop1 n v l → UndK n i v u → UndK n (i + 1) l u
  | 0, l, u, v, hc, h => by have h : u = v := h; subst h; exact ⟨l, rfl, hc⟩
  | i + 1, l, u, v, hc, ⟨z, hz, hcz⟩ => ⟨z, undK_front hc hz, hcz⟩
theorem comes_undR (h1 : 1 ≤ n) (hou : Ok u) : ∀ (k : Nat) {l : Tx}, l.length ≤ k → Ok l → Comes n l u → UndR n l u
  | k, l, hz, ho, ⟨hk, hc⟩ => by
    by_cases e : qv n u = qv n l
    · have : l = u := dd_zero h1 hou ho hk (by unfold dd; rw [e]; exact l1_self _)
      subst this
      exact ⟨0, rfl⟩
    · by_cases hs : u.length < n
      · rcases hk with ⟨_, e2⟩ | ⟨a, _⟩
        · exact absurd (by rw [e2]) e
        · exact absurd hs a
      · obtain ⟨p, i, hi, ep, hcp⟩ := cle_step hc e
        have hql : (qv n l).length = (rns n u).length := by rw [qv_len]; exact hk.len.symm
        have hpl : p.length = (rns n u).length := by rw [ep, bump_len] at hql; exact hql
        obtain ⟨fk, fq⟩ := fam_kin h1 hou hs hpl
        have fo := (fam_all h1 hou hs hpl).2.2.2.1
        have hl := fam_self h1 ho hs hk
        have hcop : Cop1 n (fam n u p) l := by
          rw [hl, ep]
          exact (fam_cop h1 hou hs hpl).mpr ⟨i, hi, rfl⟩
        have hlen := (cop1_len hcop).1
        cases k with
        | zero => omega
        | succ k =>
          obtain ⟨j, hj⟩ := comes_undR h1 hou k (l := fam n u p) (by omega) fo ⟨fk, by rw [fq]; exact hcp⟩
          exact ⟨j + 1, undK_front hcop hj⟩
theorem undR_iff (h1 : 1 ≤ n) (ho : Ok l) (hou : Ok u) : UndR n l u ↔ Comes n l u := ⟨undR_comes h1 ho, comes_undR h1 hou l.length (Nat.le_refl _) ho⟩
end
end K9
namespace K9
open PySem PySem.Spec PyProof.Rows L2 Evl
local macro_rules | `(tactic| walk_at "ev") => `(tactic| first
  | with_reducible exact ev_c
  | ((with_reducible refine' ev_var ?k0); (case k0 => exact rfl))
  | with_reducible assumption
  | ((with_reducible refine' ev_lenS ?k0 ?k1); (case k0 => walk_at "ev"); (case k1 => walk_at "sz"))
  | ((with_reducible refine' ev_I0 ?k0 ?k1); (case k0 => walk_at "ev"); (case k1 => walk_at "ev"))
  | ((with_reducible refine' ev_I ?k0 ?k1 ?k2); (case k0 => walk_at "ev"); (case k1 => walk_at "ev"); (case k2 => walk_at "sz"))
  | ((with_reducible refine' ev_eq ?k0 ?k1 ?k2); (case k0 => walk_at "ev"); (case k1 => walk_at "ev"); (case k2 => walk_at "sz"))
  | ((with_reducible refine' ev_ne ?k0 ?k1 ?k2); (case k0 => walk_at "ev"); (case k1 => walk_at "ev"); (case k2 => walk_at "sz"))
  | ((with_reducible refine' ev_slTo ?k0 ?k1 ?k2 ?k3); (case k0 => walk_at "ev"); (case k1 => walk_at "ev"); (case k2 => walk_at "sz"); (case k3 => walk_at "sz"))
  | ((with_reducible refine' ev_slFrom ?k0 ?k1 ?k2 ?k3); (case k0 => walk_at "ev"); (case k1 => walk_at "ev"); (case k2 => walk_at "sz"); (case k3 => walk_at "sz"))
  | ((with_reducible refine' ev_slMid ?k0 ?k1 ?k2 ?k3 ?k4 ?k5); (case k0 => walk_at "ev"); (case k1 => walk_at "ev"); (case k2 => walk_at "ev"); (case k3 => walk_at "sz"); (case k4 => walk_at "sz"); (case k5 => walk_at "sz"))
  | ((with_reducible refine' ev_addS ?k0 ?k1 ?k2); (case k0 => walk_at "ev"); (case k1 => walk_at "ev"); (case k2 => walk_at "sz"))
  | ((with_reducible refine' ev_cl ?k0 ?k1); (case k0 => walk_at "ea"); (case k1 => walk_at "sp"))
  | ((with_reducible refine' ev_notV ?k0); (case k0 => walk_at "ev"))
  | ((with_reducible refine' ev_un ?k0 ru_neg); (case k0 => walk_at "ev")))
local macro_rules | `(tactic| walk_at "ea") => `(tactic| first
  | with_reducible exact ea_nil
  | ((with_reducible refine' ea_cons ?k0 ?k1); (case k0 => walk_at "ev"); (case k1 => walk_at "ea")))
local macro_rules | `(tactic| walk_at "et") => `(tactic| first
  | with_reducible assumption
  | ((with_reducible refine' et_test ?k0); (case k0 => walk_at "ev"))
  | ((with_reducible refine' et_B ?k0); (case k0 => walk_at "ev"))
  | ((with_reducible refine' et_not ?k0); (case k0 => walk_at "et")))
local macro_rules | `(tactic| walk_at "sz") => `(tactic| first
  | rfl
  | omega
  | (simp only [List.length_take, List.length_drop, List.length_append]; omega)
  | (constructor <;> omega)
  | assumption)
local macro_rules | `(tactic| walk_at "sp") => `(tactic| first | assumption)

section
variable {K : PySem.W.Frag} {σ : L2.St} {H : Hp} {te ta tb tl : TE}
theorem el_is {xs ys : List V} (h : EvL te σ H xs) (e : xs = ys) : EvL te σ H ys := by subst e; exact h
/-- a held list and a new one, told apart -/
theorem ev_neH {α : Type} [DecidableEq α] {v : α → V} {f : α → PyData} (hd : ∀ a (H : Hp), Dp K H (v a) (f a)) (he : ∀ a b, PyData.eqv (f a) (f b) = decide (a = b)) {a : Addr} {l m : List α} (hf : ∀ a ∈ l, Fit 0 (f a)) (hm : ∀ a ∈ m, Fit 0 (f a))
    (h1 : Ev ta σ H (.ref a)) (hs : SqL K H a (l.map v)) (h2 : EvL tb σ H (m.map v)) : Ev (tOp (rNeD K) ta tb) σ H (.bl (!decide (l = m))) := by
  have := ev_opVL (r := rNeD K) (z := .bl (!PyData.eqv (.list (l.map f)) (.list (m.map f)))) h1 h2 fun p H1 hp e => rv_neD (.lst (ex_l e hs) (dpa_map fun a _ => hd a _)) (.lst (SqL.of hp) (dpa_map fun a _ => hd a _)) (fit_lstM hf) (fit_lstM hm)
  rw [eqv_lst he] at this
  exact this
theorem ev_neHN {a : Addr} {l : List Nat} (h1 : Ev ta σ H (.ref a)) (hs : SqL K H a (l.map iv)) : Ev (tOp (rNeD K) ta (tLst tNil)) σ H (.bl (!decide (l = []))) :=
  ev_neH (f := nD) (fun a _ => .int _) eqv_nD (fun _ _ => fit_int _) (fun _ h => by cases h) h1 hs (el_lst (vs := []) ea_nil (Nat.le_of_ble_eq_true rfl))
theorem ev_neHT {a : Addr} {l : List Tx} (ho : ∀ t ∈ l, Ok t) (h1 : Ev ta σ H (.ref a)) (hs : SqL K H a (l.map tv)) : Ev (tOp (rNeD K) ta (tLst tNil)) σ H (.bl (!decide (l = []))) :=
  ev_neH (f := tD) (fun a _ => dp_tx _) eqv_tD (fun _ h => fit_tx (ho _ h)) (fun _ h => by cases h) h1 hs (el_lst (vs := []) ea_nil (Nat.le_of_ble_eq_true rfl))
/-- a new list of which a word is true -/
def EvLP (te : TE) (σ : L2.St) (H : Hp) (W : List V → Prop) : Prop := ∀ H1, Ex H H1 → ∀ Q : VK, (∀ p xs H2, H1 p = none → Ex H1 H2 → H2 p = some (.lst xs) → W xs → Q (.ref p) H2) → te σ H1 Q
theorem EvLP.mono {H' : Hp} {W : List V → Prop} (e : Ex H H') (h : EvLP te σ H W) : EvLP te σ H' W := fun H1 a Q q => h H1 (e.trans a) Q q
theorem s_retLP {D : Ends} {W : List V → Prop} (h : EvLP te σ H W) (k : ∀ p xs H2, H p = none → Ex H H2 → H2 p = some (.lst xs) → W xs → D.rt (.ref p) H2) : tRet te D σ H := h H (Ex.refl H) _ k
theorem str_tv (s : Str) : V.str s = tv s.cps.toList := rfl
theorem tv_str (t : Tx) : tv t = V.str ⟨t.toArray⟩ := rfl
/-- sorted(set(texts)) -/
theorem lp_once {P : Program} {w : World} {xs : List Tx} (h : EvL tl σ H (xs.map tv)) (hz : xs.length < 60) :
    EvLP (tCB (rSortT P w) (tCons (tCB (rSetT P w K) (tCons tl tNil)) tNil)) σ H fun ys => ∃ us : List Tx, ys = us.map tv ∧ (∀ u, u ∈ us ↔ u ∈ xs) ∧ us.length ≤ xs.length := fun H1 e Q q =>
  h H1 e _ fun p H2 hp e2 hx => by
    have hms : xs.map tv = (xs.map fun t => (⟨t.toArray⟩ : Str)).map V.str := by rw [List.map_map]; rfl
    refine ⟨p, xs.map fun t => (⟨t.toArray⟩ : Str), rfl, SqL.of (by rw [← hms]; exact hx), by rw [List.length_map]; exact hz, fun p2 hp2 => ?_⟩
    have hlen := fold_len (xs.map fun t => (⟨t.toArray⟩ : Str)) []
    rw [List.length_map] at hlen
    refine ⟨p2, dedS (xs.map fun t => (⟨t.toArray⟩ : Str)), rfl, upd_same, ?_, fun ts p3 hm hl hp3 => ?_⟩
    · unfold dedS; simp at hlen; omega
    have hts : ts.map V.str = (ts.map fun s => s.cps.toList).map tv := by rw [List.map_map]; rfl
    have hne2 : Ex H2 (upd H2 p2 (SetT P w p2 (dedS (xs.map fun t => (⟨t.toArray⟩ : Str))))) := Ex.new hp2
    refine q p3 _ _ (fresh_back (e2.trans hne2) hp3) ((e2.trans hne2).trans (Ex.new hp3)) upd_same ⟨ts.map fun s => s.cps.toList, hts, fun u => ?_, ?_⟩
    · rw [List.mem_map]
      constructor
      · rintro ⟨s, hs, rfl⟩
        have := (hm s).mp hs
        unfold dedS at this
        rw [fold_mem] at this
        rcases this with h | h
        · obtain ⟨t, ht, rfl⟩ := List.mem_map.mp h
          simpa using ht
        · cases h
      · intro hu
        refine ⟨⟨u.toArray⟩, (hm _).mpr ?_, by simp⟩
        unfold dedS
        rw [fold_mem]
        exact .inl (List.mem_map.mpr ⟨u, hu, rfl⟩)
    · rw [List.length_map, hl]
      unfold dedS
      simp at hlen
      omega
end
section
variable {P : Program} {w : World} {K : PySem.W.Frag} {mg : Str → Option Value} {base : Heap}
/-- all texts that come by one copy -/
def OnceOf (n : Nat) (t : Tx) (us : List Tx) : Prop := (∀ u, u ∈ us ↔ ∃ k, k + n ≤ t.length ∧ u = cop n t k) ∧ us.length ≤ t.length
def RetLP (W : List V → Prop) (H : Hp) (Q : VK) : Prop := ∀ p xs H2, H p = none → Ex H H2 → H2 p = some (.lst xs) → W xs → Q (.ref p) H2
def spOnce : Sp := fun vs H Q _ => ∃ (t : Tx) (n : Nat), vs = [tv t, iv n] ∧ t.length ≤ 50 ∧ 1 ≤ n ∧ n ≤ 6 ∧ RetLP (fun ys => ∃ us : List Tx, ys = us.map tv ∧ OnceOf n t us) H Q
theorem ev_cop {te ta tb : TE} {σ : L2.St} {H : Hp} {t : Tx} {p n : Nat} (h : Ev te σ H (tv t)) (h2 : Ev ta σ H (.int ((p : Int) + n))) (h3 : Ev tb σ H (iv p)) (hz : t.length ≤ 1000) :
    Ev (tOp (fun x y H Q => ∃ i j, x = .str i ∧ y = .str j ∧ i.length + j.length ≤ sizeLine ∧ Q (.str (i ++ j)) H) (tSl rSlS te tNoPart (tPart ta)) (tSl rSlS te (tPart tb) tNoPart)) σ H (tv (cop n t p)) := by
  refine ev_is (ev_addS (ev_slTo h h2 (by omega) (by omega)) (ev_slFrom h h3 (by omega) (by omega)) ?_) ?_
  · simp only [List.length_take, List.length_drop]; omega
  · rw [show ((p : Int) + (n : Int)).toNat = p + n by omega, show (p : Int).toNat = p by omega]
    rfl
theorem ev_und {te ta tb : TE} {σ : L2.St} {H : Hp} {t : Tx} {p n : Nat} (h : Ev te σ H (tv t)) (h2 : Ev ta σ H (.int ((p : Int) + n))) (h3 : Ev tb σ H (.int ((p : Int) + 2 * n))) (hz : t.length ≤ 1000) :
    Ev (tOp (fun x y H Q => ∃ i j, x = .str i ∧ y = .str j ∧ i.length + j.length ≤ sizeLine ∧ Q (.str (i ++ j)) H) (tSl rSlS te tNoPart (tPart ta)) (tSl rSlS te (tPart tb) tNoPart)) σ H (tv (und n t p)) := by
  refine ev_is (ev_addS (ev_slTo h h2 (by omega) (by omega)) (ev_slFrom h h3 (by omega) (by omega)) ?_) ?_
  · simp only [List.length_take, List.length_drop]; omega
  · rw [show ((p : Int) + (n : Int)).toNat = p + n by omega, show ((p : Int) + 2 * (n : Int)).toNat = p + 2 * n by omega]
    rfl
theorem ok_once (T : Topf mg) (F : FnP K mg "_law_once" s_l_once) : Cal P w K mg base CX0 1 "_law_once" ["_law_text", "_law_wide"] spOnce := by
  refine cal_mk F sc_l_once (fun vs H Q E h => ?_) (fun _ _ _ _ _ _ us hl => match us, hl with | [_, _], _ => rfl) (fun f cdv A outer s H vs Q E hr h => ?_)
  · obtain ⟨t, n, rfl, _⟩ := h; rfl
  · obtain ⟨t, n, rfl, hz, h1, h6, q⟩ := h
    refine ⟨_, (pss_one (ps_ret (pe_callB (k_sortT (P := P) (w := w) rfl rfl rfl) (by rfl) T.b_sorted (by decide +kernel) (pa_cons (pe_callTy (k_setT (K := K) (P := P) (w := w) rfl rfl rfl rfl) (by rfl) T.b_set (by decide +kernel) (pa_cons (pe_lc (own := [("_law_k", 2)]) rfl sc_l_once.nd (pi_range1 rfl T.b_range (pa_cons (pe_op op_add (pe_op op_sub (pe_callB call_len_str (by rfl) T.b_len (by decide +kernel) (pa_cons (pv 0) pa_nil)) (pv 1)) pe_int) pa_nil)) (blkOk_by (own := [("_law_k", 2)]) (N := N_l_once) (sc := defScope s_l_once) (by decide +kernel)) (fun _ _ _ _ _ => (pg_name (i := 2) sc_l_once.nd rfl (Or.inl rfl))) (fun _ _ _ _ _ => pts_nil) (fun _ _ _ _ _ => (pe_op op_add_str (pe_slice sl_str (pv 0) po_none (po_some (pe_op op_add (pv 2) (pv 1)))) (pe_slice sl_str (pv 0) (po_some (pv 2)) po_none)))) pa_nil)) pa_nil)))), ?_⟩
    refine s_retLP (lp_once (xs := (List.range (t.length + 1 - n)).map (cop n t)) ?_ (by rw [List.length_map, List.length_range]; omega)) fun p xs H2 hp e2 hx hw => q p xs H2 hp e2 hx ?_
    · have hk : ((t.length : Int) - (n : Int) + 1).toNat = t.length + 1 - n := by omega
      have hS := src_R1 (j := 2) (σ := start N_l_once [tv t, iv n]) (H := H) (n := (t.length : Int) - (n : Int) + 1) (ta := tCons (tOp (rI0 fun i j => .int (i + j)) (tOp (rI0 fun i j => .int (i - j)) (tCB (fun xs H Q => ∃ z, xs = [.str z] ∧ z.length ≤ sizeLine ∧ Q (.int z.length) H) (tCons (tVar 0) tNil)) (tVar 1)) (tC (.int 1))) tNil) (ea_cons (ev_I0 (ev_I0 (ev_lenS (ev_var rfl) (by omega)) (ev_var rfl)) ev_c) ea_nil) (by omega) (by omega)
      rw [hk] at hS
      refine el_is (el_lc (vs := [2]) (fun _ => true) (fun i => tv (cop n t i)) hS (by omega) (fun i _ => rfl) (fun i H7 _ _ H8 _ Q q => q H8 (Ex.refl H8)) (fun i H1 e hi _ => ?_)) (by rw [given_all, List.map_map]; rfl)
      exact ev_cop (ev_var rfl) (ev_I0 (ev_is (ev_var rfl) (by rw [Int.zero_add])) (ev_var rfl)) (ev_is (ev_var rfl) (by rw [Int.zero_add])) (by omega)
    obtain ⟨us, rfl, hm, hl⟩ := hw
    refine ⟨us, rfl, fun u => ?_, ?_⟩
    · rw [hm, List.mem_map]
      constructor
      · rintro ⟨k, hk, rfl⟩
        exact ⟨k, by have := List.mem_range.mp hk; omega, rfl⟩
      · rintro ⟨k, hk, rfl⟩
        exact ⟨k, List.mem_range.mpr (by omega), rfl⟩
    · rw [List.length_map, List.length_range] at hl
      omega
def spBare : Sp := fun vs H Q _ => ∃ (t : Tx) (n : Nat), vs = [tv t, iv n] ∧ t.length ≤ 50 ∧ 1 ≤ n ∧ n ≤ 6 ∧ RetV (tv (bareM n t)) H Q
theorem ok_bare (T : Topf mg) (F : FnP K mg "_law_bare" s_l_bare) (C_l_is_twice : Cal P w K mg base CX0 1 "_law_is_twice" ["_law_text", "_law_wide", "_law_at"] spTw) : Cal P w K mg base CX0 2 "_law_bare" ["_law_text", "_law_wide"] spBare := by
  refine cal_mk F sc_l_bare (fun vs H Q E h => ?_) (fun _ _ _ _ _ _ us hl => match us, hl with | [_, _], _ => rfl) (fun f cdv A outer s H vs Q E hr h => ?_)
  · obtain ⟨t, n, rfl, _⟩ := h; rfl
  · obtain ⟨t, n, rfl, hz, h1, h6, q⟩ := h
    refine ⟨_, (pss_cons (ps_set (i := 2) sc_l_bare.nd rfl (Or.inl rfl) (pe_lst (pa_cons pe_int pa_nil)))
      (pss_cons (ps_while PassesOwn.never (pt_cmpR (k_neD (K := K) rfl hr.units) (pv 2) (pe_lst pa_nil) (nomark _))
        (pss_cons (ps_setLc (i := 2) (own := [("_law_k", 3)]) rfl sc_l_bare.nd rfl rfl (sw_true rfl rfl rfl (by decide +kernel)) (pi_range1 rfl T.b_range (pa_cons (pe_callB call_len_str (by rfl) T.b_len (by decide +kernel) (pa_cons (pv 0) pa_nil)) pa_nil)) (blkOk_by (own := [("_law_k", 3)]) (N := N_l_bare) (sc := defScope s_l_bare) (by decide +kernel)) (fun _ _ _ _ _ => (pg_name (i := 3) sc_l_bare.nd rfl (Or.inl rfl))) (fun _ _ _ _ _ => pts_one (pt_val (pe_c C_l_is_twice (hr.mono (by decide)) rfl (pa_cons (pv 0) (pa_cons (pv 1) (pa_cons (pv 3) pa_nil)))))) (fun _ _ _ _ _ => (pv 3)))
          (pss_one (ps_if (pt_cmpR (k_neD (K := K) rfl hr.units) (pv 2) (pe_lst pa_nil) (nomark _)) (pss_one (ps_set (i := 0) sc_l_bare.nd rfl (Or.inr rfl) (pe_op op_add_str (pe_slice sl_str (pv 0) po_none (po_some (pe_op op_add (pe_ix (k_ixL (K := K) rfl) (pv 2) pe_int (fun _ _ => rfl)) (pv 1)))) (pe_slice sl_str (pv 0) (po_some (pe_op op_add (pe_ix (k_ixL (K := K) rfl) (pv 2) pe_int (fun _ _ => rfl)) (pe_op op_mul pe_int (pv 1)))) po_none)))) pss_nil))))
      (pss_one (ps_ret (pv 0))))), ?_⟩
    refine q_asgL (xs := [iv 0]) (el_lst (ea_cons ev_c ea_nil) (Nat.le_of_ble_eq_true rfl)) fun pa H1 hpa e1 hx => ?_
    refine ⟨fun m σ' H' => ∃ (t' : Tx) (a : Addr) (sp : List Nat) (y : Option V), σ' = [some (tv t'), some (iv n), some (.ref a), y] ∧ H' a = some (.lst (sp.map iv)) ∧ Ex H H' ∧ t'.length ≤ 50 ∧ bareM n t' = bareM n t ∧ (sp = [] → t' = bareM n t) ∧ m = (if sp = [] then 0 else t'.length + 1), ⟨t.length + 1, t, pa, [0], _, rfl, hx, e1, hz, rfl, (fun z => nomatch z), rfl⟩, fun m σ' H' hW => ?_⟩
    obtain ⟨t', a, sp, y, rfl, hsp, eH, hz', hb, hfin, hm⟩ := hW
    refine et_B (ev_neHN (l := sp) (ev_var rfl) (SqL.of hsp)) H' (Ex.refl H') _ fun H2 e2 => ?_
    by_cases hs : sp = []
    · rw [if_neg (by rw [hs]; decide)]
      have ht := hfin hs
      subst ht
      exact s_ret (ev_var rfl) fun H3 e3 => q H3 (eH.trans (e2.trans e3))
    · rw [if_pos (by simpa using hs)]
      rw [if_neg hs] at hm
      refine ⟨fun σ' H' => ∃ m', m' < m ∧ _, fun σ' H' h => h, ?_⟩
      have hS := src_R1 (j := 3) (σ := [some (tv t'), some (iv n), some (.ref a), y]) (H := H2) (n := (t'.length : Int)) (ta := tCons (tCB (fun xs H Q => ∃ z, xs = [.str z] ∧ z.length ≤ sizeLine ∧ Q (.int z.length) H) (tCons (tVar 0) tNil)) tNil) (ea_cons (ev_lenS (ev_var rfl) (by omega)) ea_nil) (by omega) (by omega)
      rw [show ((t'.length : Int)).toNat = t'.length by omega] at hS
      refine q_asgL (xs := (dbls n t').map iv) ?_ fun p2 H3 hp2 e3 hx2 => ?_
      · refine el_is (el_lc (vs := [3]) (isdb n t') (fun i => iv i) hS (by omega) (fun i _ => rfl) (fun i H7 e7 hi => et_B (ev_cl (ea_cons (ev_var rfl) (ea_cons (ev_var rfl) (ea_cons (ev_is (ev_var rfl) (by rw [Int.zero_add])) ea_nil))) fun H8 e8 Q8 q8 E8 => ⟨t', n, i, rfl, by omega, by omega, q8⟩)) (fun i H1 e hi _ => ev_is (ev_var rfl) (by rw [Int.zero_add]))) ?_
        unfold given
        rw [dbls_full h1]
      · have e13 := e2.trans e3
        cases hd : dbls n t' with
        | nil =>
          rw [hd] at hx2
          refine s_when (b := false) (et_is (et_B (ev_neHN (l := []) (ev_var rfl) (SqL.of hx2))) rfl) (fun z => by cases z) fun _ H4 e4 => ?_
          refine ⟨0, by omega, t', p2, [], _, rfl, e4 _ _ hx2, eH.trans (e13.trans e4), hz', hb, fun _ => by rw [← hb, bare_nil hd], rfl⟩
        | cons p r =>
          rw [hd] at hx2
          have hp : isdb n t' p = true := mem_dbls.mp (by rw [hd]; exact List.mem_cons_self)
          have hul := und_len hp
          refine s_when (b := true) (et_is (et_B (ev_neHN (l := p :: r) (ev_var rfl) (SqL.of hx2))) rfl) (fun _ H4 e4 => ?_) (fun z => by cases z)
          have hx4 := e4 _ _ hx2
          have i0 : Ev (tOp (rIxL K) (tVar 2) (tC (.int 0))) ([some (tv t'), some (iv n), some (.ref p2), y]) H4 (iv p) := ev_op (ev_var (v := .ref p2) rfl) ev_c (rv_ixL (SqL.of hx4) (atI_nat (j := 0) rfl))
          refine s_asg (v := tv (und n t' p)) (ev_und (ev_var rfl) (ev_I0 i0 (ev_var rfl)) (ev_I0 i0 (ev_I ev_c (ev_var rfl) (.inl ⟨by decide, by decide⟩))) (by omega)) fun H5 e5 => ?_
          refine ⟨(und n t' p).length + 1, by omega, und n t' p, p2, p :: r, _, rfl, e5 _ _ hx4, eH.trans (e13.trans (e4.trans e5)), by omega, by rw [← bare_cons h1 hd]; exact hb, (fun z => nomatch z), rfl⟩
end
end K9
namespace K9
open PySem PySem.Spec PyProof.Rows L2 Evl
local macro_rules | `(tactic| walk_at "ev") => `(tactic| first
  | with_reducible exact ev_c
  | ((with_reducible refine' ev_var ?k0); (case k0 => exact rfl))
  | with_reducible assumption
  | ((with_reducible refine' ev_lenS ?k0 ?k1); (case k0 => walk_at "ev"); (case k1 => walk_at "sz"))
  | ((with_reducible refine' ev_I0 ?k0 ?k1); (case k0 => walk_at "ev"); (case k1 => walk_at "ev"))
  | ((with_reducible refine' ev_I ?k0 ?k1 ?k2); (case k0 => walk_at "ev"); (case k1 => walk_at "ev"); (case k2 => walk_at "sz"))
  | ((with_reducible refine' ev_eq ?k0 ?k1 ?k2); (case k0 => walk_at "ev"); (case k1 => walk_at "ev"); (case k2 => walk_at "sz"))
  | ((with_reducible refine' ev_ne ?k0 ?k1 ?k2); (case k0 => walk_at "ev"); (case k1 => walk_at "ev"); (case k2 => walk_at "sz"))
  | ((with_reducible refine' ev_slTo ?k0 ?k1 ?k2 ?k3); (case k0 => walk_at "ev"); (case k1 => walk_at "ev"); (case k2 => walk_at "sz"); (case k3 => walk_at "sz"))
  | ((with_reducible refine' ev_slFrom ?k0 ?k1 ?k2 ?k3); (case k0 => walk_at "ev"); (case k1 => walk_at "ev"); (case k2 => walk_at "sz"); (case k3 => walk_at "sz"))
  | ((with_reducible refine' ev_slMid ?k0 ?k1 ?k2 ?k3 ?k4 ?k5); (case k0 => walk_at "ev"); (case k1 => walk_at "ev"); (case k2 => walk_at "ev"); (case k3 => walk_at "sz"); (case k4 => walk_at "sz"); (case k5 => walk_at "sz"))
  | ((with_reducible refine' ev_addS ?k0 ?k1 ?k2); (case k0 => walk_at "ev"); (case k1 => walk_at "ev"); (case k2 => walk_at "sz"))
  | ((with_reducible refine' ev_cl ?k0 ?k1); (case k0 => walk_at "ea"); (case k1 => walk_at "sp"))
  | ((with_reducible refine' ev_notV ?k0); (case k0 => walk_at "ev"))
  | ((with_reducible refine' ev_un ?k0 ru_neg); (case k0 => walk_at "ev")))
local macro_rules | `(tactic| walk_at "ea") => `(tactic| first
  | with_reducible exact ea_nil
  | ((with_reducible refine' ea_cons ?k0 ?k1); (case k0 => walk_at "ev"); (case k1 => walk_at "ea")))
local macro_rules | `(tactic| walk_at "et") => `(tactic| first
  | with_reducible assumption
  | ((with_reducible refine' et_test ?k0); (case k0 => walk_at "ev"))
  | ((with_reducible refine' et_B ?k0); (case k0 => walk_at "ev"))
  | ((with_reducible refine' et_not ?k0); (case k0 => walk_at "et")))
local macro_rules | `(tactic| walk_at "sz") => `(tactic| first
  | rfl
  | omega
  | (simp only [List.length_take, List.length_drop, List.length_append]; omega)
  | (constructor <;> omega)
  | assumption)
local macro_rules | `(tactic| walk_at "sp") => `(tactic| first | assumption)

section
variable {K : PySem.W.Frag} {σ : L2.St} {H : Hp} {te ta tb tl : TE} {tt : TT} {D : Ends} {tz : TS} {W W2 : List V → Prop}
theorem lp_src {g : TG} {vs : List Nat} (h : EvLP tl σ H W) (k : ∀ p xs H2, Ex H H2 → H2 p = some (.lst xs) → W xs → EvLP (tLc (iList K (fun _ H Q => Q (.ref p) H)) g tt te vs) σ H2 W2) : EvLP (tLc (iList K tl) g tt te vs) σ H W2 := fun H1 e Q q =>
  h H1 e _ fun p xs H2 hp e2 hx hw => k p xs H2 (e.trans e2) hx hw H2 (Ex.refl H2) Q fun p3 ys H3 hp3 e3 => q p3 ys H3 (fresh_back e2 hp3) (e2.trans e3)
theorem lp_of {xs : List V} (h : EvL te σ H xs) (hw : W xs) : EvLP te σ H W := fun H1 e Q q => h H1 e _ fun p H2 hp e2 hx => q p xs H2 hp e2 hx hw
theorem lp_is (h : EvLP te σ H W) (i : ∀ xs, W xs → W2 xs) : EvLP te σ H W2 := fun H1 e Q q => h H1 e _ fun p xs H2 hp e2 hx hw => q p xs H2 hp e2 hx (i _ hw)
theorem q_asgLP {i : Nat} (h : EvLP te σ H W) (k : ∀ p xs H1, H p = none → Ex H H1 → H1 p = some (.lst xs) → W xs → tz D (σ.set i (some (.ref p))) H1) : tSeq (tAsg te (gName i)) tz D σ H := h H (Ex.refl H) _ k
theorem lp_cl {sp : Sp} {vs : List V} {ta : TA} (h : EvA ta σ H vs) (hs : ∀ H1, Ex H H1 → ∀ Q : VK, RetLP W H1 Q → ∀ E : XK, sp vs H1 Q E) : EvLP (tCl sp ta) σ H W := fun H1 e Q q =>
  h H1 e _ fun H2 e2 => hs H2 (e.trans e2) Q (fun p xs H3 hp e3 hx hw => q p xs H3 (fresh_back e2 hp) (e2.trans e3) hx hw) E0
/-- a held list and a new one -/
theorem lp_catV {p : Addr} {xs ys : List V} (h : Ev ta σ H (.ref p)) (hp : H p = some (.lst xs)) (h2 : EvL tb σ H ys) (hz : xs.length + ys.length ≤ 100000) : EvL (tOp rCat ta tb) σ H (xs ++ ys) := fun H1 e Q q =>
  h H1 e _ fun H2 e2 => h2 H2 (e.trans e2) _ fun p2 H3 hp2 e3 hy => ⟨p, p2, xs, ys, rfl, rfl, (e.trans (e2.trans e3)) _ _ hp, hy, sz60 (by omega), fun r hr =>
    q r _ (fresh_back (e2.trans e3) hr) ((e2.trans e3).trans (Ex.new hr)) upd_same⟩
/-- a held list's items, those that pass, each made anew -/
theorem el_keep {α : Type} {v : α → V} {a : Addr} {us : List α} {f : α → Bool} {j : Nat} (dflt : α) (h : Ev tl σ H (.ref a)) (hx : SqL K H a (us.map v)) (hn : us.length ≤ 40000) (hw : ∀ x, wipe ((wipe σ [j]).set j (some x)) [j] = wipe σ [j])
    (ht : ∀ u H1, Ex H H1 → u ∈ us → EvT tt ((wipe σ [j]).set j (some (v u))) H1 (f u)) (he : ∀ u H1, Ex H H1 → u ∈ us → Ev te ((wipe σ [j]).set j (some (v u))) H1 (v u)) : EvL (tLc (iList K tl) (gName j) tt te [j]) σ H ((us.filter f).map v) := by
  have hS := src_L (j := j) h hx
  rw [List.length_map] at hS
  have hgd : ∀ i, i < us.length → (us.map v).getD i .non = v (us.getD i dflt) := fun i hi => by
    rw [List.getD_eq_getElem?_getD, List.getD_eq_getElem?_getD, List.getElem?_eq_getElem (by rw [List.length_map]; exact hi), List.getElem?_eq_getElem hi, List.getElem_map]; rfl
  have hmem : ∀ i, i < us.length → us.getD i dflt ∈ us := fun i hi => by
    rw [List.getD_eq_getElem?_getD, List.getElem?_eq_getElem hi]; exact List.getElem_mem hi
  refine el_is (el_lc (vs := [j]) (fun i => f (us.getD i dflt)) (fun i => v (us.getD i dflt)) hS hn (fun i hi => hw _) (fun i H1 e hi => ?_) (fun i H1 e hi hf => ?_)) ?_
  · rw [hgd i hi]; exact ht _ H1 e (hmem i hi)
  · rw [hgd i hi]; exact he _ H1 e (hmem i hi)
  · unfold given
    have : ∀ us : List α, ((List.range us.length).filter fun i => f (us.getD i dflt)).map (fun i => v (us.getD i dflt)) = (us.filter f).map v := by
      intro us
      induction us with
      | nil => rfl
      | cons u us ih =>
        rw [List.length_cons, List.range_succ_eq_map, List.filter_cons]
        have e1 : ((List.map Nat.succ (List.range us.length)).filter fun i => f ((u :: us).getD i dflt)).map (fun i => v ((u :: us).getD i dflt)) = (us.filter f).map v := by
          rw [List.filter_map, List.map_map, ← ih]
          rfl
        by_cases hu : f u = true
        · rw [if_pos (show f ((u :: us).getD 0 dflt) = true from hu), List.filter_cons, if_pos hu, List.map_cons, List.map_cons, e1]; rfl
        · rw [if_neg (show ¬ f ((u :: us).getD 0 dflt) = true from hu), List.filter_cons, if_neg hu, e1]
    exact this us
end
section
variable {P : Program} {w : World} {K : PySem.W.Frag} {mg : Str → Option Value} {base : Heap}
/-- all texts that come by one deed, not longer than told -/
def NearOf (n m : Nat) (t : Tx) (us : List Tx) : Prop := (∀ u, u ∈ us ↔ (∃ k, k + n ≤ t.length ∧ u = cop n t k ∧ u.length ≤ m) ∨ ∃ k, isdb n t k = true ∧ u = und n t k) ∧ us.length ≤ 2 * t.length
def spNear : Sp := fun vs H Q _ => ∃ (t : Tx) (n m : Nat), vs = [tv t, iv n, iv m] ∧ t.length ≤ 50 ∧ 1 ≤ n ∧ n ≤ 6 ∧ RetLP (fun ys => ∃ us : List Tx, ys = us.map tv ∧ NearOf n m t us) H Q
theorem ok_near_texts (T : Topf mg) (F : FnP K mg "_law_near_texts" s_l_near_texts) (C_l_once : Cal P w K mg base CX0 1 "_law_once" ["_law_text", "_law_wide"] spOnce) (C_l_is_twice : Cal P w K mg base CX0 1 "_law_is_twice" ["_law_text", "_law_wide", "_law_at"] spTw) : Cal P w K mg base CX0 2 "_law_near_texts" ["_law_text", "_law_wide", "_law_most"] spNear := by
  refine cal_mk F sc_l_near_texts (fun vs H Q E h => ?_) (fun _ _ _ _ _ _ us hl => match us, hl with | [_, _, _], _ => rfl) (fun f cdv A outer s H vs Q E hr h => ?_)
  · obtain ⟨t, n, m, rfl, _⟩ := h; rfl
  · obtain ⟨t, n, m, rfl, hz, h1, h6, q⟩ := h
    refine ⟨_, (pss_cons (ps_setLc (i := 3) (own := [("_law_far_here", 4)]) rfl sc_l_near_texts.nd rfl rfl (sw_true rfl rfl rfl (by decide +kernel)) (k_pil (K := K) rfl (pe_c C_l_once (hr.mono (by decide)) rfl (pa_cons (pv 0) (pa_cons (pv 1) pa_nil)))) (blkOk_by (own := [("_law_far_here", 4)]) (N := N_l_near_texts) (sc := defScope s_l_near_texts) (by decide +kernel)) (fun _ _ _ _ _ => (pg_name (i := 4) sc_l_near_texts.nd rfl (Or.inl rfl))) (fun _ _ _ _ _ => pts_one (pt_cmpR op_le (pe_callB call_len_str (by rfl) T.b_len (by decide +kernel) (pa_cons (pv 4) pa_nil)) (pv 2) (nomark _))) (fun _ _ _ _ _ => (pv 4)))
      (pss_one (ps_ret (pe_op op_cat (pv 3) (pe_lc (own := [("_law_k", 5)]) rfl sc_l_near_texts.nd (pi_range1 rfl T.b_range (pa_cons (pe_callB call_len_str (by rfl) T.b_len (by decide +kernel) (pa_cons (pv 0) pa_nil)) pa_nil)) (blkOk_by (own := [("_law_k", 5)]) (N := N_l_near_texts) (sc := defScope s_l_near_texts) (by decide +kernel)) (fun _ _ _ _ _ => (pg_name (i := 5) sc_l_near_texts.nd rfl (Or.inl rfl))) (fun _ _ _ _ _ => pts_one (pt_val (pe_c C_l_is_twice (hr.mono (by decide)) rfl (pa_cons (pv 0) (pa_cons (pv 1) (pa_cons (pv 5) pa_nil)))))) (fun _ _ _ _ _ => (pe_op op_add_str (pe_slice sl_str (pv 0) po_none (po_some (pe_op op_add (pv 5) (pv 1)))) (pe_slice sl_str (pv 0) (po_some (pe_op op_add (pv 5) (pe_op op_mul pe_int (pv 1)))) po_none)))))))), ?_⟩
    refine q_asgLP (W := fun ys => ∃ us : List Tx, ys = (us.filter fun u => decide (u.length ≤ m)).map tv ∧ OnceOf n t us) (lp_src (lp_cl (W := fun ys => ∃ us : List Tx, ys = us.map tv ∧ OnceOf n t us) (ea_cons (ev_var rfl) (ea_cons (ev_var rfl) ea_nil)) fun H1 e1 Q1 q1 E1 => ⟨t, n, rfl, hz, h1, h6, q1⟩) fun p xs H2 e2 hx hw => ?_) fun pf xs H3 hpf e3 hx3 hw3 => ?_
    · obtain ⟨us, rfl, ho⟩ := hw
      refine lp_of (el_keep (v := tv) (f := fun u => decide (u.length ≤ m)) [] (fun H9 e9 Q9 q9 => q9 H9 (Ex.refl H9)) (SqL.of hx) (by have := ho.2; omega) (fun x => rfl) (fun u H4 e4 hu => et_B (ev_is (ev_I0 (ev_lenS (ev_var rfl) ?_) (ev_var rfl)) ?_)) (fun u H4 e4 hu => ev_var rfl)) ⟨us, rfl, ho⟩
      · obtain ⟨k, hk, rfl⟩ := (ho.1 u).mp hu
        have := cop_le n k t
        omega
      · congr 1
        rw [decide_eq_decide]
        omega
    · obtain ⟨us, rfl, ho⟩ := hw3
      have hS := src_R1 (j := 5) (σ := (start N_l_near_texts [tv t, iv n, iv m]).set 3 (some (.ref pf))) (H := H3) (n := (t.length : Int)) (ta := tCons (tCB (fun xs H Q => ∃ z, xs = [.str z] ∧ z.length ≤ sizeLine ∧ Q (.int z.length) H) (tCons (tVar 0) tNil)) tNil) (ea_cons (ev_lenS (ev_var rfl) (by omega)) ea_nil) (by omega) (by omega)
      rw [show ((t.length : Int)).toNat = t.length by omega] at hS
      have hfl : (us.filter fun u => decide (u.length ≤ m)).length ≤ us.length := List.length_filter_le _ _
      have hdl : (dbls n t).length ≤ t.length := by
        rw [← dbls_full h1]
        exact Nat.le_trans (List.length_filter_le _ _) (by rw [List.length_range]; exact Nat.le_refl _)
      refine s_retLP (W := fun ys => ys = ((us.filter fun u => decide (u.length ≤ m)) ++ (dbls n t).map (und n t)).map tv) (lp_of (lp_catV (ys := ((dbls n t).map (und n t)).map tv) (ev_var rfl) hx3 (el_is (el_lc (vs := [5]) (isdb n t) (fun i => tv (und n t i)) hS (by omega) (fun i _ => rfl) (fun i H7 e7 hi => et_B (ev_cl (ea_cons (ev_var rfl) (ea_cons (ev_var rfl) (ea_cons (ev_is (ev_var rfl) (by rw [Int.zero_add])) ea_nil))) fun H8 e8 Q8 q8 E8 => ⟨t, n, i, rfl, by omega, by omega, q8⟩)) (fun i H4 e4 hi _ => ?_)) ?_) (by simp only [List.length_map]; have := ho.2; omega)) (by rw [List.map_append])) fun p ys H4 hp e4 hy hw4 => q p ys H4 (fresh_back e3 hp) (e3.trans e4) hy ⟨_, hw4, fun u => ?_, ?_⟩
      · exact ev_und (ev_var rfl) (ev_I0 (ev_is (ev_var rfl) (by rw [Int.zero_add])) (ev_var rfl)) (ev_I0 (ev_is (ev_var rfl) (by rw [Int.zero_add])) (ev_I ev_c (ev_var rfl) (.inl ⟨by decide, by decide⟩))) (by omega)
      · unfold given
        rw [dbls_full h1, List.map_map]
        rfl
      · rw [List.mem_append, List.mem_filter, ho.1 u, List.mem_map]
        constructor
        · rintro (⟨⟨k, hk, e⟩, hm⟩ | ⟨k, hk, e⟩)
          · exact .inl ⟨k, hk, e, of_decide_eq_true hm⟩
          · exact .inr ⟨k, mem_dbls.mp hk, e.symm⟩
        · rintro (⟨k, hk, e, hm⟩ | ⟨k, hk, e⟩)
          · exact .inl ⟨⟨k, hk, e⟩, decide_eq_true hm⟩
          · exact .inr ⟨k, mem_dbls.mpr hk, e.symm⟩
      · rw [List.length_append, List.length_map]
        have := ho.2
        omega
end
end K9
namespace K9
open PySem PySem.Spec PyProof.Rows L2 Evl
local macro_rules | `(tactic| walk_at "ev") => `(tactic| first
  | with_reducible exact ev_c
  | ((with_reducible refine' ev_var ?k0); (case k0 => exact rfl))
  | with_reducible assumption
  | ((with_reducible refine' ev_lenS ?k0 ?k1); (case k0 => walk_at "ev"); (case k1 => walk_at "sz"))
  | ((with_reducible refine' ev_I0 ?k0 ?k1); (case k0 => walk_at "ev"); (case k1 => walk_at "ev"))
  | ((with_reducible refine' ev_I ?k0 ?k1 ?k2); (case k0 => walk_at "ev"); (case k1 => walk_at "ev"); (case k2 => walk_at "sz"))
  | ((with_reducible refine' ev_eq ?k0 ?k1 ?k2); (case k0 => walk_at "ev"); (case k1 => walk_at "ev"); (case k2 => walk_at "sz"))
  | ((with_reducible refine' ev_ne ?k0 ?k1 ?k2); (case k0 => walk_at "ev"); (case k1 => walk_at "ev"); (case k2 => walk_at "sz"))
  | ((with_reducible refine' ev_slTo ?k0 ?k1 ?k2 ?k3); (case k0 => walk_at "ev"); (case k1 => walk_at "ev"); (case k2 => walk_at "sz"); (case k3 => walk_at "sz"))
  | ((with_reducible refine' ev_slFrom ?k0 ?k1 ?k2 ?k3); (case k0 => walk_at "ev"); (case k1 => walk_at "ev"); (case k2 => walk_at "sz"); (case k3 => walk_at "sz"))
  | ((with_reducible refine' ev_slMid ?k0 ?k1 ?k2 ?k3 ?k4 ?k5); (case k0 => walk_at "ev"); (case k1 => walk_at "ev"); (case k2 => walk_at "ev"); (case k3 => walk_at "sz"); (case k4 => walk_at "sz"); (case k5 => walk_at "sz"))
  | ((with_reducible refine' ev_addS ?k0 ?k1 ?k2); (case k0 => walk_at "ev"); (case k1 => walk_at "ev"); (case k2 => walk_at "sz"))
  | ((with_reducible refine' ev_cl ?k0 ?k1); (case k0 => walk_at "ea"); (case k1 => walk_at "sp"))
  | ((with_reducible refine' ev_notV ?k0); (case k0 => walk_at "ev"))
  | ((with_reducible refine' ev_un ?k0 ru_neg); (case k0 => walk_at "ev")))
local macro_rules | `(tactic| walk_at "ea") => `(tactic| first
  | with_reducible exact ea_nil
  | ((with_reducible refine' ea_cons ?k0 ?k1); (case k0 => walk_at "ev"); (case k1 => walk_at "ea")))
local macro_rules | `(tactic| walk_at "et") => `(tactic| first
  | with_reducible assumption
  | ((with_reducible refine' et_test ?k0); (case k0 => walk_at "ev"))
  | ((with_reducible refine' et_B ?k0); (case k0 => walk_at "ev"))
  | ((with_reducible refine' et_not ?k0); (case k0 => walk_at "et")))
local macro_rules | `(tactic| walk_at "sz") => `(tactic| first
  | rfl
  | omega
  | (simp only [List.length_take, List.length_drop, List.length_append]; omega)
  | (constructor <;> omega)
  | assumption)
local macro_rules | `(tactic| walk_at "sp") => `(tactic| first | assumption)

theorem isDeed_dd {n : Nat} {t : Tx} {d : Bool × Nat} : isDeedM n t (ddD d) = true ↔ okDeed n t d := by
  obtain ⟨wd, p⟩ := d
  cases wd with
  | true =>
    show (if ("copy" : Str) = "copy" then wholeD (nD p) 0 ((t.length : Int) - n) else (decide (("copy" : Str) = "undo") && (wholeD (nD p) 0 t.length && decide (natD (nD p) ∈ dbls n t)))) = true ↔ p + n ≤ t.length
    rw [if_pos rfl]
    show (decide ((0 : Int) ≤ (p : Int)) && decide ((p : Int) ≤ (t.length : Int) - n)) = true ↔ _
    rw [Bool.and_eq_true, decide_eq_true_iff, decide_eq_true_iff]
    omega
  | false =>
    show (if ("undo" : Str) = "copy" then wholeD (nD p) 0 ((t.length : Int) - n) else (decide (("undo" : Str) = "undo") && (wholeD (nD p) 0 t.length && decide (natD (nD p) ∈ dbls n t)))) = true ↔ isdb n t p = true
    rw [if_neg (by decide +kernel), decide_eq_true (rfl : ("undo" : Str) = "undo"), Bool.true_and, Bool.and_eq_true, decide_eq_true_iff]
    show (decide ((0 : Int) ≤ (p : Int)) && decide ((p : Int) ≤ (t.length : Int))) = true ∧ natD (nD p) ∈ dbls n t ↔ _
    have e : natD (nD p) = p := by show ((p : Int)).toNat = p; omega
    rw [e, mem_dbls, Bool.and_eq_true, decide_eq_true_iff, decide_eq_true_iff]
    constructor
    · exact fun h => h.2
    · intro h
      refine ⟨⟨by omega, ?_⟩, h⟩
      unfold isdb at h
      have := of_decide_eq_true (Bool.and_eq_true_iff.mp h).1
      omega
theorem do_dd {n : Nat} {t : Tx} {d : Bool × Nat} : doD n t (ddD d) = opM n d.1 t d.2 := by
  obtain ⟨wd, p⟩ := d
  cases wd with
  | true =>
    show opM n (decide (("copy" : Str) = "copy")) t ((p : Int)).toNat = opM n true t p
    rw [decide_eq_true rfl, show ((p : Int)).toNat = p by omega]
  | false =>
    show opM n (decide (("undo" : Str) = "copy")) t ((p : Int)).toNat = opM n false t p
    rw [decide_eq_false (by decide +kernel), show ((p : Int)).toNat = p by omega]
theorem ledGo_leads {n : Nat} : ∀ {ds : List (Bool × Nat)} {t u : Tx}, Leads n t ds u → ledGo n t (ds.map ddD) = some u
  | [], t, u, h => by have h : u = t := h; subst h; rfl
  | d :: ds, t, u, h => by
    show (if isDeedM n t (ddD d) then ledGo n (doD n t (ddD d)) (ds.map ddD) else none) = some u
    rw [if_pos (isDeed_dd.mpr h.1), do_dd]
    exact ledGo_leads h.2
section
variable {P : Program} {w : World} {K : PySem.W.Frag} {mg : Str → Option Value} {base : Heap}
theorem ok_is_int (T : Topf mg) (F : FnP K mg "_law_is_int" s_l_is_int) : Cal P w K mg base CX0 1 "_law_is_int" ["_law_thing", "_law_low", "_law_high"] (spWhole K) := by
  refine cal_mk F sc_l_is_int (fun vs H Q E h => ?_) (fun _ _ _ _ _ _ us hl => match us, hl with | [_, _, _], _ => rfl) (fun f cdv A outer s H vs Q E hr h => ?_)
  · obtain ⟨x, n, lo, hi, rfl, _⟩ := h; rfl
  · obtain ⟨x, n, lo, hi, rfl, k, q⟩ := h
    refine ⟨_, (pss_one (ps_ret (pe_and (pe_callB (k_isi (K := K) rfl) (by rfl) T.b_isinstance (by decide +kernel) (pa_cons (pv 0) (pa_cons (pe_tyb (n := "int") rfl T.b_int (by decide +kernel)) pa_nil))) (pe_and (pe_not (pe_callB (k_isi (K := K) rfl) (by rfl) T.b_isinstance (by decide +kernel) (pa_cons (pv 0) (pa_cons (pe_tyb (n := "bool") rfl T.b_bool (by decide +kernel)) pa_nil)))) (pe_one (pe_chain op_le op_le (pv 1) (pv 0) (pv 2))))))), ?_⟩
    exact s_ret (ev_whole k (ev_var rfl) (ev_var rfl) (ev_var rfl)) q
end
end K9
namespace K9
open PySem PySem.Spec PyProof.Rows L2 Evl
local macro_rules | `(tactic| walk_at "ev") => `(tactic| first
  | with_reducible exact ev_c
  | ((with_reducible refine' ev_var ?k0); (case k0 => exact rfl))
  | with_reducible assumption
  | ((with_reducible refine' ev_lenS ?k0 ?k1); (case k0 => walk_at "ev"); (case k1 => walk_at "sz"))
  | ((with_reducible refine' ev_I0 ?k0 ?k1); (case k0 => walk_at "ev"); (case k1 => walk_at "ev"))
  | ((with_reducible refine' ev_I ?k0 ?k1 ?k2); (case k0 => walk_at "ev"); (case k1 => walk_at "ev"); (case k2 => walk_at "sz"))
  | ((with_reducible refine' ev_eq ?k0 ?k1 ?k2); (case k0 => walk_at "ev"); (case k1 => walk_at "ev"); (case k2 => walk_at "sz"))
  | ((with_reducible refine' ev_ne ?k0 ?k1 ?k2); (case k0 => walk_at "ev"); (case k1 => walk_at "ev"); (case k2 => walk_at "sz"))
  | ((with_reducible refine' ev_slTo ?k0 ?k1 ?k2 ?k3); (case k0 => walk_at "ev"); (case k1 => walk_at "ev"); (case k2 => walk_at "sz"); (case k3 => walk_at "sz"))
  | ((with_reducible refine' ev_slFrom ?k0 ?k1 ?k2 ?k3); (case k0 => walk_at "ev"); (case k1 => walk_at "ev"); (case k2 => walk_at "sz"); (case k3 => walk_at "sz"))
  | ((with_reducible refine' ev_slMid ?k0 ?k1 ?k2 ?k3 ?k4 ?k5); (case k0 => walk_at "ev"); (case k1 => walk_at "ev"); (case k2 => walk_at "ev"); (case k3 => walk_at "sz"); (case k4 => walk_at "sz"); (case k5 => walk_at "sz"))
  | ((with_reducible refine' ev_addS ?k0 ?k1 ?k2); (case k0 => walk_at "ev"); (case k1 => walk_at "ev"); (case k2 => walk_at "sz"))
  | ((with_reducible refine' ev_cl ?k0 ?k1); (case k0 => walk_at "ea"); (case k1 => walk_at "sp"))
  | ((with_reducible refine' ev_notV ?k0); (case k0 => walk_at "ev"))
  | ((with_reducible refine' ev_un ?k0 ru_neg); (case k0 => walk_at "ev")))
local macro_rules | `(tactic| walk_at "ea") => `(tactic| first
  | with_reducible exact ea_nil
  | ((with_reducible refine' ea_cons ?k0 ?k1); (case k0 => walk_at "ev"); (case k1 => walk_at "ea")))
local macro_rules | `(tactic| walk_at "et") => `(tactic| first
  | with_reducible assumption
  | ((with_reducible refine' et_test ?k0); (case k0 => walk_at "ev"))
  | ((with_reducible refine' et_B ?k0); (case k0 => walk_at "ev"))
  | ((with_reducible refine' et_not ?k0); (case k0 => walk_at "et")))
local macro_rules | `(tactic| walk_at "sz") => `(tactic| first
  | rfl
  | omega
  | (simp only [List.length_take, List.length_drop, List.length_append]; omega)
  | (constructor <;> omega)
  | assumption)
local macro_rules | `(tactic| walk_at "sp") => `(tactic| first | assumption)

section
variable {P : Program} {w : World} {K : PySem.W.Frag} {mg : Str → Option Value} {base : Heap}
theorem q_pair {te : TE} {tz : TS} {D : Ends} {σ : L2.St} {H : Hp} {i j : Nat} {p : Addr} {x0 x1 : V} (h : Ev te σ H (.ref p)) (hs : SqT K H p [x0, x1]) (k : ∀ H1, Ex H H1 → tz D ((σ.set i (some x0)).set j (some x1)) H1) :
    tSeq (tAsg te (gTup K 2 (gCons (gName i) (gCons (gName j) gNil)))) tz D σ H := h H (Ex.refl H) _ fun H1 e => ⟨p, _, rfl, ex_t e hs, rfl, _, _, rfl, _, _, rfl, rfl, k H1 e⟩
theorem isDeed_law {n : Nat} {t : Tx} (hz : t.length ≤ 999) (s0 : Str) (d1 : PyData) : isDeedM n t (.tuple [.str s0, d1]) = ((decide (s0 = "copy") && wholeD d1 0 ((t.length : Int) - n)) || (decide (s0 = "undo") && (wholeD d1 0 999 && isdb n t (natD d1)))) := by
  show (if s0 = "copy" then wholeD d1 0 ((t.length : Int) - n) else (decide (s0 = "undo") && (wholeD d1 0 t.length && decide (natD d1 ∈ dbls n t)))) = _
  by_cases hs : s0 = "copy"
  · rw [if_pos hs, decide_eq_true hs, decide_eq_false (show ¬ s0 = "undo" by rw [hs]; decide +kernel), Bool.true_and, Bool.false_and, Bool.or_false]
  · rw [if_neg hs, decide_eq_false hs, Bool.false_and, Bool.false_or]
    congr 1
    rw [Bool.eq_iff_iff, Bool.and_eq_true, Bool.and_eq_true, decide_eq_true_iff, mem_dbls]
    constructor
    · rintro ⟨h1, h2⟩
      obtain ⟨i, rfl, a, b⟩ := wholeD_int h1
      refine ⟨?_, h2⟩
      show (decide ((0 : Int) ≤ i) && decide (i ≤ 999)) = true
      rw [Bool.and_eq_true, decide_eq_true_iff, decide_eq_true_iff]
      omega
    · rintro ⟨h1, h2⟩
      obtain ⟨i, rfl, a, b⟩ := wholeD_int h1
      refine ⟨?_, h2⟩
      unfold isdb at h2
      have h3 := of_decide_eq_true (Bool.and_eq_true_iff.mp h2).1
      have h3 : i.toNat + 2 * n ≤ t.length := h3
      show (decide ((0 : Int) ≤ i) && decide (i ≤ (t.length : Int))) = true
      rw [Bool.and_eq_true, decide_eq_true_iff, decide_eq_true_iff]
      omega
def oV : Option Tx → V
  | some t => tv t
  | none => .non
def spLed (K : PySem.W.Frag) : Sp := fun vs H Q _ => ∃ (t : Tx) (n : Nat) (v : V) (ds : List PyData), vs = [tv t, iv n, v] ∧ Ok t ∧ t.length ≤ 60 ∧ 1 ≤ n ∧ n ≤ 6 ∧ Od K H v (.tuple ds) ∧ ds.length ≤ 150 ∧ RetV (oV (ledGo n t ds)) H Q
theorem ok_led (T : Topf mg) (F : FnP K mg "_law_led" s_l_led) (C_l_is_int : Cal P w K mg base CX0 1 "_law_is_int" ["_law_thing", "_law_low", "_law_high"] (spWhole K)) (C_l_is_twice : Cal P w K mg base CX0 1 "_law_is_twice" ["_law_text", "_law_wide", "_law_at"] spTw) : Cal P w K mg base CX0 2 "_law_led" ["_law_text", "_law_wide", "_law_row"] (spLed K) := by
  refine cal_mk F sc_l_led (fun vs H Q E h => ?_) (fun _ _ _ _ _ _ us hl => match us, hl with | [_, _, _], _ => rfl) (fun f cdv A outer s H vs Q E hr h => ?_)
  · obtain ⟨t, n, v, ds, rfl, _⟩ := h; rfl
  · obtain ⟨a, n, v, ds, rfl, ho0, hz0, h1, h6, hd, hdz, q⟩ := h
    refine ⟨_, (pss_cons (ps_for PassesOwn.never rfl (k_pit (K := K) rfl (pv 2)) (pg_name (i := 3) sc_l_led.nd rfl (Or.inl rfl))
        (pss_cons (ps_if (PW.pt (pw_or (pt_not (pt_val (pe_callB (k_isi (K := K) rfl) (by rfl) T.b_isinstance (by decide +kernel) (pa_cons (pv 3) (pa_cons (pe_tyb (n := "tuple") rfl T.b_tuple (by decide +kernel)) pa_nil))))) (pw_or (pt_cmpR op_ne (pe_callB (k_len (K := K) rfl) (by rfl) T.b_len (by decide +kernel) (pa_cons (pv 3) pa_nil)) pe_int (nomark _)) (pw_or1 (pt_not (pt_val (pe_callB (k_isi (K := K) rfl) (by rfl) T.b_isinstance (by decide +kernel) (pa_cons (pe_ix (k_ixT (K := K) rfl) (pv 3) pe_int (fun _ _ => rfl)) (pa_cons (pe_tyb (n := "str") rfl T.b_str (by decide +kernel)) pa_nil))))))))) (pss_one (ps_ret pe_non)) pss_nil)
          (pss_cons (ps_asg (pv 3) (k_pgtup (K := K) (n := 2) rfl (by rfl) (pgs_cons (pg_name (i := 4) sc_l_led.nd rfl (Or.inl rfl)) (pgs_cons (pg_name (i := 5) sc_l_led.nd rfl (Or.inl rfl)) pgs_nil))))
          (pss_one (ps_if (PW.pt (pw_and (pt_cmpR op_eq (pv 4) pe_str (nomark _)) (pw_and1 (pt_val (pe_c C_l_is_int (hr.mono (by decide)) rfl (pa_cons (pv 5) (pa_cons pe_int (pa_cons (pe_op op_sub (pe_callB call_len_str (by rfl) T.b_len (by decide +kernel) (pa_cons (pv 0) pa_nil)) (pv 1)) pa_nil)))))))) (pss_one (ps_set (i := 0) sc_l_led.nd rfl (Or.inl rfl) (pe_op op_add_str (pe_slice sl_str (pv 0) po_none (po_some (pe_op op_add (pv 5) (pv 1)))) (pe_slice sl_str (pv 0) (po_some (pv 5)) po_none)))) (pss_one (ps_if (PW.pt (pw_and (pt_cmpR op_eq (pv 4) pe_str (nomark _)) (pw_and (pt_val (pe_c C_l_is_int (hr.mono (by decide)) rfl (pa_cons (pv 5) (pa_cons pe_int (pa_cons pe_int pa_nil))))) (pw_and1 (pt_val (pe_c C_l_is_twice (hr.mono (by decide)) rfl (pa_cons (pv 0) (pa_cons (pv 1) (pa_cons (pv 5) pa_nil))))))))) (pss_one (ps_set (i := 0) sc_l_led.nd rfl (Or.inl rfl) (pe_op op_add_str (pe_slice sl_str (pv 0) po_none (po_some (pe_op op_add (pv 5) (pv 1)))) (pe_slice sl_str (pv 0) (po_some (pe_op op_add (pv 5) (pe_op op_mul pe_int (pv 1)))) po_none)))) (pss_one (ps_ret pe_non)))))))))
      (pss_one (ps_ret (pv 0)))), ?_⟩
    cases hd with
    | tup hs has =>
      rename_i p xs
      have hll := oda_len has
      have hS := src_T (K := K) (j := 3) (σ := start N_l_led [tv a, iv n, .ref p]) (H := H) (tl := tVar 2) (ev_var (v := .ref p) rfl) hs
      refine q_forS hS (fun i σ' => ∃ t y3 y4 y5, σ' = [some (tv t), some (iv n), some (.ref p), y3, y4, y5] ∧ Ok t ∧ t.length ≤ 60 + i * 6 ∧ ledGo n a ds = ledGo n t (ds.drop i)) ⟨a, _, _, _, rfl, ho0, by omega, rfl⟩ ?_ ?_
      · intro B i σ' H' hi eB eH pv
        obtain ⟨t, y3, y4, y5, rfl, ho, hzt, hgo⟩ := pv
        have hi2 : i < ds.length := by omega
        rw [getD_at hi]
        have e13 := eB.trans eH
        have hdi : Od K H' xs[i] ds[i] := (oda_get has i hi hi2).mono e13
        have hdr : ds.drop i = ds[i] :: ds.drop (i + 1) := List.drop_eq_getElem_cons hi2
        rw [hdr] at hgo
        generalize xs[i] = x at hdi
        generalize ds[i] = di at hdi hgo
        have qn : isDeedM n t di = false → ∀ H2, Ex H H2 → Q .non H2 := fun hb H2 e => by
          have hn : ledGo n a ds = none := by
            rw [hgo]
            show (if isDeedM n t di then _ else none) = none
            rw [hb]; rfl
          rw [hn] at q
          exact q H2 e
        have hv : Ev (tVar 3) [some (tv t), some (iv n), some (.ref p), some x, y4, y5] H' x := ev_var rfl
        have hk := hdi.knd
        by_cases hm : ∃ s y, di = .tuple [.str s, y]
        · obtain ⟨s0, d1, rfl⟩ := hm
          cases hdi with
          | tup hs2 has2 =>
            rename_i p2 xs2
            cases has2 with
            | cons h0 hr0 =>
              cases h0
              cases hr0 with
              | cons h1' hr1 =>
                rename_i x1 xr1
                cases hr1
                refine q_when (b := false) ?_ (fun z => by cases z) fun _ H4 e4 => ?_
                · refine et_is (et_or (a := false) (b := false) (et_is (et_not (et_B (ev_isTup hv hk))) rfl) fun _ => ?_) rfl
                  refine et_is (et_or (a := false) (b := false) (et_B (ev_is (ev_ne (ev_lenT hv hs2) ev_c rfl) rfl)) fun _ => ?_) rfl
                  exact et_is (et_not (et_B (ev_isStr (ev_op (ev_var (v := .ref p2) rfl) ev_c (rv_ixT hs2 (atI_nat (j := 0) rfl))) (.str s0)))) rfl
                refine q_pair (ev_var rfl) (ex_t e4 hs2) fun H5 e5 => ?_
                have hsc : decide (V.str s0 = V.str "copy") = decide (s0 = "copy") := by
                  rw [decide_eq_decide]; exact ⟨fun e => V.str.inj e, fun e => by rw [e]⟩
                have hsu : decide (V.str s0 = V.str "undo") = decide (s0 = "undo") := by
                  rw [decide_eq_decide]; exact ⟨fun e => V.str.inj e, fun e => by rw [e]⟩
                have h15 := h1'.mono (e4.trans e5)
                have e15 := eH.trans (e4.trans e5)
                have hlaw := isDeed_law (n := n) (t := t) (by omega) s0 d1
                refine s_if (b := decide (s0 = "copy") && wholeD d1 0 ((t.length : Int) - n)) (et_and (et_B (ev_is (ev_eq (ev_var rfl) ev_c rfl) (by rw [hsc]))) fun _ => et_B (ev_is (ev_cl (ea_cons (ev_var rfl) (ea_cons ev_c (ea_cons (ev_I0 (ev_lenS (ev_var rfl) (by omega)) (ev_var rfl)) ea_nil))) (sv_whole h15.knd)) (by rw [whole_eq h15]))) (fun hc H6 e6 => ?_) fun hc H6 e6 => ?_
                · obtain ⟨k1, k2⟩ := Bool.and_eq_true_iff.mp hc
                  have hb : isDeedM n t (.tuple [.str s0, d1]) = true := by rw [hlaw, hc]; rfl
                  obtain ⟨i0, rfl, hi0, _⟩ := wholeD_int k2
                  cases h15
                  have hdo : doD n t (.tuple [.str s0, .int i0]) = cop n t i0.toNat := by
                    show opM n (decide (s0 = "copy")) t i0.toNat = _
                    rw [k1]; rfl
                  have hgo2 : ledGo n a ds = ledGo n (cop n t i0.toNat) (ds.drop (i + 1)) := by
                    rw [hgo, ← hdo]
                    show (if isDeedM n t _ then _ else none) = _
                    rw [hb]; rfl
                  have hii : V.int i0 = iv i0.toNat := by congr 1; omega
                  have hlen := cop_le n i0.toNat t
                  refine s_asg (v := tv (cop n t i0.toNat)) (ev_cop (ev_var rfl) (ev_is (ev_I0 (i := i0) (j := (n : Int)) (ev_var rfl) (ev_var rfl)) (by congr 1; omega)) (ev_is (v := .int i0) (ev_var rfl) hii) (by omega)) fun H7 e7 => ⟨e15.trans (e6.trans e7), _, _, _, _, rfl, cop_ok ho, by omega, hgo2⟩
                · refine s_if (b := decide (s0 = "undo") && (wholeD d1 0 999 && isdb n t (natD d1))) (et_and (et_B (ev_is (ev_eq (ev_var rfl) ev_c rfl) (by rw [hsu]))) fun _ => et_and (et_B (ev_is (ev_cl (ea_cons (ev_var rfl) (ea_cons ev_c (ea_cons ev_c ea_nil))) (sv_whole (h15.mono e6).knd)) (by rw [whole_eq h15]))) fun hw => ?_) (fun hc2 H7 e7 => ?_) fun hc2 H7 e7 => ?_
                  · obtain ⟨i0, rfl, hi0, _⟩ := wholeD_int hw
                    cases h15
                    exact et_B (ev_cl (ea_cons (ev_var rfl) (ea_cons (ev_var rfl) (ea_cons (ev_is (v := .int i0) (ev_var rfl) (show V.int i0 = iv i0.toNat by congr 1; omega)) ea_nil))) fun H8 e8 Q8 q8 E8 => ⟨t, n, i0.toNat, rfl, by omega, by omega, q8⟩)
                  · obtain ⟨k1, k23⟩ := Bool.and_eq_true_iff.mp hc2
                    obtain ⟨k2, k3⟩ := Bool.and_eq_true_iff.mp k23
                    have hb : isDeedM n t (.tuple [.str s0, d1]) = true := by rw [hlaw, hc2, Bool.or_true]
                    obtain ⟨i0, rfl, hi0, _⟩ := wholeD_int k2
                    cases h15
                    have hs0 : s0 = "undo" := of_decide_eq_true k1
                    have hdo : doD n t (.tuple [.str s0, .int i0]) = und n t i0.toNat := by
                      show opM n (decide (s0 = "copy")) t i0.toNat = _
                      rw [hs0, decide_eq_false (by decide +kernel)]; rfl
                    have hgo2 : ledGo n a ds = ledGo n (und n t i0.toNat) (ds.drop (i + 1)) := by
                      rw [hgo, ← hdo]
                      show (if isDeedM n t _ then _ else none) = _
                      rw [hb]; rfl
                    have hlen := und_le n i0.toNat t
                    refine s_asg (v := tv (und n t i0.toNat)) (ev_und (ev_var rfl) (ev_is (ev_I0 (i := i0) (j := (n : Int)) (ev_var rfl) (ev_var rfl)) (by congr 1; omega)) (ev_is (ev_I0 (i := i0) (j := 2 * (n : Int)) (ev_var rfl) (ev_I ev_c (ev_var rfl) (.inl ⟨by decide, by decide⟩))) (by congr 1; omega)) (by omega)) fun H8 e8 => ⟨e15.trans (e6.trans (e7.trans e8)), _, _, _, _, rfl, und_ok ho, by omega, hgo2⟩
                  · have hb' : isDeedM n t (.tuple [.str s0, d1]) = false := by rw [hlaw, hc, hc2]; rfl
                    exact s_ret ev_c fun H8 e8 => qn hb' H8 (e13.trans (e4.trans (e5.trans (e6.trans (e7.trans e8)))))
        · have hm0 : isDeedM n t di = false := by
            unfold isDeedM
            split
            · exact absurd ⟨_, _, rfl⟩ hm
            · rfl
          refine q_when (b := true) ?_ (fun _ H1 e1 => s_ret ev_c fun H2 e2 => qn hm0 H2 (e13.trans (e1.trans e2))) (fun z => by cases z)
          by_cases ht : kindN di = "tuple"
          · obtain ⟨ds2, rfl⟩ := kind_tup ht
            cases hdi with
            | tup hs has2 =>
              rename_i a2 xs2
              refine et_is (et_or (a := false) (b := true) (et_is (et_not (et_B (ev_isTup hv hk))) rfl) fun _ => ?_) rfl
              have hll2 := oda_len has2
              by_cases h2 : xs2.length = 2
              · refine et_is (et_or (a := false) (b := true) (et_B (ev_is (ev_ne (ev_lenT hv hs) ev_c rfl) ?_)) fun _ => ?_) rfl
                · rw [show ((xs2.length : Nat) : Int) = 2 by omega]; rfl
                · obtain ⟨x0, x1, d0, d1, rfl, rfl, h0⟩ := oda_two has2 h2
                  have hk0 : kindN d0 ≠ "str" := kind_not_str fun s e => hm ⟨s, d1, by rw [e]⟩
                  refine et_is (et_not (et_B (ev_isStr (ev_op (ev_var (v := .ref a2) rfl) ev_c (rv_ixT hs (atI_nat (j := 0) rfl))) h0.knd))) ?_
                  rw [beq_eq_false_iff_ne.mpr hk0]; rfl
              · refine et_is (et_or (a := true) (b := true) (et_B (ev_is (ev_ne (ev_lenT hv hs) ev_c rfl) ?_)) (fun z => by cases z)) rfl
                congr 1
                rw [Bool.not_eq_true', decide_eq_false_iff_not]
                intro e
                exact h2 (by have := V.int.inj e; omega)
          · refine et_is (et_or (a := true) (b := true) (et_is (et_not (et_B (ev_isTup hv hk))) ?_) (fun z => by cases z)) rfl
            rw [beq_eq_false_iff_ne.mpr ht]; rfl
      · intro σ' H' eH pv
        obtain ⟨t, y3, y4, y5, rfl, ho, hzt, hgo⟩ := pv
        rw [hll, List.drop_length] at hgo
        have hgo : ledGo n a ds = some t := hgo
        rw [hgo] at q
        exact s_ret (ev_var rfl) fun H2 e2 => q H2 (eH.trans e2)
end
end K9
namespace K9
open PySem PySem.Spec PyProof.Rows L2 Evl
local macro_rules | `(tactic| walk_at "ev") => `(tactic| first
  | with_reducible exact ev_c
  | ((with_reducible refine' ev_var ?k0); (case k0 => exact rfl))
  | with_reducible assumption
  | ((with_reducible refine' ev_lenS ?k0 ?k1); (case k0 => walk_at "ev"); (case k1 => walk_at "sz"))
  | ((with_reducible refine' ev_I0 ?k0 ?k1); (case k0 => walk_at "ev"); (case k1 => walk_at "ev"))
  | ((with_reducible refine' ev_I ?k0 ?k1 ?k2); (case k0 => walk_at "ev"); (case k1 => walk_at "ev"); (case k2 => walk_at "sz"))
  | ((with_reducible refine' ev_eq ?k0 ?k1 ?k2); (case k0 => walk_at "ev"); (case k1 => walk_at "ev"); (case k2 => walk_at "sz"))
  | ((with_reducible refine' ev_ne ?k0 ?k1 ?k2); (case k0 => walk_at "ev"); (case k1 => walk_at "ev"); (case k2 => walk_at "sz"))
  | ((with_reducible refine' ev_slTo ?k0 ?k1 ?k2 ?k3); (case k0 => walk_at "ev"); (case k1 => walk_at "ev"); (case k2 => walk_at "sz"); (case k3 => walk_at "sz"))
  | ((with_reducible refine' ev_slFrom ?k0 ?k1 ?k2 ?k3); (case k0 => walk_at "ev"); (case k1 => walk_at "ev"); (case k2 => walk_at "sz"); (case k3 => walk_at "sz"))
  | ((with_reducible refine' ev_slMid ?k0 ?k1 ?k2 ?k3 ?k4 ?k5); (case k0 => walk_at "ev"); (case k1 => walk_at "ev"); (case k2 => walk_at "ev"); (case k3 => walk_at "sz"); (case k4 => walk_at "sz"); (case k5 => walk_at "sz"))
  | ((with_reducible refine' ev_addS ?k0 ?k1 ?k2); (case k0 => walk_at "ev"); (case k1 => walk_at "ev"); (case k2 => walk_at "sz"))
  | ((with_reducible refine' ev_cl ?k0 ?k1); (case k0 => walk_at "ea"); (case k1 => walk_at "sp"))
  | ((with_reducible refine' ev_notV ?k0); (case k0 => walk_at "ev"))
  | ((with_reducible refine' ev_un ?k0 ru_neg); (case k0 => walk_at "ev")))
local macro_rules | `(tactic| walk_at "ea") => `(tactic| first
  | with_reducible exact ea_nil
  | ((with_reducible refine' ea_cons ?k0 ?k1); (case k0 => walk_at "ev"); (case k1 => walk_at "ea")))
local macro_rules | `(tactic| walk_at "et") => `(tactic| first
  | with_reducible assumption
  | ((with_reducible refine' et_test ?k0); (case k0 => walk_at "ev"))
  | ((with_reducible refine' et_B ?k0); (case k0 => walk_at "ev"))
  | ((with_reducible refine' et_not ?k0); (case k0 => walk_at "et")))
local macro_rules | `(tactic| walk_at "sz") => `(tactic| first
  | rfl
  | omega
  | (simp only [List.length_take, List.length_drop, List.length_append]; omega)
  | (constructor <;> omega)
  | assumption)
local macro_rules | `(tactic| walk_at "sp") => `(tactic| first | assumption)

/-- the new objects alone -/
def nw (H0 H : Hp) : Hp := fun a => if H0 a = none then noT H a else none
theorem nw_ex (H0 H : Hp) : Ex (nw H0 H) H := fun a o e => by
  unfold nw at e
  by_cases z : H0 a = none
  · rw [if_pos z] at e; exact noT_ex H _ _ e
  · rw [if_neg z] at e; cases e
theorem nw_noT (H0 H : Hp) : Ex (nw H0 H) (noT H) := fun a o e => by
  unfold nw at e
  by_cases z : H0 a = none
  · rw [if_pos z] at e; exact e
  · rw [if_neg z] at e; cases e
theorem nw_mono {H0 H H' : Hp} (e : Ex H H') : Ex (nw H0 H) (nw H0 H') := fun a o h => by
  unfold nw at h ⊢
  by_cases z : H0 a = none
  · rw [if_pos z] at h ⊢; exact noT_mono e _ _ h
  · rw [if_neg z] at h; cases h
theorem nw_new {H0 H : Hp} {p : Addr} {o : HO} (h0 : H0 p = none) (n : ∀ ps, o ≠ .tbl ps) : nw H0 (upd H p o) p = some o := by
  unfold nw
  rw [if_pos h0]
  exact noT_of upd_same n
/-- a value told as data of any kind, made of new objects -/
def EvO (K : PySem.W.Frag) (H0 : Hp) (te : TE) (σ : L2.St) (H : Hp) (d : PyData) : Prop := ∀ H1, Ex H H1 → Ex H0 H1 → ∀ Q : VK, (∀ v H2, Ex H1 H2 → Od K (nw H0 H2) v d → Q v H2) → te σ H1 Q
def EvAO (K : PySem.W.Frag) (H0 : Hp) (ta : TA) (σ : L2.St) (H : Hp) (ds : List PyData) : Prop := ∀ H1, Ex H H1 → Ex H0 H1 → ∀ Q : List V → Hp → Prop, (∀ vs H2, Ex H1 H2 → OdAll K (nw H0 H2) vs ds → Q vs H2) → ta σ H1 Q
/-- a new list of such -/
def EvLO (K : PySem.W.Frag) (H0 : Hp) (te : TE) (σ : L2.St) (H : Hp) (ds : List PyData) : Prop := ∀ H1, Ex H H1 → Ex H0 H1 → ∀ Q : VK, (∀ p xs H2, H1 p = none → Ex H1 H2 → H2 p = some (.lst xs) → OdAll K (nw H0 H2) xs ds → Q (.ref p) H2) → te σ H1 Q
section
variable {K : PySem.W.Frag} {σ : L2.St} {H H0 : Hp} {te ta tb : TE} {t tr : TA} {d : PyData} {ds es : List PyData} {D : Ends} {tz : TS}
theorem eo_ev {v : V} (h : Ev te σ H v) (hd : ∀ H', Od K H' v d) : EvO K H0 te σ H d := fun H1 e e0 Q q => h H1 e _ fun H2 e2 => q v H2 e2 (hd _)
theorem ao_nil : EvAO K H0 tNil σ H [] := fun H1 _ _ Q q => q _ H1 (Ex.refl H1) .nil
theorem ao_cons (h : EvO K H0 te σ H d) (hr : EvAO K H0 tr σ H ds) : EvAO K H0 (tCons te tr) σ H (d :: ds) := fun H1 e e0 Q q =>
  h H1 e e0 _ fun v H2 e2 hv => hr H2 (e.trans e2) (e0.trans e2) _ fun vs H3 e3 hs => q _ H3 (e2.trans e3) (.cons (Od.mono (nw_mono e3) hv) hs)
theorem lo_lst (h : EvAO K H0 t σ H ds) (hz : ds.length ≤ 100000) : EvLO K H0 (tLst t) σ H ds := fun H1 e e0 Q q =>
  h H1 e e0 _ fun vs H2 e2 hs => ⟨by rw [oda_len hs]; exact sz60 (by omega), fun p hp => q p vs _ (fresh_back e2 hp) (e2.trans (Ex.new hp)) upd_same (OdAll.mono (nw_mono (Ex.new hp)) hs)⟩
theorem eo_lst (h : EvAO K H0 t σ H ds) (hz : ds.length ≤ 100000) : EvO K H0 (tLst t) σ H (.list ds) := fun H1 e e0 Q q =>
  h H1 e e0 _ fun vs H2 e2 hs => ⟨by rw [oda_len hs]; exact sz60 (by omega), fun p hp => q _ _ (e2.trans (Ex.new hp)) (.lst (SqL.of (nw_new (fresh_back (e0.trans e2) hp) (fun ps z => by cases z))) (OdAll.mono (nw_mono (Ex.new hp)) hs))⟩
theorem eo_tup (h : EvAO K H0 t σ H ds) (hz : ds.length ≤ 100000) : EvO K H0 (tTup t) σ H (.tuple ds) := fun H1 e e0 Q q =>
  h H1 e e0 _ fun vs H2 e2 hs => ⟨by rw [oda_len hs]; exact sz60 (by omega), fun p hp => q _ _ (e2.trans (Ex.new hp)) (.tup (SqT.of (nw_new (fresh_back (e0.trans e2) hp) (fun ps z => by cases z))) (OdAll.mono (nw_mono (Ex.new hp)) hs))⟩
theorem eo_dic : EvO K H0 tDNewK σ H (.dict []) := fun H1 e e0 Q q => fun p hp => q _ _ (Ex.new hp) (.dic (nw_new (fresh_back e0 hp) (fun ps z => by cases z)))
theorem oda_app : ∀ {vs ws : List V} {ds es : List PyData}, OdAll K H vs ds → OdAll K H ws es → OdAll K H (vs ++ ws) (ds ++ es)
  | _, _, _, _, .nil, h => h
  | _, _, _, _, .cons a b, h => .cons a (oda_app b h)
theorem lo_catV {p : Addr} {xs : List V} (h : Ev ta σ H (.ref p)) (hp : H p = some (.lst xs)) (hd : OdAll K (nw H0 H) xs ds) (h2 : EvLO K H0 tb σ H es) (hz : ds.length + es.length ≤ 100000) : EvLO K H0 (tOp rCat ta tb) σ H (ds ++ es) := fun H1 e e0 Q q =>
  h H1 e _ fun H2 e2 => h2 H2 (e.trans e2) (e0.trans e2) _ fun p2 ys H3 hp2 e3 hy hd2 => ⟨p, p2, xs, ys, rfl, rfl, (e.trans (e2.trans e3)) _ _ hp, hy, by rw [oda_len hd, oda_len hd2]; exact sz60 (by omega), fun r hr =>
    q r _ _ (fresh_back (e2.trans e3) hr) ((e2.trans e3).trans (Ex.new hr)) upd_same (OdAll.mono (nw_mono (Ex.new hr)) (oda_app (OdAll.mono (nw_mono (e.trans (e2.trans e3))) hd) hd2))⟩
theorem lo_cat (h : EvLO K H0 ta σ H ds) (h2 : EvLO K H0 tb σ H es) (hz : ds.length + es.length ≤ 100000) : EvLO K H0 (tOp rCat ta tb) σ H (ds ++ es) := fun H1 e e0 Q q =>
  h H1 e e0 _ fun p xs H2 hp e2 hx hd => h2 H2 (e.trans e2) (e0.trans e2) _ fun p2 ys H3 hp2 e3 hy hd2 => ⟨p, p2, xs, ys, rfl, rfl, e3 _ _ hx, hy, by rw [oda_len hd, oda_len hd2]; exact sz60 (by omega), fun r hr =>
    q r _ _ (fresh_back (e2.trans e3) hr) ((e2.trans e3).trans (Ex.new hr)) upd_same (OdAll.mono (nw_mono (Ex.new hr)) (oda_app (OdAll.mono (nw_mono e3) hd) hd2))⟩
theorem q_asgLO {i : Nat} (e0 : Ex H0 H) (h : EvLO K H0 te σ H ds) (k : ∀ p xs H1, H p = none → Ex H H1 → H1 p = some (.lst xs) → OdAll K (nw H0 H1) xs ds → tz D (σ.set i (some (.ref p))) H1) : tSeq (tAsg te (gName i)) tz D σ H := h H (Ex.refl H) e0 _ k
theorem s_retLO (e0 : Ex H0 H) (h : EvLO K H0 te σ H ds) (k : ∀ p xs H1, H p = none → Ex H H1 → H1 p = some (.lst xs) → OdAll K (nw H0 H1) xs ds → D.rt (.ref p) H1) : tRet te D σ H := h H (Ex.refl H) e0 _ k
end
def oddsA : List PyData := [.none, .int 0, .int 1, .int (-1), .int 7, .bool true, .str "", .str "abc", .str "g", .str "A", .str "a b", .tuple [], .tuple [.int 0], .tuple [.str "a"], .list [], .list [.str "a"], .dict [], .int (10 ^ 30)]
def oddsB (s : Str) : List PyData := [.str s, .str "copies", .tuple [.str "copies"], .tuple [.str "head"], .tuple [.str "run", .int 0], .tuple [.tuple [.int 0]], .tuple [.int 1, .int 2], .str "\n"]
def noN1 : PyData → Bool
  | .none => false
  | _ => true
mutual
/-- no list in it holds a None -/
def cl : PyData → Bool
  | .list ds => ds.all noN1 && clAll ds
  | .tuple ds => clAll ds
  | _ => true
def clAll : List PyData → Bool
  | [] => true
  | d :: ds => cl d && clAll ds
end
def spOdds (K : PySem.W.Frag) : Sp := fun vs H Q _ => vs = [] ∧ ∀ p xs H2 ds, H p = none → Ex H H2 → H2 p = some (.lst xs) → OdAll K (nw H H2) xs ds → ds.length = 26 → clAll ds = true → Q (.ref p) H2
/-- a text times a number -/
theorem op_repS {X : Cx} : OpR X (binaryOp .Mult) (fun x y H Q => ∃ s k, x = .str s ∧ y = .int k ∧ s.length ≤ 16 ∧ 0 ≤ k ∧ k ≤ 1048576 ∧ Q (.str (PySem.Txt.mul s k)) H) := by
  intro pins s σ H x y v u Q I rx ry h
  obtain ⟨z, k, rfl, rfl, h1, h2, h3, q⟩ := h
  obtain ⟨t, rfl⟩ := rx
  obtain ⟨t2, rfl⟩ := ry
  exact PySem.W.KXi.mul rfl h1 (by omega) (by omega) fun t' k' _ _ => ⟨.str _, H, I.tok _, ⟨_, rfl⟩, q⟩
theorem ev_repS {ta tb : TE} {σ : L2.St} {H : Hp} {z : Str} {k : Int} (h : Ev ta σ H (.str z)) (h2 : Ev tb σ H (.int k)) (h1 : z.length ≤ 16) (h0 : 0 ≤ k) (h3 : k ≤ 1048576) : Ev (tOp (fun x y H Q => ∃ s k, x = .str s ∧ y = .int k ∧ s.length ≤ 16 ∧ 0 ≤ k ∧ k ≤ 1048576 ∧ Q (.str (PySem.Txt.mul s k)) H) ta tb) σ H (.str (PySem.Txt.mul z k)) := fun H1 e Q q =>
  h H1 e _ fun H2 e2 => h2 H2 (e.trans e2) _ fun H3 e3 => ⟨z, k, rfl, rfl, h1, h0, h3, q H3 (e2.trans e3)⟩
section
variable {P : Program} {w : World} {K : PySem.W.Frag} {mg : Str → Option Value} {base : Heap}
theorem ok_odds (T : Topf mg) (F : FnP K mg "_law_odds" s_l_odds) : Cal P w K mg base CX0 1 "_law_odds" [] (spOdds K) := by
  refine cal_mk F sc_l_odds (fun vs H Q E h => ?_) (fun _ _ _ _ _ _ us hl => match us, hl with | [], _ => rfl) (fun f cdv A outer s H vs Q E hr h => ?_)
  · obtain ⟨rfl, _⟩ := h; rfl
  · obtain ⟨rfl, q⟩ := h
    refine ⟨_, (pss_cons (ps_set (i := 0) sc_l_odds.nd rfl (Or.inl rfl) (pe_lst (pa_cons pe_non (pa_cons pe_int (pa_cons pe_int (pa_cons (pe_un un_neg pe_int) (pa_cons pe_int (pa_cons pe_bl (pa_cons pe_str (pa_cons pe_str (pa_cons pe_str (pa_cons pe_str (pa_cons pe_str (pa_cons (pe_tup pa_nil) (pa_cons (pe_tup (pa_cons pe_int pa_nil)) (pa_cons (pe_tup (pa_cons pe_str pa_nil)) (pa_cons (pe_lst pa_nil) (pa_cons (pe_lst (pa_cons pe_str pa_nil)) (pa_cons pe_dnewK (pa_cons (pe_op op_pow pe_int pe_int) pa_nil))))))))))))))))))))
      (pss_one (ps_ret (pe_op op_cat (pv 0) (pe_lst (pa_cons (pe_op op_repS pe_str pe_int) (pa_cons pe_str (pa_cons (pe_tup (pa_cons pe_str pa_nil)) (pa_cons (pe_tup (pa_cons pe_str pa_nil)) (pa_cons (pe_tup (pa_cons pe_str (pa_cons pe_int pa_nil))) (pa_cons (pe_tup (pa_cons (pe_tup (pa_cons pe_int pa_nil)) pa_nil)) (pa_cons (pe_tup (pa_cons pe_int (pa_cons pe_int pa_nil))) (pa_cons pe_str pa_nil))))))))))))), ?_⟩
    have i : ∀ {i : Int} {H' : Hp} {σ : L2.St}, EvO K H (tC (.int i)) σ H' (.int i) := fun {i H' σ} => eo_ev ev_c (fun _ => .int i)
    have z : ∀ {z : Str} {H' : Hp} {σ : L2.St}, EvO K H (tC (.str z)) σ H' (.str z) := fun {z H' σ} => eo_ev ev_c (fun _ => .str z)
    refine q_asgLO (K := K) (H0 := H) (ds := oddsA) (Ex.refl H) (lo_lst (ao_cons (eo_ev ev_c (fun _ => .non)) (ao_cons i (ao_cons i (ao_cons (eo_ev (ev_un ev_c ru_neg) (fun _ => .int _)) (ao_cons i (ao_cons (eo_ev ev_c (fun _ => .bl _)) (ao_cons z (ao_cons z (ao_cons z (ao_cons z (ao_cons z (ao_cons (eo_tup ao_nil (by decide)) (ao_cons (eo_tup (ao_cons i ao_nil) (by decide)) (ao_cons (eo_tup (ao_cons z ao_nil) (by decide)) (ao_cons (eo_lst ao_nil (by decide)) (ao_cons (eo_lst (ao_cons z ao_nil) (by decide)) (ao_cons eo_dic (ao_cons (eo_ev (ev_I ev_c ev_c ⟨by decide, by decide, by decide⟩) (fun _ => .int _)) ao_nil)))))))))))))))))) (by decide)) fun p xs H1 hp e1 hx hd => ?_
    refine s_retLO (K := K) (H0 := H) e1 (ds := oddsA ++ oddsB (PySem.Txt.mul "a" 61)) (lo_catV (ev_var rfl) hx hd (lo_lst (ao_cons (eo_ev (ev_repS ev_c ev_c (by decide +kernel) (by decide) (by decide)) (fun _ => .str _)) (ao_cons z (ao_cons (eo_tup (ao_cons z ao_nil) (by decide)) (ao_cons (eo_tup (ao_cons z ao_nil) (by decide)) (ao_cons (eo_tup (ao_cons z (ao_cons i ao_nil)) (by decide)) (ao_cons (eo_tup (ao_cons (eo_tup (ao_cons i ao_nil) (by decide)) ao_nil) (by decide)) (ao_cons (eo_tup (ao_cons i (ao_cons i ao_nil)) (by decide)) (ao_cons z ao_nil)))))))) (by decide)) (by decide)) fun p2 ys H2 hp2 e2 hy hd2 => q p2 ys H2 _ (fresh_back e1 hp2) (e1.trans e2) hy hd2 rfl (by simp [oddsA, oddsB, clAll, cl, noN1])
end
end K9
namespace K9
open PySem PySem.Spec PyProof.Rows L2 Evl
local macro_rules | `(tactic| walk_at "ev") => `(tactic| first
  | with_reducible exact ev_c
  | ((with_reducible refine' ev_var ?k0); (case k0 => exact rfl))
  | with_reducible assumption
  | ((with_reducible refine' ev_lenS ?k0 ?k1); (case k0 => walk_at "ev"); (case k1 => walk_at "sz"))
  | ((with_reducible refine' ev_I0 ?k0 ?k1); (case k0 => walk_at "ev"); (case k1 => walk_at "ev"))
  | ((with_reducible refine' ev_I ?k0 ?k1 ?k2); (case k0 => walk_at "ev"); (case k1 => walk_at "ev"); (case k2 => walk_at "sz"))
  | ((with_reducible refine' ev_eq ?k0 ?k1 ?k2); (case k0 => walk_at "ev"); (case k1 => walk_at "ev"); (case k2 => walk_at "sz"))
  | ((with_reducible refine' ev_ne ?k0 ?k1 ?k2); (case k0 => walk_at "ev"); (case k1 => walk_at "ev"); (case k2 => walk_at "sz"))
  | ((with_reducible refine' ev_slTo ?k0 ?k1 ?k2 ?k3); (case k0 => walk_at "ev"); (case k1 => walk_at "ev"); (case k2 => walk_at "sz"); (case k3 => walk_at "sz"))
  | ((with_reducible refine' ev_slFrom ?k0 ?k1 ?k2 ?k3); (case k0 => walk_at "ev"); (case k1 => walk_at "ev"); (case k2 => walk_at "sz"); (case k3 => walk_at "sz"))
  | ((with_reducible refine' ev_slMid ?k0 ?k1 ?k2 ?k3 ?k4 ?k5); (case k0 => walk_at "ev"); (case k1 => walk_at "ev"); (case k2 => walk_at "ev"); (case k3 => walk_at "sz"); (case k4 => walk_at "sz"); (case k5 => walk_at "sz"))
  | ((with_reducible refine' ev_addS ?k0 ?k1 ?k2); (case k0 => walk_at "ev"); (case k1 => walk_at "ev"); (case k2 => walk_at "sz"))
  | ((with_reducible refine' ev_cl ?k0 ?k1); (case k0 => walk_at "ea"); (case k1 => walk_at "sp"))
  | ((with_reducible refine' ev_notV ?k0); (case k0 => walk_at "ev"))
  | ((with_reducible refine' ev_un ?k0 ru_neg); (case k0 => walk_at "ev")))
local macro_rules | `(tactic| walk_at "ea") => `(tactic| first
  | with_reducible exact ea_nil
  | ((with_reducible refine' ea_cons ?k0 ?k1); (case k0 => walk_at "ev"); (case k1 => walk_at "ea")))
local macro_rules | `(tactic| walk_at "et") => `(tactic| first
  | with_reducible assumption
  | ((with_reducible refine' et_test ?k0); (case k0 => walk_at "ev"))
  | ((with_reducible refine' et_B ?k0); (case k0 => walk_at "ev"))
  | ((with_reducible refine' et_not ?k0); (case k0 => walk_at "et")))
local macro_rules | `(tactic| walk_at "sz") => `(tactic| first
  | rfl
  | omega
  | (simp only [List.length_take, List.length_drop, List.length_append]; omega)
  | (constructor <;> omega)
  | assumption)
local macro_rules | `(tactic| walk_at "sp") => `(tactic| first | assumption)

/-- a dict whose keys are texts -/
def tk (t : Tx) : Key := .inr ⟨t.toArray⟩
def dD (kvs : List (Tx × V)) : HO := .dK (kvs.map fun p => (tk p.1, p.2))
theorem tk_inj {t u : Tx} (h : tk t = tk u) : t = u := tv_inj (congrArg V.str (Sum.inr.inj h))
theorem kV_tk (t : Tx) : kV (tk t) = tv t := rfl
def lookT (kvs : List (Tx × V)) (t : Tx) : Option V := (kvs.find? fun p => decide (p.1 = t)).map (·.2)
theorem look_val (t : Tx) : ∀ kvs : List (Tx × V), valV (kvs.map fun p => (tk p.1, p.2)) (tk t) = lookT kvs t
  | [] => rfl
  | p :: kvs => by
    unfold valV lookT
    rw [List.map_cons, List.find?_cons, List.find?_cons]
    by_cases h : p.1 = t
    · rw [decide_eq_true h, decide_eq_true (show tk p.1 = tk t by rw [h])]
      rfl
    · rw [decide_eq_false h, decide_eq_false (show ¬ tk p.1 = tk t from fun z => h (tk_inj z))]
      exact look_val t kvs
theorem look_some {kvs : List (Tx × V)} {t : Tx} : (lookT kvs t).isSome = true ↔ t ∈ kvs.map (·.1) := by
  induction kvs with
  | nil => simp [lookT]
  | cons p kvs ih =>
    unfold lookT at ih ⊢
    rw [List.find?_cons, List.map_cons, List.mem_cons]
    by_cases h : p.1 = t
    · rw [decide_eq_true h]
      exact ⟨fun _ => .inl h.symm, fun _ => rfl⟩
    · rw [decide_eq_false h]
      rw [ih]
      exact ⟨.inr, fun z => z.elim (fun e => absurd e.symm h) id⟩
def putT (kvs : List (Tx × V)) (t : Tx) (v : V) : List (Tx × V) := if t ∈ kvs.map (·.1) then kvs.map (fun p => if p.1 = t then (p.1, v) else p) else kvs ++ [(t, v)]
theorem put_val (kvs : List (Tx × V)) (t : Tx) (v : V) : putK (kvs.map fun p => (tk p.1, p.2)) (tk t) v = (putT kvs t v).map fun p => (tk p.1, p.2) := by
  have ha : ((kvs.map fun p => (tk p.1, p.2)).any fun kv => decide (kv.1 = tk t)) = decide (t ∈ kvs.map (·.1)) := by
    rw [valV_any, look_val, Bool.eq_iff_iff, look_some, decide_eq_true_iff]
  unfold putK putT
  rw [ha]
  by_cases h : t ∈ kvs.map (·.1)
  · rw [if_pos (decide_eq_true h), if_pos h, List.map_map, List.map_map]
    apply List.map_congr_left
    intro p _
    show (if tk p.1 = tk t then (tk p.1, v) else (tk p.1, p.2)) = (fun p => (tk p.1, p.2)) (if p.1 = t then (p.1, v) else p)
    by_cases e : p.1 = t
    · rw [if_pos e, if_pos (by rw [e])]
    · rw [if_neg e, if_neg (fun z => e (tk_inj z))]
  · rw [if_neg (by simpa using h), if_neg h, List.map_append]
    rfl
theorem dget_T {H : Hp} {a : Addr} {kvs : List (Tx × V)} (h : H a = some (dD kvs)) (t : Tx) : DGet H a (tv t) (lookT kvs t) := by
  rw [← look_val]
  exact DGet.k (k := tk t) h
theorem dput_T {H : Hp} {a : Addr} {kvs : List (Tx × V)} (h : H a = some (dD kvs)) (t : Tx) (v : V) (hz : kvs.length ≤ 100000) : DPut H a (tv t) v (upd H a (dD (putT kvs t v))) := by
  unfold dD at h ⊢
  rw [← put_val]
  exact DPut.k (k := tk t) h (by rw [List.length_map, sizeLine_eq]; omega)
/-- a value put where it stood already -/
theorem put_same {kvs : List (Tx × V)} {t : Tx} {v : V} (h : ∀ p ∈ kvs, p.2 = v) : putT kvs t v = if t ∈ kvs.map (·.1) then kvs else kvs ++ [(t, v)] := by
  unfold putT
  split
  · have : kvs.map (fun p => if p.1 = t then (p.1, v) else p) = kvs.map id := List.map_congr_left fun p hp => by
      split
      · rw [← h p hp]; rfl
      · rfl
    rw [this, List.map_id]
  · rfl
end K9
namespace K9
open PySem PySem.Spec PyProof.Rows L2 Evl
local macro_rules | `(tactic| walk_at "ev") => `(tactic| first
  | with_reducible exact ev_c
  | ((with_reducible refine' ev_var ?k0); (case k0 => exact rfl))
  | with_reducible assumption
  | ((with_reducible refine' ev_lenS ?k0 ?k1); (case k0 => walk_at "ev"); (case k1 => walk_at "sz"))
  | ((with_reducible refine' ev_I0 ?k0 ?k1); (case k0 => walk_at "ev"); (case k1 => walk_at "ev"))
  | ((with_reducible refine' ev_I ?k0 ?k1 ?k2); (case k0 => walk_at "ev"); (case k1 => walk_at "ev"); (case k2 => walk_at "sz"))
  | ((with_reducible refine' ev_eq ?k0 ?k1 ?k2); (case k0 => walk_at "ev"); (case k1 => walk_at "ev"); (case k2 => walk_at "sz"))
  | ((with_reducible refine' ev_ne ?k0 ?k1 ?k2); (case k0 => walk_at "ev"); (case k1 => walk_at "ev"); (case k2 => walk_at "sz"))
  | ((with_reducible refine' ev_slTo ?k0 ?k1 ?k2 ?k3); (case k0 => walk_at "ev"); (case k1 => walk_at "ev"); (case k2 => walk_at "sz"); (case k3 => walk_at "sz"))
  | ((with_reducible refine' ev_slFrom ?k0 ?k1 ?k2 ?k3); (case k0 => walk_at "ev"); (case k1 => walk_at "ev"); (case k2 => walk_at "sz"); (case k3 => walk_at "sz"))
  | ((with_reducible refine' ev_slMid ?k0 ?k1 ?k2 ?k3 ?k4 ?k5); (case k0 => walk_at "ev"); (case k1 => walk_at "ev"); (case k2 => walk_at "ev"); (case k3 => walk_at "sz"); (case k4 => walk_at "sz"); (case k5 => walk_at "sz"))
  | ((with_reducible refine' ev_addS ?k0 ?k1 ?k2); (case k0 => walk_at "ev"); (case k1 => walk_at "ev"); (case k2 => walk_at "sz"))
  | ((with_reducible refine' ev_cl ?k0 ?k1); (case k0 => walk_at "ea"); (case k1 => walk_at "sp"))
  | ((with_reducible refine' ev_notV ?k0); (case k0 => walk_at "ev"))
  | ((with_reducible refine' ev_un ?k0 ru_neg); (case k0 => walk_at "ev")))
local macro_rules | `(tactic| walk_at "ea") => `(tactic| first
  | with_reducible exact ea_nil
  | ((with_reducible refine' ea_cons ?k0 ?k1); (case k0 => walk_at "ev"); (case k1 => walk_at "ea")))
local macro_rules | `(tactic| walk_at "et") => `(tactic| first
  | with_reducible assumption
  | ((with_reducible refine' et_test ?k0); (case k0 => walk_at "ev"))
  | ((with_reducible refine' et_B ?k0); (case k0 => walk_at "ev"))
  | ((with_reducible refine' et_not ?k0); (case k0 => walk_at "et")))
local macro_rules | `(tactic| walk_at "sz") => `(tactic| first
  | rfl
  | omega
  | (simp only [List.length_take, List.length_drop, List.length_append]; omega)
  | (constructor <;> omega)
  | assumption)
local macro_rules | `(tactic| walk_at "sp") => `(tactic| first | assumption)

section
variable {K : PySem.W.Frag} {σ : L2.St} {H : Hp} {te ta tb tl td ty tw : TE} {D : Ends} {tz : TS}
theorem q_newD {i : Nat} (k : ∀ p, H p = none → tz D (σ.set i (some (.ref p))) (upd H p (dD []))) : tSeq (tAsg tDNewK (gName i)) tz D σ H := fun p hp => k p hp
theorem s_put {a : Addr} {kvs : List (Tx × V)} {t : Tx} {v : V} (hd : Ev td σ H (.ref a)) (hk : Ev ty σ H (tv t)) (hv : Ev tw σ H v) (ha : H a = some (dD kvs)) (hz : kvs.length ≤ 100000) (k : ∀ H1, Ex H H1 → D.nx σ (upd H1 a (dD (putT kvs t v)))) : sDPut td ty tw D σ H :=
  hv H (Ex.refl H) _ fun H1 e1 => hd H1 e1 _ fun H2 e2 => hk H2 (e1.trans e2) _ fun H3 e3 => ⟨a, _, rfl, dput_T (((e1.trans e2).trans e3) _ _ ha) t v hz, k H3 ((e1.trans e2).trans e3)⟩
def trueD (ks : List Tx) : List (Tx × V) := ks.map fun t => (t, V.bl true)
def addT (ks : List Tx) (t : Tx) : List Tx := if t ∈ ks then ks else ks ++ [t]
theorem trueD_keys (ks : List Tx) : (trueD ks).map (·.1) = ks := by
  unfold trueD
  rw [List.map_map]
  exact List.map_id ks
theorem trueD_put (ks : List Tx) (t : Tx) : putT (trueD ks) t (.bl true) = trueD (addT ks t) := by
  rw [put_same fun p hp => by obtain ⟨x, _, rfl⟩ := List.mem_map.mp hp; rfl, trueD_keys]
  unfold addT
  split
  · rfl
  · unfold trueD; rw [List.map_append]; rfl
theorem addT_mem {ks : List Tx} {t u : Tx} : u ∈ addT ks t ↔ u ∈ ks ∨ u = t := by
  unfold addT
  split
  · rename_i h
    exact ⟨.inl, fun z => z.elim id fun e => by rw [e]; exact h⟩
  · rw [List.mem_append, List.mem_singleton]
theorem addT_nodup {ks : List Tx} {t : Tx} (h : ks.Nodup) : (addT ks t).Nodup := by
  unfold addT
  split
  · exact h
  · rename_i hn
    refine List.nodup_append.mpr ⟨h, by simp, fun a ha b hb e => ?_⟩
    rw [List.mem_singleton] at hb
    rw [e, hb] at ha
    exact hn ha
theorem el_listD {a : Addr} {kvs : List (Tx × V)} (h : Ev te σ H (.ref a)) (ha : H a = some (dD kvs)) : EvL (tCB rListD (tCons te tNil)) σ H ((kvs.map (·.1)).map tv) := fun H1 e Q q =>
  h H1 e _ fun H2 e2 => ⟨a, _, rfl, (e.trans e2) _ _ ha, fun p hp => by
    have : ((kvs.map fun p => (tk p.1, p.2)).map fun kv => kV kv.1) = (kvs.map (·.1)).map tv := by rw [List.map_map, List.map_map]; rfl
    rw [this]
    exact q p _ (fresh_back e2 hp) (e2.trans (Ex.new hp)) upd_same⟩
theorem inV_tx (t : Tx) (l : List Tx) : inV (tv t) (l.map tv) = decide (t ∈ l) := by
  unfold inV
  rw [Bool.eq_iff_iff, decide_eq_true_iff, List.any_eq_true]
  constructor
  · rintro ⟨y, hy, e⟩
    obtain ⟨x, hx, rfl⟩ := List.mem_map.mp hy
    have e2 : ((⟨x.toArray⟩ : Str) == ⟨t.toArray⟩) = true := e
    rw [PySem.W.beq_decide, decide_eq_true_iff] at e2
    have : x = t := tv_inj (congrArg V.str e2)
    rw [← this]
    exact hx
  · intro hx
    refine ⟨tv t, List.mem_map.mpr ⟨_, hx, rfl⟩, ?_⟩
    show ((⟨t.toArray⟩ : Str) == ⟨t.toArray⟩) = true
    rw [PySem.W.beq_decide, decide_eq_true_iff]
theorem flat_txs (l : List Tx) : (l.map tv).all flatV = true := by
  rw [List.all_eq_true]
  intro y hy
  obtain ⟨x, _, rfl⟩ := List.mem_map.mp hy
  rfl
theorem ev_inHT {a : Addr} {t : Tx} {l : List Tx} (h : Ev ta σ H (tv t)) (h1 : Ev tb σ H (.ref a)) (hs : SqL K H a (l.map tv)) : Ev (tOp (rIn K false) ta tb) σ H (.bl (decide (t ∈ l))) :=
  ev_is (ev_op h h1 (rv_isL hs rfl (flat_txs l))) (by rw [inV_tx])
theorem ev_inD {a : Addr} {t : Tx} {kvs : List (Tx × V)} (h : Ev ty σ H (tv t)) (h1 : Ev td σ H (.ref a)) (ha : H a = some (dD kvs)) : Ev (tDIn ty td) σ H (.bl (lookT kvs t).isSome) := fun H1 e Q q =>
  h H1 e _ fun H2 e2 => h1 H2 (e.trans e2) _ fun H3 e3 => ⟨a, _, rfl, dget_T ((e.trans (e2.trans e3)) _ _ ha) t, q H3 (e2.trans e3)⟩
theorem ev_niD {a : Addr} {t : Tx} {kvs : List (Tx × V)} (h : Ev ty σ H (tv t)) (h1 : Ev td σ H (.ref a)) (ha : H a = some (dD kvs)) : Ev (tDNotIn ty td) σ H (.bl (!(lookT kvs t).isSome)) := fun H1 e Q q =>
  h H1 e _ fun H2 e2 => h1 H2 (e.trans e2) _ fun H3 e3 => ⟨a, _, rfl, dget_T ((e.trans (e2.trans e3)) _ _ ha) t, q H3 (e2.trans e3)⟩
theorem ev_dget {a : Addr} {t : Tx} {kvs : List (Tx × V)} {v : V} (h1 : Ev td σ H (.ref a)) (h : Ev ty σ H (tv t)) (ha : H a = some (dD kvs)) (hv : lookT kvs t = some v) : Ev (tDGet td ty) σ H v := fun H1 e Q q =>
  h1 H1 e _ fun H2 e2 => h H2 (e.trans e2) _ fun H3 e3 => ⟨a, v, rfl, by rw [← hv]; exact dget_T ((e.trans (e2.trans e3)) _ _ ha) t, q H3 (e2.trans e3)⟩
end
section
variable {P : Program} {w : World} {K : PySem.W.Frag} {mg : Str → Option Value} {base : Heap}
def spCome : Sp := fun vs H Q _ => ∃ (l e : Tx) (n : Nat), vs = [tv l, tv e, iv n] ∧ Ok l ∧ Ok e ∧ l.length ≤ 11 ∧ e.length ≤ 11 ∧ 1 ≤ n ∧ n ≤ 6 ∧ RetV (.bl (doesM n l e)) H Q
theorem come_eq {n i : Nat} {l e : Tx} (h1 : 1 ≤ n) (ho : Ok l) (hoe : Ok e) {us : List Tx} (hu : ∀ u, u ∈ us ↔ UndK n i l u) (hend : us = [] ∨ l.length ≤ e.length + n * i) (hi : i = 0 ∨ e.length + n * i < l.length + n) : decide (e ∈ us) = doesM n l e := by
  rw [Bool.eq_iff_iff, decide_eq_true_iff, does_iff h1, ← undR_iff h1 ho hoe, hu e]
  constructor
  · intro h; exact ⟨i, h⟩
  · rintro ⟨j, hj⟩
    have hl := undK_len hj
    have hmono : ∀ {a b : Nat}, a ≤ b → (∃ u, UndK n b l u) → ∃ u, UndK n a l u := by
      intro a b hab
      induction b with
      | zero => intro h; rw [show a = 0 by omega]; exact h
      | succ b ih =>
        intro h
        by_cases e2 : a = b + 1
        · rw [e2]; exact h
        · obtain ⟨u, v, hv, _⟩ := h
          exact ih (by omega) ⟨v, hv⟩
    rcases hend with h0 | hend
    · have hne : ¬ ∃ u, UndK n i l u := fun ⟨u, hu'⟩ => by have := (hu u).mpr hu'; rw [h0] at this; cases this
      have hji : ¬ i ≤ j := fun z => hne (hmono z ⟨e, hj⟩)
      have h3 : n * j + n ≤ n * i := by
        rw [← Nat.mul_succ]
        exact Nat.mul_le_mul_left n (by omega)
      omega
    · have h2 : ¬ j > i := fun z => by
        have h3 : n * i + n ≤ n * j := by rw [← Nat.mul_succ]; exact Nat.mul_le_mul_left n z
        omega
      have h2' : ¬ j < i := fun z => by
        have h3 : n * j + n ≤ n * i := by rw [← Nat.mul_succ]; exact Nat.mul_le_mul_left n z
        omega
      have : j = i := by omega
      rw [← this]; exact hj
theorem ok_does_come_l (T : Topf mg) (F : FnP K mg "_law_does_come" s_l_does_come) (C_l_is_twice : Cal P w K mg base CX0 1 "_law_is_twice" ["_law_text", "_law_wide", "_law_at"] spTw) : Cal P w K mg base CX0 2 "_law_does_come" ["_law_late", "_law_early", "_law_wide"] spCome := by
  refine cal_mk F sc_l_does_come (fun vs H Q E h => ?_) (fun _ _ _ _ _ _ us hl => match us, hl with | [_, _, _], _ => rfl) (fun f cdv A outer s H vs Q E hr h => ?_)
  · obtain ⟨l, e, n, rfl, _⟩ := h; rfl
  · obtain ⟨l, e, n, rfl, ho, hoe, hzl, hze, h1, h6, q⟩ := h
    refine ⟨_, (pss_cons (ps_set (i := 3) sc_l_does_come.nd rfl (Or.inl rfl) (pe_lst (pa_cons (pv 0) pa_nil)))
      (pss_cons (ps_while PassesOwn.never (PW.pt (pw_and (pt_cmpR (k_neD (K := K) rfl hr.units) (pv 3) (pe_lst pa_nil) (nomark _)) (pw_and1 (pt_cmpR op_gt (pe_callB call_len_str (by rfl) T.b_len (by decide +kernel) (pa_cons (pe_ix (k_ixL (K := K) rfl) (pv 3) pe_int (fun _ _ => rfl)) pa_nil)) (pe_callB call_len_str (by rfl) T.b_len (by decide +kernel) (pa_cons (pv 1) pa_nil)) (nomark _)))))
        (pss_cons (ps_set (i := 4) sc_l_does_come.nd rfl (Or.inl rfl) pe_dnewK)
          (pss_cons (ps_for PassesOwn.never rfl (k_pil (K := K) rfl (pv 3)) (pg_name (i := 5) sc_l_does_come.nd rfl (Or.inl rfl))
            (pss_one (ps_for PassesOwn.never rfl (pi_range1 rfl T.b_range (pa_cons (pe_callB call_len_str (by rfl) T.b_len (by decide +kernel) (pa_cons (pv 5) pa_nil)) pa_nil)) (pg_name (i := 6) sc_l_does_come.nd rfl (Or.inl rfl))
              (pss_one (ps_if (pt_val (pe_c C_l_is_twice (hr.mono (by decide)) rfl (pa_cons (pv 5) (pa_cons (pv 2) (pa_cons (pv 6) pa_nil))))) (pss_one (ps_dput (hu_of hr) (pv 4) (pe_op op_add_str (pe_slice sl_str (pv 5) po_none (po_some (pe_op op_add (pv 6) (pv 2)))) (pe_slice sl_str (pv 5) (po_some (pe_op op_add (pv 6) (pe_op op_mul pe_int (pv 2)))) po_none)) pe_bl rfl)) pss_nil)))))
          (pss_one (ps_set (i := 3) sc_l_does_come.nd rfl (Or.inl rfl) (pe_callTy (call_list_dK rfl) (by rfl) T.b_list (by decide +kernel) (pa_cons (pv 4) pa_nil)))))))
      (pss_one (ps_ret (pe_cmpR (k_in (K := K) rfl) (pv 1) (pv 3) rfl))))), ?_⟩
    refine q_asgL (xs := [tv l]) (el_lst (ea_cons (ev_var rfl) ea_nil) (Nat.le_of_ble_eq_true rfl)) fun pa H1 hpa e1 hx => ?_
    refine ⟨fun m σ' H' => ∃ (i : Nat) (us : List Tx) (a : Addr) (y4 y5 y6 : Option V), σ' = [some (tv l), some (tv e), some (iv n), some (.ref a), y4, y5, y6] ∧ H' a = some (.lst (us.map tv)) ∧ Ex H H' ∧ us.Nodup ∧ (∀ u, u ∈ us ↔ UndK n i l u) ∧ (i = 0 ∨ e.length + n * i < l.length + n) ∧ m + i = l.length + 1, ⟨l.length + 1, 0, [l], pa, _, _, _, rfl, hx, e1, by simp, fun u => by rw [List.mem_singleton]; exact Iff.rfl, .inl rfl, by omega⟩, fun m σ' H' hW => ?_⟩
    obtain ⟨i, us, a, y4, y5, y6, rfl, hus, eH, hnd, hmem, hi, hm⟩ := hW
    have hall : ∀ u ∈ us, Ok u ∧ Comes n l u ∧ u.length + n * i = l.length := fun u hu => by
      have h := (hmem u).mp hu
      exact ⟨undK_ok ho h, undK_comes h1 ho h, undK_len h⟩
    have hlt : Ev (tCB (fun xs H Q => ∃ z, xs = [.str z] ∧ z.length ≤ sizeLine ∧ Q (.int z.length) H) (tCons (tVar 1) tNil)) [some (tv l), some (tv e), some (iv n), some (.ref a), y4, y5, y6] H' (iv e.length) := ev_lenS (ev_var rfl) (by omega)
    have hT : EvT (tAnd (tB (tOp (rNeD K) (tVar 3) (tLst tNil))) (tB (tOp (rI0 fun i j => .bl (decide (i > j))) (tCB (fun xs H Q => ∃ z, xs = [.str z] ∧ z.length ≤ sizeLine ∧ Q (.int z.length) H) (tCons (tOp (rIxL K) (tVar 3) (tC (.int 0))) tNil)) (tCB (fun xs H Q => ∃ z, xs = [.str z] ∧ z.length ≤ sizeLine ∧ Q (.int z.length) H) (tCons (tVar 1) tNil))))) [some (tv l), some (tv e), some (iv n), some (.ref a), y4, y5, y6] H' (decide (us ≠ [] ∧ e.length + n * i < l.length)) := by
      cases us with
      | nil => exact et_is (et_and (b := true) (et_B (ev_neHT (l := []) (fun _ h => by cases h) (ev_var rfl) (SqL.of hus))) (fun z => by cases z)) (by simp)
      | cons u us =>
        have hu := (hall u List.mem_cons_self).2.2
        refine et_is (et_and (a := true) (b := decide (e.length + n * i < l.length)) (et_is (et_B (ev_neHT (l := u :: us) (fun t ht => (hall t ht).1) (ev_var rfl) (SqL.of hus))) rfl) (fun _ => et_B (ev_is (ev_I0 (ev_lenS (t := u) (ev_op (ev_var (v := .ref a) rfl) ev_c (rv_ixL (SqL.of hus) (atI_nat (j := 0) rfl))) (by omega)) hlt) ?_))) ?_
        · congr 1
          rw [decide_eq_decide]
          omega
        · rw [Bool.true_and, decide_eq_decide]
          exact ⟨fun h => ⟨by simp, h⟩, fun h => h.2⟩
    refine hT H' (Ex.refl H') _ fun H2 e2 => ?_
    by_cases hc : us ≠ [] ∧ e.length + n * i < l.length
    · rw [if_pos (decide_eq_true hc)]
      refine ⟨fun σ' H' => ∃ m', m' < m ∧ _, fun σ' H' h => h, ?_⟩
      refine q_newD fun p hp => ?_
      have hus2 := e2 _ _ hus
      have hpa : p ≠ a := fun z => by rw [z, hus2] at hp; cases hp
      have hfew : ∀ ks : List Tx, ks.Nodup → (∀ u ∈ ks, UndK n (i + 1) l u) → ks.length ≤ 100000 := fun ks hn hk => by
        have := kin_few (m := 10) (t := l) h1 ks hn fun u hu => by
          have h := hk u hu
          exact ⟨(undK_comes h1 ho h).1.symm, undK_ok ho h, by have := undK_len h; omega⟩
        omega
      have hS := srcA_L0 (K := K) (j := 5) (f := p) (tl := tVar 3) (σ := [some (tv l), some (tv e), some (iv n), some (.ref a), some (.ref p), y5, y6]) (H := upd H2 p (dD [])) (ev_var (v := .ref a) rfl) (SqL.of hus2) (Ex.new hp) hp
      rw [List.length_map] at hS
      refine q_for hS (fun j σ' H3 => ∃ ks z5 z6, σ' = [some (tv l), some (tv e), some (iv n), some (.ref a), some (.ref p), z5, z6] ∧ H3 p = some (dD (trueD ks)) ∧ ks.Nodup ∧ ∀ u, u ∈ ks ↔ ∃ x ∈ us.take j, ∃ k, isdb n x k = true ∧ u = und n x k) (fun H3 e3 => ⟨[], _, _, rfl, e3 _ _ upd_same, List.nodup_nil, fun u => by simp⟩) ?_ ?_
      · intro B j σ' H3 H4 hj eB hB pv eB3 e34
        obtain ⟨ks, z5, z6, rfl, hk, hkn, hkm⟩ := pv
        rw [txs_at hj]
        have hxin := txs_in hj
        have htake : us.take (j + 1) = us.take j ++ [us.getD j []] := by
          rw [List.take_succ_eq_append_getElem hj, List.getD_eq_getElem?_getD, List.getElem?_eq_getElem hj]; rfl
        rw [htake]
        generalize us.getD j [] = x at hxin
        obtain ⟨hxo, hxc, hxl⟩ := hall x hxin
        have hsub : ∀ u ∈ us.take j, u ∈ us := fun u hu => List.take_subset _ _ hu
        have hSi := srcA_R1 (f := p) (j := 6) (n := x.length) (σ := [some (tv l), some (tv e), some (iv n), some (.ref a), some (.ref p), some (tv x), z6]) (H := H4) (ta := tCons (tCB (fun xs H Q => ∃ z, xs = [.str z] ∧ z.length ≤ sizeLine ∧ Q (.int z.length) H) (tCons (tVar 5) tNil)) tNil) (ea_cons (ev_lenS (ev_var rfl) (by omega)) ea_nil) (by omega)
        refine s_for hSi (fun k σ' H5 => ∃ ks z6, σ' = [some (tv l), some (tv e), some (iv n), some (.ref a), some (.ref p), some (tv x), z6] ∧ H5 p = some (dD (trueD ks)) ∧ ks.Nodup ∧ ∀ u, u ∈ ks ↔ (∃ x ∈ us.take j, ∃ k, isdb n x k = true ∧ u = und n x k) ∨ ∃ k', k' < k ∧ isdb n x k' = true ∧ u = und n x k') (fun H5 e5 => ⟨ks, _, rfl, (e34.trans e5) _ _ hk, hkn, fun u => by rw [hkm]; exact ⟨.inl, fun z => z.elim id fun ⟨k', h, _⟩ => absurd h (Nat.not_lt_zero _)⟩⟩) ?_ ?_
        · intro B2 k σ' H5 H6 hk2 eB2 hB2 pv2 eB5 e56
          obtain ⟨ks2, z6, rfl, hkk, hkn2, hkm2⟩ := pv2
          refine s_when (b := isdb n x k) (et_test (ev_cl (ea_cons (ev_var rfl) (ea_cons (ev_var rfl) (ea_cons (ev_is (ev_var rfl) (by rw [Int.zero_add])) ea_nil))) fun H8 e8 Q8 q8 E8 => ⟨x, n, k, rfl, by omega, by omega, q8⟩)) (fun hb H7 e7 => ?_) (fun hb H7 e7 => ?_)
          · have hks7 := (e56.trans e7) _ _ hkk
            refine s_put (t := und n x k) (v := .bl true) (ev_var (v := .ref p) rfl) (ev_und (ev_var rfl) (ev_I0 (ev_is (ev_var rfl) (by rw [Int.zero_add])) (ev_var rfl)) (ev_I0 (ev_is (ev_var rfl) (by rw [Int.zero_add])) (ev_I ev_c (ev_var rfl) (.inl ⟨by decide, by decide⟩))) (by omega)) ev_c hks7 ?_ fun H8 e8 => ⟨((eB5.trans e56).trans (e7.trans e8)).mut hB2, addT ks2 (und n x k), _, rfl, by rw [← trueD_put]; exact upd_same, addT_nodup hkn2, fun u => ?_⟩
            · have : (trueD ks2).length = ks2.length := by unfold trueD; simp
              rw [this]
              refine hfew ks2 hkn2 fun u hu => ?_
              rcases (hkm2 u).mp hu with ⟨x', hx', k', hk', rfl⟩ | ⟨k', _, hk', rfl⟩
              · exact ⟨x', (hmem _).mp (hsub _ hx'), und_cop1 hk'⟩
              · exact ⟨x, (hmem _).mp hxin, und_cop1 hk'⟩
            · rw [addT_mem, hkm2]
              constructor
              · rintro ((h | ⟨k', h, r⟩) | h)
                · exact .inl h
                · exact .inr ⟨k', by omega, r⟩
                · exact .inr ⟨k, by omega, hb, h⟩
              · rintro (h | ⟨k', h, r⟩)
                · exact .inl (.inl h)
                · by_cases e9 : k' = k
                  · rw [e9] at r; exact .inr r.2
                  · exact .inl (.inr ⟨k', by omega, r⟩)
          · refine ⟨eB5.trans (e56.trans e7), ks2, _, rfl, (e56.trans e7) _ _ hkk, hkn2, fun u => ?_⟩
            rw [hkm2]
            constructor
            · rintro (h | ⟨k', h, r⟩)
              · exact .inl h
              · exact .inr ⟨k', by omega, r⟩
            · rintro (h | ⟨k', h, r⟩)
              · exact .inl h
              · by_cases e9 : k' = k
                · rw [e9, hb] at r; cases r.1
                · exact .inr ⟨k', by omega, r⟩
        · intro σ' H5 e5 pv2
          obtain ⟨ks2, z6, rfl, hkk, hkn2, hkm2⟩ := pv2
          refine ⟨(drp_of (eB3.trans e34) hB).trans e5, ks2, _, _, rfl, hkk, hkn2, fun u => ?_⟩
          rw [hkm2]
          constructor
          · rintro (⟨x', hx', r⟩ | ⟨k', _, r⟩)
            · exact ⟨x', List.mem_append_left _ hx', r⟩
            · exact ⟨x, List.mem_append_right _ (by simp), k', r⟩
          · rintro ⟨x', hx', k', r⟩
            rcases List.mem_append.mp hx' with h | h
            · exact .inl ⟨x', h, k', r⟩
            · rw [List.mem_singleton] at h
              rw [h] at r
              refine .inr ⟨k', ?_, r⟩
              have := r.1
              unfold isdb at this
              have h3 := of_decide_eq_true (Bool.and_eq_true_iff.mp this).1
              omega
      · intro σ' H3 e3 pv
        obtain ⟨ks, z5, z6, rfl, hk, hkn, hkm⟩ := pv
        rw [List.take_of_length_le (Nat.le_refl _)] at hkm
        refine s_asgL (xs := ks.map tv) (el_is (el_listD (ev_var (v := .ref p) rfl) hk) (by rw [trueD_keys])) fun p2 H4 hp2 e4 hx4 => ?_
        have eH4 : Ex H H4 := (drp_of ((eH.trans e2).trans (Ex.new hp)) (fresh_back (eH.trans e2) hp)).trans (e3.trans e4)
        refine ⟨m - 1, by have := hall; cases us with | nil => exact absurd rfl hc.1 | cons u _ => have := (hall u List.mem_cons_self).2.2; have hni : i ≤ n * i := Nat.le_mul_of_pos_left i (by omega); omega, i + 1, ks, p2, _, _, _, rfl, hx4, eH4, hkn, fun u => ?_, .inr (by rw [Nat.mul_succ]; omega), by
          cases us with
          | nil => exact absurd rfl hc.1
          | cons u _ =>
            have := (hall u List.mem_cons_self).2.2
            have hni : i ≤ n * i := Nat.le_mul_of_pos_left i (by omega)
            omega⟩
        rw [hkm]
        constructor
        · rintro ⟨x, hx', k, hk', rfl⟩
          exact ⟨x, (hmem x).mp hx', und_cop1 hk'⟩
        · rintro ⟨x, hx', hc'⟩
          obtain ⟨k, hk', e9⟩ := cop1_und hc'
          exact ⟨x, (hmem x).mpr hx', k, hk', e9.symm⟩
    · rw [if_neg (by rw [decide_eq_false hc]; decide)]
      have hend : us = [] ∨ l.length ≤ e.length + n * i := by
        by_cases h : us = []
        · exact .inl h
        · exact .inr (Nat.le_of_not_lt fun z => hc ⟨h, z⟩)
      have hfin := come_eq h1 ho hoe hmem hend hi
      exact s_ret (ev_is (ev_inHT (t := e) (l := us) (ev_var rfl) (ev_var rfl) (SqL.of (e2 _ _ hus))) (by rw [hfin])) fun H3 e3 => q H3 (eH.trans (e2.trans e3))
end
end K9
namespace K9
open PySem PySem.Spec PyProof.Rows L2 Evl
local macro_rules | `(tactic| walk_at "ev") => `(tactic| first
  | with_reducible exact ev_c
  | ((with_reducible refine' ev_var ?k0); (case k0 => exact rfl))
  | with_reducible assumption
  | ((with_reducible refine' ev_lenS ?k0 ?k1); (case k0 => walk_at "ev"); (case k1 => walk_at "sz"))
  | ((with_reducible refine' ev_I0 ?k0 ?k1); (case k0 => walk_at "ev"); (case k1 => walk_at "ev"))
  | ((with_reducible refine' ev_I ?k0 ?k1 ?k2); (case k0 => walk_at "ev"); (case k1 => walk_at "ev"); (case k2 => walk_at "sz"))
  | ((with_reducible refine' ev_eq ?k0 ?k1 ?k2); (case k0 => walk_at "ev"); (case k1 => walk_at "ev"); (case k2 => walk_at "sz"))
  | ((with_reducible refine' ev_ne ?k0 ?k1 ?k2); (case k0 => walk_at "ev"); (case k1 => walk_at "ev"); (case k2 => walk_at "sz"))
  | ((with_reducible refine' ev_slTo ?k0 ?k1 ?k2 ?k3); (case k0 => walk_at "ev"); (case k1 => walk_at "ev"); (case k2 => walk_at "sz"); (case k3 => walk_at "sz"))
  | ((with_reducible refine' ev_slFrom ?k0 ?k1 ?k2 ?k3); (case k0 => walk_at "ev"); (case k1 => walk_at "ev"); (case k2 => walk_at "sz"); (case k3 => walk_at "sz"))
  | ((with_reducible refine' ev_slMid ?k0 ?k1 ?k2 ?k3 ?k4 ?k5); (case k0 => walk_at "ev"); (case k1 => walk_at "ev"); (case k2 => walk_at "ev"); (case k3 => walk_at "sz"); (case k4 => walk_at "sz"); (case k5 => walk_at "sz"))
  | ((with_reducible refine' ev_addS ?k0 ?k1 ?k2); (case k0 => walk_at "ev"); (case k1 => walk_at "ev"); (case k2 => walk_at "sz"))
  | ((with_reducible refine' ev_cl ?k0 ?k1); (case k0 => walk_at "ea"); (case k1 => walk_at "sp"))
  | ((with_reducible refine' ev_notV ?k0); (case k0 => walk_at "ev"))
  | ((with_reducible refine' ev_un ?k0 ru_neg); (case k0 => walk_at "ev")))
local macro_rules | `(tactic| walk_at "ea") => `(tactic| first
  | with_reducible exact ea_nil
  | ((with_reducible refine' ea_cons ?k0 ?k1); (case k0 => walk_at "ev"); (case k1 => walk_at "ea")))
local macro_rules | `(tactic| walk_at "et") => `(tactic| first
  | with_reducible assumption
  | ((with_reducible refine' et_test ?k0); (case k0 => walk_at "ev"))
  | ((with_reducible refine' et_B ?k0); (case k0 => walk_at "ev"))
  | ((with_reducible refine' et_not ?k0); (case k0 => walk_at "et")))
local macro_rules | `(tactic| walk_at "sz") => `(tactic| first
  | rfl
  | omega
  | (simp only [List.length_take, List.length_drop, List.length_append]; omega)
  | (constructor <;> omega)
  | assumption)
local macro_rules | `(tactic| walk_at "sp") => `(tactic| first | assumption)

theorem upd_other {H : Hp} {a p : Addr} {o : HO} (h : a ≠ p) : upd H p o a = H a := upd_ne h
/-- a source that stands in B0, a part of the heap that the body lets alone -/
def SrcB (B0 : Hp) (wi : TI) (g : TG) (σ : L2.St) (H : Hp) (n : Nat) (τ : Nat → L2.St → L2.St) : Prop :=
  ∀ H1, Ex H H1 → ∀ R : It → Hp → Prop, (∀ J H2, Ex H1 H2 → Runs J g n τ B0 → R J H2) → wi σ H1 R
theorem s_forB {B0 : Hp} {wi : TI} {g : TG} {tb : TS} {D : Ends} {σ : L2.St} {H : Hp} {n : Nat} {τ : Nat → L2.St → L2.St} (hS : SrcB B0 wi g σ H n τ) (Pv : Nat → L2.St → Hp → Prop) (h0 : ∀ H1, Ex H H1 → Ex B0 H1 ∧ Pv 0 σ H1)
    (hs : ∀ i σ' H' H'', i < n → Ex B0 H' → Pv i σ' H' → Ex H' H'' → tb { D with nx := fun σ2 H2 => Ex B0 H2 ∧ Pv (i + 1) σ2 H2, ct := fun σ2 H2 => Ex B0 H2 ∧ Pv (i + 1) σ2 H2, bk := D.nx } (τ i σ') H'')
    (hd : ∀ σ' H', Ex B0 H' → Pv n σ' H' → D.nx σ' H') : tFor wi g tb D σ H :=
  hS H (Ex.refl H) _ fun J H2 e R => for_runs R (fun i σ' H' => Ex B0 H' ∧ Pv i σ' H') (h0 H2 e) (fun i σ' H' p => p.1) (fun i σ' H' H'' hi p e3 => hs i σ' H' H'' hi p.1 p.2 e3) (fun σ' H' p => hd σ' H' p.1 p.2)
theorem q_forB {B0 : Hp} {wi : TI} {g : TG} {tb tz : TS} {D : Ends} {σ : L2.St} {H : Hp} {n : Nat} {τ : Nat → L2.St → L2.St} (hS : SrcB B0 wi g σ H n τ) (Pv : Nat → L2.St → Hp → Prop) (h0 : ∀ H1, Ex H H1 → Ex B0 H1 ∧ Pv 0 σ H1)
    (hs : ∀ i σ' H' H'', i < n → Ex B0 H' → Pv i σ' H' → Ex H' H'' → tb { D with nx := fun σ2 H2 => Ex B0 H2 ∧ Pv (i + 1) σ2 H2, ct := fun σ2 H2 => Ex B0 H2 ∧ Pv (i + 1) σ2 H2, bk := tz D } (τ i σ') H'')
    (hd : ∀ σ' H', Ex B0 H' → Pv n σ' H' → tz D σ' H') : tSeq (tFor wi g tb) tz D σ H := s_forB (D := { D with nx := tz D }) hS Pv h0 hs hd
section
variable {K : PySem.W.Frag} {σ : L2.St} {H B0 : Hp} {te ta tb tl td ty tw : TE} {D : Ends} {tz : TS}
theorem srcB_L {a : Addr} {xs : List V} {j : Nat} (h : Ev tl σ H (.ref a)) (hx : SqL K B0 a xs) (hH : SqL K H a xs) : SrcB B0 (iList K tl) (gName j) σ H xs.length (fun i σ => σ.set j (some (xs.getD i .non))) := fun H1 e R k =>
  h H1 e _ fun H2 e2 => ⟨a, rfl, ⟨xs, ex_l (e.trans e2) hH⟩, k _ H2 e2 (runs_list hx)⟩
theorem srcB_T {a : Addr} {xs : List V} {j : Nat} (h : Ev tl σ H (.ref a)) (hx : SqT K B0 a xs) (hH : SqT K H a xs) : SrcB B0 (iTup K tl) (gName j) σ H xs.length (fun i σ => σ.set j (some (xs.getD i .non))) := fun H1 e R k =>
  h H1 e _ fun H2 e2 => ⟨a, rfl, ⟨xs, ex_t (e.trans e2) hH⟩, k _ H2 e2 (runs_tup hx)⟩
theorem srcB_R1 {ta : TA} {n : Nat} {j : Nat} (h : EvA ta σ H [.int (n : Int)]) (hn : n ≤ 100000) : SrcB B0 (iRng1 ta) (gName j) σ H n (fun i σ => σ.set j (some (.int (0 + (i : Int))))) := fun H1 e R k =>
  h H1 e _ fun H2 e2 => ⟨n, rfl, by omega, by omega, by rw [Int.toNat_natCast]; exact k _ H2 e2 runs_range⟩
theorem s_append {l : Addr} {xs : List V} {v : V} (hl : H l = some (.lst xs)) (ha : Ev ta σ H (.ref l)) (h : Ev te σ H v) (hz : xs.length ≤ 100000) (k : ∀ H1, Ex H H1 → D.nx σ (upd H1 l (.lst (xs ++ [v])))) :
    tDrop (tBM K "list" rAppend ta (tCons te tNil)) D σ H := ha H (Ex.refl H) _ fun H1 e1 =>
  ⟨Or.inl ⟨rfl, xs, SqL.of (e1 l _ hl)⟩, h H1 e1 _ fun H2 e2 => ⟨l, xs, v, rfl, rfl, (e1.trans e2) _ _ hl, sz60' (by omega), k H2 (e1.trans e2)⟩⟩
theorem q_append {l : Addr} {xs : List V} {v : V} (hl : H l = some (.lst xs)) (ha : Ev ta σ H (.ref l)) (h : Ev te σ H v) (hz : xs.length ≤ 100000) (k : ∀ H1, Ex H H1 → tz D σ (upd H1 l (.lst (xs ++ [v])))) :
    tSeq (tDrop (tBM K "list" rAppend ta (tCons te tNil))) tz D σ H := s_append (D := { D with nx := tz D }) hl ha h hz k
theorem q_put {a : Addr} {kvs : List (Tx × V)} {t : Tx} {v : V} (hd : Ev td σ H (.ref a)) (hk : Ev ty σ H (tv t)) (hv : Ev tw σ H v) (ha : H a = some (dD kvs)) (hz : kvs.length ≤ 100000) (k : ∀ H1, Ex H H1 → tz D σ (upd H1 a (dD (putT kvs t v)))) : tSeq (sDPut td ty tw) tz D σ H :=
  s_put (D := { D with nx := tz D }) hd hk hv ha hz k
theorem q_parL {i j : Nat} {v : V} {xs : List V} (h : Ev ta σ H v) (h2 : EvL tb σ H xs) (k : ∀ p H1, H p = none → Ex H H1 → H1 p = some (.lst xs) → tz D ((σ.set i (some v)).set j (some (.ref p))) H1) : tSeq (tPar i j (tCons ta (tCons tb tNil))) tz D σ H := h H (Ex.refl H) _ fun H1 e1 => h2 H1 e1 _ fun p H2 hp e2 hx => ⟨_, _, rfl, k p H2 (fresh_back e1 hp) (e1.trans e2) hx⟩
theorem put_new {kvs : List (Tx × V)} {t : Tx} {v : V} (h : ¬ t ∈ kvs.map (·.1)) : putT kvs t v = kvs ++ [(t, v)] := if_neg h
/-- a held list and a new one of which a word is true -/
theorem lp_catP {W W2 : List V → Prop} {p : Addr} {xs : List V} (h : Ev ta σ H (.ref p)) (hp : H p = some (.lst xs)) (h2 : EvLP tb σ H W) (hz : ∀ ys, W ys → xs.length + ys.length ≤ 100000) (hw : ∀ ys, W ys → W2 (xs ++ ys)) : EvLP (tOp rCat ta tb) σ H W2 := fun H1 e Q q =>
  h H1 e _ fun H2 e2 => h2 H2 (e.trans e2) _ fun p2 ys H3 hp2 e3 hy hW => ⟨p, p2, xs, ys, rfl, rfl, (e.trans (e2.trans e3)) _ _ hp, hy, sz60 (by have := hz ys hW; omega), fun r hr =>
    q r _ _ (fresh_back (e2.trans e3) hr) ((e2.trans e3).trans (Ex.new hr)) upd_same (hw ys hW)⟩
theorem s_asgLP {i : Nat} {W : List V → Prop} (h : EvLP te σ H W) (k : ∀ p xs H1, H p = none → Ex H H1 → H1 p = some (.lst xs) → W xs → D.nx (σ.set i (some (.ref p))) H1) : tAsg te (gName i) D σ H := h H (Ex.refl H) _ k
end
/-- near ones that can be come to -/
def Good (n m : Nat) (t u : Tx) : Prop := Kin n t u ∧ Ok u ∧ u.length ≤ m
def distD (n : Nat) (t : Tx) (us : List Tx) : List (Tx × V) := us.map fun u => (u, iv (dd n t u))
theorem distD_keys (n : Nat) (t : Tx) (us : List Tx) : (distD n t us).map (·.1) = us := by
  unfold distD
  rw [List.map_map]
  exact List.map_id us
theorem dist_look {n : Nat} {t u : Tx} {us : List Tx} (h : u ∈ us) : lookT (distD n t us) u = some (iv (dd n t u)) := by
  induction us with
  | nil => cases h
  | cons x us ih =>
    show lookT ((x, iv (dd n t x)) :: distD n t us) u = _
    unfold lookT at ih ⊢
    rw [List.find?_cons]
    by_cases e : x = u
    · rw [decide_eq_true e, e]; rfl
    · rw [decide_eq_false e]
      exact ih ((List.mem_cons.mp h).elim (fun z => absurd z.symm e) id)
theorem dist_none {n : Nat} {t u : Tx} {us : List Tx} (h : ¬ u ∈ us) : (lookT (distD n t us) u).isSome = false := by
  rw [Bool.eq_false_iff]
  intro z
  rw [look_some, distD_keys] at z
  exact h z
theorem dist_isSome {n : Nat} {t u : Tx} {us : List Tx} : (lookT (distD n t us) u).isSome = decide (u ∈ us) := by
  rw [Bool.eq_iff_iff, look_some, distD_keys, decide_eq_true_iff]
def FarOf (n m : Nat) (t : Tx) (us : List Tx) : Prop := us.Nodup ∧ ∀ u, u ∈ us ↔ Good n m t u
theorem nearOf_iff {n m : Nat} {t : Tx} {us : List Tx} (h : NearOf n m t us) (u : Tx) : u ∈ us ↔ Near n m t u := by
  rw [h.1 u]
  constructor
  · rintro (⟨k, hk, rfl, hm⟩ | ⟨k, hk, rfl⟩)
    · exact .inl ⟨⟨k, hk, rfl⟩, hm⟩
    · exact .inr (und_cop1 hk)
  · rintro (⟨⟨k, hk, rfl⟩, hm⟩ | hc)
    · exact .inl ⟨k, hk, rfl, hm⟩
    · obtain ⟨k, hk, e⟩ := cop1_und hc
      exact .inr ⟨k, hk, e.symm⟩
/-- at the end nothing is left over -/
theorem far_all {n m k : Nat} {t : Tx} (h1 : 1 ≤ n) (ht : Ok t) (hz : t.length ≤ m) (hno : ∀ u, ¬ (Good n m t u ∧ dd n t u = k)) : ∀ (j : Nat) (u : Tx), Good n m t u → dd n t u ≠ k + j
  | 0, u, g, e => hno u ⟨g, e⟩
  | j + 1, u, g, e => by
    obtain ⟨v, a, b, c, d, _⟩ := near_back h1 ht hz g.1 g.2.1 g.2.2 (k := k + j) (by omega)
    exact far_all h1 ht hz hno j v ⟨a, b, c⟩ d
section
variable {P : Program} {w : World} {K : PySem.W.Frag} {mg : Str → Option Value} {base : Heap}
def spFar : Sp := fun vs H Q _ => ∃ (t : Tx) (n m : Nat), vs = [tv t, iv n, iv m] ∧ Ok t ∧ t.length ≤ m ∧ m ≤ 11 ∧ 1 ≤ n ∧ n ≤ 6 ∧ (∀ p H2 us, H p = none → Ex H H2 → H2 p = some (dD (distD n t us)) → FarOf n m t us → Q (.ref p) H2)
theorem ok_far (T : Topf mg) (F : FnP K mg "_law_far" s_l_far) (C_l_near_texts : Cal P w K mg base CX0 2 "_law_near_texts" ["_law_text", "_law_wide", "_law_most"] spNear) : Cal P w K mg base CX0 3 "_law_far" ["_law_text", "_law_wide", "_law_most"] spFar := by
  refine cal_mk F sc_l_far (fun vs H Q E h => ?_) (fun _ _ _ _ _ _ us hl => match us, hl with | [_, _, _], _ => rfl) (fun f cdv A outer s H vs Q E hr h => ?_)
  · obtain ⟨t, n, m, rfl, _⟩ := h; rfl
  · obtain ⟨t, n, m, rfl, ho, hzt, hm, h1, h6, q⟩ := h
    refine ⟨_, (pss_cons (ps_par3 (i := 3) (j := 4) (l := 5) rfl sc_l_far.nd rfl rfl rfl (by decide) (by decide) (by decide) rfl rfl rfl (pa_cons (pe_disp (pps_cons (pv 0) pe_int pps_nil) (by rfl) (by rfl) (fun z => by cases z) (by decide)) (pa_cons (pe_lst (pa_cons (pv 0) pa_nil)) (pa_cons pe_int pa_nil))) rfl)
      (pss_cons (ps_while PassesOwn.never (pt_cmpR (k_neD (K := K) rfl hr.units) (pv 4) (pe_lst pa_nil) (nomark _))
        (pss_cons (ps_par (i := 5) (j := 6) rfl sc_l_far.nd rfl rfl (by decide) rfl rfl (pa_cons (pe_op op_add (pv 5) pe_int) (pa_cons (pe_lst pa_nil) pa_nil)) rfl)
          (pss_cons (ps_for PassesOwn.never rfl (k_pil (K := K) rfl (pv 4)) (pg_name (i := 7) sc_l_far.nd rfl (Or.inl rfl))
            (pss_one (ps_set (i := 6) sc_l_far.nd rfl (Or.inl rfl) (pe_op op_cat (pv 6) (pe_c C_l_near_texts (hr.mono (by decide)) rfl (pa_cons (pv 7) (pa_cons (pv 1) (pa_cons (pv 2) pa_nil))))))))
          (pss_cons (ps_set (i := 4) sc_l_far.nd rfl (Or.inl rfl) (pe_lst pa_nil))
          (pss_one (ps_for PassesOwn.never rfl (k_pil (K := K) rfl (pv 6)) (pg_name (i := 8) sc_l_far.nd rfl (Or.inl rfl))
          (pss_one (ps_if (pt_cmp (pc_dnotin (hu_of hr) (pv 8) (pv 3))) (pss_cons (ps_dput (hu_of hr) (pv 3) (pv 8) (pv 5) rfl)
              (pss_one (ps_expr (k_bm (K := K) rfl PySem.F.plainAttrs_list PySem.F.slot_list_append PySem.F.type_list_append mt_append (pv 4) (pa_cons (pv 8) pa_nil))))) pss_nil))))))))
      (pss_one (ps_ret (pv 3))))), ?_⟩
    refine fun pf hpf => ⟨_, rfl, upd_same, [(tk t, .int 0)], rfl, Nat.le_of_ble_eq_true rfl, ⟨_, rfl, Nat.le_of_ble_eq_true rfl, fun ps hps => ⟨_, _, _, rfl, ?_⟩⟩⟩
    have hfew : ∀ us : List Tx, us.Nodup → (∀ u ∈ us, Good n m t u) → us.length ≤ 2048 := fun us hn hg => kin_few (m := 10) (t := t) h1 us hn fun u hu => by
      obtain ⟨a, b, c⟩ := hg u hu
      exact ⟨a, b, by omega⟩
    have eF : Ex H (upd (upd H pf (.dK [])) pf (.dK (mergeK [] [(tk t, .int 0)]))) := (Ex.new hpf).mut hpf
    have hne : ps ≠ pf := fun z => by rw [z, upd_same] at hps; cases hps
    have hdT : dd n t t = 0 := dd_self
    have hz0 : ∀ u, Good n m t u → dd n t u = 0 → u = t := fun u g e => dd_zero h1 ho g.2.1 g.1 e
    refine ⟨fun ms σ' H' => ∃ (k : Nat) (fs ss : List Tx) (ps : Addr) (y6 y7 y8 : Option V), σ' = [some (tv t), some (iv n), some (iv m), some (.ref pf), some (.ref ps), some (iv k), y6, y7, y8] ∧ H' pf = some (dD (distD n t fs)) ∧ H' ps = some (.lst (ss.map tv)) ∧ Ex H H' ∧ fs.Nodup ∧ (∀ u, u ∈ fs ↔ Good n m t u ∧ dd n t u ≤ k) ∧ (ss.Nodup ∧ ∀ u, u ∈ ss ↔ Good n m t u ∧ dd n t u = k) ∧ ms = (if ss = [] then 0 else 2049 - fs.length), ⟨2048, 0, [t], [t], ps, _, _, _, rfl, ?_, upd_same, eF.trans (Ex.new hps), by simp, fun u => ?_, ⟨by simp, fun u => ?_⟩, rfl⟩, fun ms σ' H' hW => ?_⟩
    · rw [upd_other hne.symm, upd_same]
      unfold distD
      rw [List.map_cons, hdT]
      rfl
    · rw [List.mem_singleton]
      constructor
      · rintro rfl; exact ⟨⟨Kin.refl n _, ho, hzt⟩, by rw [hdT]; exact Nat.le_refl _⟩
      · rintro ⟨g, e⟩; exact hz0 u g (by omega)
    · rw [List.mem_singleton]
      constructor
      · rintro rfl; exact ⟨⟨Kin.refl n _, ho, hzt⟩, hdT⟩
      · rintro ⟨g, e⟩; exact hz0 u g e
    obtain ⟨k, fs, ss, ps, y6, y7, y8, rfl, hfs, hss, eH, hfn, hfm, ⟨hsn, hsm⟩, hms⟩ := hW
    have hsg : ∀ u ∈ ss, Good n m t u := fun u hu => ((hsm u).mp hu).1
    refine et_B (ev_neHT (l := ss) (fun u hu => (hsg u hu).2.1) (ev_var rfl) (SqL.of hss)) H' (Ex.refl H') _ fun H2 e2 => ?_
    by_cases hs : ss = []
    · rw [if_neg (by rw [hs]; decide)]
      have hno : ∀ u, ¬ (Good n m t u ∧ dd n t u = k) := fun u h => by
        have := (hsm u).mpr h
        rw [hs] at this
        cases this
      refine s_ret (ev_var rfl) fun H3 e3 => q pf H3 fs hpf (eH.trans (e2.trans e3)) ((e2.trans e3) _ _ hfs) ⟨hfn, fun u => ?_⟩
      rw [hfm u]
      refine ⟨fun h => h.1, fun g => ⟨g, ?_⟩⟩
      refine Nat.le_of_not_lt fun z => ?_
      exact far_all h1 ho hzt hno (dd n t u - k) u g (by omega)
    · rw [if_pos (by simpa using hs)]
      rw [if_neg hs] at hms
      refine ⟨fun σ' H' => ∃ m', m' < ms ∧ _, fun σ' H' h => h, ?_⟩
      refine q_parL (v := iv (k + 1)) (xs := []) (ev_is (ev_I0 (ev_var rfl) ev_c) (by congr 1)) (el_lst (vs := []) ea_nil (Nat.le_of_ble_eq_true rfl)) fun pm H3 hpm e3 hpm3 => ?_
      have hss3 := (e2.trans e3) _ _ hss
      have hS := src_L (K := K) (j := 7) (σ := [some (tv t), some (iv n), some (iv m), some (.ref pf), some (.ref ps), some (iv (k + 1)), some (.ref pm), y7, y8]) (H := H3) (tl := tVar 4) (ev_var (v := .ref ps) rfl) (SqL.of hss3)
      rw [List.length_map] at hS
      have hssl := hfew ss hsn hsg
      refine q_forH hS (fun i σ' H4 => ∃ (us : List Tx) (pm : Addr) (y7 : Option V), σ' = [some (tv t), some (iv n), some (iv m), some (.ref pf), some (.ref ps), some (iv (k + 1)), some (.ref pm), y7, y8] ∧ H4 pm = some (.lst (us.map tv)) ∧ us.length ≤ i * 22 ∧ ∀ u, u ∈ us ↔ ∃ x ∈ ss.take i, Near n m x u) (fun H4 e4 => ⟨[], pm, _, rfl, e4 _ _ hpm3, by simp, fun u => by simp⟩) (fun i σ' Ha Hb e pv => by obtain ⟨us, pm, y7, a, b, c⟩ := pv; exact ⟨us, pm, y7, a, e _ _ b, c⟩) ?_ ?_
      · intro B i σ' H4 hi eB eH4 pv
        obtain ⟨us, pm, y7, rfl, hus, hul, hum⟩ := pv
        rw [txs_at hi]
        have hxin := txs_in hi
        have htake : ss.take (i + 1) = ss.take i ++ [ss.getD i []] := by
          rw [List.take_succ_eq_append_getElem hi, List.getD_eq_getElem?_getD, List.getElem?_eq_getElem hi]; rfl
        rw [htake]
        generalize ss.getD i [] = x at hxin
        obtain ⟨gx1, gx2, gx3⟩ := hsg x hxin
        refine s_asgLP (W := fun ys => ∃ ws : List Tx, ys = (us ++ ws).map tv ∧ NearOf n m x ws) (lp_catP (W := fun ys => ∃ ws : List Tx, ys = ws.map tv ∧ NearOf n m x ws) (ev_var rfl) hus (lp_cl (ea_cons (ev_var rfl) (ea_cons (ev_var rfl) (ea_cons (ev_var rfl) ea_nil))) fun H5 e5 Q5 q5 E5 => ⟨x, n, m, rfl, by omega, h1, h6, q5⟩) (fun ys hy => ?_) (fun ys hy => ?_)) fun p2 ys H5 hp2 e5 hy5 hw5 => ?_
        · obtain ⟨ws, rfl, hw⟩ := hy
          rw [List.length_map, List.length_map]
          have := hw.2
          omega
        · obtain ⟨ws, rfl, hw⟩ := hy
          exact ⟨ws, by rw [List.map_append], hw⟩
        · obtain ⟨ws, rfl, hw⟩ := hw5
          refine ⟨eH4.trans e5, us ++ ws, p2, _, rfl, hy5, ?_, fun u => ?_⟩
          · rw [List.length_append]
            have := hw.2
            omega
          · rw [List.mem_append, hum, nearOf_iff hw]
            constructor
            · rintro (⟨y, hy, h⟩ | h)
              · exact ⟨y, List.mem_append_left _ hy, h⟩
              · exact ⟨x, List.mem_append_right _ (by simp), h⟩
            · rintro ⟨y, hy, h⟩
              rcases List.mem_append.mp hy with hy | hy
              · exact .inl ⟨y, hy, h⟩
              · rw [List.mem_singleton] at hy
                rw [hy] at h
                exact .inr h
      · intro σ' H4 eH4 pv
        obtain ⟨us, pm, y7, rfl, hus, hul, hum⟩ := pv
        rw [List.take_of_length_le (Nat.le_refl _)] at hum
        have hfs4 := (e2.trans (e3.trans eH4)) _ _ hfs
        have e14 := eH.trans (e2.trans (e3.trans eH4))
        refine q_asgL (xs := []) (el_lst (vs := []) ea_nil (Nat.le_of_ble_eq_true rfl)) fun pn H5 hpn e5 hpn5 => ?_
        have hfs5 := e5 _ _ hfs4
        have hus5 := e5 _ _ hus
        have hnf : pn ≠ pf := fun z => by rw [z, hfs4] at hpn; cases hpn
        have hnm : pm ≠ pn := fun z => by rw [z] at hus; rw [hus] at hpn; cases hpn
        have hmf : pm ≠ pf := fun z => by
          have a := hus5
          rw [z, hfs5] at a
          cases a
        have e0B : Ex H (drp (drp H5 pf) pn) := drp_of (drp_of (e14.trans e5) hpf) (fresh_back e14 hpn)
        have hB1 : (drp (drp H5 pf) pn) pf = none := by rw [drp_ne hnf.symm, drp_at]
        have hB2 : (drp (drp H5 pf) pn) pn = none := drp_at _ _
        have husB : (drp (drp H5 pf) pn) pm = some (.lst (us.map tv)) := by rw [drp_ne hnm, drp_ne hmf]; exact hus5
        have hS2 := srcB_L (K := K) (B0 := drp (drp H5 pf) pn) (j := 8) (σ := [some (tv t), some (iv n), some (iv m), some (.ref pf), some (.ref pn), some (iv (k + 1)), some (.ref pm), y7, y8]) (H := H5) (tl := tVar 6) (ev_var (v := .ref pm) rfl) (SqL.of husB) (SqL.of hus5)
        rw [List.length_map] at hS2
        have hnew : ∀ u ∈ us, ¬ u ∈ fs → Good n m t u ∧ dd n t u = k + 1 := fun u hu hnf => by
          obtain ⟨x, hx, hnr⟩ := (hum u).mp hu
          obtain ⟨⟨gx1, gx2, gx3⟩, gd⟩ := (hsm x).mp hx
          obtain ⟨a, b, c, d⟩ := near_step h1 gx1 gx2 gx3 hnr
          refine ⟨⟨a, b, c⟩, ?_⟩
          have : ¬ dd n t u ≤ k := fun z => hnf ((hfm u).mpr ⟨⟨a, b, c⟩, z⟩)
          omega
        refine s_forB hS2 (fun i σ' H6 => ∃ (ns : List Tx) (y8 : Option V), σ' = [some (tv t), some (iv n), some (iv m), some (.ref pf), some (.ref pn), some (iv (k + 1)), some (.ref pm), y7, y8] ∧ H6 pf = some (dD (distD n t (fs ++ ns))) ∧ H6 pn = some (.lst (ns.map tv)) ∧ (fs ++ ns).Nodup ∧ ∀ u, u ∈ ns ↔ u ∈ us.take i ∧ ¬ u ∈ fs) (fun H6 e6 => ⟨(drp_ex _ _).trans ((drp_ex _ _).trans e6), [], _, rfl, by rw [List.append_nil]; exact e6 _ _ hfs5, e6 _ _ hpn5, by rw [List.append_nil]; exact hfn, fun u => by simp⟩) ?_ ?_
        · intro i σ' H6 H7 hi eB pv e67
          obtain ⟨ns, y8, rfl, hf6, hn6, hnd, hnm6⟩ := pv
          rw [txs_at hi]
          have hxin := txs_in hi
          have htake : us.take (i + 1) = us.take i ++ [us.getD i []] := by
            rw [List.take_succ_eq_append_getElem hi, List.getD_eq_getElem?_getD, List.getElem?_eq_getElem hi]; rfl
          rw [htake]
          generalize us.getD i [] = x at hxin
          have hf7 := e67 _ _ hf6
          have hn7 := e67 _ _ hn6
          have hng : ∀ u ∈ ns, Good n m t u := fun u hu => by
            obtain ⟨a, b⟩ := (hnm6 u).mp hu
            exact (hnew u (List.take_subset _ _ a) b).1
          have hlen := hfew (fs ++ ns) hnd fun u hu => by
            rcases List.mem_append.mp hu with h | h
            · exact ((hfm u).mp h).1
            · exact hng u h
          refine s_when (b := !decide (x ∈ fs ++ ns)) (et_B (ev_is (ev_niD (ev_var rfl) (ev_var rfl) hf7) (by rw [dist_isSome]))) (fun hb H8 e8 => ?_) (fun hb H8 e8 => ?_)
          · have hx : ¬ x ∈ fs ++ ns := by simpa using hb
            have hxf : ¬ x ∈ fs := fun z => hx (List.mem_append_left _ z)
            obtain ⟨gx, gd⟩ := hnew x hxin hxf
            refine q_put (t := x) (v := iv (k + 1)) (ev_var (v := .ref pf) rfl) (ev_var rfl) (ev_var rfl) (e8 _ _ hf7) (by unfold distD; rw [List.length_map]; omega) fun H9 e9 => ?_
            have hputn : putT (distD n t (fs ++ ns)) x (iv (k + 1)) = distD n t (fs ++ (ns ++ [x])) := by
              rw [put_new (by rw [distD_keys]; exact hx), ← List.append_assoc]
              unfold distD
              rw [List.map_append (l₁ := fs ++ ns) (l₂ := [x])]
              show _ ++ [(x, iv (k + 1))] = _ ++ [(x, iv (dd n t x))]
              rw [gd]
            rw [hputn]
            refine s_append (xs := ns.map tv) (v := tv x) (by rw [upd_other hnf]; exact (e8.trans e9) _ _ hn7) (ev_var rfl) (ev_var rfl) (by rw [List.length_map]; rw [List.length_append] at hlen; omega) fun H10 e10 => ⟨?_, ns ++ [x], _, rfl, ?_, ?_, ?_, fun u => ?_⟩
            · exact ((((eB.trans e67).trans (e8.trans e9)).mut hB1).trans e10).mut hB2
            · rw [upd_other hnf.symm]; exact e10 _ _ upd_same
            · rw [upd_same, List.map_append]; rfl
            · rw [← List.append_assoc]
              refine List.nodup_append.mpr ⟨hnd, by simp, fun a ha b hb e => ?_⟩
              rw [List.mem_singleton] at hb
              rw [e, hb] at ha
              exact hx ha
            · rw [List.mem_append, hnm6, List.mem_append, List.mem_singleton]
              constructor
              · rintro (⟨a, b⟩ | rfl)
                · exact ⟨.inl a, b⟩
                · exact ⟨.inr rfl, hxf⟩
              · rintro ⟨a | a, b⟩
                · exact .inl ⟨a, b⟩
                · exact .inr a
          · have hx : x ∈ fs ++ ns := Decidable.byContradiction fun z => by rw [decide_eq_false z] at hb; cases hb
            refine ⟨eB.trans (e67.trans e8), ns, _, rfl, e8 _ _ hf7, e8 _ _ hn7, hnd, fun u => ?_⟩
            rw [hnm6, List.mem_append, List.mem_singleton]
            constructor
            · rintro ⟨a, b⟩; exact ⟨.inl a, b⟩
            · rintro ⟨a | a, b⟩
              · exact ⟨a, b⟩
              · rw [a] at b ⊢
                rcases List.mem_append.mp hx with h | h
                · exact absurd h b
                · exact (hnm6 x).mp h
        · intro σ' H6 eB pv
          obtain ⟨ns, y8, rfl, hf6, hn6, hnd, hnm6⟩ := pv
          rw [List.take_of_length_le (Nat.le_refl _)] at hnm6
          have hns : ∀ u, u ∈ ns ↔ Good n m t u ∧ dd n t u = k + 1 := fun u => by
            rw [hnm6]
            constructor
            · rintro ⟨a, b⟩; exact hnew u a b
            · rintro ⟨g, e⟩
              obtain ⟨v, a, b, c, d, nr⟩ := near_back h1 ho hzt g.1 g.2.1 g.2.2 (k := k) e
              exact ⟨(hum u).mpr ⟨v, (hsm v).mpr ⟨⟨a, b, c⟩, d⟩, nr⟩, fun z => by have := ((hfm u).mp z).2; omega⟩
          have hfm2 : ∀ u, u ∈ fs ++ ns ↔ Good n m t u ∧ dd n t u ≤ k + 1 := fun u => by
            rw [List.mem_append, hfm, hns]
            constructor
            · rintro (⟨g, e⟩ | ⟨g, e⟩)
              · exact ⟨g, by omega⟩
              · exact ⟨g, by omega⟩
            · rintro ⟨g, e⟩
              by_cases z : dd n t u ≤ k
              · exact .inl ⟨g, z⟩
              · exact .inr ⟨g, by omega⟩
          have hlen := hfew (fs ++ ns) hnd fun u hu => ((hfm2 u).mp hu).1
          rw [List.length_append] at hlen
          refine ⟨if ns = [] then 0 else 2049 - (fs ++ ns).length, ?_, k + 1, fs ++ ns, ns, pn, _, _, _, rfl, hf6, hn6, e0B.trans eB, hnd, hfm2, ⟨(List.nodup_append.mp hnd).2.1, hns⟩, rfl⟩
          rw [hms]
          split
          · omega
          · rename_i hne
            have := List.length_pos_iff.mpr hne
            rw [List.length_append]
            omega
end
end K9
namespace K9
open PySem PySem.Spec PyProof.Rows L2 Evl
local macro_rules | `(tactic| walk_at "ev") => `(tactic| first
  | with_reducible exact ev_c
  | ((with_reducible refine' ev_var ?k0); (case k0 => exact rfl))
  | with_reducible assumption
  | ((with_reducible refine' ev_lenS ?k0 ?k1); (case k0 => walk_at "ev"); (case k1 => walk_at "sz"))
  | ((with_reducible refine' ev_I0 ?k0 ?k1); (case k0 => walk_at "ev"); (case k1 => walk_at "ev"))
  | ((with_reducible refine' ev_I ?k0 ?k1 ?k2); (case k0 => walk_at "ev"); (case k1 => walk_at "ev"); (case k2 => walk_at "sz"))
  | ((with_reducible refine' ev_eq ?k0 ?k1 ?k2); (case k0 => walk_at "ev"); (case k1 => walk_at "ev"); (case k2 => walk_at "sz"))
  | ((with_reducible refine' ev_ne ?k0 ?k1 ?k2); (case k0 => walk_at "ev"); (case k1 => walk_at "ev"); (case k2 => walk_at "sz"))
  | ((with_reducible refine' ev_slTo ?k0 ?k1 ?k2 ?k3); (case k0 => walk_at "ev"); (case k1 => walk_at "ev"); (case k2 => walk_at "sz"); (case k3 => walk_at "sz"))
  | ((with_reducible refine' ev_slFrom ?k0 ?k1 ?k2 ?k3); (case k0 => walk_at "ev"); (case k1 => walk_at "ev"); (case k2 => walk_at "sz"); (case k3 => walk_at "sz"))
  | ((with_reducible refine' ev_slMid ?k0 ?k1 ?k2 ?k3 ?k4 ?k5); (case k0 => walk_at "ev"); (case k1 => walk_at "ev"); (case k2 => walk_at "ev"); (case k3 => walk_at "sz"); (case k4 => walk_at "sz"); (case k5 => walk_at "sz"))
  | ((with_reducible refine' ev_addS ?k0 ?k1 ?k2); (case k0 => walk_at "ev"); (case k1 => walk_at "ev"); (case k2 => walk_at "sz"))
  | ((with_reducible refine' ev_cl ?k0 ?k1); (case k0 => walk_at "ea"); (case k1 => walk_at "sp"))
  | ((with_reducible refine' ev_notV ?k0); (case k0 => walk_at "ev"))
  | ((with_reducible refine' ev_un ?k0 ru_neg); (case k0 => walk_at "ev")))
local macro_rules | `(tactic| walk_at "ea") => `(tactic| first
  | with_reducible exact ea_nil
  | ((with_reducible refine' ea_cons ?k0 ?k1); (case k0 => walk_at "ev"); (case k1 => walk_at "ea")))
local macro_rules | `(tactic| walk_at "et") => `(tactic| first
  | with_reducible assumption
  | ((with_reducible refine' et_test ?k0); (case k0 => walk_at "ev"))
  | ((with_reducible refine' et_B ?k0); (case k0 => walk_at "ev"))
  | ((with_reducible refine' et_not ?k0); (case k0 => walk_at "et")))
local macro_rules | `(tactic| walk_at "sz") => `(tactic| first
  | rfl
  | omega
  | (simp only [List.length_take, List.length_drop, List.length_append]; omega)
  | (constructor <;> omega)
  | assumption)
local macro_rules | `(tactic| walk_at "sp") => `(tactic| first | assumption)

/-! ### the order -/
theorem leT_eq (t u : Tx) : leT t u = decide (t.length < u.length ∨ t.length = u.length ∧ t ≤ u) := by
  unfold leT
  rw [PySem.W.dataLe_eq]
  show (!PySem.W.dataLt (keyT u) (keyT t)) = _
  unfold keyT tD
  rw [PySem.W.dataLt_pair (x := .int (u.length : Int)) (x' := .int (t.length : Int)) (y := .str ⟨u.toArray⟩) (y' := .str ⟨t.toArray⟩) (by simp [PySem.W.alike]) (by simp [PySem.W.alike])]
  have hi : PyData.eqv (.int (u.length : Int)) (.int (t.length : Int)) = decide (u.length = t.length) := eqv_nD _ _
  have hs : PyData.eqv (.str ⟨u.toArray⟩) (.str ⟨t.toArray⟩) = decide (u = t) := eqv_tD u t
  have li : PySem.W.dataLt (.int (u.length : Int)) (.int (t.length : Int)) = decide ((u.length : Int) < (t.length : Int)) := by
    have := congrFun (congrFun (PySem.W.dataLe_int (fun b : Int => b)) (t.length : Int)) (u.length : Int)
    rw [PySem.W.dataLe_eq] at this
    have h2 : (!PySem.W.dataLt (.int (u.length : Int)) (.int (t.length : Int))) = decide ((t.length : Int) ≤ (u.length : Int)) := this
    rw [Bool.eq_iff_iff] at h2 ⊢
    simp only [Bool.not_eq_true', decide_eq_true_iff] at h2 ⊢
    cases hb : PySem.W.dataLt (.int (u.length : Int)) (.int (t.length : Int)) with
    | true => rw [hb] at h2; simp at h2 ⊢; omega
    | false => rw [hb] at h2; simp at h2 ⊢; omega
  have ls : (!PySem.W.dataLt (.str ⟨u.toArray⟩) (.str ⟨t.toArray⟩)) = decide (t ≤ u) := by
    have := congrFun (congrFun (PySem.W.dataLe_str (fun b : Tx => (⟨b.toArray⟩ : Str))) t) u
    rw [PySem.W.dataLe_eq] at this
    have h2 : (!PySem.W.dataLt (.str ⟨u.toArray⟩) (.str ⟨t.toArray⟩)) = decide (t.toArray.toList ≤ u.toArray.toList) := this
    simpa using h2
  rw [hi, hs, li]
  by_cases hl : u.length = t.length
  · rw [if_pos (decide_eq_true hl)]
    by_cases e : u = t
    · rw [if_pos (decide_eq_true e)]
      subst e
      simp
    · rw [if_neg (by rw [decide_eq_false e]; decide), ls, decide_eq_decide]
      exact ⟨fun h => .inr ⟨hl.symm, h⟩, fun h => h.elim (fun z => by omega) fun z => z.2⟩
  · rw [if_neg (by rw [decide_eq_false hl]; decide)]
    rw [← decide_not, decide_eq_decide]
    constructor
    · intro h; left; omega
    · rintro (h | ⟨h, _⟩)
      · omega
      · exact absurd h.symm hl
theorem leT_trans (a b c : Tx) (h1 : leT a b = true) (h2 : leT b c = true) : leT a c = true := by
  rw [leT_eq, decide_eq_true_iff] at h1 h2 ⊢
  rcases h1 with h1 | ⟨h1, k1⟩
  · left; rcases h2 with h2 | ⟨h2, _⟩ <;> omega
  · rcases h2 with h2 | ⟨h2, k2⟩
    · left; omega
    · exact .inr ⟨by omega, List.le_trans k1 k2⟩
theorem leT_total (a b : Tx) : (leT a b || leT b a) = true := by
  rw [leT_eq, leT_eq, Bool.or_eq_true, decide_eq_true_iff, decide_eq_true_iff]
  rcases Nat.lt_trichotomy a.length b.length with h | h | h
  · exact .inl (.inl h)
  · rcases List.le_total a b with k | k
    · exact .inl (.inr ⟨h, k⟩)
    · exact .inr (.inr ⟨h.symm, k⟩)
  · exact .inr (.inl h)
theorem leT_anti (a b : Tx) (h1 : leT a b = true) (h2 : leT b a = true) : a = b := by
  rw [leT_eq, decide_eq_true_iff] at h1 h2
  rcases h1 with h1 | ⟨h1, k1⟩
  · rcases h2 with h2 | ⟨h2, _⟩ <;> omega
  · rcases h2 with h2 | ⟨h2, k2⟩
    · omega
    · exact List.le_antisymm k1 k2
theorem sortT_perm {a b : List Tx} (h : a.Perm b) : sortT a = sortT b := by
  unfold sortT
  refine List.Perm.eq_of_pairwise (le := fun a b => leT a b = true) (fun x y _ _ h1 h2 => leT_anti x y h1 h2) (List.pairwise_mergeSort leT_trans leT_total a) (List.pairwise_mergeSort leT_trans leT_total b) ?_
  exact ((List.mergeSort_perm a leT).trans h).trans (List.mergeSort_perm b leT).symm
theorem sortT_same {a b : List Tx} (ha : a.Nodup) (hb : b.Nodup) (h : ∀ t, t ∈ a ↔ t ∈ b) : sortT a = sortT b := sortT_perm ((List.perm_ext_iff_of_nodup ha hb).mpr h)
/-! ### sorted of pairs -/
def rSortKT (K : PySem.W.Frag) : List V → Hp → VK → Prop := fun vs H Q => ∃ (a : Addr) (bs : List (V × Tx)), vs = [V.ref a] ∧ SqL K H a (bs.map (·.1)) ∧ (∀ b ∈ bs, Dp K H b.1 (keyT b.2)) ∧ bs.length ≤ 100000 ∧
  ∀ p, H p = none → Q (.ref p) (upd H p (.lst ((bs.mergeSort (PySem.W.dataLe false fun b => keyT b.2)).map (·.1))))
theorem each_rel : ∀ {bs : List (V × Tx)} {us : List Value}, Vals (bs.map (·.1)) us → PySem.W.EachIs (fun v (b : V × Tx) => RelV b.1 v) us bs
  | [], _, .nil => .nil
  | _ :: _, _, .cons h hs => .cons h (each_rel hs)
theorem rel_each : ∀ {bs : List (V × Tx)} {us : List Value}, PySem.W.EachIs (fun v (b : V × Tx) => RelV b.1 v) us bs → Vals (bs.map (·.1)) us
  | _, _, .nil => .nil
  | _, _, .cons h hs => .cons h (rel_each hs)
theorem each_reads {X : Cx} {pins : List (Addr × Obj)} {σ : L2.St} {H : Hp} {s : Shared} (I : Inv X pins σ H s) : ∀ {bs : List (V × Tx)} {us : List Value}, Vals (bs.map (·.1)) us → (∀ b ∈ bs, Dp X.K H b.1 (keyT b.2)) → PySem.W.EachIs (fun v (b : V × Tx) => ∃ as, Reads s.heap v (keyT b.2) as) us bs
  | [], _, .nil, _ => .nil
  | b :: bs, _, .cons h hs, hd => .cons (Dp.reads I _ _ _ (hd b List.mem_cons_self) h) (each_reads I hs fun x hx => hd x (List.mem_cons_of_mem _ hx))
theorem cr_sortKT {X : Cx} (hu : X.A.units + 64 < cLine) : CallR X (.builtin "sorted") (rSortKT X.K) := by
  intro pins s σ H xs us Q I r h
  obtain ⟨a, bs, rfl, hs, hd, hz, q⟩ := h
  obtain ⟨u, rfl, ru⟩ := vals1 r
  obtain rfl : u = Value.ref a := ru
  obtain ⟨its, r2, pl, hz2⟩ := I.list hs
  have hdp : ∀ t : Tx, (keyT t).depth = 1 := fun t => by unfold keyT tD; simp [PyData.depth, PyData.depthAll]
  refine PySem.W.sorted_data (enc := fun b : V × Tx => keyT b.2) (R := fun v b => RelV b.1 v) (bs := bs) pl.isList (each_rel r2) (each_reads I r2 hd) (PySem.W.AllAlike.of fun _ _ => by unfold keyT tD; simp [PySem.W.alike, PySem.W.alikeAll]) (PySem.W.Sortable.tuples fun t => ⟨_, _, rfl⟩) (sz60 (by omega)) (fun t _ => by rw [hdp]; omega) fun out ho eo => ?_
  obtain ⟨c, hc⟩ := sortedAll_at s.heap its out.toArray
  have J := I.laid (t' := s.toks) (a := s.heap.objs.size + 1) (o := .lst ((bs.mergeSort (PySem.W.dataLe false fun b => keyT b.2)).map (·.1))) (h' := sortedAll s.heap its out.toArray) (fun b o hb => sortedAll_old hb) (Nat.le_succ _) ⟨by
    rw [List.length_map, List.length_mergeSort]
    exact sz60 (by omega), out, c, rel_each eo, hc⟩
  exact ⟨.ref (s.heap.objs.size + 1), _, J, rfl, q _ (I.hok.fresh (Nat.le_succ _))⟩
theorem k_sortKT {X : Cx} {K : PySem.W.Frag} (hK : X.K = K) (hu : X.A.units + 64 < cLine) : CallR X (.builtin "sorted") (rSortKT K) := by subst hK; exact cr_sortKT hu
section
variable {K : PySem.W.Frag} {σ : L2.St} {H H' : Hp} {te ta tb tl td ty tw : TE} {D : Ends} {tz : TS}
theorem dpa_zip : ∀ {xs : List V} {ts : List Tx}, DpAll K H xs (ts.map keyT) → (xs.zip ts).map (·.1) = xs ∧ (xs.zip ts).map (·.2) = ts ∧ ∀ b ∈ xs.zip ts, Dp K H b.1 (keyT b.2)
  | [], [], _ => ⟨rfl, rfl, fun _ h => by cases h⟩
  | x :: xs, t :: ts, .cons h hs => by
    obtain ⟨a, b, c⟩ := dpa_zip hs
    refine ⟨by rw [List.zip_cons_cons, List.map_cons, a], by rw [List.zip_cons_cons, List.map_cons, b], fun p hp => ?_⟩
    rw [List.zip_cons_cons] at hp
    rcases List.mem_cons.mp hp with e | e
    · rw [e]; exact h
    · exact c p e
theorem zip_dpa : ∀ {bs : List (V × Tx)}, (∀ b ∈ bs, Dp K H b.1 (keyT b.2)) → DpAll K H (bs.map (·.1)) ((bs.map (·.2)).map keyT)
  | [], _ => .nil
  | b :: bs, h => .cons (h b List.mem_cons_self) (zip_dpa fun x hx => h x (List.mem_cons_of_mem _ hx))
theorem ld_sortKT {ts : List Tx} (h : EvLD K te σ H (ts.map keyT)) (hz : ts.length ≤ 100000) : EvLD K (tCB (rSortKT K) (tCons te tNil)) σ H ((sortT ts).map keyT) := fun H1 e Q q =>
  h H1 e _ fun p xs H2 hp e2 hx hd => by
    obtain ⟨a, b, c⟩ := dpa_zip hd
    refine ⟨p, xs.zip ts, rfl, SqL.of (by rw [a]; exact hx), c, by rw [← List.length_map (f := (·.2)), b]; exact hz, fun p2 hp2 => ?_⟩
    refine q p2 _ _ (fresh_back e2 hp2) (e2.trans (Ex.new hp2)) upd_same (DpAll.mono (Ex.new hp2) ?_)
    have hm : ((xs.zip ts).mergeSort (PySem.W.dataLe false fun b => keyT b.2)).map (·.2) = sortT ts := by
      have := List.map_mergeSort (r := PySem.W.dataLe false fun b : V × Tx => keyT b.2) (s := leT) (f := fun b : V × Tx => b.2) (l := xs.zip ts) (fun _ _ _ _ => rfl)
      rw [this, b]
      rfl
    rw [← hm]
    exact zip_dpa fun x hx => c x ((List.mergeSort_perm _ _).mem_iff.mp hx)
/-- items (length, text), unpacked -/
theorem src_pairs {ts : List Tx} {j k : Nat} (h : EvLD K tl σ H (ts.map keyT)) : Src (iList K tl) (gTup K 2 (gCons (gName j) (gCons (gName k) gNil))) σ H ts.length (fun i σ => (σ.set j (some (iv (ts.getD i []).length))).set k (some (tv (ts.getD i [])))) := fun H1 e R kk =>
  h H1 e _ fun p xs H2 hp e2 hx hd => by
    have hxl : xs.length = ts.length := by rw [dpa_len hd, List.length_map]
    refine ⟨p, rfl, ⟨xs, SqL.of hx⟩, kk _ H2 e2 fun H3 e3 => ?_⟩
    have hx3 := e3 _ _ hx
    refine ⟨fun i hi => ⟨⟨xs, xs[i], SqL.of hx3, List.getElem?_eq_getElem (by omega)⟩, fun σ x H4 y => ?_⟩, ⟨xs, SqL.of hx3, by omega⟩⟩
    obtain ⟨rfl, y⟩ := y
    refine ⟨Ex.refl _, fun Q q => ?_⟩
    have ey := y xs (SqL.of hx3)
    have hi2 : i < xs.length := by omega
    rw [List.getElem?_eq_getElem hi2] at ey
    have ey := Option.some.inj ey
    have hdi := dpa_get (DpAll.mono e3 hd) i hi2 (by rw [List.length_map]; exact hi)
    rw [ey, List.getElem_map] at hdi
    have hg : ts.getD i [] = ts[i] := by rw [List.getD_eq_getElem?_getD, List.getElem?_eq_getElem hi]; rfl
    dsimp only at q
    rw [hg] at q
    generalize ts[i] = t at hdi q
    unfold keyT at hdi
    cases hdi with
    | @tup a _ _ hs has =>
      cases has with
      | cons h1 h2 =>
        cases h2 with
        | cons h3 h4 =>
          cases h4
          cases h1
          cases h3
          exact ⟨a, _, rfl, hs, rfl, _, _, rfl, _, _, rfl, rfl, q⟩
/-! ### a locked dict -/
mutual
theorem Dp.to (hl : ∀ a xs, SqL K H a xs → SqL K H' a xs) (ht : ∀ a xs, SqT K H a xs → SqT K H' a xs) : ∀ {v : V} {d : PyData}, Dp K H v d → Dp K H' v d
  | _, _, .non => .non
  | _, _, .bl b => .bl b
  | _, _, .int i => .int i
  | _, _, .str x => .str x
  | _, _, .lst h hs => .lst (hl _ _ h) (DpAll.to hl ht hs)
  | _, _, .tup h hs => .tup (ht _ _ h) (DpAll.to hl ht hs)
theorem DpAll.to (hl : ∀ a xs, SqL K H a xs → SqL K H' a xs) (ht : ∀ a xs, SqT K H a xs → SqT K H' a xs) : ∀ {vs : List V} {ds : List PyData}, DpAll K H vs ds → DpAll K H' vs ds
  | _, _, .nil => .nil
  | _, _, .cons h hs => .cons (Dp.to hl ht h) (DpAll.to hl ht hs)
end
theorem sq_unl {d : Addr} {od : Obj} {kvs : List (Tx × V)} (h : H d = some (.frz od (dD kvs))) {a : Addr} {xs : List V} (hs : SqL K H a xs) : SqL K (upd H d (dD kvs)) a xs := by
  rcases hs with (hs | ⟨ob, hs⟩) | hs
  · exact .inl (.inl (by rw [upd_other (fun z => by rw [z, h] at hs; cases hs)]; exact hs))
  · exact .inl (.inr ⟨ob, by rw [upd_other (fun z => by rw [z, h] at hs; unfold dD at hs; cases hs)]; exact hs⟩)
  · exact .inr hs
theorem st_unl {d : Addr} {od : Obj} {kvs : List (Tx × V)} (h : H d = some (.frz od (dD kvs))) {a : Addr} {xs : List V} (hs : SqT K H a xs) : SqT K (upd H d (dD kvs)) a xs := by
  rcases hs with (hs | ⟨ob, hs⟩) | hs
  · exact .inl (.inl (by rw [upd_other (fun z => by rw [z, h] at hs; cases hs)]; exact hs))
  · exact .inl (.inr ⟨ob, by rw [upd_other (fun z => by rw [z, h] at hs; unfold dD at hs; cases hs)]; exact hs⟩)
  · exact .inr hs
theorem ex_unl {H1 H2 : Hp} {d : Addr} {od : Obj} {kvs : List (Tx × V)} (hd : H1 d = some (dD kvs)) (e : Ex (upd H1 d (.frz od (dD kvs))) H2) : Ex H1 (upd H2 d (dD kvs)) := fun a o ho => by
  by_cases z : a = d
  · rw [z] at ho ⊢
    rw [hd] at ho
    rw [upd_same]
    exact ho
  · rw [upd_other z]
    exact e _ _ (by rw [upd_other z]; exact ho)
theorem ld_lock {d : Addr} {kvs : List (Tx × V)} {ds : List PyData} (hd : H d = some (dD kvs)) (h : ∀ H1 od, Ex H H1 → EvLD K te σ (upd H1 d (.frz od (dD kvs))) ds) : EvLD K (tLockE te) σ H ds := fun H1 e Q q =>
  ⟨d, dD kvs, e _ _ hd, trivial, fun od => h H1 od e _ (Ex.refl _) _ fun p xs H2 hp e2 hx hds => by
    have h2 : H2 d = some (.frz od (dD kvs)) := e2 _ _ upd_same
    have hpd : p ≠ d := fun z => by rw [z, upd_same] at hp; cases hp
    refine ⟨h2, q p xs _ ?_ (ex_unl (e _ _ hd) e2) (by rw [upd_other hpd]; exact hx) (DpAll.to (fun a xs => sq_unl h2) (fun a xs => st_unl h2) hds)⟩
    rw [upd_other hpd] at hp
    exact hp⟩
theorem el_lock {d : Addr} {kvs : List (Tx × V)} {xs : List V} (hd : H d = some (dD kvs)) (h : ∀ H1 od, Ex H H1 → EvL te σ (upd H1 d (.frz od (dD kvs))) xs) : EvL (tLockE te) σ H xs := fun H1 e Q q =>
  ⟨d, dD kvs, e _ _ hd, trivial, fun od => h H1 od e _ (Ex.refl _) _ fun p H2 hp e2 hx => by
    have h2 : H2 d = some (.frz od (dD kvs)) := e2 _ _ upd_same
    have hpd : p ≠ d := fun z => by rw [z, upd_same] at hp; cases hp
    refine ⟨h2, q p _ ?_ (ex_unl (e _ _ hd) e2) (by rw [upd_other hpd]; exact hx)⟩
    rw [upd_other hpd] at hp
    exact hp⟩
theorem src_keys {d : Addr} {od : Obj} {kvs : List (Tx × V)} {j : Nat} (h : Ev td σ H (.ref d)) (hd : H d = some (.frz od (dD kvs))) : Src (iKeys td) (gName j) σ H kvs.length (fun i σ => σ.set j (some (((kvs.map (·.1)).map tv).getD i .non))) := fun H1 e R k =>
  h H1 e _ fun H2 e2 => ⟨d, od, rfl, .inl ⟨_, (e.trans e2) _ _ hd, k _ H2 e2 fun H3 e3 => by
    have hd3 := (e.trans (e2.trans e3)) _ _ hd
    refine ⟨fun i hi => ⟨⟨hd3, by rw [List.length_map]; exact hi⟩, fun σ x H4 y => ?_⟩, ⟨hd3, by rw [List.length_map]; exact Nat.le_refl _⟩⟩
    obtain ⟨rfl, k, v, hk, rfl⟩ := y
    refine ⟨Ex.refl _, fun Q q => ?_⟩
    rw [List.getElem?_map, List.getElem?_eq_getElem hi] at hk
    have hk := Option.some.inj hk
    have hk1 : tk kvs[i].1 = k := congrArg Prod.fst hk
    have e9 : ((kvs.map (·.1)).map tv).getD i .non = kV k := by
      rw [← hk1, List.getD_eq_getElem?_getD, List.getElem?_map, List.getElem?_map, List.getElem?_eq_getElem hi]
      rfl
    dsimp only at q
    rw [e9] at q
    exact q⟩⟩
theorem dget_R {a : Addr} {kvs : List (Tx × V)} (h : Rd H a (dD kvs)) (t : Tx) : DGet H a (tv t) (lookT kvs t) := by
  rw [← look_val]
  exact .inl ⟨_, tk t, h, rfl, rfl⟩
theorem q_pop {l : Addr} {xs : List V} {v : V} {i : Nat} (hl : H l = some (.lst (xs ++ [v]))) (ha : Ev ta σ H (.ref l)) (k : ∀ H1, Ex H H1 → tz D (σ.set i (some v)) (upd H1 l (.lst xs))) : tSeq (tAsg (tBM0 K "list" rPop ta) (gName i)) tz D σ H := ha H (Ex.refl H) _ fun H1 e1 =>
  ⟨Or.inl ⟨rfl, _, SqL.of (e1 l _ hl)⟩, l, _, v, rfl, rfl, e1 _ _ hl, by simp, by rw [List.dropLast_concat]; exact k H1 e1⟩
end
end K9
namespace K9
open PySem PySem.Spec PyProof.Rows L2 Evl
local macro_rules | `(tactic| walk_at "ev") => `(tactic| first
  | with_reducible exact ev_c
  | ((with_reducible refine' ev_var ?k0); (case k0 => exact rfl))
  | with_reducible assumption
  | ((with_reducible refine' ev_lenS ?k0 ?k1); (case k0 => walk_at "ev"); (case k1 => walk_at "sz"))
  | ((with_reducible refine' ev_I0 ?k0 ?k1); (case k0 => walk_at "ev"); (case k1 => walk_at "ev"))
  | ((with_reducible refine' ev_I ?k0 ?k1 ?k2); (case k0 => walk_at "ev"); (case k1 => walk_at "ev"); (case k2 => walk_at "sz"))
  | ((with_reducible refine' ev_eq ?k0 ?k1 ?k2); (case k0 => walk_at "ev"); (case k1 => walk_at "ev"); (case k2 => walk_at "sz"))
  | ((with_reducible refine' ev_ne ?k0 ?k1 ?k2); (case k0 => walk_at "ev"); (case k1 => walk_at "ev"); (case k2 => walk_at "sz"))
  | ((with_reducible refine' ev_slTo ?k0 ?k1 ?k2 ?k3); (case k0 => walk_at "ev"); (case k1 => walk_at "ev"); (case k2 => walk_at "sz"); (case k3 => walk_at "sz"))
  | ((with_reducible refine' ev_slFrom ?k0 ?k1 ?k2 ?k3); (case k0 => walk_at "ev"); (case k1 => walk_at "ev"); (case k2 => walk_at "sz"); (case k3 => walk_at "sz"))
  | ((with_reducible refine' ev_slMid ?k0 ?k1 ?k2 ?k3 ?k4 ?k5); (case k0 => walk_at "ev"); (case k1 => walk_at "ev"); (case k2 => walk_at "ev"); (case k3 => walk_at "sz"); (case k4 => walk_at "sz"); (case k5 => walk_at "sz"))
  | ((with_reducible refine' ev_addS ?k0 ?k1 ?k2); (case k0 => walk_at "ev"); (case k1 => walk_at "ev"); (case k2 => walk_at "sz"))
  | ((with_reducible refine' ev_cl ?k0 ?k1); (case k0 => walk_at "ea"); (case k1 => walk_at "sp"))
  | ((with_reducible refine' ev_notV ?k0); (case k0 => walk_at "ev"))
  | ((with_reducible refine' ev_un ?k0 ru_neg); (case k0 => walk_at "ev")))
local macro_rules | `(tactic| walk_at "ea") => `(tactic| first
  | with_reducible exact ea_nil
  | ((with_reducible refine' ea_cons ?k0 ?k1); (case k0 => walk_at "ev"); (case k1 => walk_at "ea")))
local macro_rules | `(tactic| walk_at "et") => `(tactic| first
  | with_reducible assumption
  | ((with_reducible refine' et_test ?k0); (case k0 => walk_at "ev"))
  | ((with_reducible refine' et_B ?k0); (case k0 => walk_at "ev"))
  | ((with_reducible refine' et_not ?k0); (case k0 => walk_at "et")))
local macro_rules | `(tactic| walk_at "sz") => `(tactic| first
  | rfl
  | omega
  | (simp only [List.length_take, List.length_drop, List.length_append]; omega)
  | (constructor <;> omega)
  | assumption)
local macro_rules | `(tactic| walk_at "sp") => `(tactic| first | assumption)

def btR (n : Nat) (l e : Tx) : List Tx := if doesM n l e then sortT (btL n l e) else []
theorem comes_trans {n : Nat} {a b c : Tx} (h1 : Comes n a b) (h2 : Comes n b c) : Comes n a c := ⟨h2.1.trans h1.1, cle_trans h2.2 h1.2⟩
theorem comes_self (n : Nat) (a : Tx) : Comes n a a := ⟨Kin.refl n a, cle_refl _⟩
theorem cop1_comes {n : Nat} (h1 : 1 ≤ n) {y z : Tx} (ho : Ok y) (h : Cop1 n y z) : Comes n z y := by
  obtain ⟨j, hj, e⟩ := cop1_qv h1 ho h
  refine ⟨cop1_kin h1 h, ?_⟩
  rw [e]
  exact cle_bump _ _
theorem btR_of {n : Nat} (h1 : 1 ≤ n) {l e : Tx} (ho : Ok l) (hoe : Ok e) {fs : List Tx} (hn : fs.Nodup) (hs : ∀ u ∈ fs, Ok u ∧ Comes n l u ∧ Comes n u e) (h0 : Comes n l e → e ∈ fs)
    (hc : ∀ y ∈ fs, ∀ z, Cop1 n y z → z.length ≤ l.length → Comes n l z → z ∈ fs) : sortT fs = btR n l e := by
  unfold btR
  by_cases hd : doesM n l e = true
  · rw [if_pos hd]
    refine sortT_same hn (bt_nodup h1 hoe hd) fun t => ?_
    rw [bt_mem h1 ho hoe hd]
    exact ⟨hs t, fun ⟨a, b, c⟩ => bt_reach h1 hoe (· ∈ fs) h0 (fun y z hy => hc y hy z) (qv n t).sum t (Nat.le_refl _) a b c⟩
  · rw [if_neg hd]
    have : fs = [] := by
      cases fs with
      | nil => rfl
      | cons u r =>
        obtain ⟨_, b, c⟩ := hs u List.mem_cons_self
        exact absurd ((does_iff h1).mpr (comes_trans b c)) hd
    rw [this]
    unfold sortT
    simp
section
variable {P : Program} {w : World} {K : PySem.W.Frag} {mg : Str → Option Value} {base : Heap}
def spBtw : Sp := fun vs H Q _ => ∃ (l e : Tx) (n : Nat), vs = [tv l, tv e, iv n] ∧ Ok l ∧ Ok e ∧ l.length ≤ 11 ∧ e.length ≤ 11 ∧ 1 ≤ n ∧ n ≤ 6 ∧ RetL ((btR n l e).map tv) H Q
theorem ok_between_l (T : Topf mg) (F : FnP K mg "_law_between" s_l_between) (C_l_does_come : Cal P w K mg base CX0 2 "_law_does_come" ["_law_late", "_law_early", "_law_wide"] spCome) (C_l_once : Cal P w K mg base CX0 1 "_law_once" ["_law_text", "_law_wide"] spOnce) : Cal P w K mg base CX0 3 "_law_between" ["_law_late", "_law_early", "_law_wide"] spBtw := by
  refine cal_mk F sc_l_between (fun vs H Q E h => ?_) (fun _ _ _ _ _ _ us hl => match us, hl with | [_, _, _], _ => rfl) (fun f cdv A outer s H vs Q E hr h => ?_)
  · obtain ⟨l, e, n, rfl, _⟩ := h; rfl
  · obtain ⟨l, e, n, rfl, ho, hoe, hzl, hze, h1, h6, q⟩ := h
    refine ⟨_, (pss_cons (ps_par (i := 3) (j := 4) rfl sc_l_between.nd rfl rfl (by decide) rfl rfl (pa_cons (pe_lst (pa_cons (pv 1) pa_nil)) (pa_cons pe_dnewK pa_nil)) rfl)
      (pss_cons (ps_while PassesOwn.never (pt_cmpR (k_neD (K := K) rfl hr.units) (pv 3) (pe_lst pa_nil) (nomark _))
        (pss_cons (ps_set (i := 5) sc_l_between.nd rfl (Or.inl rfl) (k_bm0 (K := K) rfl PySem.F.plainAttrs_list PySem.F.slot_list_pop PySem.F.type_list_pop mt_pop (pv 3)))
          (pss_one (ps_if (PW.pt (pw_and (pt_cmp (pc_dnotin (hu_of hr) (pv 5) (pv 4))) (pw_and1 (pt_val (pe_c C_l_does_come (hr.mono (by decide)) rfl (pa_cons (pv 0) (pa_cons (pv 5) (pa_cons (pv 2) pa_nil)))))))) (pss_cons (ps_dput (hu_of hr) (pv 4) (pv 5) pe_bl rfl)
            (pss_one (ps_set (i := 3) sc_l_between.nd rfl (Or.inl rfl) (pe_op op_cat (pv 3) (pe_lc (own := [("_law_far_here", 6)]) rfl sc_l_between.nd (k_pil (K := K) rfl (pe_c C_l_once (hr.mono (by decide)) rfl (pa_cons (pv 5) (pa_cons (pv 2) pa_nil)))) (blkOk_by (own := [("_law_far_here", 6)]) (N := N_l_between) (sc := defScope s_l_between) (by decide +kernel)) (fun _ _ _ _ _ => (pg_name (i := 6) sc_l_between.nd rfl (Or.inl rfl))) (fun _ _ _ _ _ => pts_one (pt_cmpR op_le (pe_callB call_len_str (by rfl) T.b_len (by decide +kernel) (pa_cons (pv 6) pa_nil)) (pe_callB call_len_str (by rfl) T.b_len (by decide +kernel) (pa_cons (pv 0) pa_nil)) (nomark _))) (fun _ _ _ _ _ => (pv 6))))))) pss_nil))))
      (pss_one (ps_ret (pe_lc (own := [("_law_size", 7), ("_law_one", 8)]) rfl sc_l_between.nd (k_pil (K := K) rfl (pe_callB (k_sortKT (K := K) rfl hr.units) (by rfl) T.b_sorted (by decide +kernel) (pa_cons (pe_lock (pe_lc (own := [("_law_one", 8)]) rfl sc_l_between.nd (pi_keys (pv 4)) (blkOk_by (own := [("_law_one", 8)]) (N := N_l_between) (sc := defScope s_l_between) (by decide +kernel)) (fun _ _ _ _ _ => (pg_name (i := 8) sc_l_between.nd rfl (Or.inl rfl))) (fun _ _ _ _ _ => pts_nil) (fun _ _ _ _ _ => (pe_tup (pa_cons (pe_callB call_len_str (by rfl) T.b_len (by decide +kernel) (pa_cons (pv 8) pa_nil)) (pa_cons (pv 8) pa_nil)))))) pa_nil))) (blkOk_by (own := [("_law_size", 7), ("_law_one", 8)]) (N := N_l_between) (sc := defScope s_l_between) (by decide +kernel)) (fun _ _ _ _ _ => (k_pgtup (K := K) (n := 2) rfl (by rfl) (pgs_cons (pg_name (i := 7) sc_l_between.nd rfl (Or.inl rfl)) (pgs_cons (pg_name (i := 8) sc_l_between.nd rfl (Or.inl rfl)) pgs_nil)))) (fun _ _ _ _ _ => pts_nil) (fun _ _ _ _ _ => (pv 8))))))), ?_⟩
    refine ⟨_, rfl, Nat.le_of_ble_eq_true rfl, fun ps hps => fun pf hpf => ⟨_, _, rfl, ?_⟩⟩
    have hpf0 : H pf = none := fresh_back (Ex.new hps) hpf
    have hne : ps ≠ pf := fun z => by rw [z, upd_same] at hpf; cases hpf
    have hfew : ∀ us : List Tx, us.Nodup → (∀ u ∈ us, Ok u ∧ Comes n l u ∧ Comes n u e) → us.length ≤ 2048 := fun us hn hg => kin_few (m := 10) (t := l) h1 us hn fun u hu => by
      obtain ⟨a, b, c⟩ := hg u hu
      refine ⟨b.1.symm, a, ?_⟩
      have := comes_undR h1 a l.length (Nat.le_refl _) ho b
      obtain ⟨i, hi⟩ := this
      have := undK_len hi
      omega
    refine ⟨fun m σ' H' => ∃ (fs ss : List Tx) (ps : Addr) (y5 y6 y7 y8 : Option V), σ' = [some (tv l), some (tv e), some (iv n), some (.ref ps), some (.ref pf), y5, y6, y7, y8] ∧ H' pf = some (dD (trueD fs)) ∧ H' ps = some (.lst (ss.map tv)) ∧ Ex H H' ∧ H ps = none ∧ fs.Nodup ∧ (∀ u ∈ fs, Ok u ∧ Comes n l u ∧ Comes n u e) ∧ (∀ u ∈ ss, Ok u ∧ u.length ≤ 11 ∧ Comes n u e) ∧ (Comes n l e → e ∈ fs ∨ e ∈ ss) ∧ (∀ y ∈ fs, ∀ z, Cop1 n y z → z.length ≤ l.length → Comes n l z → z ∈ fs ∨ z ∈ ss) ∧ m = (2048 - fs.length) * 20 + ss.length ∧ m ≤ 40961, ⟨40961, [], [e], ps, _, _, _, _, rfl, upd_same, by rw [upd_other hne]; exact upd_same, (Ex.new hps).trans (Ex.new hpf), hps, List.nodup_nil, (fun _ h => by cases h), (fun u hu => by rw [List.mem_singleton] at hu; rw [hu]; exact ⟨hoe, hze, comes_self n e⟩), (fun _ => .inr (by simp)), (fun _ h => by cases h), rfl, Nat.le_refl _⟩, fun m σ' H' hW => ?_⟩
    obtain ⟨fs, ss, ps, y5, y6, y7, y8, rfl, hfs, hss, eH, hps0, hfn, hfm, hsm, hst, hcl, hm, hm2⟩ := hW
    refine et_B (ev_neHT (l := ss) (fun u hu => (hsm u hu).1) (ev_var rfl) (SqL.of hss)) H' (Ex.refl H') _ fun H2 e2 => ?_
    by_cases hs : ss = []
    · rw [if_neg (by rw [hs]; decide)]
      have hfin : sortT fs = btR n l e := btR_of h1 ho hoe hfn hfm (fun h => (hst h).elim id fun z => by rw [hs] at z; cases z) (fun y hy z hz hl hc => (hcl y hy z hz hl hc).elim id fun z => by rw [hs] at z; cases z)
      have hlen := hfew fs hfn hfm
      have hkl : (trueD fs).length = fs.length := by unfold trueD; simp
      have hL : EvLD K (tLockE (tLc (iKeys (tVar 4)) (gName 8) tYes (tTup (tCons (tCB (fun xs H Q => ∃ z, xs = [.str z] ∧ z.length ≤ sizeLine ∧ Q (.int z.length) H) (tCons (tVar 8) tNil)) (tCons (tVar 8) tNil))) [8])) [some (tv l), some (tv e), some (iv n), some (.ref ps), some (.ref pf), y5, y6, y7, y8] H2 (fs.map keyT) := by
        refine ld_lock (e2 _ _ hfs) fun H3 od e3 => ?_
        have hS := src_keys (j := 8) (od := od) (kvs := trueD fs) (td := tVar 4) (σ := [some (tv l), some (tv e), some (iv n), some (.ref ps), some (.ref pf), y5, y6, y7, y8]) (H := upd H3 pf (.frz od (dD (trueD fs)))) (ev_var (v := .ref pf) rfl) upd_same
        rw [trueD_keys, hkl] at hS
        have hE := ld_lcF (K := K) (vs := [8]) (tt := tYes) (te := tTup (tCons (tCB (fun xs H Q => ∃ z, xs = [.str z] ∧ z.length ≤ sizeLine ∧ Q (.int z.length) H) (tCons (tVar 8) tNil)) (tCons (tVar 8) tNil))) (fun _ => true) (fun i => .tup [iv (fs.getD i []).length, tv (fs.getD i [])]) (fun i => keyT (fs.getD i [])) (fun i H' p h => .tup (SqT.of h) (.cons (.int _) (.cons (.str _) .nil))) hS (by omega) (fun i _ => rfl) (fun i H7 _ _ H8 _ Q q => q H8 (Ex.refl H8)) (fun i H7 e7 hi _ => by
          rw [txs_at hi]
          have hlt : (fs.getD i []).length ≤ 100000 := by
            obtain ⟨a, b, c⟩ := hfm _ (txs_in hi)
            obtain ⟨k, hk⟩ := comes_undR h1 a l.length (Nat.le_refl _) ho b
            have := undK_len hk
            omega
          generalize fs.getD i [] = t at hlt
          exact eu_tup (ea_cons (ev_lenS (ev_var rfl) (by omega)) (ea_cons (ev_var rfl) ea_nil)) (Nat.le_of_ble_eq_true rfl))
        have : ((List.range fs.length).filter fun _ => true).map (fun i => keyT (fs.getD i [])) = fs.map keyT := by
          rw [List.filter_eq_self.mpr fun _ _ => rfl]
          refine List.ext_getElem (by simp) fun i h1 h2 => ?_
          rw [List.getElem_map, List.getElem_range, List.getElem_map, List.getD_eq_getElem?_getD, List.getElem?_eq_getElem (by simpa using h2)]
          rfl
        rw [this] at hE
        exact hE
      have hsl : (sortT fs).length = fs.length := by unfold sortT; rw [List.length_mergeSort]
      have hS2 := src_pairs (K := K) (j := 7) (k := 8) (ld_sortKT hL (by omega))
      rw [hsl] at hS2
      refine s_retL (xs := (btR n l e).map tv) (el_is (el_lc (vs := [7, 8]) (fun _ => true) (fun i => tv ((sortT fs).getD i [])) hS2 (by omega) (fun i _ => rfl) (fun i H7 _ _ H8 _ Q q => q H8 (Ex.refl H8)) (fun i H7 e7 hi _ => ev_var rfl)) (by rw [← hsl, txs_map, hfin])) fun p H3 hp e3 hx => q p H3 (fresh_back (eH.trans e2) hp) (eH.trans (e2.trans e3)) hx
    · rw [if_pos (by simpa using hs)]
      refine ⟨fun σ' H' => ∃ m', m' < m ∧ _, fun σ' H' h => h, ?_⟩
      obtain ⟨sr, x, rfl⟩ : ∃ sr x, ss = sr ++ [x] := ⟨ss.dropLast, ss.getLast hs, (List.dropLast_concat_getLast hs).symm⟩
      obtain ⟨hxo, hxl, hxc⟩ := hsm x (by simp)
      rw [List.map_append] at hss
      refine q_pop (e2 _ _ hss) (ev_var rfl) fun H3 e3 => ?_
      have hne2 : ps ≠ pf := fun z => by rw [z, hfs] at hss; cases hss
      have e03 : Ex H (upd H3 ps (.lst (sr.map tv))) := (eH.trans (e2.trans e3)).mut hps0
      have hf3 : (upd H3 ps (.lst (sr.map tv))) pf = some (dD (trueD fs)) := by rw [upd_other hne2.symm]; exact (e2.trans e3) _ _ hfs
      have hs3 : (upd H3 ps (.lst (sr.map tv))) ps = some (.lst (sr.map tv)) := upd_same
      rw [List.length_append, List.length_singleton] at hm
      generalize upd H3 ps (.lst (sr.map tv)) = H4 at e03 hf3 hs3
      have hfl := hfew fs hfn hfm
      refine s_when (b := !decide (x ∈ fs) && doesM n l x) (et_and (et_B (ev_is (ev_niD (ev_var rfl) (ev_var rfl) hf3) (by
        congr 1
        congr 1
        rw [Bool.eq_iff_iff, look_some, trueD_keys, decide_eq_true_iff]))) fun _ => et_test (ev_cl (ea_cons (ev_var rfl) (ea_cons (ev_var rfl) (ea_cons (ev_var rfl) ea_nil))) fun H8 e8 Q8 q8 E8 => ⟨l, x, n, rfl, ho, hxo, hzl, hxl, h1, h6, q8⟩)) (fun hb H5 e5 => ?_) (fun hb H5 e5 => ?_)
      · obtain ⟨hb1, hb2⟩ := Bool.and_eq_true_iff.mp hb
        have hxf : ¬ x ∈ fs := by simpa using hb1
        have hxlc := (does_iff h1).mp hb2
        have hll : x.length ≤ l.length := by
          obtain ⟨k, hk⟩ := comes_undR h1 hxo l.length (Nat.le_refl _) ho hxlc
          have := undK_len hk
          omega
        refine q_put (t := x) (v := .bl true) (ev_var (v := .ref pf) rfl) (ev_var rfl) ev_c (e5 _ _ hf3) (by unfold trueD; rw [List.length_map]; omega) fun H6 e6 => ?_
        rw [trueD_put]
        have hadd : addT fs x = fs ++ [x] := if_neg hxf
        rw [hadd]
        have e06 : Ex H (upd H6 pf (dD (trueD (fs ++ [x])))) := (e03.trans (e5.trans e6)).mut hpf0
        have hs6 : (upd H6 pf (dD (trueD (fs ++ [x])))) ps = some (.lst (sr.map tv)) := by rw [upd_other hne2]; exact (e5.trans e6) _ _ hs3
        have hf6 : (upd H6 pf (dD (trueD (fs ++ [x])))) pf = some (dD (trueD (fs ++ [x]))) := upd_same
        generalize upd H6 pf (dD (trueD (fs ++ [x]))) = H7 at e06 hs6 hf6
        refine s_asgLP (W := fun ys => ∃ us : List Tx, ys = (sr ++ us.filter fun u => decide (u.length ≤ l.length)).map tv ∧ OnceOf n x us) (lp_catP (W := fun ys => ∃ us : List Tx, ys = (us.filter fun u => decide (u.length ≤ l.length)).map tv ∧ OnceOf n x us) (ev_var rfl) hs6 (lp_src (lp_cl (W := fun ys => ∃ us : List Tx, ys = us.map tv ∧ OnceOf n x us) (ea_cons (ev_var rfl) (ea_cons (ev_var rfl) ea_nil)) fun H8 e8 Q8 q8 E8 => ⟨x, n, rfl, by omega, h1, h6, q8⟩) fun p xs H8 e8 hx8 hw8 => ?_) (fun ys hy => ?_) (fun ys hy => ?_)) fun p2 ys H8 hp2 e8 hy8 hw8 => ?_
        · obtain ⟨us, rfl, hw⟩ := hw8
          refine lp_of (el_keep (v := tv) (f := fun u => decide (u.length ≤ l.length)) [] (fun H9 e9 Q9 q9 => q9 H9 (Ex.refl H9)) (SqL.of hx8) (by have := hw.2; omega) (fun x => rfl) (fun u H9 e9 hu => et_B (ev_is (ev_I0 (ev_lenS (ev_var rfl) ?_) (ev_lenS (ev_var rfl) (by omega))) ?_)) (fun u H9 e9 hu => ev_var rfl)) ⟨us, rfl, hw⟩
          · obtain ⟨k, hk, rfl⟩ := (hw.1 u).mp hu
            have := cop_le n k x
            omega
          · congr 1
            rw [decide_eq_decide]
            omega
        · obtain ⟨us, rfl, hw⟩ := hy
          rw [List.length_map, List.length_map]
          have h3 : (us.filter fun u => decide (u.length ≤ l.length)).length ≤ us.length := List.length_filter_le _ _
          have := hw.2
          omega
        · obtain ⟨us, rfl, hw⟩ := hy
          exact ⟨us, by rw [List.map_append], hw⟩
        · obtain ⟨us, rfl, hw⟩ := hw8
          have hwf : (us.filter fun u => decide (u.length ≤ l.length)).length ≤ 11 := by
            have h3 : (us.filter fun u => decide (u.length ≤ l.length)).length ≤ us.length := List.length_filter_le _ _
            have := hw.2
            omega
          have hfm' : ∀ u ∈ fs ++ [x], Ok u ∧ Comes n l u ∧ Comes n u e := fun u hu => by
            rcases List.mem_append.mp hu with h | h
            · exact hfm u h
            · rw [List.mem_singleton] at h; rw [h]; exact ⟨hxo, hxlc, hxc⟩
          have hfn' : (fs ++ [x]).Nodup := by rw [← hadd]; exact addT_nodup hfn
          have hfl' := hfew _ hfn' hfm'
          rw [List.length_append, List.length_singleton] at hfl'
          have hmem : ∀ z, z ∈ us.filter (fun u => decide (u.length ≤ l.length)) ↔ Cop1 n x z ∧ z.length ≤ l.length := fun z => by
            rw [List.mem_filter, hw.1, decide_eq_true_iff]
            exact ⟨fun ⟨⟨k, a, b⟩, c⟩ => ⟨⟨k, a, b⟩, c⟩, fun ⟨⟨k, a, b⟩, c⟩ => ⟨⟨k, a, b⟩, c⟩⟩
          refine ⟨(2048 - (fs ++ [x]).length) * 20 + (sr ++ us.filter fun u => decide (u.length ≤ l.length)).length, ?_, fs ++ [x], _, p2, _, _, _, _, rfl, e8 _ _ hf6, hy8, e06.trans e8, fresh_back e06 hp2, hfn', hfm', fun u hu => ?_, fun h => ?_, fun y hy z hz hl hc => ?_, rfl, ?_⟩
          · rw [List.length_append, List.length_append, List.length_singleton]; omega
          · rcases List.mem_append.mp hu with h | h
            · exact hsm u (List.mem_append_left _ h)
            · obtain ⟨hc, hz⟩ := (hmem u).mp h
              exact ⟨cop1_ok2 hc hxo, by omega, comes_trans (cop1_comes h1 hxo hc) hxc⟩
          · rcases hst h with a | a
            · exact .inl (List.mem_append_left _ a)
            · rcases List.mem_append.mp a with a | a
              · exact .inr (List.mem_append_left _ a)
              · exact .inl (List.mem_append_right _ a)
          · rcases List.mem_append.mp hy with hy | hy
            · rcases hcl y hy z hz hl hc with a | a
              · exact .inl (List.mem_append_left _ a)
              · rcases List.mem_append.mp a with a | a
                · exact .inr (List.mem_append_left _ a)
                · exact .inl (List.mem_append_right _ a)
            · rw [List.mem_singleton] at hy
              rw [hy] at hz
              exact .inr (List.mem_append_right _ ((hmem z).mpr ⟨hz, hl⟩))
          · rw [List.length_append, List.length_append, List.length_singleton]; omega
      · have hor : x ∈ fs ∨ ¬ Comes n l x := by
          rw [Bool.and_eq_false_iff] at hb
          rcases hb with hb | hb
          · exact .inl (by simpa using hb)
          · exact .inr fun z => by rw [(does_iff h1).mpr z] at hb; cases hb
        refine ⟨(2048 - fs.length) * 20 + sr.length, by omega, fs, sr, ps, _, _, _, _, rfl, e5 _ _ hf3, e5 _ _ hs3, e03.trans e5, hps0, hfn, hfm, fun u hu => hsm u (List.mem_append_left _ hu), fun h => ?_, fun y hy z hz hl hc => ?_, rfl, by omega⟩
        · rcases hst h with a | a
          · exact .inl a
          · rcases List.mem_append.mp a with a | a
            · exact .inr a
            · rw [List.mem_singleton] at a
              rw [a] at h ⊢
              exact .inl (hor.elim id fun k => absurd h k)
        · rcases hcl y hy z hz hl hc with a | a
          · exact .inl a
          · rcases List.mem_append.mp a with a | a
            · exact .inr a
            · rw [List.mem_singleton] at a
              rw [a] at hc ⊢
              exact .inl (hor.elim id fun k => absurd hc k)
end
end K9
namespace K9
open PySem PySem.Spec PyProof.Rows L2 Evl
local macro_rules | `(tactic| walk_at "ev") => `(tactic| first
  | with_reducible exact ev_c
  | ((with_reducible refine' ev_var ?k0); (case k0 => exact rfl))
  | with_reducible assumption
  | ((with_reducible refine' ev_lenS ?k0 ?k1); (case k0 => walk_at "ev"); (case k1 => walk_at "sz"))
  | ((with_reducible refine' ev_I0 ?k0 ?k1); (case k0 => walk_at "ev"); (case k1 => walk_at "ev"))
  | ((with_reducible refine' ev_I ?k0 ?k1 ?k2); (case k0 => walk_at "ev"); (case k1 => walk_at "ev"); (case k2 => walk_at "sz"))
  | ((with_reducible refine' ev_eq ?k0 ?k1 ?k2); (case k0 => walk_at "ev"); (case k1 => walk_at "ev"); (case k2 => walk_at "sz"))
  | ((with_reducible refine' ev_ne ?k0 ?k1 ?k2); (case k0 => walk_at "ev"); (case k1 => walk_at "ev"); (case k2 => walk_at "sz"))
  | ((with_reducible refine' ev_slTo ?k0 ?k1 ?k2 ?k3); (case k0 => walk_at "ev"); (case k1 => walk_at "ev"); (case k2 => walk_at "sz"); (case k3 => walk_at "sz"))
  | ((with_reducible refine' ev_slFrom ?k0 ?k1 ?k2 ?k3); (case k0 => walk_at "ev"); (case k1 => walk_at "ev"); (case k2 => walk_at "sz"); (case k3 => walk_at "sz"))
  | ((with_reducible refine' ev_slMid ?k0 ?k1 ?k2 ?k3 ?k4 ?k5); (case k0 => walk_at "ev"); (case k1 => walk_at "ev"); (case k2 => walk_at "ev"); (case k3 => walk_at "sz"); (case k4 => walk_at "sz"); (case k5 => walk_at "sz"))
  | ((with_reducible refine' ev_addS ?k0 ?k1 ?k2); (case k0 => walk_at "ev"); (case k1 => walk_at "ev"); (case k2 => walk_at "sz"))
  | ((with_reducible refine' ev_cl ?k0 ?k1); (case k0 => walk_at "ea"); (case k1 => walk_at "sp"))
  | ((with_reducible refine' ev_notV ?k0); (case k0 => walk_at "ev"))
  | ((with_reducible refine' ev_un ?k0 ru_neg); (case k0 => walk_at "ev")))
local macro_rules | `(tactic| walk_at "ea") => `(tactic| first
  | with_reducible exact ea_nil
  | ((with_reducible refine' ea_cons ?k0 ?k1); (case k0 => walk_at "ev"); (case k1 => walk_at "ea")))
local macro_rules | `(tactic| walk_at "et") => `(tactic| first
  | with_reducible assumption
  | ((with_reducible refine' et_test ?k0); (case k0 => walk_at "ev"))
  | ((with_reducible refine' et_B ?k0); (case k0 => walk_at "ev"))
  | ((with_reducible refine' et_not ?k0); (case k0 => walk_at "et")))
local macro_rules | `(tactic| walk_at "sz") => `(tactic| first
  | rfl
  | omega
  | (simp only [List.length_take, List.length_drop, List.length_append]; omega)
  | (constructor <;> omega)
  | assumption)
local macro_rules | `(tactic| walk_at "sp") => `(tactic| first | assumption)

/-! ### heaps without the state -/
def off (m g : Addr) (H : Hp) : Hp := fun a => if a = m ∨ a = g then none else noT H a
theorem off_ex (m g : Addr) (H : Hp) : Ex (off m g H) H := fun a o e => by
  unfold off at e
  by_cases z : a = m ∨ a = g
  · rw [if_pos z] at e; cases e
  · rw [if_neg z] at e; exact noT_ex H _ _ e
theorem off_m {m g : Addr} {H : Hp} : off m g H m = none := if_pos (.inl rfl)
theorem off_g {m g : Addr} {H : Hp} : off m g H g = none := if_pos (.inr rfl)
theorem off_tbl {m g a : Addr} {H : Hp} {o : HO} (h : off m g H a = some o) (ps : Array Value) : o ≠ .tbl ps := fun z => by
  subst z
  unfold off at h
  by_cases z : a = m ∨ a = g
  · rw [if_pos z] at h; cases h
  · rw [if_neg z] at h
    have h2 := noT_ex H _ _ h
    unfold noT at h
    rw [h2] at h
    cases h
theorem off_at {m g a : Addr} {H : Hp} {o : HO} (h : H a = some o) (hm : a ≠ m) (hg : a ≠ g) (n : ∀ ps, o ≠ .tbl ps) : off m g H a = some o := by
  unfold off
  rw [if_neg (fun z => z.elim hm hg)]
  exact noT_of h n
theorem off_sub {m g : Addr} {B H : Hp} (e : Ex (off m g B) H) : Ex (off m g B) (off m g H) := fun a o h => by
  refine off_at (e _ _ h) (fun z => ?_) (fun z => ?_) (off_tbl h)
  · rw [z, off_m] at h; cases h
  · rw [z, off_g] at h; cases h
theorem off_trans {m g : Addr} {B H H2 : Hp} (e : Ex (off m g B) H) (e2 : Ex (off m g H) H2) : Ex (off m g B) H2 := (off_sub e).trans e2
theorem off_of {m g : Addr} {H H2 : Hp} (e : Ex H H2) : Ex (off m g H) H2 := (off_ex m g H).trans e
/-! ### the state -/
def mD (c g : Addr) (n : Int) : HO := .dK [(.inr "cells", .ref c), (.inr "great", .ref g), (.inr "spot", .int n)]
theorem nq1 : ¬ (Sum.inr ("cells" : Str) : Key) = Sum.inr ("great" : Str) := by decide +kernel
theorem nq2 : ¬ (Sum.inr ("cells" : Str) : Key) = Sum.inr ("spot" : Str) := by decide +kernel
theorem nq3 : ¬ (Sum.inr ("great" : Str) : Key) = Sum.inr ("spot" : Str) := by decide +kernel
theorem look_c {a b c : V} : valV [((.inr "cells" : Key), a), (.inr "great", b), (.inr "spot", c)] (.inr "cells") = some a := valV_pos rfl
theorem look_g {a b c : V} : valV [((.inr "cells" : Key), a), (.inr "great", b), (.inr "spot", c)] (.inr "great") = some b := by rw [valV_neg nq1]; exact valV_pos rfl
theorem look_s {a b c : V} : valV [((.inr "cells" : Key), a), (.inr "great", b), (.inr "spot", c)] (.inr "spot") = some c := by rw [valV_neg nq2, valV_neg nq3]; exact valV_pos rfl
theorem put_s {a b c d : V} : putK [((.inr "cells" : Key), a), (.inr "great", b), (.inr "spot", c)] (.inr "spot") d = [(.inr "cells", a), (.inr "great", b), (.inr "spot", d)] := by
  unfold putK
  rw [if_pos (by rw [valV_any, look_s]; rfl)]
  rw [List.map_cons, List.map_cons, List.map_cons, List.map_nil, if_neg nq2, if_neg nq3, if_pos rfl]
theorem put_g {a b c d : V} : putK [((.inr "cells" : Key), a), (.inr "great", b), (.inr "spot", c)] (.inr "great") d = [(.inr "cells", a), (.inr "great", d), (.inr "spot", c)] := by
  unfold putK
  rw [if_pos (by rw [valV_any, look_g]; rfl)]
  rw [List.map_cons, List.map_cons, List.map_cons, List.map_nil, if_neg nq1, if_pos rfl, if_neg (fun z => nq3 z.symm)]
structure Mm (T : List (Addr × Str)) (m c g : Addr) (k : Nat) (H : Hp) : Prop where
  ex : ∃ (n : Nat) (cs gs : List Int), H m = some (mD c g n) ∧ H c = some (.lst (cs.map V.int)) ∧ H g = some (.lst (gs.map V.int)) ∧ n ≤ k ∧ cs.length = 64 ∧ (∀ x ∈ cs, 0 ≤ x ∧ x < 2147483647) ∧ c ≠ g
  tabs : LamX.Tabs T H
section
variable {T : List (Addr × Str)} {m c g : Addr} {k k' : Nat} {H H' : Hp}
theorem Mm.ext (M : Mm T m c g k H) (e : Ex H H') : Mm T m c g k H' := by
  obtain ⟨n, cs, gs, h1, h2, h3, r⟩ := M.ex
  exact ⟨⟨n, cs, gs, e _ _ h1, e _ _ h2, e _ _ h3, r⟩, M.tabs.ext e⟩
theorem Mm.le (M : Mm T m c g k H) (h : k ≤ k') : Mm T m c g k' H := by
  obtain ⟨n, cs, gs, h1, h2, h3, h4, r⟩ := M.ex
  exact ⟨⟨n, cs, gs, h1, h2, h3, by omega, r⟩, M.tabs⟩
theorem tabs_upd {a : Addr} {o : HO} (t : LamX.Tabs T H) (h : ∀ ps, H a ≠ some (.tbl ps)) (h2 : ∀ q, H a ≠ some (LamX.CodeO a q)) : LamX.Tabs T (upd H a o) := fun p hp => by
  obtain ⟨ps, h3, h4, h5⟩ := t p hp
  refine ⟨ps, by rw [upd_other (fun z => by rw [z] at h3; exact h ps h3)]; exact h3, h4, fun pos cv hc => ?_⟩
  obtain ⟨c, e1, e2⟩ := h5 pos cv hc
  exact ⟨c, e1, by rw [upd_other (fun z => by rw [z] at e2; exact h2 _ e2)]; exact e2⟩
theorem Mm.mg (M : Mm T m c g k H) : m ≠ g ∧ m ≠ c ∧ c ≠ g := by
  obtain ⟨n, cs, gs, h1, h2, h3, h4, h5, h6, h7⟩ := M.ex
  refine ⟨fun z => ?_, fun z => ?_, h7⟩
  · rw [z, h3] at h1; cases h1
  · rw [z, h2] at h1; cases h1
end
section
variable {K : PySem.W.Frag} {σ : L2.St} {H : Hp} {te to ti td ty tw : TE} {D : Ends} {tz tu : TS} {tt : TT}
theorem ev_dgetK {a : Addr} {kvs : List (Key × V)} {k : Key} {v : V} (h1 : Ev td σ H (.ref a)) (h : Ev ty σ H (kV k)) (ha : H a = some (.dK kvs)) (hv : valV kvs k = some v) : Ev (tDGet td ty) σ H v := fun H1 e Q q =>
  h1 H1 e _ fun H2 e2 => h H2 (e.trans e2) _ fun H3 e3 => ⟨a, v, rfl, by rw [← hv]; exact DGet.k ((e.trans (e2.trans e3)) _ _ ha), q H3 (e2.trans e3)⟩
theorem q_putK {a : Addr} {kvs kvs' : List (Key × V)} {k : Key} {v : V} (hd : Ev td σ H (.ref a)) (hk : Ev ty σ H (kV k)) (hv : Ev tw σ H v) (ha : H a = some (.dK kvs)) (hz : kvs.length ≤ 1000) (hp : putK kvs k v = kvs') (q : ∀ H1, Ex H H1 → tz D σ (upd H1 a (.dK kvs'))) : tSeq (sDPut td ty tw) tz D σ H :=
  hv H (Ex.refl H) _ fun H1 e1 => hd H1 e1 _ fun H2 e2 => hk H2 (e1.trans e2) _ fun H3 e3 => ⟨a, _, rfl, DPut.k (((e1.trans e2).trans e3) _ _ ha) (sz60' (by omega)), by rw [hp]; exact q H3 ((e1.trans e2).trans e3)⟩
theorem q_setL {l : Addr} {xs : List V} {j : Nat} {v : V} (hl : H l = some (.lst xs)) (h : Ev te σ H v) (ho : Ev to σ H (.ref l)) (hi : Ev ti σ H (iv j)) (hj : j < xs.length) (k : ∀ H1, Ex H H1 → tz D σ (upd H1 l (.lst (xs.set j v)))) : tSeq (tAsg te (gSub to ti rSetL)) tz D σ H := h H (Ex.refl H) _ fun H1 e1 => ho H1 e1 _ fun H2 e2 => hi H2 (e1.trans e2) _ fun H3 e3 =>
  ⟨l, xs, (j : Int), j, rfl, rfl, ((e1.trans e2).trans e3) _ _ hl, ixN_nat hj, k H3 ((e1.trans e2).trans e3)⟩
theorem s_setL {l : Addr} {xs : List V} {j : Nat} {v : V} (hl : H l = some (.lst xs)) (h : Ev te σ H v) (ho : Ev to σ H (.ref l)) (hi : Ev ti σ H (iv j)) (hj : j < xs.length) (k : ∀ H1, Ex H H1 → D.nx σ (upd H1 l (.lst (xs.set j v)))) : tAsg te (gSub to ti rSetL) D σ H := h H (Ex.refl H) _ fun H1 e1 => ho H1 e1 _ fun H2 e2 => hi H2 (e1.trans e2) _ fun H3 e3 =>
  ⟨l, xs, (j : Int), j, rfl, rfl, ((e1.trans e2).trans e3) _ _ hl, ixN_nat hj, k H3 ((e1.trans e2).trans e3)⟩
theorem q_whenP {b : Bool} (Pv : L2.St → Hp → Prop) (hz : ∀ σ' H', Pv σ' H' → tz D σ' H') (h : EvT tt σ H b) (h1 : (∀ σ' H', Pv σ' H' → tz D σ' H') → b = true → ∀ H1, Ex H H1 → tu { D with nx := tz D } σ H1) (h2 : b = false → ∀ H1, Ex H H1 → Pv σ H1) : tSeq (tIfS tt tu tNext) tz D σ H :=
  q_when h (h1 hz) fun hb H1 e => hz _ _ (h2 hb H1 e)
theorem ev_lenL {p : Addr} {xs : List V} (ha : Ev te σ H (.ref p)) (h : SqL K H p xs) : Ev (tCB (rLenQ K) (tCons te tNil)) σ H (.int (xs.length : Int)) := fun H1 e Q q =>
  ha H1 e _ fun H2 e2 => ⟨p, xs, rfl, .inl (ex_l (e.trans e2) h), q H2 e2⟩
theorem ev_neHI {a : Addr} {l : List Int} (h1 : Ev te σ H (.ref a)) (hs : SqL K H a (l.map V.int)) : Ev (tOp (rNeD K) te (tLst tNil)) σ H (.bl (!decide (l = []))) :=
  ev_neH (f := iD) (fun a _ => .int _) eqv_iD (fun _ _ => fit_int _) (fun _ h => by cases h) h1 hs (el_lst (vs := []) ea_nil (Nat.le_of_ble_eq_true rfl))
end
section
variable {P : Program} {w : World} {K : PySem.W.Frag} {mg : Str → Option Value} {base : Heap}
def spDraw (Tt : List (Addr × Str)) : Sp := fun vs H Q _ => ∃ (m c g : Addr) (k lim : Nat), vs = [.ref m, iv lim] ∧ Mm Tt m c g k H ∧ k ≤ 1000000 ∧ 0 < lim ∧ lim ≤ 1000000 ∧ (∀ (r : Nat) H2, Ex (off m g H) H2 → Mm Tt m c g (k + 1) H2 → r < lim → Q (iv r) H2)
theorem modN {x : Int} {lim : Nat} (h : 0 < lim) : ∃ r : Nat, x % (lim : Int) = (r : Int) ∧ r < lim := by
  have h1 := Int.emod_nonneg x (show (lim : Int) ≠ 0 by omega)
  have h2 := Int.emod_lt_of_pos x (show (0 : Int) < (lim : Int) by omega)
  exact ⟨(x % (lim : Int)).toNat, by omega, by omega⟩
theorem ok_draw {Tt : List (Addr × Str)} (T : Topf mg) (F : FnP K mg "_law_draw" s_l_draw) (C_l_mixed : Cal P w K mg base CX0 1 "_law_mixed" ["_law_cell", "_law_n"] spMix) : Cal P w K mg base CX0 2 "_law_draw" ["_law_m", "_law_limit"] (spDraw Tt) := by
  refine cal_mk F sc_l_draw (fun vs H Q E h => ?_) (fun _ _ _ _ _ _ us hl => match us, hl with | [_, _], _ => rfl) (fun f cdv A outer s H vs Q E hr h => ?_)
  · obtain ⟨m, c, g, k, lim, rfl, _⟩ := h; rfl
  · obtain ⟨m, c, g, k, lim, rfl, M, hk, h0, hlim, q⟩ := h
    refine ⟨_, (pss_cons (ps_set (i := 2) sc_l_draw.nd rfl (Or.inl rfl) (pe_dget (hu_of hr) (pv 0) pe_str (fun _ _ => rfl)))
      (pss_cons (ps_dput (hu_of hr) (pv 0) pe_str (pe_op op_add (pv 2) pe_int) rfl)
      (pss_cons (ps_if (pt_cmpR (k_neD (K := K) rfl hr.units) (pe_dget (hu_of hr) (pv 0) pe_str (fun _ _ => rfl)) (pe_lst pa_nil) (nomark _)) (pss_cons (ps_set (i := 3) sc_l_draw.nd rfl (Or.inl rfl) (pe_dget (hu_of hr) (pv 0) pe_str (fun _ _ => rfl)))
          (pss_cons (ps_set (i := 4) sc_l_draw.nd rfl (Or.inl rfl) (pe_op op_mod (pe_callTy call_int1 (by rfl) T.b_int (by decide +kernel) (pa_cons (pv 2) pa_nil)) (pe_callB (k_len (K := K) rfl) (by rfl) T.b_len (by decide +kernel) (pa_cons (pv 3) pa_nil))))
          (pss_cons (ps_set (i := 5) sc_l_draw.nd rfl (Or.inl rfl) (pe_ix (k_ixL (K := K) rfl) (pv 3) (pv 4) (fun _ _ => rfl)))
          (pss_one (ps_if (pt_cmpR op_gt (pv 5) pe_int (nomark _)) (pss_cons (ps_asg (pe_op op_fdivW (pv 5) (pv 1)) (pg_sub (pv 3) (pv 4) set_list))
            (pss_one (ps_ret (pe_op op_mod (pe_callTy call_int1 (by rfl) T.b_int (by decide +kernel) (pa_cons (pv 5) pa_nil)) (pv 1))))) pss_nil))))) pss_nil)
      (pss_cons (ps_set (i := 3) sc_l_draw.nd rfl (Or.inl rfl) (pe_dget (hu_of hr) (pv 0) pe_str (fun _ _ => rfl)))
      (pss_one (ps_ret (pe_op op_mod (pe_callTy call_int1 (by rfl) T.b_int (by decide +kernel) (pa_cons (pe_c C_l_mixed (hr.mono (by decide)) rfl (pa_cons (pe_c C_l_mixed (hr.mono (by decide)) rfl (pa_cons (pe_op op_add (pe_ix (k_ixL (K := K) rfl) (pv 3) (pe_op op_mod (pe_callTy call_int1 (by rfl) T.b_int (by decide +kernel) (pa_cons (pv 2) pa_nil)) pe_int) (fun _ _ => rfl)) (pe_op op_mul pe_int (pe_op op_fdiv (pv 2) pe_int))) (pa_cons (pv 2) pa_nil))) (pa_cons (pe_op op_add (pv 2) pe_int) pa_nil))) pa_nil)) (pv 1)))))))), ?_⟩
    obtain ⟨hmg, hmc, hcg⟩ := M.mg
    obtain ⟨n, cs, gs, hm, hc, hg, hnk, hcl, hcb, _⟩ := M.ex
    refine q_asg (v := iv n) (ev_dgetK (k := .inr "spot") (ev_var (v := .ref m) rfl) ev_c hm look_s) fun H1 e1 => ?_
    refine q_putK (k := .inr "spot") (v := iv (n + 1)) (ev_var (v := .ref m) rfl) ev_c (ev_is (ev_I0 (ev_var rfl) ev_c) (by congr 1)) (e1 _ _ hm) (Nat.le_of_ble_eq_true rfl) put_s fun H2 e2 => ?_
    have e12 := e1.trans e2
    have hm2 := e12 _ _ hm
    have hc3 : (upd H2 m (mD c g (n + 1 : Nat))) c = some (.lst (cs.map V.int)) := by rw [upd_other hmc.symm]; exact e12 _ _ hc
    have hg3 : (upd H2 m (mD c g (n + 1 : Nat))) g = some (.lst (gs.map V.int)) := by rw [upd_other hmg.symm]; exact e12 _ _ hg
    have hm3 : (upd H2 m (mD c g (n + 1 : Nat))) m = some (mD c g (n + 1 : Nat)) := upd_same
    have M3 : Mm Tt m c g (k + 1) (upd H2 m (mD c g (n + 1 : Nat))) := ⟨⟨n + 1, cs, gs, hm3, hc3, hg3, by omega, hcl, hcb, hcg⟩, tabs_upd (M.tabs.ext e12) (fun ps z => by rw [hm2] at z; cases z) (fun q z => by rw [hm2] at z; cases z)⟩
    have e3 : Ex (off m g H) (upd H2 m (mD c g (n + 1 : Nat))) := ((off_ex m g H).trans e12).mut off_m
    show tSeq _ _ _ _ (upd H2 m (mD c g (n + 1 : Nat)))
    generalize upd H2 m (mD c g (n + 1 : Nat)) = H3 at hc3 hg3 hm3 M3 e3
    refine q_whenP (b := !decide (gs = [])) (fun σ' H' => ∃ y3 y4 y5, σ' = [some (.ref m), some (iv lim), some (iv n), y3, y4, y5] ∧ Mm Tt m c g (k + 1) H' ∧ Ex (off m g H) H') ?_ (et_B (ev_neHI (ev_dgetK (k := .inr "great") (ev_var (v := .ref m) rfl) ev_c hm3 look_g) (SqL.of hg3))) (fun hz hb H4 e4 => ?_) (fun hb H4 e4 => ⟨_, _, _, rfl, M3.ext e4, e3.trans e4⟩)
    · rintro σ' H' ⟨y3, y4, y5, rfl, M', e'⟩
      obtain ⟨n', cs', gs', hm', hc', hg', hnk', hcl', hcb', _⟩ := M'.ex
      refine q_asg (v := .ref c) (ev_dgetK (k := .inr "cells") (ev_var (v := .ref m) rfl) ev_c hm' look_c) fun H4 e4 => ?_
      have hc4 := e4 _ _ hc'
      have hj : n % 64 < cs'.length := by omega
      have hx := hcb' _ (List.getElem_mem hj)
      have hix : Ev (tOp (rIxL K) (tVar 3) (tOp (rI (fun _ j => 0 < j) fun i j => .int (i % j)) (tCB (fun xs H Q => (∃ i, xs = [.int i] ∧ Q (.int i) H) ∨ ∃ k, xs = [.bl k] ∧ Q (.int (if k then 1 else 0)) H) (tCons (tVar 2) tNil)) (tC (.int 64)))) [some (.ref m), some (iv lim), some (iv n), some (.ref c), y4, y5] H4 (.int cs'[n % 64]) :=
        ev_op (ev_var (v := .ref c) rfl) (ev_is (ev_I (ev_int1 (ev_var (v := iv n) rfl)) ev_c (by decide)) (show V.int ((n : Int) % 64) = V.int ((n % 64 : Nat) : Int) by congr 1)) (rv_ixL (SqL.of hc4) (atI_nat (by rw [List.getElem?_map, List.getElem?_eq_getElem hj]; rfl)))
      have hinn := ev_cl (sp := spMix) (σ := [some (.ref m), some (iv lim), some (iv n), some (.ref c), y4, y5]) (H := H4) (z := .int (mixM (cs'[n % 64] + 31 * ((n : Int) / 64)) n)) (ea_cons (ev_I0 (f := fun i j => .int (i + j)) hix (ev_I (C := CMul) (f := fun i j => .int (i * j)) ev_c (ev_I (C := CDiv) (f := fun i j => .int (i / j)) (ev_var (i := 2) (v := iv n) rfl) (ev_c (v := .int 64)) ⟨by decide, by decide⟩) (.inl ⟨by decide, by decide⟩))) (ea_cons (ev_var (i := 2) (v := iv n) rfl) ea_nil)) fun H8 e8 Q8 q8 E8 => ⟨_, _, rfl, by omega, by omega, by omega, by omega, q8⟩
      have hlo := mix_lo (cs'[n % 64] + 31 * ((n : Int) / 64)) n
      have hhi := mix_hi (cs'[n % 64] + 31 * ((n : Int) / 64)) n
      obtain ⟨r, er, hr9⟩ := modN (x := mixM (mixM (cs'[n % 64] + 31 * ((n : Int) / 64)) n) ((n : Int) + 7)) h0
      refine s_ret (v := iv r) (ev_is (ev_I (ev_int1 (ev_cl (sp := spMix) (z := .int (mixM (mixM (cs'[n % 64] + 31 * ((n : Int) / 64)) n) ((n : Int) + 7))) (ea_cons hinn (ea_cons (ev_I0 (ev_var rfl) ev_c) ea_nil)) fun H8 e8 Q8 q8 E8 => ⟨_, _, rfl, by omega, by omega, by omega, by omega, q8⟩)) (ev_var (v := iv lim) rfl) (by omega)) (by rw [er])) fun H5 e5 => q r H5 (e'.trans (e4.trans e5)) (M'.ext (e4.trans e5)) hr9
    · have hne : gs ≠ [] := by simpa using hb
      have hgl := List.length_pos_iff.mpr hne
      have hg4 := e4 _ _ hg3
      refine q_asg (v := .ref g) (ev_dgetK (k := .inr "great") (ev_var (v := .ref m) rfl) ev_c (e4 _ _ hm3) look_g) fun H5 e5 => ?_
      have hg5 := e5 _ _ hg4
      have hj : n % gs.length < gs.length := Nat.mod_lt _ hgl
      refine q_asg (v := iv (n % gs.length)) (ev_is (ev_I (ev_int1 (ev_var (v := iv n) rfl)) (ev_lenL (ev_var (v := .ref g) rfl) (SqL.of hg5)) (by rw [List.length_map]; omega)) (by rw [List.length_map]; congr 1)) fun H6 e6 => ?_
      have hg6 := e6 _ _ hg5
      refine q_asg (v := .int gs[n % gs.length]) (ev_op (ev_var (v := .ref g) rfl) (ev_var (v := iv (n % gs.length)) rfl) (rv_ixL (SqL.of hg6) (atI_nat (by rw [List.getElem?_map, List.getElem?_eq_getElem hj]; rfl)))) fun H7 e7 => ?_
      have hg7 := e7 _ _ hg6
      have e37 := e4.trans (e5.trans (e6.trans e7))
      generalize gs[n % gs.length] = x
      refine s_when (b := decide (x > 0)) (et_B (ev_I0 (ev_var rfl) ev_c)) (fun hb H8 e8 => ?_) (fun hb H8 e8 => hz _ _ ⟨_, _, _, rfl, M3.ext (e37.trans e8), e3.trans (e37.trans e8)⟩)
      have hx : 0 < x := of_decide_eq_true hb
      refine q_setL (j := n % gs.length) (v := .int (x / (lim : Int))) (e8 _ _ hg7) (ev_I (i := x) (j := (lim : Int)) (ev_var rfl) (ev_var rfl) (wide_div (b := 100) (by omega) (by
        have : lim < 2 ^ 100 := Nat.lt_of_le_of_lt hlim (by decide)
        omega) (by decide) (by decide))) (ev_var (v := .ref g) rfl) (ev_var rfl) (by rw [List.length_map]; exact hj) fun H9 e9 => ?_
      have e39 := e37.trans (e8.trans e9)
      have hg9 := e39 _ _ hg3
      have hset : (gs.map V.int).set (n % gs.length) (.int (x / (lim : Int))) = (gs.set (n % gs.length) (x / (lim : Int))).map V.int := by rw [List.map_set]
      rw [hset]
      have M9 : Mm Tt m c g (k + 1) (upd H9 g (.lst ((gs.set (n % gs.length) (x / (lim : Int))).map V.int))) := ⟨⟨n + 1, cs, _, by rw [upd_other hmg]; exact e39 _ _ hm3, by rw [upd_other hcg]; exact e39 _ _ hc3, upd_same, by omega, hcl, hcb, hcg⟩, tabs_upd (M3.tabs.ext e39) (fun ps z => by rw [hg9] at z; cases z) (fun q z => by rw [hg9] at z; cases z)⟩
      have eo9 : Ex (off m g H) (upd H9 g (.lst ((gs.set (n % gs.length) (x / (lim : Int))).map V.int))) := (e3.trans e39).mut off_g
      obtain ⟨r, er, hr9⟩ := modN (x := x) h0
      exact s_ret (v := iv r) (ev_is (ev_I (ev_int1 (ev_var (v := .int x) rfl)) (ev_var (v := iv lim) rfl) (by omega)) (by rw [er])) fun H10 e10 => q r H10 (eo9.trans e10) (M9.ext e10) hr9
end
end K9
namespace HT
open PySem PySem.Spec PyProof.Rows PySem.Calls
section
variable {prog : Program} {w : World} {A : Around} {E : Value → Shared → Prop} {s : Shared}
theorem sliceApplied_rev {sl : Addr} {vs : Value} {n : Nat} {Q : Int × Int × Nat → Shared → Prop} (hs : s.heap.IsSliceOf sl .none .none vs) (ps : IsPart vs (some (-1)))
    (h : Q ((n : Int) - 1, -1, n) s) : wpAny (model prog w) A (Builtin.Slice.sliceApplied (.ref sl) (pure (n : Int))) Q E s := by
  obtain ⟨os, hos, hcs, hds⟩ := id hs
  unfold Builtin.Slice.sliceApplied Builtin.Slice.sliceFields
  refine wpAny_bind (wpAny_bind (wpAny_field hos hds (x := .none) rfl (wpAny_bind (wpAny_field hos hds (x := .none) rfl (wpAny_bind (wpAny_field hos hds (x := vs) rfl (wpAny_pure ?_)))))))
  refine wpAny_bind (slicePart_ ps ?_)
  show wpAny _ _ (if ((-1 : Int) == 0) = true then _ else _) _ _ s
  rw [if_neg (by decide)]
  refine wpAny_bind (slicePart_none (wpAny_bind (slicePart_none (wpAny_bind (wpAny_pure ?_)))))
  have e1 : Builtin.Slice.sliceAdjust none none (-1) (n : Int) = ((n : Int) - 1, -1) := rfl
  have e2 : Builtin.Slice.slicePlaces ((n : Int) - 1) (-1) (-1) = n := by
    unfold Builtin.Slice.slicePlaces
    have h1 : ¬ ((-1 : Int) > 0) := by omega
    rw [if_neg h1]
    by_cases h0 : (n : Int) - 1 > -1
    · rw [if_pos h0, show (-(-1 : Int)) = 1 by decide, Int.ediv_one]; omega
    · rw [if_neg h0]; omega
  show wpAny _ _ (match Builtin.Slice.sliceAdjust none none (-1) (n : Int) with | (lo, hi) => pure (lo, (-1 : Int), Builtin.Slice.slicePlaces lo hi (-1))) _ _ s
  rw [e1]
  show wpAny _ _ (pure ((n : Int) - 1, (-1 : Int), Builtin.Slice.slicePlaces ((n : Int) - 1) (-1) (-1))) _ _ s
  rw [e2]
  exact wpAny_pure h
theorem fm_congr {f g : Nat → Option Value} : ∀ l : List Nat, (∀ k ∈ l, f k = g k) → l.filterMap f = l.filterMap g
  | [], _ => rfl
  | a :: l, h => by rw [List.filterMap_cons, List.filterMap_cons, h a List.mem_cons_self, fm_congr l fun k hk => h k (List.mem_cons_of_mem _ hk)]
theorem pick_rev (xs : Array Value) : ((List.range xs.size).filterMap fun (k : Nat) => xs[((xs.size : Int) - 1 + (k : Int) * (-1)).toNat]?).toArray = xs.toList.reverse.toArray := by
  congr 1
  have e : (List.range xs.size).filterMap (fun (k : Nat) => xs[((xs.size : Int) - 1 + (k : Int) * (-1)).toNat]?) = (List.range xs.size).filterMap (fun k => xs.toList.reverse[k]?) := by
    refine fm_congr _ fun k hk => ?_
    have hk := List.mem_range.mp hk
    rw [List.getElem?_reverse (by simpa using hk), ← Array.getElem?_toList]
    congr 1
    rw [Array.length_toList]
    omega
  rw [e]
  have : ∀ l : List Value, (List.range l.length).filterMap (fun k => l[k]?) = l := by
    intro l
    induction l with
    | nil => rfl
    | cons a l ih =>
      rw [List.length_cons, List.range_succ_eq_map, List.filterMap_cons]
      show a :: List.filterMap _ (List.map Nat.succ (List.range l.length)) = _
      rw [List.filterMap_map]
      congr 1
  have h2 := this xs.toList.reverse
  rw [List.length_reverse, Array.length_toList] at h2
  exact h2
theorem getItem_tuple_rev {t sl : Addr} {items : Array Value} {vs : Value} {Q : Value → Shared → Prop} (ht : IsTup s.heap t items) (hs : s.heap.IsSliceOf sl .none .none vs) (ps : IsPart vs (some (-1)))
    (h : Q (.ref s.heap.objs.size) { s with heap := s.heap.push { cls := .type "tuple", data := .seq items.toList.reverse.toArray } })
    (hsz : items.size ≤ sizeLine) : wpAny (model prog w) A (getItem (.ref t) (.ref sl)) Q E s := by
  have htake : sizeOk (.seq items.toList.reverse.toArray) := by
    show items.toList.reverse.toArray.size ≤ sizeLine
    rw [List.size_toArray, List.length_reverse, Array.length_toList]
    exact hsz
  obtain ⟨os, hos, hcs, hds⟩ := id hs
  have hTs : s.TypeIs (.ref sl) "slice" := ⟨os, hos, hcs⟩
  unfold getItem
  try with_reducible refine wpAny_holding ?_
  first | refine wpAny_bind (wpAny_pure ?_) | skip
  refine wpAny_bind (wpAny_sequenceKey ht.typeIs (by decide) ?_)
  refine wpAny_bind (wpAny_callSpecial?_slot (name := Str.ofString "__getitem__") ht.typeIs PyProof.Rows.slot_tuple_getitem
    (wpAny_call_entry PyProof.Rows.slot_tuple_getitem ht.typeIs entry_tuple_getitem ?_ (args_tuple_getitem _ _)))
  show wpAny _ _ (Builtin.Tuple.tupleItemsOf (.ref t) >>= _) _ _ s
  refine wpAny_bind (tupleItemsOf_ ht ?_)
  refine wpAny_bind (wpAny_typeOf hTs ?_)
  rw [if_pos (by decide)]
  refine wpAny_bind (sliceApplied_rev hs ps ?_)
  have hno : ¬ ((((items.size : Int) - 1) == 0 && (-1 : Int) == 1 && items.size == items.size) = true) := by
    intro q
    rw [Bool.and_eq_true, Bool.and_eq_true] at q
    exact absurd q.1.2 (by decide)
  show wpAny _ _ (if (((items.size : Int) - 1) == 0 && (-1 : Int) == 1 && items.size == items.size) = true then _ else _) _ _ s
  rw [if_neg hno, pick_rev]
  first
    | exact wpAny_bind (m := Builtin.Tuple.tupleExact _) (wpAny_newObj_type (wpAny_pure ⟨_, rfl, wpAny_pure h⟩) htake)
    | exact wpAny_bind (m := Builtin.Tuple.tupleExact _) (wpAny_newObj_type (wpAny_bind (wpAny_pure (wpAny_pure ⟨_, rfl, wpAny_pure h⟩))) htake)
    | exact wpAny_bind (wpAny_bind (m := Builtin.Tuple.tupleExact _) (wpAny_newObj_type (wpAny_pure (wpAny_pure ⟨_, rfl, wpAny_pure h⟩)) htake))
    | exact wpAny_bind (wpAny_bind (m := Builtin.Tuple.tupleExact _) (wpAny_newObj_type (wpAny_pure ⟨_, rfl, wpAny_pure h⟩) htake))
end
end HT
namespace K9
open PySem PySem.Spec PyProof.Rows L2 Evl
def tRevT (K : PySem.W.Frag) (te : TE) : TE := fun σ H Q => te σ H fun x H1 => ∃ a xs, x = .ref a ∧ SqT K H1 a xs ∧ ∀ p, H1 p = none → Q (.ref p) (upd H1 p (.tup xs.reverse))
theorem pe_revT {X : Cx} {e : Expr} {te : TE} {k : Nat} {p1 p2 p3 pos : Pos} (he : PE X e te) : PE X (.Subscript e (.Slice none none (some (.UnaryOp .USub (.Constant (.int 1) k p1) p2)) p3) pos) (tRevT X.K te) := by
  refine ⟨fun pins s σ H Q I h => ?_⟩
  refine Subscript_ (thn (he.run pins s σ H _ I h) fun v s1 ⟨x, H1, I1, r1, q1⟩ => ?_)
  obtain ⟨a, xs, ex, hx, q⟩ := q1
  subst ex
  cases r1
  have hst : PO X (some (.UnaryOp .USub (.Constant (.int 1) k p1) p2)) (tPart (tUn (rU fun i => .int (-i)) (tC (.int 1)))) := po_some (pe_un un_neg pe_int)
  refine wpAny_Slice (thn (po_none.run pins s1 σ H1 (fun o H2 => o = none ∧ H2 = H1) I1 ⟨rfl, rfl⟩) fun vl s2 ⟨l, H2, I2, pl, el, e2⟩ => ?_)
  subst el e2
  refine thn (po_none.run pins s2 σ H2 (fun o H3 => o = none ∧ H3 = H2) I2 ⟨rfl, rfl⟩) fun vu s3 ⟨u, H3, I3, pu, eu, e3⟩ => ?_
  subst eu e3
  refine thn (hst.run pins s3 σ H3 (fun o H4 => o = some (-1) ∧ H4 = H3) I3 ⟨1, rfl, -1, rfl, rfl, rfl⟩) fun vs s4 ⟨o, H4, I4, ps, eo, e4⟩ => ?_
  subst eo e4
  cases pl
  cases pu
  have I5 : Inv X pins σ H4 { s4 with heap := s4.heap.push { cls := .type "slice", data := .fields #[.none, .none, vs] } } := I4.kept (t' := s4.toks) fun b ob q => Heap.get?_push_of_some _ q
  obtain ⟨its, r, ht, hz⟩ := I5.tuple hx
  have hlen := r.length
  show wpAny (model X.prog X.w) X.A (subscriptTail e (.Slice none none (some (.UnaryOp .USub (.Constant (.int 1) k p1) p2)) p3) (.ref a) (.ref s4.heap.objs.size)) (EP X pins σ Q) X.xe { s4 with heap := s4.heap.push { cls := .type "slice", data := .fields #[.none, .none, vs] } }
  refine tail_any (ops := [.ref a, .ref s4.heap.objs.size]) ht.typeIs (PyProof.Rows.slot_tuple_getitem.lookup) ?_ (by with_unfolding_all rfl)
  refine HT.getItem_tuple_rev ht (Heap.IsSliceOf.new _ .none .none vs) ps ?_ (by rw [List.size_toArray]; omega)
  refine ⟨.ref _, _, I5.laid (t' := s4.toks) (o := .tup xs.reverse) (fun b ob q => Heap.get?_push_of_some _ q) (Nat.le_refl _) ?_, rfl, q _ (I5.hok.fresh (Nat.le_refl _))⟩
  exact ⟨by rw [List.length_reverse]; exact hz, _, r.reverse, IsTup.new _ _⟩
theorem k_revT {X : Cx} {K : PySem.W.Frag} (hK : X.K = K) {e : Expr} {te : TE} {k : Nat} {p1 p2 p3 pos : Pos} (he : PE X e te) : PE X (.Subscript e (.Slice none none (some (.UnaryOp .USub (.Constant (.int 1) k p1) p2)) p3) pos) (tRevT K te) := by
  subst hK; exact pe_revT he
end K9
namespace K9
open PySem PySem.Spec PyProof.Rows L2 Evl
local macro_rules | `(tactic| walk_at "ev") => `(tactic| first
  | with_reducible exact ev_c
  | ((with_reducible refine' ev_var ?k0); (case k0 => exact rfl))
  | with_reducible assumption
  | ((with_reducible refine' ev_lenS ?k0 ?k1); (case k0 => walk_at "ev"); (case k1 => walk_at "sz"))
  | ((with_reducible refine' ev_I0 ?k0 ?k1); (case k0 => walk_at "ev"); (case k1 => walk_at "ev"))
  | ((with_reducible refine' ev_I ?k0 ?k1 ?k2); (case k0 => walk_at "ev"); (case k1 => walk_at "ev"); (case k2 => walk_at "sz"))
  | ((with_reducible refine' ev_eq ?k0 ?k1 ?k2); (case k0 => walk_at "ev"); (case k1 => walk_at "ev"); (case k2 => walk_at "sz"))
  | ((with_reducible refine' ev_ne ?k0 ?k1 ?k2); (case k0 => walk_at "ev"); (case k1 => walk_at "ev"); (case k2 => walk_at "sz"))
  | ((with_reducible refine' ev_slTo ?k0 ?k1 ?k2 ?k3); (case k0 => walk_at "ev"); (case k1 => walk_at "ev"); (case k2 => walk_at "sz"); (case k3 => walk_at "sz"))
  | ((with_reducible refine' ev_slFrom ?k0 ?k1 ?k2 ?k3); (case k0 => walk_at "ev"); (case k1 => walk_at "ev"); (case k2 => walk_at "sz"); (case k3 => walk_at "sz"))
  | ((with_reducible refine' ev_slMid ?k0 ?k1 ?k2 ?k3 ?k4 ?k5); (case k0 => walk_at "ev"); (case k1 => walk_at "ev"); (case k2 => walk_at "ev"); (case k3 => walk_at "sz"); (case k4 => walk_at "sz"); (case k5 => walk_at "sz"))
  | ((with_reducible refine' ev_addS ?k0 ?k1 ?k2); (case k0 => walk_at "ev"); (case k1 => walk_at "ev"); (case k2 => walk_at "sz"))
  | ((with_reducible refine' ev_cl ?k0 ?k1); (case k0 => walk_at "ea"); (case k1 => walk_at "sp"))
  | ((with_reducible refine' ev_notV ?k0); (case k0 => walk_at "ev"))
  | ((with_reducible refine' ev_un ?k0 ru_neg); (case k0 => walk_at "ev")))
local macro_rules | `(tactic| walk_at "ea") => `(tactic| first
  | with_reducible exact ea_nil
  | ((with_reducible refine' ea_cons ?k0 ?k1); (case k0 => walk_at "ev"); (case k1 => walk_at "ea")))
local macro_rules | `(tactic| walk_at "et") => `(tactic| first
  | with_reducible assumption
  | ((with_reducible refine' et_test ?k0); (case k0 => walk_at "ev"))
  | ((with_reducible refine' et_B ?k0); (case k0 => walk_at "ev"))
  | ((with_reducible refine' et_not ?k0); (case k0 => walk_at "et")))
local macro_rules | `(tactic| walk_at "sz") => `(tactic| first
  | rfl
  | omega
  | (simp only [List.length_take, List.length_drop, List.length_append]; omega)
  | (constructor <;> omega)
  | assumption)
local macro_rules | `(tactic| walk_at "sp") => `(tactic| first | assumption)

section
variable {K : PySem.W.Frag} {σ : L2.St} {H : Hp} {te to ti td ty tw : TE} {D : Ends} {tz tu : TS} {tt : TT}
theorem srcA_R2 {f : Addr} {ta : TA} {lo hi : Int} {j : Nat} (h : EvA ta σ H [.int lo, .int hi]) (hn : -100000 ≤ lo ∧ lo ≤ 100000 ∧ -100000 ≤ hi ∧ hi ≤ 100000) : SrcA f (iRng2 ta) (gName j) σ H (hi - lo).toNat (fun i σ => σ.set j (some (.int (lo + (i : Int))))) := fun H1 e R k =>
  h H1 e _ fun H2 e2 => ⟨lo, hi, rfl, ⟨by omega, by omega, by omega, by omega⟩, k _ H2 e2 runs_range⟩
theorem q_putKL {a : Addr} {kvs : List (Key × V)} {k : Key} {xs : List V} (hd : Ev td σ H (.ref a)) (hk : Ev ty σ H (kV k)) (hv : EvL tw σ H xs) (ha : H a = some (.dK kvs)) (hz : kvs.length ≤ 1000) (q : ∀ p H1, H p = none → Ex H H1 → H1 p = some (.lst xs) → tz D σ (upd H1 a (.dK (putK kvs k (.ref p))))) : tSeq (sDPut td ty tw) tz D σ H :=
  hv H (Ex.refl H) _ fun p H1 hp e1 hx => hd H1 e1 _ fun H2 e2 => hk H2 (e1.trans e2) _ fun H3 e3 => ⟨a, _, rfl, DPut.k (((e1.trans e2).trans e3) _ _ ha) (sz60' (by omega)), q p H3 hp ((e1.trans e2).trans e3) ((e2.trans e3) _ _ hx)⟩
theorem ev_ixLI {a : Addr} {l : List Int} {j : Nat} (h1 : Ev to σ H (.ref a)) (h2 : Ev ti σ H (iv j)) (hs : H a = some (.lst (l.map V.int))) (hj : j < l.length) : Ev (tOp (rIxL K) to ti) σ H (.int l[j]) :=
  ev_op h1 h2 (rv_ixL (SqL.of hs) (atI_nat (by rw [List.getElem?_map, List.getElem?_eq_getElem hj]; rfl)))
end
def Cells (cs : List Int) : Prop := cs.length = 64 ∧ ∀ x ∈ cs, 0 ≤ x ∧ x < 2147483647
theorem Cells.set {cs : List Int} (h : Cells cs) (j : Nat) (x : Int) : Cells (cs.set j (x % 2147483647)) := by
  refine ⟨by rw [List.length_set]; exact h.1, fun y hy => ?_⟩
  rcases List.mem_or_eq_of_mem_set hy with z | z
  · exact h.2 y z
  · rw [z]
    exact ⟨Int.emod_nonneg _ (by decide), Int.emod_lt_of_pos _ (by decide)⟩
section
variable {P : Program} {w : World} {K : PySem.W.Frag} {mg : Str → Option Value} {base : Heap}
def spFolded (K : PySem.W.Frag) : Sp := fun vs H Q _ => ∃ (a : Addr) (ns : List Int), vs = [.ref a] ∧ SqL K H a (ns.map V.int) ∧ ns.length ≤ 1000 ∧ RetLP (fun xs => ∃ cs : List Int, xs = cs.map V.int ∧ Cells cs) H Q
theorem ok_folded (T : Topf mg) (F : FnP K mg "_law_folded" s_l_folded) : Cal P w K mg base CX0 1 "_law_folded" ["_law_script"] (spFolded K) := by
  refine cal_mk F sc_l_folded (fun vs H Q E h => ?_) (fun _ _ _ _ _ _ us hl => match us, hl with | [_], _ => rfl) (fun f cdv A outer s H vs Q E hr h => ?_)
  · obtain ⟨a, ns, rfl, _⟩ := h; rfl
  · obtain ⟨a, ns, rfl, hs, hz, q⟩ := h
    refine ⟨_, (pss_cons (ps_setLc (i := 2) (own := [("_law_n", 1)]) rfl sc_l_folded.nd rfl rfl (sw_true rfl rfl rfl (by decide +kernel)) (pi_range1 rfl T.b_range (pa_cons pe_int pa_nil)) (blkOk_by (own := [("_law_n", 1)]) (N := N_l_folded) (sc := defScope s_l_folded) (by decide +kernel)) (fun _ _ _ _ _ => (pg_name (i := 1) sc_l_folded.nd rfl (Or.inl rfl))) (fun _ _ _ _ _ => pts_nil) (fun _ _ _ _ _ => (pe_op op_add pe_int (pv 1))))
      (pss_cons (ps_for PassesOwn.never rfl (k_pienum (K := K) rfl rfl T.b_enumerate (pa_cons (pv 0) pa_nil)) (k_pgtup (K := K) (n := 2) rfl (by rfl) (pgs_cons (pg_name (i := 1) sc_l_folded.nd rfl (Or.inl rfl)) (pgs_cons (pg_name (i := 3) sc_l_folded.nd rfl (Or.inl rfl)) pgs_nil)))
        (pss_one (ps_asg (pe_op op_mod (pe_callTy call_int1 (by rfl) T.b_int (by decide +kernel) (pa_cons (pe_op op_add (pe_op op_mul (pe_ix (k_ixL (K := K) rfl) (pv 2) (pe_op op_mod (pe_callTy call_int1 (by rfl) T.b_int (by decide +kernel) (pa_cons (pv 1) pa_nil)) pe_int) (fun _ _ => rfl)) pe_int) (pv 3)) pa_nil)) pe_int) (pg_sub (pv 2) (pe_op op_mod (pe_callTy call_int1 (by rfl) T.b_int (by decide +kernel) (pa_cons (pv 1) pa_nil)) pe_int) set_list))))
      (pss_cons (ps_for PassesOwn.never rfl (pi_range2 rfl T.b_range (pa_cons pe_int (pa_cons pe_int pa_nil))) (pg_name (i := 1) sc_l_folded.nd rfl (Or.inl rfl))
        (pss_one (ps_asg (pe_op op_mod (pe_callTy call_int1 (by rfl) T.b_int (by decide +kernel) (pa_cons (pe_op op_add (pe_ix (k_ixL (K := K) rfl) (pv 2) (pv 1) (fun _ _ => rfl)) (pe_op op_mul (pe_ix (k_ixL (K := K) rfl) (pv 2) (pe_op op_sub (pv 1) pe_int) (fun _ _ => rfl)) pe_int)) pa_nil)) pe_int) (pg_sub (pv 2) (pv 1) set_list))))
      (pss_one (ps_ret (pv 2)))))), ?_⟩
    have hS := src_R1 (j := 1) (σ := start N_l_folded [.ref a]) (H := H) (n := 64) (ta := tCons (tC (.int 64)) tNil) (ea_cons ev_c ea_nil) (by decide) (by decide)
    refine q_asgL (xs := ((List.range 64).map fun i : Nat => (17 + (i : Int))).map V.int) (el_is (el_lc (vs := [1]) (fun _ => true) (fun i => .int (17 + (i : Int))) hS (by decide) (fun i _ => rfl) (fun i H7 _ _ H8 _ Q q => q H8 (Ex.refl H8)) (fun i H1 e hi _ => ev_I0 ev_c (ev_is (ev_var rfl) (by rw [Int.zero_add])))) (by rw [given_all, List.map_map]; rfl)) fun p H1 hp e1 hx => ?_
    have hc0 : Cells ((List.range 64).map fun i : Nat => (17 + (i : Int))) := ⟨by simp, fun x hx => by
      obtain ⟨i, hi, rfl⟩ := List.mem_map.mp hx
      have := List.mem_range.mp hi
      omega⟩
    have hS2 := srcA_enum0 (K := K) (f := p) (j := 1) (k := 3) (ta := tCons (tVar 0) tNil) (σ := [some (.ref a), none, some (.ref p), none]) (H := H1) (ea_cons (ev_var rfl) ea_nil) hs e1 hp
    refine q_for hS2 (fun i σ' H' => ∃ y1 y3 cs, σ' = [some (.ref a), y1, some (.ref p), y3] ∧ H' p = some (.lst (cs.map V.int)) ∧ Cells cs) (fun H2 e2 => ⟨_, _, _, rfl, e2 _ _ hx, hc0⟩) ?_ ?_
    · intro B i σ' H' H'' hi eB hB pv eB' e'
      obtain ⟨y1, y3, cs, rfl, hcs, hC⟩ := pv
      rw [List.length_map] at hi
      rw [getD_at (by rw [List.length_map]; exact hi), List.getElem_map]
      have hj : i % 64 < cs.length := by rw [hC.1]; omega
      have hcs2 := e' _ _ hcs
      have hx := hC.2 _ (List.getElem_mem hj)
      have hi64 : Ev (tOp (rI (fun _ j => 0 < j) fun i j => .int (i % j)) (tCB (fun xs H Q => (∃ i, xs = [.int i] ∧ Q (.int i) H) ∨ ∃ k, xs = [.bl k] ∧ Q (.int (if k then 1 else 0)) H) (tCons (tVar 1) tNil)) (tC (.int 64))) [some (.ref a), some (iv i), some (.ref p), some (.int ns[i])] H'' (iv (i % 64)) :=
        ev_is (ev_I (ev_int1 (ev_var (v := iv i) rfl)) ev_c (by decide)) (show V.int ((i : Int) % 64) = V.int ((i % 64 : Nat) : Int) by congr 1)
      refine s_setL (j := i % 64) (v := .int ((cs[i % 64] * 48271 + ns[i]) % 2147483647)) hcs2 (ev_I (ev_int1 (ev_I0 (f := fun i j => .int (i + j)) (ev_I (C := CMul) (f := fun i j => .int (i * j)) (ev_ixLI (ev_var (v := .ref p) rfl) hi64 hcs2 hj) ev_c (.inr ⟨by decide, by decide⟩)) (ev_var (v := .int ns[i]) rfl))) ev_c (by decide)) (ev_var (v := .ref p) rfl) hi64 (by rw [List.length_map]; exact hj) fun H3 e3 => ⟨(eB'.trans (e'.trans e3)).mut hB, _, _, cs.set (i % 64) ((cs[i % 64] * 48271 + ns[i]) % 2147483647), rfl, by rw [upd_same, List.map_set], hC.set _ _⟩
    · intro σ' H' eB pv
      obtain ⟨y1, y3, cs, rfl, hcs, hC⟩ := pv
      have eH' : Ex H H' := (drp_of e1 hp).trans eB
      have hS3 := srcA_R2 (f := p) (j := 1) (ta := tCons (tC (.int 1)) (tCons (tC (.int 64)) tNil)) (σ := [some (.ref a), y1, some (.ref p), y3]) (H := H') (lo := 1) (hi := 64) (ea_cons ev_c (ea_cons ev_c ea_nil)) (by decide)
      refine q_for hS3 (fun i σ' H' => ∃ y1 cs, σ' = [some (.ref a), y1, some (.ref p), y3] ∧ H' p = some (.lst (cs.map V.int)) ∧ Cells cs) (fun H2 e2 => ⟨_, _, rfl, e2 _ _ hcs, hC⟩) ?_ ?_
      · intro B i σ' H2 H3 hi eB2 hB pv eB' e'
        obtain ⟨y1, cs, rfl, hcs, hC⟩ := pv
        have hi : i < 63 := hi
        have hcs2 := e' _ _ hcs
        have hj : i + 1 < cs.length := by rw [hC.1]; omega
        have hj0 : i < cs.length := by omega
        have h1 : Ev (tVar 1) [some (.ref a), some (.int (1 + (i : Int))), some (.ref p), y3] H3 (iv (i + 1)) := ev_is (ev_var rfl) (by congr 1; omega)
        refine s_setL (j := i + 1) (v := .int ((cs[i + 1] + cs[i] * 16807) % 2147483647)) hcs2 (ev_I (ev_int1 (ev_I0 (f := fun i j => .int (i + j)) (ev_ixLI (ev_var (v := .ref p) rfl) h1 hcs2 hj) (ev_I (C := CMul) (f := fun i j => .int (i * j)) (ev_ixLI (j := i) (ev_var (v := .ref p) rfl) (ev_is (ev_I0 h1 ev_c) (by congr 1; omega)) hcs2 hj0) ev_c (.inr ⟨by decide, by decide⟩)))) ev_c (by decide)) (ev_var (v := .ref p) rfl) h1 (by rw [List.length_map]; exact hj) fun H4 e4 => ⟨(eB'.trans (e'.trans e4)).mut hB, _, cs.set (i + 1) ((cs[i + 1] + cs[i] * 16807) % 2147483647), rfl, by rw [upd_same, List.map_set], hC.set _ _⟩
      · intro σ' H2 eB2 pv
        obtain ⟨y1, cs, rfl, hcs, hC⟩ := pv
        have eH2 : Ex H H2 := (drp_of eH' hp).trans eB2
        exact s_ret (ev_var rfl) fun H3 e3 => q p _ H3 hp (eH2.trans e3) (e3 _ _ hcs) ⟨cs, rfl, hC⟩
theorem merge_m {a b c : V} : mergeK [] [((.inr ("cells" : Str) : Key), a), (.inr "great", b), (.inr "spot", c)] = [(.inr "cells", a), (.inr "great", b), (.inr "spot", c)] := by
  unfold mergeK
  simp only [List.foldl_cons, List.foldl_nil]
  have e1 : putK ([] : List (Key × V)) (.inr ("cells" : Str)) a = [(.inr "cells", a)] := rfl
  have e2 : putK [((.inr ("cells" : Str) : Key), a)] (.inr ("great" : Str)) b = [(.inr "cells", a), (.inr "great", b)] := by
    unfold putK
    rw [if_neg (by rw [List.any_cons, decide_eq_false nq1]; decide)]
    rfl
  have e3 : putK [((.inr ("cells" : Str) : Key), a), (.inr "great", b)] (.inr ("spot" : Str)) c = [(.inr "cells", a), (.inr "great", b), (.inr "spot", c)] := by
    unfold putK
    rw [if_neg (by rw [List.any_cons, List.any_cons, decide_eq_false nq2, decide_eq_false nq3]; decide)]
    rfl
  rw [e1, e2, e3]
def spBegun (K : PySem.W.Frag) (Tt : List (Addr × Str)) : Sp := fun vs H Q _ => ∃ (a : Addr) (ns : List Int), vs = [.ref a] ∧ SqL K H a (ns.map V.int) ∧ ns.length ≤ 1000 ∧ LamX.Tabs Tt H ∧ (∀ m c g H2, Ex H H2 → Mm Tt m c g 0 H2 → H m = none → H g = none → Q (.ref m) H2)
theorem ok_begun {Tt : List (Addr × Str)} (T : Topf mg) (F : FnP K mg "_law_begun" s_l_begun) (C_l_folded : Cal P w K mg base CX0 1 "_law_folded" ["_law_script"] (spFolded K)) : Cal P w K mg base CX0 2 "_law_begun" ["_law_script"] (spBegun K Tt) := by
  refine cal_mk F sc_l_begun (fun vs H Q E h => ?_) (fun _ _ _ _ _ _ us hl => match us, hl with | [_], _ => rfl) (fun f cdv A outer s H vs Q E hr h => ?_)
  · obtain ⟨a, ns, rfl, _⟩ := h; rfl
  · obtain ⟨a, ns, rfl, hs, hz, hT, q⟩ := h
    refine ⟨_, (pss_cons (ps_set (i := 1) sc_l_begun.nd rfl (Or.inl rfl) (pe_disp (pps_cons pe_str (pe_c C_l_folded (hr.mono (by decide)) rfl (pa_cons (pv 0) pa_nil)) (pps_cons pe_str (pe_lst pa_nil) (pps_cons pe_str pe_int pps_nil))) (by rfl) (by rfl) (fun z => by cases z) (by decide)))
      (pss_cons (ps_dput (hu_of hr) (pv 1) pe_str (pe_lc (own := [("_law_cell", 2)]) rfl sc_l_begun.nd (k_pil (K := K) rfl (pv 0)) (blkOk_by (own := [("_law_cell", 2)]) (N := N_l_begun) (sc := defScope s_l_begun) (by decide +kernel)) (fun _ _ _ _ _ => (pg_name (i := 2) sc_l_begun.nd rfl (Or.inl rfl))) (fun _ _ _ _ _ => pts_nil) (fun _ _ _ _ _ => (pe_ifExp (pt_cmpR op_ge (pv 2) (pe_op op_pow pe_int pe_int) (nomark _)) (pv 2) pe_int))) rfl)
      (pss_one (ps_ret (pv 1))))), ?_⟩
    refine fun m hm => ⟨_, rfl, a, ns, rfl, ex_l (Ex.new hm) hs, hz, fun c xs H2 hc e2 hx hw => ?_⟩
    obtain ⟨cs, rfl, hC⟩ := hw
    refine ⟨Nat.le_of_ble_eq_true rfl, fun g0 hg0 => ⟨?_, [(.inr "cells", .ref c), (.inr "great", .ref g0), (.inr "spot", .int 0)], rfl, Nat.le_of_ble_eq_true rfl, ?_⟩⟩
    · exact (e2.trans (Ex.new hg0)) _ _ upd_same
    · rw [merge_m]
      have e1 : Ex H (upd H m (.dK [])) := Ex.new hm
      have e3 : Ex H (upd (upd H2 g0 (.lst [])) m (mD c g0 0)) := ((e1.trans e2).trans (Ex.new hg0)).mut hm
      have hm2 : H2 m = some (.dK []) := e2 _ _ upd_same
      have hcm : c ≠ m := fun z => by rw [z, upd_same] at hc; cases hc
      have hcg0 : c ≠ g0 := fun z => by rw [z] at hx; rw [hx] at hg0; cases hg0
      have hx3 : (upd (upd H2 g0 (.lst [])) m (mD c g0 0)) c = some (.lst (cs.map V.int)) := by rw [upd_other hcm, upd_other hcg0]; exact hx
      have hm3 : (upd (upd H2 g0 (.lst [])) m (mD c g0 0)) m = some (mD c g0 0) := upd_same
      show tSeq _ _ _ _ (upd (upd H2 g0 (.lst [])) m (mD c g0 0))
      generalize upd (upd H2 g0 (.lst [])) m (mD c g0 0) = H3 at e3 hx3 hm3
      have hS := src_L (K := K) (j := 2) (σ := [some (.ref a), some (.ref m), none]) (H := H3) (tl := tVar 0) (ev_var (v := .ref a) rfl) (ex_l e3 hs)
      rw [List.length_map] at hS
      refine q_putKL (k := .inr "great") (xs := ((List.range ns.length).map fun i => if ns.getD i 0 ≥ 10 ^ 18 then ns.getD i 0 else 0).map V.int) (ev_var (v := .ref m) rfl) ev_c (el_is (el_lc (vs := [2]) (fun _ => true) (fun i => .int (if ns.getD i 0 ≥ 10 ^ 18 then ns.getD i 0 else 0)) hS (by omega) (fun i _ => rfl) (fun i H7 _ _ H8 _ Q q => q H8 (Ex.refl H8)) (fun i H1 e hi _ => ?_)) (by rw [given_all, List.map_map]; rfl)) hm3 (Nat.le_of_ble_eq_true rfl) fun g H4 hg e4 hxg => ?_
      · rw [getD_at (by rw [List.length_map]; exact hi), List.getElem_map, show ns.getD i 0 = ns[i] by rw [List.getD_eq_getElem?_getD, List.getElem?_eq_getElem hi]; rfl]
        refine ev_if (b := decide (ns[i] ≥ 10 ^ 18)) (et_B (ev_I0 (f := fun i j => .bl (decide (i ≥ j))) (ev_var (v := .int ns[i]) rfl) (ev_I (C := CPow) ev_c ev_c ⟨by decide, by decide, by decide⟩))) (fun hb => ?_) (fun hb => ?_)
        · rw [if_pos (of_decide_eq_true hb)]; exact ev_var rfl
        · rw [if_neg (of_decide_eq_false hb)]; exact ev_c
      · rw [put_g]
        have hcm3 : c ≠ m := hcm
        have hgm : g ≠ m := fun z => by rw [z, hm3] at hg; cases hg
        have hcg : c ≠ g := fun z => by rw [← z, hx3] at hg; cases hg
        have hm4 := e4 _ _ hm3
        have M4 : Mm Tt m c g 0 (upd H4 m (mD c g 0)) := ⟨⟨0, cs, _, upd_same, by rw [upd_other hcm]; exact e4 _ _ hx3, by rw [upd_other hgm]; exact hxg, Nat.le_refl _, hC.1, hC.2, hcg⟩, tabs_upd (hT.ext (e3.trans e4)) (fun ps z => by rw [hm4] at z; cases z) (fun q z => by rw [hm4] at z; cases z)⟩
        have e5 : Ex H (upd H4 m (mD c g 0)) := (e3.trans e4).mut hm
        exact s_ret (ev_var rfl) fun H5 e6 => q m c g H5 (e5.trans e6) (M4.ext e6) hm (fresh_back e3 hg)
end
end K9
namespace K9
open PySem PySem.Spec PyProof.Rows L2 Evl
local macro_rules | `(tactic| walk_at "ev") => `(tactic| first
  | with_reducible exact ev_c
  | ((with_reducible refine' ev_var ?k0); (case k0 => exact rfl))
  | with_reducible assumption
  | ((with_reducible refine' ev_lenS ?k0 ?k1); (case k0 => walk_at "ev"); (case k1 => walk_at "sz"))
  | ((with_reducible refine' ev_I0 ?k0 ?k1); (case k0 => walk_at "ev"); (case k1 => walk_at "ev"))
  | ((with_reducible refine' ev_I ?k0 ?k1 ?k2); (case k0 => walk_at "ev"); (case k1 => walk_at "ev"); (case k2 => walk_at "sz"))
  | ((with_reducible refine' ev_eq ?k0 ?k1 ?k2); (case k0 => walk_at "ev"); (case k1 => walk_at "ev"); (case k2 => walk_at "sz"))
  | ((with_reducible refine' ev_ne ?k0 ?k1 ?k2); (case k0 => walk_at "ev"); (case k1 => walk_at "ev"); (case k2 => walk_at "sz"))
  | ((with_reducible refine' ev_slTo ?k0 ?k1 ?k2 ?k3); (case k0 => walk_at "ev"); (case k1 => walk_at "ev"); (case k2 => walk_at "sz"); (case k3 => walk_at "sz"))
  | ((with_reducible refine' ev_slFrom ?k0 ?k1 ?k2 ?k3); (case k0 => walk_at "ev"); (case k1 => walk_at "ev"); (case k2 => walk_at "sz"); (case k3 => walk_at "sz"))
  | ((with_reducible refine' ev_slMid ?k0 ?k1 ?k2 ?k3 ?k4 ?k5); (case k0 => walk_at "ev"); (case k1 => walk_at "ev"); (case k2 => walk_at "ev"); (case k3 => walk_at "sz"); (case k4 => walk_at "sz"); (case k5 => walk_at "sz"))
  | ((with_reducible refine' ev_addS ?k0 ?k1 ?k2); (case k0 => walk_at "ev"); (case k1 => walk_at "ev"); (case k2 => walk_at "sz"))
  | ((with_reducible refine' ev_cl ?k0 ?k1); (case k0 => walk_at "ea"); (case k1 => walk_at "sp"))
  | ((with_reducible refine' ev_notV ?k0); (case k0 => walk_at "ev"))
  | ((with_reducible refine' ev_un ?k0 ru_neg); (case k0 => walk_at "ev")))
local macro_rules | `(tactic| walk_at "ea") => `(tactic| first
  | with_reducible exact ea_nil
  | ((with_reducible refine' ea_cons ?k0 ?k1); (case k0 => walk_at "ev"); (case k1 => walk_at "ea")))
local macro_rules | `(tactic| walk_at "et") => `(tactic| first
  | with_reducible assumption
  | ((with_reducible refine' et_test ?k0); (case k0 => walk_at "ev"))
  | ((with_reducible refine' et_B ?k0); (case k0 => walk_at "ev"))
  | ((with_reducible refine' et_not ?k0); (case k0 => walk_at "et")))
local macro_rules | `(tactic| walk_at "sz") => `(tactic| first
  | rfl
  | omega
  | (simp only [List.length_take, List.length_drop, List.length_append]; omega)
  | (constructor <;> omega)
  | assumption)
local macro_rules | `(tactic| walk_at "sp") => `(tactic| first | assumption)

/-- an expression that draws -/
def EvS (T : List (Addr × Str)) (m c g : Addr) (k k' : Nat) (te : TE) (σ : L2.St) (H0 : Hp) (W : V → Prop) : Prop := ∀ H, Ex (off m g H0) H → Mm T m c g k H → ∀ Q : VK, (∀ v H2, Ex (off m g H) H2 → Mm T m c g k' H2 → W v → Q v H2) → te σ H Q
section
variable {T : List (Addr × Str)} {m c g : Addr} {k k' : Nat} {σ : L2.St} {H H0 : Hp} {te ta tb : TE} {ts : TA} {D : Ends} {tz tu : TS} {W : V → Prop}
theorem es_draw {lim : Nat} (ha : EvA ts σ (off m g H0) [.ref m, iv lim]) (hk : k ≤ 1000000) (h0 : 0 < lim) (h1 : lim ≤ 1000000) : EvS T m c g k (k + 1) (tCl (spDraw T) ts) σ H0 (fun v => ∃ r : Nat, v = iv r ∧ r < lim) := fun H e M Q q =>
  ha H e _ fun H1 e1 => ⟨m, c, g, k, lim, rfl, M.ext e1, hk, h0, h1, fun r H2 e2 M2 hr => q _ H2 (off_trans (off_of e1) e2) M2 ⟨r, rfl, hr⟩⟩
theorem es_opR {r : R2} {x : V} {z : V → V} (h1 : Ev ta σ (off m g H0) x) (h2 : EvS T m c g k k' tb σ H0 W) (hr : ∀ y H, W y → RV r x y H (z y)) : EvS T m c g k k' (tOp r ta tb) σ H0 (fun v => ∃ y, W y ∧ v = z y) := fun H e M Q q =>
  h1 H e _ fun H1 e1 => h2 H1 (e.trans e1) (M.ext e1) _ fun y H2 e2 M2 w => hr y H2 w H2 (Ex.refl H2) _ fun H3 e3 => q _ H3 ((off_trans (off_of e1) e2).trans e3) (M2.ext e3) ⟨y, w, rfl⟩
theorem es_is {W2 : V → Prop} (h : EvS T m c g k k' te σ H W) (i : ∀ v, W v → W2 v) : EvS T m c g k k' te σ H W2 := fun H1 e M Q q => h H1 e M Q fun v H2 e2 M2 w => q v H2 e2 M2 (i v w)
theorem q_es {i : Nat} (h : EvS T m c g k k' te σ H W) (M : Mm T m c g k H) (q : ∀ v H2, Ex (off m g H) H2 → Mm T m c g k' H2 → W v → tz D (σ.set i (some v)) H2) : tSeq (tAsg te (gName i)) tz D σ H := h H (off_ex m g H) M _ q
theorem s_es {i : Nat} (h : EvS T m c g k k' te σ H W) (M : Mm T m c g k H) (q : ∀ v H2, Ex (off m g H) H2 → Mm T m c g k' H2 → W v → D.nx (σ.set i (some v)) H2) : tAsg te (gName i) D σ H := h H (off_ex m g H) M _ q
theorem rng_loop {B H1 : Hp} {n j : Nat} {tb : TS} (Pv : Nat → L2.St → Hp → Prop) (h0 : Pv 0 σ H1) (hB : Ex B H1)
    (hs : ∀ i σ' H', i < n → Ex B H' → Pv i σ' H' → tb { D with nx := fun σ2 H2 => Ex B H2 ∧ Pv (i + 1) σ2 H2, ct := fun σ2 H2 => Ex B H2 ∧ Pv (i + 1) σ2 H2, bk := D.nx } (σ'.set j (some (iv i))) H') (hd : ∀ σ' H', Ex B H' → Pv n σ' H' → D.nx σ' H') :
    ∃ W : Nat → Nat → L2.St → Hp → Prop, (∃ m, W 0 m σ H1) ∧ ∀ i m σ H, W i m σ H →
      ((Itr 0 n).stop i H ∧ D.nx σ H) ∨ ((Itr 0 n).go i H ∧ ∃ N : L2.St → Hp → Prop, (∀ σ' H', N σ' H' → ∃ m', m' < m ∧ W (i + 1) m' σ' H') ∧ ∀ x H', (Itr 0 n).yld i H x H' → gName j x σ H' fun σ2 H2 => tb { D with nx := N, ct := N, bk := D.nx } σ2 H2) := by
  refine ⟨fun i m σ H => i + m = n ∧ Ex B H ∧ Pv i σ H, ⟨n, by omega, hB, h0⟩, fun i m σ H hW => ?_⟩
  obtain ⟨em, e, p⟩ := hW
  by_cases hi : i < n
  · refine .inr ⟨hi, fun σ2 H2 => Ex B H2 ∧ Pv (i + 1) σ2 H2, fun σ' H' q => ⟨m - 1, by omega, by omega, q⟩, fun x H' y => ?_⟩
    obtain ⟨rfl, rfl⟩ := y
    have h := hs i σ H' hi e p
    rw [show iv i = .int (0 + (i : Int)) by rw [Int.zero_add]] at h
    exact h
  · have : i = n := by omega
    subst this
    exact .inl ⟨Nat.le_refl _, hd σ H e p⟩
theorem q_forDraw {j lim : Nat} (d : Nat) (h : EvS T m c g k k' te σ H (fun v => ∃ r : Nat, v = iv r ∧ r < lim)) (M : Mm T m c g k H) (hl : lim ≤ 1000000) (Pv : Nat → L2.St → Prop) (h0 : Pv 0 σ)
    (hs : ∀ r i σ' H', r < lim → i < r → Ex (off m g H) H' → Mm T m c g (k' + i * d) H' → Pv i σ' → tu { D with nx := fun σ2 H2 => Ex (off m g H) H2 ∧ Mm T m c g (k' + (i + 1) * d) H2 ∧ Pv (i + 1) σ2, ct := fun σ2 H2 => Ex (off m g H) H2 ∧ Mm T m c g (k' + (i + 1) * d) H2 ∧ Pv (i + 1) σ2, bk := tz D } (σ'.set j (some (iv i))) H')
    (hd : ∀ r σ' H', r < lim → Ex (off m g H) H' → Mm T m c g (k' + r * d) H' → Pv r σ' → tz D σ' H') : tSeq (tFor (iRng1 (tCons te tNil)) (gName j) tu) tz D σ H :=
  h H (off_ex m g H) M _ fun v H2 e2 M2 ⟨r, ev, hr⟩ => ⟨(r : Int), by rw [ev], by omega, by omega, rng_loop (B := off m g H) (D := { D with nx := tz D }) (n := r) (fun i σ' H' => Mm T m c g (k' + i * d) H' ∧ Pv i σ') ⟨by rw [Nat.zero_mul]; exact M2, h0⟩ e2
    (fun i σ' H' hi eB p => hs r i σ' H' hr hi eB p.1 p.2) (fun σ' H' eB p => hd r σ' H' hr eB p.1 p.2)⟩
theorem Mm.upd {a : Addr} {xs : List V} {o : HO} (M : Mm T m c g k H) (hm : a ≠ m) (hc : a ≠ c) (hg : a ≠ g) (hl : H a = some (.lst xs)) : Mm T m c g k (upd H a o) := by
  obtain ⟨n, cs, gs, h1, h2, h3, r⟩ := M.ex
  exact ⟨⟨n, cs, gs, by rw [upd_other hm.symm]; exact h1, by rw [upd_other hc.symm]; exact h2, by rw [upd_other hg.symm]; exact h3, r⟩, tabs_upd M.tabs (fun ps z => by rw [hl] at z; cases z) (fun q z => by rw [hl] at z; cases z)⟩
theorem Mm.far (M : Mm T m c g k H) {a : Addr} (h : H a = none) : a ≠ m ∧ a ≠ c ∧ a ≠ g := by
  obtain ⟨n, cs, gs, h1, h2, h3, r⟩ := M.ex
  exact ⟨(fun z => by rw [z, h1] at h; cases h), (fun z => by rw [z, h2] at h; cases h), (fun z => by rw [z, h3] at h; cases h)⟩
/-- a comprehension that draws -/
theorem lcS {d n j : Nat} {vs : List Nat} {Q : VK} (W : V → Prop) (M : Mm T m c g k H) (hn : n ≤ 40000) (hw : ∀ x, wipe ((wipe σ vs).set j (some x)) vs = wipe σ vs)
    (he : ∀ i H', i < n → Ex (off m g H) H' → EvS T m c g (k + i * d) (k + (i + 1) * d) te ((wipe σ vs).set j (some (iv i))) H' W)
    (q : ∀ D xs H2, H D = none → Ex (off m g H) H2 → Mm T m c g (k + n * d) H2 → H2 D = some (.lst xs) → xs.length = n → (∀ x ∈ xs, W x) → Q (.ref D) H2) :
    ∀ D, H D = none → ∃ Wl : Nat → Nat → Hp → Prop, (∃ mm, Wl 0 mm (upd H D (.lst []))) ∧ ∀ i mm H', Wl i mm H' →
      ((Itr 0 n).stop i H' ∧ Q (.ref D) H') ∨ ((Itr 0 n).go i H' ∧ ∃ Nx : Hp → Prop, (∀ H'', Nx H'' → ∃ m', m' < mm ∧ Wl (i + 1) m' H'') ∧ ∀ x H'', (Itr 0 n).yld i H' x H'' → gName j x (wipe σ vs) H'' fun σ2 H2 => wipe σ2 vs = wipe σ vs ∧ tYes σ2 H2 fun b H3 =>
        if b = true then te σ2 H3 fun y H4 => ∃ acc, H4 D = some (.lst acc) ∧ acc.length < sizeLine ∧ Nx (upd H4 D (.lst (acc ++ [y]))) else Nx H3) := by
  intro A hA
  obtain ⟨am, ac, ag⟩ := M.far hA
  refine ⟨fun i mm H' => i + mm = n ∧ Ex (off m g H) H' ∧ Mm T m c g (k + i * d) H' ∧ ∃ xs, H' A = some (.lst xs) ∧ xs.length = i ∧ ∀ x ∈ xs, W x, ⟨n, by omega, off_of (Ex.new hA), by rw [Nat.zero_mul]; exact M.ext (Ex.new hA), [], upd_same, rfl, fun _ h => by cases h⟩, fun i mm H' hW => ?_⟩
  obtain ⟨em, eB, Mi, xs, hx, hl, hxs⟩ := hW
  by_cases hi : i < n
  · refine .inr ⟨hi, fun H'' => Ex (off m g H) H'' ∧ Mm T m c g (k + (i + 1) * d) H'' ∧ ∃ xs, H'' A = some (.lst xs) ∧ xs.length = i + 1 ∧ ∀ x ∈ xs, W x, fun H'' p' => ⟨mm - 1, by omega, by omega, p'⟩, fun x H'' y => ?_⟩
    obtain ⟨rfl, rfl⟩ := y
    refine ⟨hw _, ?_⟩
    show te _ _ _
    have h := he i H'' hi eB H'' (off_ex m g H'') Mi
    rw [show iv i = .int (0 + (i : Int)) by rw [Int.zero_add]] at h
    refine h _ fun y H4 e4 M4 w => ?_
    have hx4 := e4 _ _ (off_at hx am ag (fun ps z => by cases z))
    refine ⟨xs, hx4, sz60' (by omega), ?_, M4.upd am ac ag hx4, xs ++ [y], upd_same, by rw [List.length_append, hl]; rfl, fun x hx => ?_⟩
    · exact (off_trans eB e4).mut (fresh_back (off_ex m g H) hA)
    · rcases List.mem_append.mp hx with h | h
      · exact hxs x h
      · rw [List.mem_singleton] at h; rw [h]; exact w
  · have : i = n := by omega
    subst this
    exact .inl ⟨Nat.le_refl _, q A xs H' hA eB Mi hx hl hxs⟩
end
/-- a comprehension over range(a drawn number) that draws -/
theorem tlcS {T : List (Addr × Str)} {m c g : Addr} {k k' d lim j : Nat} {σ : L2.St} {H : Hp} {tn te : TE} {vs : List Nat} {Q : VK} (W : V → Prop) (h : EvS T m c g k k' tn σ H (fun v => ∃ r : Nat, v = iv r ∧ r < lim)) (M : Mm T m c g k H) (hl : lim ≤ 40000) (hw : ∀ x, wipe ((wipe σ vs).set j (some x)) vs = wipe σ vs)
    (he : ∀ r i H', r < lim → i < r → Ex (off m g H) H' → EvS T m c g (k' + i * d) (k' + (i + 1) * d) te ((wipe σ vs).set j (some (iv i))) H' W)
    (q : ∀ r D xs H2, r < lim → Ex (off m g H) H2 → Mm T m c g (k' + r * d) H2 → H2 D = some (.lst xs) → xs.length = r → (∀ x ∈ xs, W x) → Q (.ref D) H2) : tLc (iRng1 (tCons tn tNil)) (gName j) tYes te vs σ H Q :=
  h H (off_ex m g H) M _ fun v H2 e2 M2 ⟨r, ev, hr⟩ => ⟨(r : Int), by rw [ev], by omega, by omega,
    lcS (n := r) (d := d) (Q := Q) W M2 (by omega) hw (fun i H' hi eB => he r i H' hr hi (off_trans e2 eB)) (fun D xs H3 hD e3 M3 hx hl hW => q r D xs H3 hr (off_trans e2 e3) M3 hx hl hW)⟩
theorem chars_of : ∀ {xs : List V}, (∀ x ∈ xs, ∃ ch, Let ch ∧ x = tv [ch]) → ∃ t : Tx, Ok t ∧ t.length = xs.length ∧ xs = (t.map fun ch => [ch]).map tv
  | [], _ => ⟨[], (fun _ h => by cases h), rfl, rfl⟩
  | x :: xs, h => by
    obtain ⟨ch, hc, e⟩ := h x List.mem_cons_self
    obtain ⟨t, ho, hl, ht⟩ := chars_of fun y hy => h y (List.mem_cons_of_mem _ hy)
    refine ⟨ch :: t, fun y hy => ?_, by rw [List.length_cons, hl]; rfl, by rw [List.map_cons, List.map_cons, ← ht, e]⟩
    rcases List.mem_cons.mp hy with e | e
    · rw [e]; exact hc
    · exact ho y e
section
variable {P : Program} {w : World} {K : PySem.W.Frag} {mg : Str → Option Value} {base : Heap}
def spOf (Tt : List (Addr × Str)) (K : PySem.W.Frag) : Sp := fun vs H Q _ => ∃ (m c g : Addr) (k : Nat) (a : Addr) (xs : List V) (ds : List PyData), vs = [.ref m, .ref a] ∧ Mm Tt m c g k H ∧ k ≤ 1000000 ∧ off m g H a = some (.lst xs) ∧ OdAll K (off m g H) xs ds ∧ 0 < ds.length ∧ ds.length ≤ 1000 ∧ clAll ds = true ∧
  (∀ v d H2, Ex (off m g H) H2 → Mm Tt m c g (k + 1) H2 → Od K (off m g H2) v d → cl d = true → Q v H2)
theorem clAll_mem : ∀ {ds : List PyData}, clAll ds = true → ∀ d ∈ ds, cl d = true
  | [], _, _, h => by cases h
  | a :: ds, h, d, hd => by
    simp only [clAll, Bool.and_eq_true] at h
    rcases List.mem_cons.mp hd with e | e
    · rw [e]; exact h.1
    · exact clAll_mem h.2 d e
theorem clAll_of : ∀ {ds : List PyData}, (∀ d ∈ ds, cl d = true) → clAll ds = true
  | [], _ => by simp [clAll]
  | a :: ds, h => by simp only [clAll, Bool.and_eq_true]; exact ⟨h a List.mem_cons_self, clAll_of fun x hx => h x (List.mem_cons_of_mem _ hx)⟩
theorem ok_of {Tt : List (Addr × Str)} (T : Topf mg) (F : FnP K mg "_law_of" s_l_of) (C_l_draw : Cal P w K mg base CX0 2 "_law_draw" ["_law_m", "_law_limit"] (spDraw Tt)) : Cal P w K mg base CX0 3 "_law_of" ["_law_m", "_law_some"] (spOf Tt K) := by
  refine cal_mk F sc_l_of (fun vs H Q E h => ?_) (fun _ _ _ _ _ _ us hl => match us, hl with | [_, _], _ => rfl) (fun f cdv A outer s H vs Q E hr h => ?_)
  · obtain ⟨m, c, g, k, a, xs, ds, rfl, _⟩ := h; rfl
  · obtain ⟨m, c, g, k, a, xs, ds, rfl, M, hk, ha, hd, h0, h1, hcl, q⟩ := h
    refine ⟨_, (pss_one (ps_ret (pe_ix (k_ixL (K := K) rfl) (pv 1) (pe_c C_l_draw (hr.mono (by decide)) rfl (pa_cons (pv 0) (pa_cons (pe_callB (k_len (K := K) rfl) (by rfl) T.b_len (by decide +kernel) (pa_cons (pv 1) pa_nil)) pa_nil))) (fun _ _ => rfl)))), ?_⟩
    have hl := oda_len hd
    refine ⟨_, rfl, es_draw (lim := xs.length) (ea_cons (ev_var rfl) (ea_cons (ev_is (ev_lenL (ev_var (v := .ref a) rfl) (SqL.of ha)) rfl) ea_nil)) hk (by omega) (by omega) H (off_ex m g H) M _ fun v H2 e2 M2 ⟨r, ev, hr⟩ => ?_⟩
    subst ev
    exact ⟨a, xs, _, _, rfl, rfl, SqL.of (e2 _ _ ha), atI_nat (List.getElem?_eq_getElem hr), q _ ds[r] H2 e2 M2 ((oda_get hd r hr (by omega)).mono (off_sub e2)) (clAll_mem hcl _ (List.getElem_mem (by omega)))⟩
def spText_of (Tt : List (Addr × Str)) : Sp := fun vs H Q _ => ∃ (m c g : Addr) (k many long : Nat), vs = [.ref m, iv many, iv long] ∧ Mm Tt m c g k H ∧ k ≤ 900000 ∧ 0 < many ∧ many ≤ 6 ∧ long ≤ 5 ∧ (∀ (t : Tx) H2, Ex (off m g H) H2 → Mm Tt m c g (k + 20) H2 → Ok t → t.length ≤ long → Q (tv t) H2)
theorem ok_text_of {Tt : List (Addr × Str)} (T : Topf mg) (F : FnP K mg "_law_text_of" s_l_text_of) (C_l_draw : Cal P w K mg base CX0 2 "_law_draw" ["_law_m", "_law_limit"] (spDraw Tt)) : Cal P w K mg base CX0 3 "_law_text_of" ["_law_m", "_law_many", "_law_long"] (spText_of Tt) := by
  refine cal_mk F sc_l_text_of (fun vs H Q E h => ?_) (fun _ _ _ _ _ _ us hl => match us, hl with | [_, _, _], _ => rfl) (fun f cdv A outer s H vs Q E hr h => ?_)
  · obtain ⟨m, c, g, k, many, long, rfl, _⟩ := h; rfl
  · obtain ⟨m, c, g, k, many, long, rfl, M, hk, hm0, hm6, hl5, q⟩ := h
    refine ⟨_, (pss_cons (ps_set (i := 3) sc_l_text_of.nd rfl (Or.inl rfl) (pe_join pe_str (pe_lc (own := [("_law_k", 7)]) rfl sc_l_text_of.nd (pi_range1 rfl T.b_range (pa_cons (pe_c C_l_draw (hr.mono (by decide)) rfl (pa_cons (pv 0) (pa_cons (pe_op op_add (pv 2) pe_int) pa_nil))) pa_nil)) (blkOk_by (own := [("_law_k", 7)]) (N := N_l_text_of) (sc := defScope s_l_text_of) (by decide +kernel)) (fun _ _ _ _ _ => (pg_name (i := 7) sc_l_text_of.nd rfl (Or.inl rfl))) (fun _ _ _ _ _ => pts_nil) (fun _ _ _ _ _ => (pe_ix ix_str pe_str (pe_c C_l_draw (hr.mono (by decide)) rfl (pa_cons (pv 0) (pa_cons (pv 1) pa_nil))) (fun _ _ => rfl))))))
      (pss_cons (ps_for PassesOwn.never rfl (pi_range1 rfl T.b_range (pa_cons (pe_c C_l_draw (hr.mono (by decide)) rfl (pa_cons (pv 0) (pa_cons pe_int pa_nil))) pa_nil)) (pg_name (i := 4) sc_l_text_of.nd rfl (Or.inl rfl))
        (pss_cons (ps_set (i := 5) sc_l_text_of.nd rfl (Or.inl rfl) (pe_op op_add pe_int (pe_c C_l_draw (hr.mono (by decide)) rfl (pa_cons (pv 0) (pa_cons pe_int pa_nil)))))
          (pss_one (ps_if (PW.pt (pw_and (pt_cmpR op_le (pv 5) (pe_callB call_len_str (by rfl) T.b_len (by decide +kernel) (pa_cons (pv 3) pa_nil)) (nomark _)) (pw_and1 (pt_cmpR op_le (pe_op op_add (pe_callB call_len_str (by rfl) T.b_len (by decide +kernel) (pa_cons (pv 3) pa_nil)) (pv 5)) (pv 2) (nomark _))))) (pss_cons (ps_set (i := 6) sc_l_text_of.nd rfl (Or.inl rfl) (pe_c C_l_draw (hr.mono (by decide)) rfl (pa_cons (pv 0) (pa_cons (pe_op op_add (pe_op op_sub (pe_callB call_len_str (by rfl) T.b_len (by decide +kernel) (pa_cons (pv 3) pa_nil)) (pv 5)) pe_int) pa_nil))))
            (pss_one (ps_set (i := 3) sc_l_text_of.nd rfl (Or.inl rfl) (pe_op op_add_str (pe_slice sl_str (pv 3) po_none (po_some (pe_op op_add (pv 6) (pv 5)))) (pe_slice sl_str (pv 3) (po_some (pv 6)) po_none))))) pss_nil))))
      (pss_one (ps_ret (pv 3))))), ?_⟩
    refine ⟨⟨_, rfl⟩, tlcS (T := Tt) (c := c) (d := 1) (lim := long + 1) (fun v => ∃ ch, Let ch ∧ v = tv [ch]) (es_draw (lim := long + 1) (ea_cons (ev_var rfl) (ea_cons (ev_is (ev_I0 (ev_var (v := iv long) rfl) ev_c) rfl) ea_nil)) (by omega) (by omega) (by omega)) M (by omega) (fun x => rfl) (fun r i H' hr hi eB => es_is (es_opR (z := fun y => match y with | .int z => tv [97 + z.toNat] | _ => .non) ev_c (es_draw (lim := many) (ea_cons (ev_var rfl) (ea_cons (ev_var rfl) ea_nil)) (by omega) hm0 (by omega)) (fun y H8 hy => ?_)) (fun v hv => ?_)) (fun r A xs H3 hr e03 M3 hx hl hW => ?_)⟩
    · obtain ⟨z, rfl, hz⟩ := hy
      have := at_abc (c := 97 + z) (by unfold Let; omega)
      rw [show 97 + z - 97 = z by omega] at this
      exact fun H9 e9 Q9 q9 => ⟨_, _, _, rfl, rfl, sz60 (by decide), this, q9 H9 (Ex.refl H9)⟩
    · obtain ⟨y, ⟨z, rfl, hz⟩, rfl⟩ := hv
      exact ⟨97 + z, by unfold Let; omega, rfl⟩
    obtain ⟨t, ho, htl, rfl⟩ := chars_of hW
    refine ⟨"", A, (t.map fun ch => [ch]).map fun t => (⟨t.toArray⟩ : Str), rfl, rfl, .inl (SqL.of (by rw [hx, List.map_map (g := V.str)]; rfl)), by
      rw [sum_len, flat1]
      have : ("" : Str).length = 0 := rfl
      rw [this]; omega, ?_⟩
    rw [str_join, flat1]
    show tSeq _ _ _ [some (.ref m), some (iv many), some (iv long), some (tv t), none, none, none, none] _
    refine q_forDraw (T := Tt) (c := c) 2 (es_draw (lim := 4) (ea_cons (ev_var rfl) (ea_cons ev_c ea_nil)) (by omega) (by decide) (by decide)) M3 (by decide) (fun i σ' => ∃ t y4 y5 y6 y7, σ' = [some (.ref m), some (iv many), some (iv long), some (tv t), y4, y5, y6, y7] ∧ Ok t ∧ t.length ≤ long) ⟨t, _, _, _, _, rfl, ho, by omega⟩ ?_ ?_
    · intro rr i σ' H4 hrr hi eB M4 pv
      obtain ⟨t, y4, y5, y6, y7, rfl, ho, htl⟩ := pv
      refine q_es (W := fun v => ∃ z : Nat, z < 4 ∧ v = iv (1 + z)) (es_is (es_opR (z := fun y => match y with | .int z => .int (1 + z) | _ => .non) ev_c (es_draw (lim := 4) (ea_cons (ev_var rfl) (ea_cons ev_c ea_nil)) (by omega) (by decide) (by decide)) (fun y H8 hy => by obtain ⟨z, rfl, hz⟩ := hy; exact rv_I0)) (fun v hv => by obtain ⟨y, ⟨z, rfl, hz⟩, rfl⟩ := hv; exact ⟨z, hz, by show V.int _ = V.int _; congr 1⟩)) M4 fun v H5 e5 M5 hv => ?_
      obtain ⟨z, hz, rfl⟩ := hv
      have hle : k + 1 + r * 1 + 1 + i * 2 + 1 ≤ k + 1 + r * 1 + 1 + (i + 1) * 2 := by omega
      refine s_when (b := decide (1 + z ≤ t.length) && decide (t.length + (1 + z) ≤ long)) (et_and (et_B (ev_is (ev_I0 (ev_var (v := iv (1 + z)) rfl) (ev_lenS (t := t) (ev_var rfl) (by omega))) (by congr 1; rw [decide_eq_decide]; omega))) (fun _ => et_B (ev_is (ev_I0 (ev_I0 (f := fun i j => .int (i + j)) (ev_lenS (t := t) (ev_var rfl) (by omega)) (ev_var (v := iv (1 + z)) rfl)) (ev_var (v := iv long) rfl)) (by congr 1; rw [decide_eq_decide]; omega)))) (fun hb H6 e6 => ?_) (fun hb H6 e6 => ⟨off_trans eB (e5.trans e6), (M5.ext e6).le hle, t, _, _, _, _, rfl, ho, htl⟩)
      obtain ⟨hb1, hb2⟩ := Bool.and_eq_true_iff.mp hb
      have hb1 := of_decide_eq_true hb1
      have hb2 := of_decide_eq_true hb2
      have M6 := M5.ext e6
      refine q_es (es_draw (lim := t.length - (1 + z) + 1) (ea_cons (ev_var rfl) (ea_cons (ev_is (ev_I0 (ev_I0 (f := fun i j => .int (i - j)) (ev_lenS (t := t) (ev_var rfl) (by omega)) (ev_var (v := iv (1 + z)) rfl)) ev_c) (by congr 1; omega)) ea_nil)) (by omega) (by omega) (by omega)) M6 fun v H7 e7 M7 hv => ?_
      obtain ⟨p, rfl, hp⟩ := hv
      have hlen := cop_len (n := 1 + z) (t := t) (k := p) (by omega)
      refine s_asg (v := tv (cop (1 + z) t p)) (ev_cop (ev_var rfl) (ev_I0 (ev_var rfl) (ev_var rfl)) (ev_var rfl) (by omega)) fun H8 e8 => ⟨off_trans eB (off_trans (e5.trans e6) (e7.trans e8)), (M7.ext e8).le (by omega), _, _, _, _, _, rfl, cop_ok ho, by omega⟩
    · intro rr σ' H4 hrr eB M4 pv
      obtain ⟨t, y4, y5, y6, y7, rfl, ho, htl⟩ := pv
      exact s_ret (ev_var rfl) fun H5 e5 => q t H5 (off_trans e03 (eB.trans e5)) ((M4.ext e5).le (by omega)) ho htl
def spGrown (Tt : List (Addr × Str)) : Sp := fun vs H Q _ => ∃ (m c g : Addr) (k : Nat) (t : Tx) (n most : Nat), vs = [.ref m, tv t, iv n, iv most] ∧ Mm Tt m c g k H ∧ k ≤ 900000 ∧ Ok t ∧ t.length ≤ most ∧ most ≤ 50 ∧ 1 ≤ n ∧ n ≤ 6 ∧ (∀ (u : Tx) H2, Ex (off m g H) H2 → Mm Tt m c g (k + 20) H2 → Ok u → Kin n t u → u.length ≤ most → Q (tv u) H2)
theorem ok_grown {Tt : List (Addr × Str)} (T : Topf mg) (F : FnP K mg "_law_grown" s_l_grown) (C_l_draw : Cal P w K mg base CX0 2 "_law_draw" ["_law_m", "_law_limit"] (spDraw Tt)) : Cal P w K mg base CX0 3 "_law_grown" ["_law_m", "_law_text", "_law_wide", "_law_most"] (spGrown Tt) := by
  refine cal_mk F sc_l_grown (fun vs H Q E h => ?_) (fun _ _ _ _ _ _ us hl => match us, hl with | [_, _, _, _], _ => rfl) (fun f cdv A outer s H vs Q E hr h => ?_)
  · obtain ⟨m, c, g, k, t, n, most, rfl, _⟩ := h; rfl
  · obtain ⟨m, c, g, k, t0, n, most, rfl, M, hk, ho0, htm, hm50, h1, h6, q⟩ := h
    refine ⟨_, (pss_cons (ps_for PassesOwn.never rfl (pi_range1 rfl T.b_range (pa_cons (pe_c C_l_draw (hr.mono (by decide)) rfl (pa_cons (pv 0) (pa_cons pe_int pa_nil))) pa_nil)) (pg_name (i := 4) sc_l_grown.nd rfl (Or.inl rfl))
        (pss_one (ps_if (PW.pt (pw_and (pt_cmpR op_le (pv 2) (pe_callB call_len_str (by rfl) T.b_len (by decide +kernel) (pa_cons (pv 1) pa_nil)) (nomark _)) (pw_and1 (pt_cmpR op_le (pe_op op_add (pe_callB call_len_str (by rfl) T.b_len (by decide +kernel) (pa_cons (pv 1) pa_nil)) (pv 2)) (pv 3) (nomark _))))) (pss_cons (ps_set (i := 5) sc_l_grown.nd rfl (Or.inl rfl) (pe_c C_l_draw (hr.mono (by decide)) rfl (pa_cons (pv 0) (pa_cons (pe_op op_add (pe_op op_sub (pe_callB call_len_str (by rfl) T.b_len (by decide +kernel) (pa_cons (pv 1) pa_nil)) (pv 2)) pe_int) pa_nil))))
            (pss_one (ps_set (i := 1) sc_l_grown.nd rfl (Or.inl rfl) (pe_op op_add_str (pe_slice sl_str (pv 1) po_none (po_some (pe_op op_add (pv 5) (pv 2)))) (pe_slice sl_str (pv 1) (po_some (pv 5)) po_none))))) pss_nil)))
      (pss_one (ps_ret (pv 1)))), ?_⟩
    refine q_forDraw (T := Tt) (c := c) 1 (es_draw (lim := 5) (ea_cons (ev_var rfl) (ea_cons ev_c ea_nil)) (by omega) (by decide) (by decide)) M (by decide) (fun i σ' => ∃ t y4 y5, σ' = [some (.ref m), some (tv t), some (iv n), some (iv most), y4, y5] ∧ Ok t ∧ t.length ≤ most ∧ Kin n t0 t) ⟨t0, _, _, rfl, ho0, htm, Kin.refl n t0⟩ ?_ ?_
    · intro rr i σ' H4 hrr hi eB M4 pv
      obtain ⟨t, y4, y5, rfl, ho, htl, hkin⟩ := pv
      refine s_when (b := decide (n ≤ t.length) && decide (t.length + n ≤ most)) (et_and (et_B (ev_is (ev_I0 (ev_var (v := iv n) rfl) (ev_lenS (t := t) (ev_var rfl) (by omega))) (by congr 1; rw [decide_eq_decide]; omega))) (fun _ => et_B (ev_is (ev_I0 (ev_I0 (f := fun i j => .int (i + j)) (ev_lenS (t := t) (ev_var rfl) (by omega)) (ev_var (v := iv n) rfl)) (ev_var (v := iv most) rfl)) (by congr 1; rw [decide_eq_decide]; omega)))) (fun hb H6 e6 => ?_) (fun hb H6 e6 => ⟨eB.trans e6, (M4.ext e6).le (by omega), t, _, _, rfl, ho, htl, hkin⟩)
      obtain ⟨hb1, hb2⟩ := Bool.and_eq_true_iff.mp hb
      have hb1 := of_decide_eq_true hb1
      have hb2 := of_decide_eq_true hb2
      have M6 := M4.ext e6
      refine q_es (es_draw (lim := t.length - n + 1) (ea_cons (ev_var rfl) (ea_cons (ev_is (ev_I0 (ev_I0 (f := fun i j => .int (i - j)) (ev_lenS (t := t) (ev_var rfl) (by omega)) (ev_var (v := iv n) rfl)) ev_c) (by congr 1; omega)) ea_nil)) (by omega) (by omega) (by omega)) M6 fun v H7 e7 M7 hv => ?_
      obtain ⟨p, rfl, hp⟩ := hv
      have hlen := cop_len (n := n) (t := t) (k := p) (by omega)
      refine s_asg (v := tv (cop n t p)) (ev_cop (ev_var rfl) (ev_I0 (ev_var rfl) (ev_var rfl)) (ev_var rfl) (by omega)) fun H8 e8 => ⟨off_trans (eB.trans e6) (e7.trans e8), (M7.ext e8).le (by omega), _, _, _, rfl, cop_ok ho, by omega, hkin.trans (cop1_kin h1 ⟨p, by omega, rfl⟩)⟩
    · intro rr σ' H4 hrr eB M4 pv
      obtain ⟨t, y4, y5, rfl, ho, htl, hkin⟩ := pv
      exact s_ret (ev_var rfl) fun H5 e5 => q t H5 (eB.trans e5) ((M4.ext e5).le (by omega)) ho hkin htl
end
end K9
namespace K9
open PySem PySem.Spec PyProof.Rows L2 Evl
local macro_rules | `(tactic| walk_at "ev") => `(tactic| first
  | with_reducible exact ev_c
  | ((with_reducible refine' ev_var ?k0); (case k0 => exact rfl))
  | with_reducible assumption
  | ((with_reducible refine' ev_lenS ?k0 ?k1); (case k0 => walk_at "ev"); (case k1 => walk_at "sz"))
  | ((with_reducible refine' ev_I0 ?k0 ?k1); (case k0 => walk_at "ev"); (case k1 => walk_at "ev"))
  | ((with_reducible refine' ev_I ?k0 ?k1 ?k2); (case k0 => walk_at "ev"); (case k1 => walk_at "ev"); (case k2 => walk_at "sz"))
  | ((with_reducible refine' ev_eq ?k0 ?k1 ?k2); (case k0 => walk_at "ev"); (case k1 => walk_at "ev"); (case k2 => walk_at "sz"))
  | ((with_reducible refine' ev_ne ?k0 ?k1 ?k2); (case k0 => walk_at "ev"); (case k1 => walk_at "ev"); (case k2 => walk_at "sz"))
  | ((with_reducible refine' ev_slTo ?k0 ?k1 ?k2 ?k3); (case k0 => walk_at "ev"); (case k1 => walk_at "ev"); (case k2 => walk_at "sz"); (case k3 => walk_at "sz"))
  | ((with_reducible refine' ev_slFrom ?k0 ?k1 ?k2 ?k3); (case k0 => walk_at "ev"); (case k1 => walk_at "ev"); (case k2 => walk_at "sz"); (case k3 => walk_at "sz"))
  | ((with_reducible refine' ev_slMid ?k0 ?k1 ?k2 ?k3 ?k4 ?k5); (case k0 => walk_at "ev"); (case k1 => walk_at "ev"); (case k2 => walk_at "ev"); (case k3 => walk_at "sz"); (case k4 => walk_at "sz"); (case k5 => walk_at "sz"))
  | ((with_reducible refine' ev_addS ?k0 ?k1 ?k2); (case k0 => walk_at "ev"); (case k1 => walk_at "ev"); (case k2 => walk_at "sz"))
  | ((with_reducible refine' ev_cl ?k0 ?k1); (case k0 => walk_at "ea"); (case k1 => walk_at "sp"))
  | ((with_reducible refine' ev_notV ?k0); (case k0 => walk_at "ev"))
  | ((with_reducible refine' ev_un ?k0 ru_neg); (case k0 => walk_at "ev")))
local macro_rules | `(tactic| walk_at "ea") => `(tactic| first
  | with_reducible exact ea_nil
  | ((with_reducible refine' ea_cons ?k0 ?k1); (case k0 => walk_at "ev"); (case k1 => walk_at "ea")))
local macro_rules | `(tactic| walk_at "et") => `(tactic| first
  | with_reducible assumption
  | ((with_reducible refine' et_test ?k0); (case k0 => walk_at "ev"))
  | ((with_reducible refine' et_B ?k0); (case k0 => walk_at "ev"))
  | ((with_reducible refine' et_not ?k0); (case k0 => walk_at "et")))
local macro_rules | `(tactic| walk_at "sz") => `(tactic| first
  | rfl
  | omega
  | (simp only [List.length_take, List.length_drop, List.length_append]; omega)
  | (constructor <;> omega)
  | assumption)
local macro_rules | `(tactic| walk_at "sp") => `(tactic| first | assumption)

section
variable {T : List (Addr × Str)} {K : PySem.W.Frag} {m c g : Addr} {k k' k2 : Nat} {σ : L2.St} {H H0 : Hp} {te ta tb : TE} {ts : TA} {D : Ends} {tz tu : TS} {W W2 : V → Prop} {tt uu : TT}
/-- a test that draws: what it says is not told -/
def EvTS (T : List (Addr × Str)) (m c g : Addr) (k k' : Nat) (t : TT) (σ : L2.St) (H0 : Hp) : Prop := ∀ H, Ex (off m g H0) H → Mm T m c g k H → ∀ Q : Bool → Hp → Prop, (∀ b H2, Ex (off m g H) H2 → Mm T m c g k' H2 → Q b H2) → t σ H Q
theorem ets_cmp {r : R2} {v0 : V} (h : EvS T m c g k k' te σ H0 W) (hr : ∀ y H, W y → ∃ b, RV r y v0 H (.bl b)) : EvTS T m c g k k' (tB (tOp r te (tC v0))) σ H0 := fun H e M Q q =>
  h H e M _ fun v H2 e2 M2 w => by
    obtain ⟨b, hb⟩ := hr v H2 w
    exact hb H2 (Ex.refl H2) _ fun H3 e3 => ⟨b, rfl, q b H3 (e2.trans e3) (M2.ext e3)⟩
theorem ets_and (h : EvT tt σ (off m g H0) true) (h2 : EvTS T m c g k k' uu σ H0) : EvTS T m c g k k' (tAnd tt uu) σ H0 := fun H e M Q q =>
  h H e _ fun H1 e1 => by
    rw [if_pos rfl]
    exact h2 H1 (e.trans e1) (M.ext e1) Q fun b H2 e2 M2 => q b H2 (off_trans (off_of e1) e2) M2
theorem ets_or (h : EvT tt σ (off m g H0) false) (h2 : EvTS T m c g k k' uu σ H0) : EvTS T m c g k k' (tOr tt uu) σ H0 := fun H e M Q q =>
  h H e _ fun H1 e1 => by
    rw [if_neg (by decide)]
    exact h2 H1 (e.trans e1) (M.ext e1) Q fun b H2 e2 M2 => q b H2 (off_trans (off_of e1) e2) M2
theorem q_whenS (h : EvTS T m c g k k' tt σ H) (M : Mm T m c g k H) (h1 : ∀ H1, Ex (off m g H) H1 → Mm T m c g k' H1 → tu { D with nx := tz D } σ H1) (h2 : ∀ H1, Ex (off m g H) H1 → Mm T m c g k' H1 → tz D σ H1) : tSeq (tIfS tt tu tNext) tz D σ H := h H (off_ex m g H) M _ fun b H1 e1 M1 => by
  cases b with
  | true => rw [if_pos rfl]; exact h1 H1 e1 M1
  | false => rw [if_neg (by decide)]; exact h2 H1 e1 M1
theorem q_ifP (Pv : Hp → Prop) (hz : ∀ H', Pv H' → tz D σ H') (h : (∀ H', Pv H' → tz D σ H') → tSeq (tIfS tt tu tNext) tz D σ H) : tSeq (tIfS tt tu tNext) tz D σ H := h hz
theorem es_ixNew {xs : List V} (h1 : EvL ta σ (off m g H0) xs) (h2 : EvS T m c g k k' tb σ H0 (fun v => ∃ r : Nat, v = iv r ∧ r < xs.length)) : EvS T m c g k k' (tOp (rIxL K) ta tb) σ H0 (fun v => v ∈ xs) := fun H e M Q q =>
  h1 H e _ fun p H1 hp e1 hx => h2 H1 (e.trans e1) (M.ext e1) _ fun y H2 e2 M2 ⟨r, ey, hr⟩ =>
    ⟨p, xs, (r : Int), xs[r], rfl, ey, SqL.of (e2 _ _ (off_at hx (M.far hp).1 (M.far hp).2.2 (fun ps z => by cases z))), atI_nat (List.getElem?_eq_getElem hr), q _ H2 (off_trans (off_of e1) e2) M2 (List.getElem_mem hr)⟩
theorem q_parS {i j : Nat} (h1 : EvS T m c g k k' ta σ H W) (h2 : ∀ H', Ex (off m g H) H' → EvS T m c g k' k2 tb σ H' W2) (M : Mm T m c g k H) (q : ∀ v1 v2 H2, Ex (off m g H) H2 → Mm T m c g k2 H2 → W v1 → W2 v2 → tz D ((σ.set i (some v1)).set j (some v2)) H2) : tSeq (tPar i j (tCons ta (tCons tb tNil))) tz D σ H :=
  h1 H (off_ex m g H) M _ fun v1 H1 e1 M1 w1 => h2 H1 e1 H1 (off_ex m g H1) M1 _ fun v2 H2 e2 M2 w2 => ⟨v1, v2, rfl, q v1 v2 H2 (off_trans e1 e2) M2 w1 w2⟩
/-- a value told as data, drawing on the way -/
def EvOS (T : List (Addr × Str)) (K : PySem.W.Frag) (m c g : Addr) (k k' : Nat) (te : TE) (σ : L2.St) (H0 : Hp) (P : PyData → Prop) : Prop := ∀ H, Ex (off m g H0) H → Mm T m c g k H → ∀ Q : VK, (∀ v d H2, Ex (off m g H) H2 → Mm T m c g k' H2 → Od K (off m g H2) v d → P d → Q v H2) → te σ H Q
def TupN (N : Nat) (d : PyData) : Prop := ∃ ds, d = .tuple ds ∧ ds.length ≤ N ∧ ∀ x ∈ ds, cl x = true
theorem TupN.cl {N : Nat} {d : PyData} (h : TupN N d) : cl d = true := by
  obtain ⟨ds, rfl, _, h⟩ := h
  simp only [K9.cl]
  exact clAll_of h
theorem oda_drop : ∀ {vs : List V} {ds : List PyData} (i : Nat), OdAll K H vs ds → OdAll K H (vs.drop i) (ds.drop i)
  | _, _, 0, h => h
  | _, _, _ + 1, .nil => .nil
  | _, _, i + 1, .cons _ hs => oda_drop i hs
theorem oda_take : ∀ {vs : List V} {ds : List PyData} (i : Nat), OdAll K H vs ds → OdAll K H (vs.take i) (ds.take i)
  | _, _, 0, h => .nil
  | _, _, _ + 1, .nil => .nil
  | _, _, i + 1, .cons h hs => .cons h (oda_take i hs)
theorem oda_rev : ∀ {vs : List V} {ds : List PyData}, OdAll K H vs ds → OdAll K H vs.reverse ds.reverse
  | _, _, .nil => .nil
  | _, _, .cons h hs => by rw [List.reverse_cons, List.reverse_cons]; exact oda_app (oda_rev hs) (.cons h .nil)
theorem off_new {p : Addr} {o : HO} (M : Mm T m c g k H) (hp : H p = none) (n : ∀ ps, o ≠ .tbl ps) : off m g (upd H p o) p = some o := off_at upd_same (M.far hp).1 (M.far hp).2.2 n
theorem off_mono {H' : Hp} (e : Ex H H') : Ex (off m g H) (off m g H') := off_sub (off_of e)
theorem eos_sl {a : Addr} {xs : List V} {ds : List PyData} {tl th : TO} {lo hi : Option Int} (h : Ev ta σ (off m g H0) (.ref a)) (hs : SqT K (off m g H0) a xs) (hd : OdAll K (off m g H0) xs ds) (hcl : ∀ x ∈ ds, cl x = true) (h1 : Evl.EvO tl σ (off m g H0) lo) (h2 : Evl.EvO th σ (off m g H0) hi) : EvOS T K m c g k k (tSl (rSlA K) ta tl th) σ H0 (TupN ds.length) := fun H e M Q q =>
  h H e _ fun H1 e1 => h1 H1 (e.trans e1) _ fun H2 e2 => h2 H2 (e.trans (e1.trans e2)) _ fun H3 e3 => by
    have e13 := e1.trans (e2.trans e3)
    have eB := off_sub (e.trans e13)
    have M3 := M.ext e13
    refine ⟨a, xs, rfl, ex_t (e.trans e13) hs, fun hw => q (.ref a) (.tuple ds) H3 (off_of e13) M3 (.tup (ex_t eB hs) (hd.mono eB)) ⟨ds, rfl, Nat.le_refl _, hcl⟩, fun hn p hp => ?_⟩
    have em : Ex H3 (upd H3 p (.tup (cutV xs lo hi))) := Ex.new hp
    refine q (.ref p) (.tuple ((ds.drop (HT.sIx xs.length 0 lo)).take (HT.sIx xs.length xs.length hi - HT.sIx xs.length 0 lo))) _ (off_of (e13.trans em)) (M3.ext em) (.tup (SqT.of (off_new M3 hp (fun ps z => by cases z))) ((oda_take _ (oda_drop _ hd)).mono (eB.trans (off_mono em)))) ⟨_, rfl, ?_, fun x hx => hcl x (List.drop_subset _ _ (List.take_subset _ _ hx))⟩
    rw [List.length_take, List.length_drop]
    omega
theorem eos_cat {k1 N1 N2 : Nat} (h1 : EvOS T K m c g k k1 ta σ H0 (TupN N1)) (h2 : ∀ H', Ex (off m g H0) H' → EvOS T K m c g k1 k2 tb σ H' (TupN N2)) (hz : N1 + N2 ≤ 100000) : EvOS T K m c g k k2 (tOp (rCatA K) ta tb) σ H0 (TupN (N1 + N2)) := fun H e M Q q =>
  h1 H e M _ fun v d H1 e1 M1 hd1 ⟨ds, ed, hl, hc1⟩ => h2 H1 (off_trans e e1) H1 (off_ex m g H1) M1 _ fun v2 d2 H2 e2 M2 hd2 ⟨es, ed2, hl2, hc2⟩ => by
    subst ed ed2
    cases hd1 with
    | @tup a xs _ hs has =>
      cases hd2 with
      | @tup b ys _ hs2 has2 =>
        have e12 := off_sub e2
        have hs1' := ex_t e12 hs
        have ha1' := has.mono e12
        have l1 := oda_len has
        have l2 := oda_len has2
        refine ⟨a, b, xs, ys, rfl, rfl, ex_t (off_ex m g H2) hs1', ex_t (off_ex m g H2) hs2, sz60 (by omega), fun hx => ?_, fun hx hy => ?_, fun hx hy p hp => ?_⟩
        · exact q (.ref b) (.tuple es) H2 (off_trans e1 e2) M2 (.tup hs2 has2) ⟨es, rfl, by omega, hc2⟩
        · exact q (.ref a) (.tuple ds) H2 (off_trans e1 e2) M2 (.tup hs1' ha1') ⟨ds, rfl, by omega, hc1⟩
        · have em : Ex H2 (upd H2 p (.tup (xs ++ ys))) := Ex.new hp
          exact q (.ref p) (.tuple (ds ++ es)) _ ((off_trans e1 e2).trans em) (M2.ext em) (.tup (SqT.of (off_new M2 hp (fun ps z => by cases z))) (oda_app (ha1'.mono (off_mono em)) (has2.mono (off_mono em)))) ⟨_, rfl, by rw [List.length_append]; omega, fun x hx => (List.mem_append.mp hx).elim (hc1 x) (hc2 x)⟩
theorem eos_tup1 {P : PyData → Prop} (hP : ∀ d, P d → cl d = true) (h : EvOS T K m c g k k' ta σ H0 P) : EvOS T K m c g k k' (tTup (tCons ta tNil)) σ H0 (TupN 1) := fun H e M Q q =>
  h H e M _ fun v d H2 e2 M2 hd hp0 => ⟨Nat.le_of_ble_eq_true rfl, fun p hp => q (.ref p) (.tuple [d]) _ (e2.trans (Ex.new hp)) (M2.ext (Ex.new hp)) (.tup (SqT.of (off_new M2 hp (fun ps z => by cases z))) (.cons (hd.mono (off_mono (Ex.new hp))) .nil)) ⟨_, rfl, Nat.le_refl _, fun x hx => by rw [List.mem_singleton] at hx; rw [hx]; exact hP d hp0⟩⟩
theorem eos_ix {a : Addr} {xs : List V} {ds : List PyData} {i : Nat} (h : Ev ta σ (off m g H0) (.ref a)) (h2 : Ev tb σ (off m g H0) (iv i)) (hs : SqT K (off m g H0) a xs) (hd : OdAll K (off m g H0) xs ds) (hcl : ∀ x ∈ ds, cl x = true) (hi : i < xs.length) : EvOS T K m c g k k (tOp (rIxT K) ta tb) σ H0 (fun d => cl d = true) := fun H e M Q q =>
  h H e _ fun H1 e1 => h2 H1 (e.trans e1) _ fun H2 e2 => ⟨a, xs, (i : Int), xs[i], rfl, rfl, ex_t (e.trans (e1.trans e2)) hs, atI_nat (List.getElem?_eq_getElem hi), q _ _ H2 (off_of (e1.trans e2)) (M.ext (e1.trans e2)) ((oda_get hd i hi (by have := oda_len hd; omega)).mono (off_sub (e.trans (e1.trans e2)))) (hcl _ (List.getElem_mem (by have := oda_len hd; omega)))⟩
theorem s_retOS {P : PyData → Prop} (h : EvOS T K m c g k k' te σ H P) (M : Mm T m c g k H) (q : ∀ v d H2, Ex (off m g H) H2 → Mm T m c g k' H2 → Od K (off m g H2) v d → P d → D.rt v H2) : tRet te D σ H := h H (off_ex m g H) M _ fun v d H2 e2 M2 hd hp => q v d H2 e2 M2 hd hp
end
/-- rows of deeds and their parts -/
def SmD : Nat → PyData → Prop
  | 0, _ => False
  | j + 1, d => (∃ i, d = .int i) ∨ (∃ s, d = .str s ∧ PyData.strOk s = true) ∨ ∃ ds, d = .tuple ds ∧ ds.length ≤ 1000 ∧ ∀ x ∈ ds, SmD j x
theorem SmD.fit : ∀ {j : Nat} {d : PyData}, SmD j d → Fit j d
  | 0, _, h => absurd h id
  | j + 1, _, h => by
    rcases h with ⟨i, rfl⟩ | ⟨s, rfl, hs⟩ | ⟨ds, rfl, _, h⟩
    · exact fit_int i
    · exact fit_str hs
    · exact fit_tup fun x hx => (h x hx).fit
theorem SmD.cl : ∀ {j : Nat} {d : PyData}, SmD j d → K9.cl d = true ∧ noN1 d = true
  | 0, _, h => absurd h id
  | j + 1, _, h => by
    rcases h with ⟨i, rfl⟩ | ⟨s, rfl, hs⟩ | ⟨ds, rfl, _, h⟩
    · exact ⟨by simp [K9.cl], rfl⟩
    · exact ⟨by simp [K9.cl], rfl⟩
    · exact ⟨by simp only [K9.cl]; exact clAll_of fun x hx => (h x hx).cl.1, rfl⟩
theorem dpa_in {K : PySem.W.Frag} {H : Hp} : ∀ {vs : List V} {ds : List PyData}, DpAll K H vs ds → ∀ (i : Nat) (h1 : i < vs.length), ∃ h2 : i < ds.length, Dp K H vs[i] ds[i] := fun {vs ds} h i h1 => ⟨by rw [← dpa_len h]; exact h1, dpa_get h i h1 (by rw [← dpa_len h]; exact h1)⟩
section
variable {P : Program} {w : World} {K : PySem.W.Frag} {mg : Str → Option Value} {base : Heap}
def spBent (Tt : List (Addr × Str)) (K : PySem.W.Frag) (j : Nat) : Sp := fun vs H Q _ => ∃ (m c g : Addr) (k : Nat) (v : V) (d : PyData) (a : Addr) (xs : List V) (ds : List PyData), vs = [.ref m, v, .ref a] ∧ Mm Tt m c g k H ∧ k + 8 * j ≤ 800000 ∧ j ≤ 10 ∧ SmD j d ∧ Dp K (off m g H) v d ∧ off m g H a = some (.lst xs) ∧ OdAll K (off m g H) xs ds ∧ 0 < ds.length ∧ ds.length ≤ 1000 ∧ clAll ds = true ∧
  (∀ v d H2, Ex (off m g H) H2 → Mm Tt m c g (k + 8 * j) H2 → Od K (off m g H2) v d → cl d = true → Q v H2)
theorem ok_bent0 {Tt : List (Addr × Str)} (F : FnP K mg "_law_bent" s_l_bent) : Cal P w K mg base CX0 4 "_law_bent" ["_law_m", "_law_thing", "_law_some"] (spBent Tt K 0) := by
  refine cal_mk F sc_l_bent (fun vs H Q E h => ?_) (fun _ _ _ _ _ _ us hl => match us, hl with | [_, _, _], _ => rfl) (fun f cdv A outer s H vs Q E hr h => ?_)
  · obtain ⟨m, c, g, k, v, d, a, xs, ds, rfl, _⟩ := h; rfl
  · obtain ⟨m, c, g, k, v, d, a, xs, ds, rfl, M, hk, hj, hsm, _⟩ := h
    exact absurd hsm id
theorem ok_bentS {Tt : List (Addr × Str)} (j lv : Nat) (hlv : 4 ≤ lv) (T : Topf mg) (F : FnP K mg "_law_bent" s_l_bent) (C_l_draw : Cal P w K mg base CX0 2 "_law_draw" ["_law_m", "_law_limit"] (spDraw Tt)) (C_l_of : Cal P w K mg base CX0 3 "_law_of" ["_law_m", "_law_some"] (spOf Tt K)) (C_l_bent : Cal P w K mg base CX0 lv "_law_bent" ["_law_m", "_law_thing", "_law_some"] (spBent Tt K j)) : Cal P w K mg base CX0 (lv+1) "_law_bent" ["_law_m", "_law_thing", "_law_some"] (spBent Tt K (j + 1)) := by
  refine cal_mk F sc_l_bent (fun vs H Q E h => ?_) (fun _ _ _ _ _ _ us hl => match us, hl with | [_, _, _], _ => rfl) (fun f cdv A outer s H vs Q E hr h => ?_)
  · obtain ⟨m, c, g, k, v, d, a, xs, ds, rfl, _⟩ := h; rfl
  · obtain ⟨m, c, g, k, v, d, a, xs, ds, rfl, M, hk, hj, hsm, hv, ha, hds, h0, hd1, hcl, q⟩ := h
    refine ⟨_, (pss_cons (ps_if (PW.pt (pw_and (pt_val (pe_callB (k_isi (K := K) rfl) (by rfl) T.b_isinstance (by decide +kernel) (pa_cons (pv 1) (pa_cons (pe_tyb (n := "int") rfl T.b_int (by decide +kernel)) pa_nil)))) (pw_and (pt_not (pt_val (pe_callB (k_isi (K := K) rfl) (by rfl) T.b_isinstance (by decide +kernel) (pa_cons (pv 1) (pa_cons (pe_tyb (n := "bool") rfl T.b_bool (by decide +kernel)) pa_nil))))) (pw_and1 (pt_cmpR op_gt (pe_c C_l_draw (hr.mono (by omega)) rfl (pa_cons (pv 0) (pa_cons pe_int pa_nil))) pe_int (nomark _)))))) (pss_one (ps_ret (pe_op op_add (pv 1) (pe_ix (k_ixL (K := K) rfl) (pe_lst (pa_cons pe_int (pa_cons (pe_un un_neg pe_int) (pa_cons pe_int (pa_cons pe_int (pa_cons (pe_un un_neg pe_int) pa_nil)))))) (pe_c C_l_draw (hr.mono (by omega)) rfl (pa_cons (pv 0) (pa_cons pe_int pa_nil))) (fun _ _ => rfl))))) pss_nil)
      (pss_cons (ps_if (PW.pt (pw_or (pt_not (pt_val (pe_callB (k_isi (K := K) rfl) (by rfl) T.b_isinstance (by decide +kernel) (pa_cons (pv 1) (pa_cons (pe_tyb (n := "tuple") rfl T.b_tuple (by decide +kernel)) pa_nil))))) (pw_or (pt_cmpR (k_eqD (K := K) rfl hr.units) (pv 1) (pe_tup pa_nil) (nomark _)) (pw_or1 (pt_cmpR op_eq (pe_c C_l_draw (hr.mono (by omega)) rfl (pa_cons (pv 0) (pa_cons pe_int pa_nil))) pe_int (nomark _)))))) (pss_one (ps_ret (pe_c C_l_of (hr.mono (by omega)) rfl (pa_cons (pv 0) (pa_cons (pv 2) pa_nil))))) pss_nil)
      (pss_cons (ps_par (i := 3) (j := 4) rfl sc_l_bent.nd rfl rfl (by decide) rfl rfl (pa_cons (pe_c C_l_draw (hr.mono (by omega)) rfl (pa_cons (pv 0) (pa_cons (pe_callB (k_len (K := K) rfl) (by rfl) T.b_len (by decide +kernel) (pa_cons (pv 1) pa_nil)) pa_nil))) (pa_cons (pe_c C_l_draw (hr.mono (by omega)) rfl (pa_cons (pv 0) (pa_cons pe_int pa_nil))) pa_nil)) rfl)
      (pss_cons (ps_if (pt_cmpR op_eq (pv 4) pe_int (nomark _)) (pss_one (ps_ret (pe_op (k_catT (K := K) rfl) (pe_slice (k_slT (K := K) rfl) (pv 1) po_none (po_some (pv 3))) (pe_slice (k_slT (K := K) rfl) (pv 1) (po_some (pe_op op_add (pv 3) pe_int)) po_none)))) pss_nil)
      (pss_cons (ps_if (pt_cmpR op_eq (pv 4) pe_int (nomark _)) (pss_one (ps_ret (pe_op (k_catT (K := K) rfl) (pe_op (k_catT (K := K) rfl) (pe_slice (k_slT (K := K) rfl) (pv 1) po_none (po_some (pv 3))) (pe_tup (pa_cons (pe_ix (k_ixT (K := K) rfl) (pv 1) (pv 3) (fun _ _ => rfl)) pa_nil))) (pe_slice (k_slT (K := K) rfl) (pv 1) (po_some (pv 3)) po_none)))) pss_nil)
      (pss_cons (ps_if (pt_cmpR op_eq (pv 4) pe_int (nomark _)) (pss_one (ps_ret (pe_callTy (k_list (K := K) rfl) (by rfl) T.b_list (by decide +kernel) (pa_cons (pv 1) pa_nil)))) pss_nil)
      (pss_cons (ps_if (pt_cmpR op_eq (pv 4) pe_int (nomark _)) (pss_one (ps_ret (k_revT (K := K) rfl (pv 1)))) pss_nil)
      (pss_one (ps_ret (pe_op (k_catT (K := K) rfl) (pe_op (k_catT (K := K) rfl) (pe_slice (k_slT (K := K) rfl) (pv 1) po_none (po_some (pv 3))) (pe_tup (pa_cons (pe_c C_l_bent (hr.mono (by omega)) rfl (pa_cons (pv 0) (pa_cons (pe_ix (k_ixT (K := K) rfl) (pv 1) (pv 3) (fun _ _ => rfl)) (pa_cons (pv 2) pa_nil)))) pa_nil))) (pe_slice (k_slT (K := K) rfl) (pv 1) (po_some (pe_op op_add (pv 3) pe_int)) po_none))))))))))), ?_⟩
    have hkn := (Od.of hv).knd
    have hdr : ∀ (lim kk : Nat) (σ : L2.St) (H' : Hp), σ[0]? = some (some (.ref m)) → kk ≤ 1000000 → 0 < lim → lim ≤ 1000 → EvS Tt m c g kk (kk + 1) (tCl (spDraw Tt) (tCons (tVar 0) (tCons (tC (iv lim)) tNil))) σ H' (fun v => ∃ r : Nat, v = iv r ∧ r < lim) := fun lim kk σ H' hσ hk h0 h1 => es_draw (ea_cons (ev_var hσ) (ea_cons ev_c ea_nil)) hk h0 (by omega)
    -- one of some things
    have hof : ∀ (D : Ends) (σ : L2.St) (kk : Nat) (H' : Hp), σ[0]? = some (some (.ref m)) → σ[2]? = some (some (.ref a)) → kk ≤ k + 5 → Ex (off m g H) H' → Mm Tt m c g kk H' → (∀ v d H2, Ex (off m g H) H2 → Mm Tt m c g (k + 8 * (j + 1)) H2 → Od K (off m g H2) v d → cl d = true → D.rt v H2) → tRet (tCl (spOf Tt K) (tCons (tVar 0) (tCons (tVar 2) tNil))) D σ H' := fun D σ kk H' hσ0 hσ2 hkk e' M' qq =>
      ⟨_, hσ0, _, hσ2, m, c, g, kk, a, xs, ds, rfl, M', by omega, off_sub e' _ _ ha, hds.mono (off_sub e'), h0, hd1, hcl, fun v d H2 e2 M2 hd hc => qq v d H2 (off_trans e' e2) (M2.le (by omega)) hd hc⟩
    refine q_ifP (fun H' => Ex (off m g H) H' ∧ Mm Tt m c g (k + 1) H') (fun H' p => ?_) (fun hz => ?_)
    · obtain ⟨e', M'⟩ := p
      -- not a tuple, empty, or drawn so
      refine q_ifP (fun H2 => Ex (off m g H) H2 ∧ Mm Tt m c g (k + 2) H2 ∧ ∃ ds, d = .tuple ds ∧ ds ≠ []) (fun H2 p2 => ?_) (fun hz => ?_)
      · obtain ⟨e2, M2, es, rfl, hes⟩ := p2
        have hesm : es.length ≤ 1000 ∧ ∀ x ∈ es, SmD j x := by
          rcases hsm with ⟨i, e⟩ | ⟨s, e, _⟩ | ⟨ds, e, h1, h2⟩
          · cases e
          · cases e
          · cases e; exact ⟨h1, h2⟩
        cases hv with
        | @tup b ys _ hs has =>
          have hyl := dpa_len has
          have hys : 0 < ys.length := by rw [hyl]; exact List.length_pos_iff.mpr hes
          refine q_parS (k' := k + 3) (k2 := k + 4) (W := fun v => ∃ r : Nat, v = iv r ∧ r < ys.length) (W2 := fun v => ∃ r : Nat, v = iv r ∧ r < 8) (es_draw (ea_cons (ev_var rfl) (ea_cons (ev_lenT (ev_var (v := .ref b) rfl) (ex_t (off_sub e2) hs)) ea_nil)) (by omega) hys (by omega)) (fun H' e' => hdr 8 (k + 3) _ H' rfl (by omega) (by decide) (by decide)) M2 fun v1 v2 H3 e3 M3 w1 w2 => ?_
          obtain ⟨at_, rfl, hat⟩ := w1
          obtain ⟨pick, rfl, hpick⟩ := w2
          have e03 := off_trans e2 e3
          have hodd : OdAll K (off m g H) ys es := OdAll.of has
          have hfin : ∀ v d H2, Ex (off m g H) H2 → Mm Tt m c g (k + 4) H2 → Od K (off m g H2) v d → cl d = true → Q v H2 := fun v d H2 e M hd hc => q v d H2 e (M.le (by omega)) hd hc
          have hesc : ∀ x ∈ es, cl x = true := fun x hx => (hesm.2 x hx).cl.1
          have hpk : ∀ (z : Nat) (H4 : Hp), EvT (tB (tOp rEq (tVar 4) (tC (iv z)))) [some (.ref m), some (.ref b), some (.ref a), some (iv at_), some (iv pick)] H4 (decide (iv pick = iv z)) := fun z H4 => et_B (ev_eq (ev_var rfl) ev_c rfl)
          have hat1 : ∀ H4 : Hp, Ev (tOp (rI0 fun i j => .int (i + j)) (tVar 3) (tC (.int 1))) [some (.ref m), some (.ref b), some (.ref a), some (iv at_), some (iv pick)] H4 (.int ((at_ : Int) + 1)) := fun H4 => ev_I0 (ev_var (v := iv at_) rfl) ev_c
          have hsl1 : ∀ (kk : Nat) (H4 : Hp), Ex (off m g H) H4 → EvOS Tt K m c g kk kk (tSl (rSlA K) (tVar 1) tNoPart (tPart (tVar 3))) [some (.ref m), some (.ref b), some (.ref a), some (iv at_), some (iv pick)] H4 (TupN es.length) := fun kk H4 e4 => eos_sl (ev_var rfl) (ex_t (off_sub e4) hs) (hodd.mono (off_sub e4)) hesc eo_none (eo_some (ev_var (v := iv at_) rfl))
          have hsl2 : ∀ (kk : Nat) (H4 : Hp), Ex (off m g H) H4 → EvOS Tt K m c g kk kk (tSl (rSlA K) (tVar 1) (tPart (tOp (rI0 fun i j => .int (i + j)) (tVar 3) (tC (.int 1)))) tNoPart) [some (.ref m), some (.ref b), some (.ref a), some (iv at_), some (iv pick)] H4 (TupN es.length) := fun kk H4 e4 => eos_sl (ev_var rfl) (ex_t (off_sub e4) hs) (hodd.mono (off_sub e4)) hesc (eo_some (hat1 _)) eo_none
          have hsl3 : ∀ (kk : Nat) (H4 : Hp), Ex (off m g H) H4 → EvOS Tt K m c g kk kk (tSl (rSlA K) (tVar 1) (tPart (tVar 3)) tNoPart) [some (.ref m), some (.ref b), some (.ref a), some (iv at_), some (iv pick)] H4 (TupN es.length) := fun kk H4 e4 => eos_sl (ev_var rfl) (ex_t (off_sub e4) hs) (hodd.mono (off_sub e4)) hesc (eo_some (ev_var (v := iv at_) rfl)) eo_none
          refine q_when (hpk 0 _) (fun _ H4 e4 => s_retOS (eos_cat (hsl1 (k + 4) H4 (e03.trans e4)) (fun H' e' => hsl2 (k + 4) H' (off_trans (e03.trans e4) e')) (by omega)) (M3.ext e4) fun v d H5 e5 M5 hd hp => hfin v d H5 (off_trans (e03.trans e4) e5) M5 hd hp.cl) (fun _ H4 e4 => ?_)
          refine q_when (hpk 1 _) (fun _ H5 e5 => s_retOS (eos_cat (eos_cat (hsl1 (k + 4) H5 (e03.trans (e4.trans e5))) (fun H' e' => eos_tup1 (fun _ h => h) (eos_ix (ev_var rfl) (ev_var rfl) (ex_t (off_sub (off_trans (e03.trans (e4.trans e5)) e')) hs) (hodd.mono (off_sub (off_trans (e03.trans (e4.trans e5)) e'))) hesc hat)) (by omega)) (fun H' e' => hsl3 (k + 4) H' (off_trans (e03.trans (e4.trans e5)) e')) (by omega)) (M3.ext (e4.trans e5)) fun v d H6 e6 M6 hd hp => hfin v d H6 (off_trans (e03.trans (e4.trans e5)) e6) M6 hd hp.cl) (fun _ H5 e5 => ?_)
          refine q_when (hpk 2 _) (fun _ H6 e6 => ?_) (fun _ H6 e6 => ?_)
          · have e36 := e4.trans (e5.trans e6)
            refine ⟨_, rfl, b, ys, rfl, .inr (ex_t (e03.trans e36) hs), fun p hp => ?_⟩
            have em : Ex H6 (upd H6 p (.lst ys)) := Ex.new hp
            exact hfin (.ref p) (.list es) _ ((e03.trans e36).trans em) ((M3.ext e36).ext em) (.lst (SqL.of (off_new (M3.ext e36) hp (fun ps z => by cases z))) (hodd.mono (off_sub ((e03.trans e36).trans em)))) (by
              simp only [K9.cl, Bool.and_eq_true, List.all_eq_true]
              exact ⟨fun x hx => (hesm.2 x hx).cl.2, clAll_of hesc⟩)
          refine q_when (hpk 3 _) (fun _ H7 e7 => ?_) (fun _ H7 e7 => ?_)
          · have e37 := e4.trans (e5.trans (e6.trans e7))
            refine ⟨_, rfl, b, ys, rfl, ex_t (e03.trans e37) hs, fun p hp => ?_⟩
            have em : Ex H7 (upd H7 p (.tup ys.reverse)) := Ex.new hp
            exact hfin (.ref p) (.tuple es.reverse) _ ((e03.trans e37).trans em) ((M3.ext e37).ext em) (.tup (SqT.of (off_new (M3.ext e37) hp (fun ps z => by cases z))) (oda_rev (hodd.mono (off_sub ((e03.trans e37).trans em))))) (by
              simp only [K9.cl]
              exact clAll_of fun x hx => hesc x (List.mem_reverse.mp hx))
          · have e07 := e03.trans (e4.trans (e5.trans (e6.trans e7)))
            have M7 := M3.ext (e4.trans (e5.trans (e6.trans e7)))
            have hbent : ∀ H4 : Hp, Ex (off m g H) H4 → EvOS Tt K m c g (k + 4) (k + 4 + 8 * j) (tCl (spBent Tt K j) (tCons (tVar 0) (tCons (tOp (rIxT K) (tVar 1) (tVar 3)) (tCons (tVar 2) tNil)))) [some (.ref m), some (.ref b), some (.ref a), some (iv at_), some (iv pick)] H4 (fun d => cl d = true) := fun H4 e4 H5 e5 M5 Q5 q5 => by
              obtain ⟨hi2, hdi⟩ := dpa_in has at_ hat
              have e45 := off_trans e4 e5
              exact ⟨_, rfl, _, rfl, _, rfl, b, ys, _, ys[at_], rfl, rfl, ex_t e45 hs, atI_nat (List.getElem?_eq_getElem hat), _, rfl, m, c, g, k + 4, ys[at_], es[at_], a, xs, ds, rfl, M5, by omega, by omega, hesm.2 _ (List.getElem_mem hi2), Dp.mono (off_sub e45) hdi, off_sub e45 _ _ ha, hds.mono (off_sub e45), h0, hd1, hcl, fun v d H6 e6 M6 hd hc => q5 v d H6 e6 M6 hd hc⟩
            exact s_retOS (eos_cat (eos_cat (hsl1 (k + 4) H7 e07) (fun H' e' => eos_tup1 (fun _ h => h) (hbent H' (off_trans e07 e'))) (by omega)) (fun H' e' => hsl2 (k + 4 + 8 * j) H' (off_trans e07 e')) (by omega)) M7 fun v d H8 e8 M8 hd hp => q v d H8 (off_trans e07 e8) (M8.le (by omega)) hd hp.cl
      · have hkn' := (Od.of hv).knd.mono (off_ex m g H)
        by_cases ht : ∃ es, d = .tuple es
        · obtain ⟨es, rfl⟩ := ht
          have hnt : EvT (tNot (tTest (tCB (rIsi K) (tCons (tVar 1) (tCons (tC (.ty "tuple")) tNil))))) [some (.ref m), some v, some (.ref a), none, none] (off m g H') false := et_is (et_not (et_test (ev_isTup (ev_var rfl) ((Od.of hv).knd.mono (off_sub e'))))) rfl
          have hemp : ∀ H4, Ex (off m g H) H4 → EvT (tB (tOp (rEqD K) (tVar 1) (tTup tNil))) [some (.ref m), some v, some (.ref a), none, none] H4 (decide (es = [])) := fun H4 e4 => et_B (ev_is (ev_opV (ev_var rfl) (eu_tup (vs := []) ea_nil (Nat.le_of_ble_eq_true rfl)) fun q H1 hq e1 => rv_eqD (Dp.mono (e4.trans e1) hv) (.tup (SqT.of hq) .nil) hsm.fit (fit_tup (k := 0) (fun _ h => by cases h)) (by omega) (by decide)) (by
            simp only [PyData.eqv]
            cases es with
            | nil => rfl
            | cons a l => rfl))
          by_cases hes : es = []
          · refine q_when (b := true) (et_is (et_or (a := false) (b := true) (et_is (et_not (et_test (ev_isTup (ev_var rfl) ((Od.of hv).knd.mono e')))) rfl) fun _ => et_is (et_or (a := true) (b := true) (et_is (hemp H' e') (decide_eq_true hes)) (fun z => by cases z)) rfl) rfl) (fun _ H4 e4 => hof _ _ (k + 1) H4 rfl rfl (by omega) (e'.trans e4) (M'.ext e4) q) (fun z => by cases z)
          · refine q_whenS (T := Tt) (c := c) (k := k + 1) (k' := k + 2) (ets_or hnt (ets_or (et_is (hemp (off m g H') (off_sub e')) (decide_eq_false hes)) (ets_cmp (hdr 8 (k + 1) _ H' rfl (by omega) (by decide) (by decide)) (fun y H4 hy => by obtain ⟨z, rfl, hz⟩ := hy; exact ⟨_, rv_eq rfl⟩)))) M' (fun H4 e4 M4 => hof _ _ (k + 2) H4 rfl rfl (by omega) (off_trans e' e4) M4 q) (fun H4 e4 M4 => hz H4 ⟨off_trans e' e4, M4, es, rfl, hes⟩)
        · have hk2 : (kindN d == "tuple") = false := beq_eq_false_iff_ne.mpr fun z => ht (kind_tup z)
          refine q_when (b := true) (et_is (et_or (a := true) (b := true) (et_is (et_not (et_test (ev_isTup (ev_var rfl) ((Od.of hv).knd.mono e')))) (by rw [hk2]; rfl)) (fun z => by cases z)) rfl) (fun _ H4 e4 => hof _ _ (k + 1) H4 rfl rfl (by omega) (e'.trans e4) (M'.ext e4) q) (fun z => by cases z)
    · -- an int?
      have e0 := off_ex m g H
      by_cases hi : ∃ i, d = .int i
      · obtain ⟨i, rfl⟩ := hi
        cases hv
        refine q_whenS (T := Tt) (c := c) (k := k) (k' := k + 1) (ets_and (et_is (et_test (ev_isInt (ev_var rfl) hkn)) rfl) (ets_and (et_is (et_not (et_test (ev_isBool (ev_var rfl) hkn))) rfl) (ets_cmp (hdr 3 k _ H rfl (by omega) (by decide) (by decide)) (fun y H4 hy => by obtain ⟨z, rfl, hz⟩ := hy; exact ⟨_, rv_I0⟩)))) M (fun H4 e4 M4 => ?_) (fun H4 e4 M4 => hz H4 ⟨e4, M4⟩)
        refine es_opR (z := fun y => match y with | .int z => .int (i + z) | _ => .non) (ev_var (v := .int i) rfl) (es_ixNew (xs := [.int 1, .int (-1), .int 2, .int 5, .int (-9)]) (el_lst (ea_cons ev_c (ea_cons (ev_un ev_c ru_neg) (ea_cons ev_c (ea_cons ev_c (ea_cons (ev_un ev_c ru_neg) ea_nil))))) (Nat.le_of_ble_eq_true rfl)) (hdr 5 (k + 1) _ H4 rfl (by omega) (by decide) (by decide))) (fun y H5 hy => ?_) H4 (off_ex m g H4) M4 _ fun v H5 e5 M5 hv5 => ?_
        · have : ∃ z : Int, y = .int z := by
            simp only [List.mem_cons, List.not_mem_nil, or_false] at hy
            rcases hy with h | h | h | h | h <;> exact ⟨_, h⟩
          obtain ⟨z, rfl⟩ := this
          exact rv_I0
        · obtain ⟨y, hy, rfl⟩ := hv5
          have : ∃ z : Int, y = .int z := by
            simp only [List.mem_cons, List.not_mem_nil, or_false] at hy
            rcases hy with h | h | h | h | h <;> exact ⟨_, h⟩
          obtain ⟨z, rfl⟩ := this
          exact q (.int (i + z)) (.int (i + z)) H5 (off_trans e4 e5) (M5.le (by omega)) (.int _) (by simp [K9.cl])
      · have hb1 : (kindN d == "int" || kindN d == "bool") = false := by
          rcases hsm with ⟨i, e⟩ | ⟨s, e, _⟩ | ⟨ds, e, _⟩
          · exact absurd ⟨i, e⟩ hi
          · rw [e]; rfl
          · rw [e]; rfl
        refine q_when (b := false) (et_is (et_and (a := false) (b := true) (et_is (et_test (ev_isInt (ev_var rfl) (hkn.mono e0))) hb1) (fun z => by cases z)) rfl) (fun z => by cases z) (fun _ H4 e4 => hz H4 ⟨off_of e4, (M.ext e4).le (by omega)⟩)
end
end K9
namespace K9
open PySem PySem.Spec PyProof.Rows L2 Evl
local macro_rules | `(tactic| walk_at "ev") => `(tactic| first
  | with_reducible exact ev_c
  | ((with_reducible refine' ev_var ?k0); (case k0 => exact rfl))
  | with_reducible assumption
  | ((with_reducible refine' ev_lenS ?k0 ?k1); (case k0 => walk_at "ev"); (case k1 => walk_at "sz"))
  | ((with_reducible refine' ev_I0 ?k0 ?k1); (case k0 => walk_at "ev"); (case k1 => walk_at "ev"))
  | ((with_reducible refine' ev_I ?k0 ?k1 ?k2); (case k0 => walk_at "ev"); (case k1 => walk_at "ev"); (case k2 => walk_at "sz"))
  | ((with_reducible refine' ev_eq ?k0 ?k1 ?k2); (case k0 => walk_at "ev"); (case k1 => walk_at "ev"); (case k2 => walk_at "sz"))
  | ((with_reducible refine' ev_ne ?k0 ?k1 ?k2); (case k0 => walk_at "ev"); (case k1 => walk_at "ev"); (case k2 => walk_at "sz"))
  | ((with_reducible refine' ev_slTo ?k0 ?k1 ?k2 ?k3); (case k0 => walk_at "ev"); (case k1 => walk_at "ev"); (case k2 => walk_at "sz"); (case k3 => walk_at "sz"))
  | ((with_reducible refine' ev_slFrom ?k0 ?k1 ?k2 ?k3); (case k0 => walk_at "ev"); (case k1 => walk_at "ev"); (case k2 => walk_at "sz"); (case k3 => walk_at "sz"))
  | ((with_reducible refine' ev_slMid ?k0 ?k1 ?k2 ?k3 ?k4 ?k5); (case k0 => walk_at "ev"); (case k1 => walk_at "ev"); (case k2 => walk_at "ev"); (case k3 => walk_at "sz"); (case k4 => walk_at "sz"); (case k5 => walk_at "sz"))
  | ((with_reducible refine' ev_addS ?k0 ?k1 ?k2); (case k0 => walk_at "ev"); (case k1 => walk_at "ev"); (case k2 => walk_at "sz"))
  | ((with_reducible refine' ev_cl ?k0 ?k1); (case k0 => walk_at "ea"); (case k1 => walk_at "sp"))
  | ((with_reducible refine' ev_notV ?k0); (case k0 => walk_at "ev"))
  | ((with_reducible refine' ev_un ?k0 ru_neg); (case k0 => walk_at "ev")))
local macro_rules | `(tactic| walk_at "ea") => `(tactic| first
  | with_reducible exact ea_nil
  | ((with_reducible refine' ea_cons ?k0 ?k1); (case k0 => walk_at "ev"); (case k1 => walk_at "ea")))
local macro_rules | `(tactic| walk_at "et") => `(tactic| first
  | with_reducible assumption
  | ((with_reducible refine' et_test ?k0); (case k0 => walk_at "ev"))
  | ((with_reducible refine' et_B ?k0); (case k0 => walk_at "ev"))
  | ((with_reducible refine' et_not ?k0); (case k0 => walk_at "et")))
local macro_rules | `(tactic| walk_at "sz") => `(tactic| first
  | rfl
  | omega
  | (simp only [List.length_take, List.length_drop, List.length_append]; omega)
  | (constructor <;> omega)
  | assumption)
local macro_rules | `(tactic| walk_at "sp") => `(tactic| first | assumption)

/-- data that is shown within the line -/
def Sh (N : Nat) (d : PyData) : Prop := d.showable = true ∧ d.leavesShort 13 = true ∧ d.bulk ≤ N ∧ d.hasDict = false ∧ d.depth ≤ 10
structure ShD (k N : Nat) (d : PyData) : Prop where
  s : d.showable = true
  l : d.leavesShort 13 = true
  b : d.bulk ≤ N
  h : d.hasDict = false
  d : d.depth ≤ k
theorem sh_non {k N : Nat} : ShD k N .none := ⟨rfl, rfl, Nat.zero_le _, rfl, Nat.zero_le _⟩
theorem sh_int {k N : Nat} {i : Int} (h : i.natAbs < 10 ^ 12) : ShD k N (.int i) := by
  refine ⟨?_, ?_, Nat.zero_le _, rfl, Nat.zero_le _⟩
  · simp only [PyData.showable]
    refine decide_eq_true (Nat.lt_of_le_of_lt ?_ (show 40 < 1920 by decide))
    by_cases h0 : i.natAbs = 0
    · rw [h0]; decide
    · have : i.natAbs < 2 ^ 41 := Nat.lt_of_lt_of_le h (by decide)
      have := (Nat.log2_lt h0).mpr this
      omega
  · simp only [PyData.leavesShort]
    exact decide_eq_true (PyData.shown_int_le h)
theorem sh_nat {k N n : Nat} (h : n ≤ 1000000) : ShD k N (nD n) := sh_int (by
  rw [Int.natAbs_natCast]
  have : (1000000 : Nat) < 10 ^ 12 := by decide
  omega)
theorem sh_str {k N : Nat} {s : Str} (h : s.cps.toList.all (fun c => decide (c < 16 ^ 8)) = true) (hl : s.cps.size ≤ N) : ShD k N (.str s) := ⟨rfl, by simp only [PyData.leavesShort]; exact h, hl, rfl, Nat.zero_le _⟩
theorem sh_tx {k N : Nat} {t : Tx} (ho : Ok t) (hl : t.length ≤ N) : ShD k N (tD t) := sh_str (by
  rw [List.all_eq_true]
  intro c hc
  have hc2 : c ∈ t := by simpa using hc
  have := ho c hc2
  unfold Let at this
  exact decide_eq_true (Nat.lt_of_le_of_lt this.2 (by decide))) (by simpa using hl)
theorem sh_all {k N : Nat} : ∀ {ds : List PyData}, (∀ d ∈ ds, ShD k N d) → PyData.showableAll ds = true ∧ PyData.leavesShortAll 13 ds = true ∧ PyData.bulkAll ds ≤ ds.length * (N + 1) ∧ PyData.hasDictAll ds = false ∧ PyData.depthAll ds ≤ k
  | [], _ => ⟨rfl, rfl, Nat.zero_le _, rfl, Nat.zero_le _⟩
  | d :: ds, h => by
    obtain ⟨a, b, c, e, f⟩ := sh_all fun x hx => h x (List.mem_cons_of_mem _ hx)
    obtain ⟨a1, b1, c1, e1, f1⟩ := h d List.mem_cons_self
    refine ⟨?_, ?_, ?_, ?_, ?_⟩
    · simp only [PyData.showableAll]; rw [a1, a]; rfl
    · simp only [PyData.leavesShortAll]; rw [b1, b]; rfl
    · simp only [PyData.bulkAll]; rw [List.length_cons, Nat.succ_mul]; omega
    · simp only [PyData.hasDictAll]; rw [e1, e]; rfl
    · simp only [PyData.depthAll]; exact Nat.max_le.mpr ⟨f1, f⟩
theorem sh_lst {k N M L : Nat} {ds : List PyData} (h : ∀ d ∈ ds, ShD k N d) (hl : ds.length ≤ L) (hM : L * (N + 1) ≤ M) : ShD (k + 1) M (.list ds) := by
  obtain ⟨a, b, c, e, f⟩ := sh_all h
  have := Nat.mul_le_mul_right (N + 1) hl
  refine ⟨?_, ?_, ?_, ?_, ?_⟩
  · simp only [PyData.showable]; exact a
  · simp only [PyData.leavesShort]; exact b
  · simp only [PyData.bulk]; omega
  · simp only [PyData.hasDict]; exact e
  · simp only [PyData.depth]; omega
theorem sh_tup {k N M L : Nat} {ds : List PyData} (h : ∀ d ∈ ds, ShD k N d) (hl : ds.length ≤ L) (hM : L * (N + 1) ≤ M) : ShD (k + 1) M (.tuple ds) := by
  obtain ⟨a, b, c, e, f⟩ := sh_all h
  have := Nat.mul_le_mul_right (N + 1) hl
  refine ⟨?_, ?_, ?_, ?_, ?_⟩
  · simp only [PyData.showable]; exact a
  · simp only [PyData.leavesShort]; exact b
  · simp only [PyData.bulk]; omega
  · simp only [PyData.hasDict]; exact e
  · simp only [PyData.depth]; omega
theorem ShD.up {k k' N N' : Nat} {d : PyData} (h : ShD k N d) (hk : k ≤ k') (hN : N ≤ N') : ShD k' N' d := ⟨h.s, h.l, Nat.le_trans h.b hN, h.h, Nat.le_trans h.d hk⟩
def rRepr (K : PySem.W.Frag) : List V → Hp → VK → Prop := fun vs H Q => ∃ (a : Addr) (d : PyData), vs = [.ref a] ∧ Dp K H (.ref a) d ∧ ShD 10 1000000 d ∧ Q (.str d.shown) H
theorem cr_reprD {X : Cx} (hg : X.A.guards = some []) (hu : X.A.units + 64 < cLine) : CallR X (.builtin "repr") (rRepr X.K) := by
  intro pins s σ H xs us Q I r h
  obtain ⟨a, d, rfl, hd, hs, q⟩ := h
  obtain ⟨u, rfl, ru⟩ := vals1 r
  obtain rfl : u = Value.ref a := ru
  obtain ⟨as, hr⟩ := Dp.reads I d _ _ hd rfl
  have hdp := hs.d
  refine PySem.repr_of_reads' hr hs.s (fun z => by rw [hs.h] at z; cases z) hg (by omega) (fun _ _ e => e) (fun h' u tk hk => ⟨.str d.shown, H, I.kept (t' := tk) hk, ⟨u, rfl⟩, q⟩) (PyData.shown_fits_bulk (B := 13) (by decide) (by decide) hs.l (Nat.le_trans hs.b (by decide)))
theorem k_repr {X : Cx} {K : PySem.W.Frag} (hK : X.K = K) (hg : X.A.guards = some []) (hu : X.A.units + 64 < cLine) : CallR X (.builtin "repr") (rRepr K) := by subst hK; exact cr_reprD hg hu
theorem ev_repr {K : PySem.W.Frag} {te : TE} {σ : L2.St} {H : Hp} {a : Addr} {d : PyData} (h : Ev te σ H (.ref a)) (hd : Dp K H (.ref a) d) (hs : ShD 10 1000000 d) : Ev (tCB (rRepr K) (tCons te tNil)) σ H (.str d.shown) := fun H1 e Q q =>
  h H1 e _ fun H2 e2 => ⟨a, d, rfl, Dp.mono (e.trans e2) hd, hs, q H2 e2⟩
section
variable {P : Program} {w : World} {K : PySem.W.Frag} {mg : Str → Option Value} {base : Heap}
def spLike (K : PySem.W.Frag) : Sp := fun vs H Q _ => ∃ (a b : Addr) (d : PyData), vs = [.ref a, .ref b] ∧ Dp K H (.ref a) d ∧ Dp K H (.ref b) d ∧ ShD 10 1000000 d ∧ RetV (.bl true) H Q
theorem ok_like (T : Topf mg) (F : FnP K mg "_law_like" s_l_like) : CalG P w K mg base CX0 1 "_law_like" ["_law_got", "_law_due"] (spLike K) := by
  refine cal_mkG F sc_l_like (fun vs H Q E h => ?_) (fun _ _ _ _ _ _ us hl => match us, hl with | [_, _], _ => rfl) (fun f cdv A outer s H vs Q E hr hg h => ?_)
  · obtain ⟨a, b, d, rfl, _⟩ := h; rfl
  · obtain ⟨a, b, d, rfl, ha, hb, hs, q⟩ := h
    refine ⟨_, (pss_one (ps_ret (pe_cmpR op_eq (pe_callB (k_repr (K := K) rfl hg hr.units) (by rfl) T.b_repr (by decide +kernel) (pa_cons (pv 0) pa_nil)) (pe_callB (k_repr (K := K) rfl hg hr.units) (by rfl) T.b_repr (by decide +kernel) (pa_cons (pv 1) pa_nil)) (nomark _)))), ?_⟩
    exact s_ret (ev_is (ev_eq (ev_repr (ev_var rfl) ha hs) (ev_repr (ev_var rfl) hb hs) rfl) (by rw [decide_eq_true rfl])) fun H1 e1 => q H1 e1
end
/-! ### a lambda handed to the telling helper -/
theorem k_told {X : Cx} {K : PySem.W.Frag} {z : ExA} {Tt : List (Addr × Str)} {c P : Addr} {k : Nat} {params : Arguments} {body : Expr} {scope : Scope} {t : XK → TE} {p lpos pos : Pos}
    (hK : X.K = K) (T : Topf X.mg) (XF : Excf X.prog K X.mg z) (F : FnP K X.mg "_law_told" s_l_told) (hg : Gl X "_law_told") (TB : LamX.TabB X.base X.mg c P) (hcode : X.env.code = .ref c) (hmT : (P, X.env.qual ++ "<lambda>") ∈ Tt) (hu : ∀ q ∈ Tt, q.1 = P → q.2 = X.env.qual ++ "<lambda>")
    (hr : Room (k + 2) X.A) (L : LamX.LamS X.env.scope scope) (hdef : defaultsOf params X.env = ([], [])) (hbind : ∀ (q : Str) (cl : List (Str × Addr)) (pm cv ctv : Value), bindArgs (PySem.W.kla_fn "<lambda>" q params body scope cl pm cv ctv) ⟨[], []⟩ = pure [])
    (hbody : ∀ (A : Around) (outer : List Env) (s : Shared) (H : Hp) (E : XK) (f c' : Addr), Room k (A.deeper (LamX.lamEnv X scope s.heap.objs.size f c')) → PE (LamX.lamCx X A outer s H E scope f c') body (t E)) :
    PE X (.Call (.Name "_law_told" p) [.Lambda params body scope lpos] [] pos) (LamX.tLam Tt (TTold K z) t) := by
  subst hK
  obtain ⟨g, fd, D, hm⟩ := F
  have hbd := D.bindsN (ps := ["_law_call"]) (fun _ _ _ _ _ _ us hl => match us, hl with | [_], _ => rfl)
  obtain ⟨oc, od, dV, kV, doc, pm, an, cdv, ct, osl, rfl, lk, hcd, _, _⟩ := D.ex
  exact LamX.pe_lamcall (a := "_law_call") hg hm D.kp lk hcd hbd sc_l_told rfl (Or.inl rfl) (told_gives rfl T XF) TB hcode hmT hu hr L hdef hbind hbody
theorem pass_lam {X : Cx} {A : Around} {outer : List Env} {s : Shared} {H : Hp} {E : XK} {scope : Scope} {f c' : Addr} : Passes (L2.CX X.prog X.w) (LamX.lamCx X A outer s H E scope f c') E :=
  passes_call (X := LamX.lamCx X A outer s H E scope f c') (takes_of (X := LamX.lamCx X A outer s H E scope f c') rfl rfl rfl rfl) fun _ _ _ _ h => h
end K9
namespace K9
/-! The row of deeds is small; plain Lean. -/
theorem op_le {n : Nat} {wd : Bool} {t : Tx} {p : Nat} : (opM n wd t p).length ≤ t.length + n := by
  unfold opM
  cases wd with
  | true => rw [if_pos rfl]; exact cop_le _ _ _
  | false => rw [if_neg (by decide)]; have := und_le n p t; omega
theorem leads_small {n : Nat} (h6 : n ≤ 6) : ∀ {ds : List (Bool × Nat)} {t u : Tx}, Leads n t ds u → ∀ d ∈ ds, d.2 ≤ t.length + 6 * ds.length
  | [], _, _, _, d, hd => by cases hd
  | e :: ds, t, u, ⟨h1, h2⟩, d, hd => by
    rw [List.length_cons]
    rcases List.mem_cons.mp hd with z | z
    · rw [z]
      unfold okDeed at h1
      by_cases hb : e.1 = true
      · rw [if_pos hb] at h1; omega
      · rw [if_neg hb] at h1
        unfold isdb at h1
        have := of_decide_eq_true (Bool.and_eq_true_iff.mp h1).1
        omega
    · have := leads_small h6 h2 d z
      have hl := op_le (n := n) (wd := e.1) (t := t) (p := e.2)
      omega
theorem l1_le : ∀ x y : List Nat, l1 x y ≤ x.sum + y.sum
  | [], _ => Nat.zero_le _
  | _ :: _, [] => Nat.zero_le _
  | x :: xs, y :: ys => by
    have := l1_le xs ys
    show (x - y) + (y - x) + l1 xs ys ≤ _
    rw [List.sum_cons, List.sum_cons]
    omega
theorem dd_le {n : Nat} {a b : Tx} (h1 : 1 ≤ n) (h : Kin n a b) : dd n a b ≤ a.length + b.length := by
  have e := dd_runs h
  have h2 := l1_le (rns n a) (rns n b)
  have h3 := rns_sum_le n a
  have h4 := rns_sum_le n b
  have h5 : dd n a b ≤ n * dd n a b := Nat.le_mul_of_pos_left _ (by omega)
  omega
end K9
namespace K9
open PySem PySem.Spec PyProof.Rows L2 Evl
local macro_rules | `(tactic| walk_at "ev") => `(tactic| first
  | with_reducible exact ev_c
  | ((with_reducible refine' ev_var ?k0); (case k0 => exact rfl))
  | with_reducible assumption
  | ((with_reducible refine' ev_lenS ?k0 ?k1); (case k0 => walk_at "ev"); (case k1 => walk_at "sz"))
  | ((with_reducible refine' ev_I0 ?k0 ?k1); (case k0 => walk_at "ev"); (case k1 => walk_at "ev"))
  | ((with_reducible refine' ev_I ?k0 ?k1 ?k2); (case k0 => walk_at "ev"); (case k1 => walk_at "ev"); (case k2 => walk_at "sz"))
  | ((with_reducible refine' ev_eq ?k0 ?k1 ?k2); (case k0 => walk_at "ev"); (case k1 => walk_at "ev"); (case k2 => walk_at "sz"))
  | ((with_reducible refine' ev_ne ?k0 ?k1 ?k2); (case k0 => walk_at "ev"); (case k1 => walk_at "ev"); (case k2 => walk_at "sz"))
  | ((with_reducible refine' ev_slTo ?k0 ?k1 ?k2 ?k3); (case k0 => walk_at "ev"); (case k1 => walk_at "ev"); (case k2 => walk_at "sz"); (case k3 => walk_at "sz"))
  | ((with_reducible refine' ev_slFrom ?k0 ?k1 ?k2 ?k3); (case k0 => walk_at "ev"); (case k1 => walk_at "ev"); (case k2 => walk_at "sz"); (case k3 => walk_at "sz"))
  | ((with_reducible refine' ev_slMid ?k0 ?k1 ?k2 ?k3 ?k4 ?k5); (case k0 => walk_at "ev"); (case k1 => walk_at "ev"); (case k2 => walk_at "ev"); (case k3 => walk_at "sz"); (case k4 => walk_at "sz"); (case k5 => walk_at "sz"))
  | ((with_reducible refine' ev_addS ?k0 ?k1 ?k2); (case k0 => walk_at "ev"); (case k1 => walk_at "ev"); (case k2 => walk_at "sz"))
  | ((with_reducible refine' ev_cl ?k0 ?k1); (case k0 => walk_at "ea"); (case k1 => walk_at "sp"))
  | ((with_reducible refine' ev_notV ?k0); (case k0 => walk_at "ev"))
  | ((with_reducible refine' ev_un ?k0 ru_neg); (case k0 => walk_at "ev")))
local macro_rules | `(tactic| walk_at "ea") => `(tactic| first
  | with_reducible exact ea_nil
  | ((with_reducible refine' ea_cons ?k0 ?k1); (case k0 => walk_at "ev"); (case k1 => walk_at "ea")))
local macro_rules | `(tactic| walk_at "et") => `(tactic| first
  | with_reducible assumption
  | ((with_reducible refine' et_test ?k0); (case k0 => walk_at "ev"))
  | ((with_reducible refine' et_B ?k0); (case k0 => walk_at "ev"))
  | ((with_reducible refine' et_not ?k0); (case k0 => walk_at "et")))
local macro_rules | `(tactic| walk_at "sz") => `(tactic| first
  | rfl
  | omega
  | (simp only [List.length_take, List.length_drop, List.length_append]; omega)
  | (constructor <;> omega)
  | assumption)
local macro_rules | `(tactic| walk_at "sp") => `(tactic| first | assumption)

theorem noT_tbl {H : Hp} {a : Addr} {o : HO} (h : noT H a = some o) (ps : Array Value) : o ≠ .tbl ps := fun z => by
  subst z
  have h2 := noT_ex H _ _ h
  unfold noT at h
  rw [h2] at h
  cases h
theorem off_noT {m g : Addr} {B H H' : Hp} (e : Ex (off m g B) H) (e2 : Ex (noT H) H') : Ex (off m g B) H' := fun a o h => e2 _ _ (noT_of (e _ _ h) (off_tbl h))
section
variable {T : List (Addr × Str)} {K : PySem.W.Frag} {m c g : Addr} {k k' k1 k2 n : Nat} {σ : L2.St} {H H0 H' : Hp} {te ta tb : TE} {ts tr : TA} {D : Ends} {tz tu : TS}
theorem Mm.noT (M : Mm T m c g k H) (e : Ex (noT H) H') (t : LamX.Tabs T H') : Mm T m c g k H' := by
  obtain ⟨n, cs, gs, h1, h2, h3, r⟩ := M.ex
  exact ⟨⟨n, cs, gs, e _ _ (noT_of h1 (fun ps z => by cases z)), e _ _ (noT_of h2 (fun ps z => by cases z)), e _ _ (noT_of h3 (fun ps z => by cases z)), r⟩, t⟩
theorem nw_off (M : Mm T m c g k H) : Ex (nw H H') (off m g H') := fun a o h => by
  have hn : H a = none := by
    unfold nw at h
    by_cases z : H a = none
    · exact z
    · rw [if_neg z] at h; cases h
  obtain ⟨p1, p2, p3⟩ := M.far hn
  exact off_at (nw_ex _ _ _ _ h) p1 p3 (noT_tbl (nw_noT _ _ _ _ h))
theorem none_mem : ∀ {vs : List V} {ds : List PyData}, OdAll K H vs ds → V.non ∈ vs → PyData.none ∈ ds
  | _, _, .nil, h => by cases h
  | _, _, .cons h hs, hm => by
    rcases List.mem_cons.mp hm with e | e
    · rw [← e] at h
      cases h
      exact List.mem_cons_self
    · exact List.mem_cons_of_mem _ (none_mem hs e)
mutual
theorem od_drp {l : Addr} {xs0 : List V} (hl : H l = some (.lst xs0)) (hn : V.non ∈ xs0) : ∀ {v : V} {d : PyData}, Od K H v d → cl d = true → Od K (drp H l) v d
  | _, _, .non, _ => .non
  | _, _, .bl b, _ => .bl b
  | _, _, .int i, _ => .int i
  | _, _, .str x, _ => .str x
  | _, _, .lst (a := a) hs has, hc => by
    simp only [K9.cl, Bool.and_eq_true] at hc
    refine .lst ?_ (oda_drp hl hn has hc.2)
    rcases hs with (hs | ⟨ob, hs⟩) | hs
    · by_cases z : a = l
      · rw [z, hl] at hs
        cases hs
        have := List.all_eq_true.mp hc.1 _ (none_mem has hn)
        cases this
      · exact .inl (.inl (by rw [drp_ne z]; exact hs))
    · exact .inl (.inr ⟨ob, by rw [drp_ne (fun z => by rw [z, hl] at hs; cases hs)]; exact hs⟩)
    · exact .inr hs
  | _, _, .tup (a := a) hs has, hc => by
    simp only [K9.cl] at hc
    refine .tup ?_ (oda_drp hl hn has hc)
    rcases hs with (hs | ⟨ob, hs⟩) | hs
    · exact .inl (.inl (by rw [drp_ne (fun z => by rw [z, hl] at hs; cases hs)]; exact hs))
    · exact .inl (.inr ⟨ob, by rw [drp_ne (fun z => by rw [z, hl] at hs; cases hs)]; exact hs⟩)
    · exact .inr hs
  | _, _, .dic h, _ => .dic (by rw [drp_ne (fun z => by rw [z, hl] at h; cases h)]; exact h)
theorem oda_drp {l : Addr} {xs0 : List V} (hl : H l = some (.lst xs0)) (hn : V.non ∈ xs0) : ∀ {vs : List V} {ds : List PyData}, OdAll K H vs ds → clAll ds = true → OdAll K (drp H l) vs ds
  | _, _, .nil, _ => .nil
  | _, _, .cons h hs, hc => by
    simp only [clAll, Bool.and_eq_true] at hc
    exact .cons (od_drp hl hn h hc.1) (oda_drp hl hn hs hc.2)
end
/-- rows of deeds live off the state -/
theorem sm_off (M : Mm T m c g k H) : ∀ {j : Nat} {v : V} {d : PyData}, SmD j d → Dp K H v d → Dp K (off m g H) v d
  | 0, _, _, h, _ => absurd h id
  | j + 1, v, d, h, hd => by
    rcases h with ⟨i, rfl⟩ | ⟨s, rfl, _⟩ | ⟨ds, rfl, _, h⟩
    · cases hd; exact .int _
    · cases hd; exact .str _
    · cases hd with
      | @tup a xs _ hs has =>
        obtain ⟨_, _, _, h1, h2, h3, _⟩ := M.ex
        have rc : ∀ {vs : List V} {es : List PyData}, (∀ x ∈ es, SmD j x) → DpAll K H vs es → DpAll K (off m g H) vs es := by
          intro vs es hh ha
          induction es generalizing vs with
          | nil => cases ha; exact .nil
          | cons e es ih =>
            cases ha with
            | cons x y => exact .cons (sm_off M (hh e List.mem_cons_self) x) (ih (fun z hz => hh z (List.mem_cons_of_mem _ hz)) y)
        refine .tup ?_ (rc h has)
        rcases hs with (hs | ⟨ob, hs⟩) | hs
        · exact .inl (.inl (off_at hs (fun z => by rw [z, h1] at hs; cases hs) (fun z => by rw [z, h3] at hs; cases hs) (fun ps z => by cases z)))
        · exact .inl (.inr ⟨ob, off_at hs (fun z => by rw [z, h1] at hs; cases hs) (fun z => by rw [z, h3] at hs; cases hs) (fun ps z => by cases z)⟩)
        · exact .inr hs
/-! ### things in a row -/
def EvAS (T : List (Addr × Str)) (K : PySem.W.Frag) (m c g : Addr) (k k' : Nat) (ta : TA) (σ : L2.St) (H0 : Hp) (W : List PyData → Prop) : Prop := ∀ H, Ex (off m g H0) H → Mm T m c g k H → ∀ Q : List V → Hp → Prop, (∀ vs ds H2, Ex (off m g H) H2 → Mm T m c g k' H2 → OdAll K (off m g H2) vs ds → W ds → Q vs H2) → ta σ H Q
theorem as_nil : EvAS T K m c g k k tNil σ H0 (· = []) := fun H e M Q q => q [] [] H (off_ex m g H) M .nil rfl
theorem as_cons {P : PyData → Prop} {W : List PyData → Prop} (h : EvOS T K m c g k k1 te σ H0 P) (h2 : ∀ H', Ex (off m g H0) H' → EvAS T K m c g k1 k2 tr σ H' W) : EvAS T K m c g k k2 (tCons te tr) σ H0 (fun ds => ∃ d r, ds = d :: r ∧ P d ∧ W r) := fun H e M Q q =>
  h H e M _ fun v d H1 e1 M1 hd hp => h2 H1 (off_trans e e1) H1 (off_ex m g H1) M1 _ fun vs ds H2 e2 M2 hds hw => q _ _ H2 (off_trans e1 e2) M2 (.cons (hd.mono (off_sub e2)) hds) ⟨d, ds, rfl, hp, hw⟩
theorem drp_off {l : Addr} {o : HO} : Ex (drp (off m g H) l) (drp (off m g (upd H l o)) l) := fun a o' h => by
  by_cases z : a = l
  · rw [z, drp_at] at h; cases h
  · rw [drp_ne z] at h ⊢
    have h3 := off_ex m g H _ _ h
    refine off_at (by rw [upd_other z]; exact h3) (fun z2 => ?_) (fun z2 => ?_) (off_tbl h)
    · rw [z2, off_m] at h; cases h
    · rw [z2, off_g] at h; cases h
theorem q_asgLS {i : Nat} {W : List PyData → Prop} (h : EvAS T K m c g k k' ts σ H W) (M : Mm T m c g k H) (hz : ∀ ds, W ds → ds.length ≤ 1000)
    (q : ∀ p xs ds H2, Ex (off m g H) H2 → Mm T m c g k' H2 → off m g H p = none → (p ≠ m ∧ p ≠ c ∧ p ≠ g) → H2 p = some (.lst xs) → OdAll K (drp (off m g H2) p) xs ds → W ds → tz D (σ.set i (some (.ref p))) H2) : tSeq (tAsg (tLst ts) (gName i)) tz D σ H :=
  h H (off_ex m g H) M _ fun vs ds H2 e2 M2 hd hw => ⟨by rw [oda_len hd]; exact sz60 (by have := hz ds hw; omega), fun p hp => by
    refine q p vs ds _ (e2.trans (Ex.new hp)) (M2.ext (Ex.new hp)) (fresh_back e2 hp) (M2.far hp) upd_same (hd.mono ?_) hw
    exact (drp_of (Ex.refl _) (fresh_back (off_ex m g H2) hp)).trans drp_off⟩
theorem q_appS {l : Addr} {xs : List V} {ds : List PyData} {P : PyData → Prop} (hB : Ex (off m g H0) H) (hl0 : off m g H0 l = none) (hl : H l = some (.lst xs)) (hne : l ≠ m ∧ l ≠ c ∧ l ≠ g) (hd : OdAll K (drp (off m g H) l) xs ds) (hn : V.non ∈ xs)
    (ha : Ev ta σ H (.ref l)) (h : EvOS T K m c g k k' te σ H P) (hP : ∀ d, P d → cl d = true) (M : Mm T m c g k H) (hz : xs.length ≤ 1000)
    (q : ∀ v d H2, Ex (off m g H0) H2 → Mm T m c g k' H2 → H2 l = some (.lst (xs ++ [v])) → OdAll K (drp (off m g H2) l) (xs ++ [v]) (ds ++ [d]) → D.nx σ H2) : tDrop (tBM K "list" rAppend ta (tCons te tNil)) D σ H :=
  ha H (Ex.refl H) _ fun H1 e1 => ⟨Or.inl ⟨rfl, xs, SqL.of (e1 _ _ hl)⟩, h H1 (off_of e1) (M.ext e1) _ fun v d H2 e2 M2 hv hp => by
    have hl1 := off_at (e1 _ _ hl) hne.1 hne.2.2 (fun ps z => by cases z)
    have hl2 := e2 _ _ hl1
    have hlo : off m g H2 l = some (.lst xs) := off_at hl2 hne.1 hne.2.2 (fun ps z => by cases z)
    refine ⟨l, xs, v, rfl, rfl, hl2, sz60' (by omega), q v d _ ?_ (M2.upd hne.1 hne.2.1 hne.2.2 hl2) upd_same ?_⟩
    · exact (off_trans (hB.trans e1) e2).mut hl0
    · refine oda_app (hd.mono ((drp_mono ((off_mono e1).trans (off_sub e2))).trans drp_off)) (.cons ((od_drp hlo hn hv (hP d hp)).mono drp_off) .nil)⟩
theorem eos_var {v : V} {d : PyData} (h : Ev te σ (off m g H0) v) (hd : Od K (off m g H0) v d) : EvOS T K m c g k k te σ H0 (· = d) := fun H e M Q q => h H e _ fun H2 e2 => q v d H2 (off_of e2) (M.ext e2) (hd.mono (off_sub (e.trans e2))) rfl
theorem eos_of {d : PyData} (h : ∀ H, EvO K H te σ H d) : EvOS T K m c g k k te σ H0 (· = d) := fun H e M Q q => h H H (Ex.refl H) (Ex.refl H) _ fun v H2 e2 hd => q v d H2 (off_of e2) (M.ext e2) (hd.mono (nw_off M)) rfl
theorem eos_is {P P2 : PyData → Prop} (h : EvOS T K m c g k k' te σ H0 P) (i : ∀ d, P d → P2 d) : EvOS T K m c g k k' te σ H0 P2 := fun H e M Q q => h H e M Q fun v d H2 e2 M2 hd hp => q v d H2 e2 M2 hd (i d hp)
theorem eos_rev {a : Addr} {xs : List V} {ds : List PyData} (h : Ev ta σ (off m g H0) (.ref a)) (hs : SqT K (off m g H0) a xs) (hd : OdAll K (off m g H0) xs ds) : EvOS T K m c g k k (tRevT K ta) σ H0 (· = .tuple ds.reverse) := fun H e M Q q =>
  h H e _ fun H1 e1 => ⟨a, xs, rfl, ex_t (e.trans e1) hs, fun p hp => by
    have em : Ex H1 (upd H1 p (.tup xs.reverse)) := Ex.new hp
    exact q (.ref p) _ _ (off_of (e1.trans em)) ((M.ext e1).ext em) (.tup (SqT.of (off_new (M.ext e1) hp (fun ps z => by cases z))) (oda_rev (hd.mono (off_sub ((e.trans e1).trans em))))) rfl⟩
theorem eos_list {a : Addr} {xs : List V} {ds : List PyData} (h : Ev ta σ (off m g H0) (.ref a)) (hs : SqT K (off m g H0) a xs) (hd : OdAll K (off m g H0) xs ds) : EvOS T K m c g k k (tCB (rListQ K) (tCons ta tNil)) σ H0 (· = .list ds) := fun H e M Q q =>
  h H e _ fun H1 e1 => ⟨a, xs, rfl, .inr (ex_t (e.trans e1) hs), fun p hp => by
    have em : Ex H1 (upd H1 p (.lst xs)) := Ex.new hp
    exact q (.ref p) _ _ (off_of (e1.trans em)) ((M.ext e1).ext em) (.lst (SqL.of (off_new (M.ext e1) hp (fun ps z => by cases z))) (hd.mono (off_sub ((e.trans e1).trans em)))) rfl⟩
theorem ev_like {t1 t2 : TE} {ds : List PyData} (h1 : EvLD K t1 σ H ds) (h2 : EvLD K t2 σ H ds) (hs : ShD 10 1000000 (.list ds)) : Ev (tCl (spLike K) (tCons t1 (tCons t2 tNil))) σ H (.bl true) := fun H1 e Q q =>
  h1 H1 e _ fun p xs H2 hp e2 hx hd => h2 H2 (e.trans e2) _ fun p2 ys H3 hp2 e3 hy hd2 => ⟨p, p2, .list ds, rfl, .lst (SqL.of (e3 _ _ hx)) (DpAll.mono e3 hd), .lst (SqL.of hy) hd2, hs, fun H4 e4 => q H4 (e2.trans (e3.trans e4))⟩
end
/-! ### rows of deeds -/
def apD (n : Nat) (a b : Tx) : PyData := if rootM n a = rootM n b then nD (apM n a b) else .none
theorem dp_ap {K : PySem.W.Frag} {H : Hp} (n : Nat) (a b : Tx) : Dp K H (apV n a b) (apD n a b) := by
  unfold apV apD
  split
  · exact .int _
  · exact .non
def cD0 : PyData := .tuple [.str "copy", .int 0]
def uD0 : PyData := .tuple [.str "undo", .int 0]
def bsD (n : Nat) (a b : Tx) : List PyData := if rootM n a = rootM n b then (deedsM n a b).1.map ddD else [cD0, uD0]
theorem sm_deed {s : Str} (hs : PyData.strOk s = true) (i : Int) : SmD 2 (.tuple [.str s, .int i]) := .inr (.inr ⟨_, rfl, Nat.le_of_ble_eq_true rfl, fun x hx => by
  rcases List.mem_cons.mp hx with e | e
  · exact .inr (.inl ⟨s, e, hs⟩)
  · rw [List.mem_singleton] at e
    exact .inl ⟨i, e⟩⟩)
theorem sh_deed {k : Nat} {s : Str} (hs : s.cps.toList.all (fun c => decide (c < 16 ^ 8)) = true) (hl : s.cps.size ≤ 10) {i : Int} (hi : i.natAbs < 10 ^ 12) : ShD (k + 1) 22 (.tuple [.str s, .int i]) := sh_tup (N := 10) (L := 2) (fun x hx => by
  rcases List.mem_cons.mp hx with e | e
  · rw [e]; exact sh_str hs hl
  · rw [List.mem_singleton] at e
    rw [e]; exact sh_int hi) (Nat.le_of_ble_eq_true rfl) (by decide)
theorem wd_ok (w : Bool) : PyData.strOk (wdS w) = true ∧ (wdS w).cps.toList.all (fun c => decide (c < 16 ^ 8)) = true ∧ (wdS w).cps.size ≤ 10 := by cases w <;> exact ⟨by decide +kernel, by decide +kernel, by decide +kernel⟩
structure Deeds (n : Nat) (a b : Tx) : Prop where
  len : (deedsM n a b).1.length = apM n a b
  few : apM n a b ≤ 22
  led : ledGo n a ((deedsM n a b).1.map ddD) = some b
  sm : ∀ x ∈ (deedsM n a b).1.map ddD, SmD 2 x
  sh : ∀ x ∈ (deedsM n a b).1.map ddD, ShD 1 22 x
theorem deeds_facts {n : Nat} {a b : Tx} (h1 : 1 ≤ n) (h6 : n ≤ 6) (ho : Ok a) (hob : Ok b) (hza : a.length ≤ 11) (hzb : b.length ≤ 11) (hk : rootM n a = rootM n b) : Deeds n a b := by
  have kin := (kin_iff h1 ho hob).mp hk
  have hl := deeds_lead h1 ho hob kin
  have e := deeds_len h1 kin
  have e2 := ap_dd h1 kin
  have e3 := dd_le h1 kin
  have hp := leads_small h6 hl
  refine ⟨by rw [e, e2], by omega, ledGo_leads hl, fun x hx => ?_, fun x hx => ?_⟩
  · obtain ⟨d, _, rfl⟩ := List.mem_map.mp hx
    exact sm_deed (wd_ok d.1).1 _
  · obtain ⟨d, hd, rfl⟩ := List.mem_map.mp hx
    have := hp d hd
    exact sh_deed (wd_ok d.1).2.1 (wd_ok d.1).2.2 (by
      rw [Int.natAbs_natCast]
      have : (100000 : Nat) < 10 ^ 12 := by decide
      omega)
theorem bs_facts {n : Nat} {a b : Tx} (h1 : 1 ≤ n) (h6 : n ≤ 6) (ho : Ok a) (hob : Ok b) (hza : a.length ≤ 11) (hzb : b.length ≤ 11) : (bsD n a b).length ≤ 22 ∧ ∀ x ∈ bsD n a b, SmD 2 x := by
  unfold bsD
  split
  · rename_i hk
    have F := deeds_facts h1 h6 ho hob hza hzb hk
    exact ⟨by rw [List.length_map, F.len]; exact F.few, F.sm⟩
  · refine ⟨by show 2 ≤ 22; decide, fun x hx => ?_⟩
    rcases List.mem_cons.mp hx with e | e
    · rw [e]; exact sm_deed (by decide +kernel) 0
    · rw [List.mem_singleton] at e; rw [e]; exact sm_deed (by decide +kernel) 0
section
variable {T : List (Addr × Str)} {K : PySem.W.Frag} {m c g : Addr} {k k' n : Nat} {σ : L2.St} {H H0 H' : Hp} {te ta tb : TE} {ts tr : TA} {D : Ends} {tz tu : TS}
theorem qq_appS {l : Addr} {xs : List V} {ds : List PyData} {P : PyData → Prop} (hB : Ex (off m g H0) H) (hl0 : off m g H0 l = none) (hl : H l = some (.lst xs)) (hne : l ≠ m ∧ l ≠ c ∧ l ≠ g) (hd : OdAll K (drp (off m g H) l) xs ds) (hn : V.non ∈ xs)
    (ha : Ev ta σ H (.ref l)) (h : EvOS T K m c g k k' te σ H P) (hP : ∀ d, P d → cl d = true) (M : Mm T m c g k H) (hz : xs.length ≤ 1000)
    (q : ∀ v d H2, Ex (off m g H0) H2 → Mm T m c g k' H2 → H2 l = some (.lst (xs ++ [v])) → OdAll K (drp (off m g H2) l) (xs ++ [v]) (ds ++ [d]) → tz D σ H2) : tSeq (tDrop (tBM K "list" rAppend ta (tCons te tNil))) tz D σ H :=
  q_appS (D := { D with nx := tz D }) hB hl0 hl hne hd hn ha h hP M hz q
theorem non_mem : ∀ {vs : List V} {ds : List PyData}, OdAll K H vs ds → PyData.none ∈ ds → V.non ∈ vs
  | _, _, .nil, h => by cases h
  | _, _, .cons h hs, hm => by
    rcases List.mem_cons.mp hm with e | e
    · rw [← e] at h
      cases h
      exact List.mem_cons_self
    · exact List.mem_cons_of_mem _ (non_mem hs e)
theorem q_forNL {j : Nat} {W : List V → Hp → Prop} (h : ∀ Q : VK, (∀ p xs H1, Ex H H1 → H1 p = some (.lst xs) → W xs H1 → Q (.ref p) H1) → te σ H Q)
    (kk : ∀ xs H1, Ex H H1 → W xs H1 → ∃ Pv : Nat → L2.St → Hp → Prop, Pv 0 σ H1 ∧ (∀ i σ' H' H'', i < xs.length → Ex (noT H1) H' → Pv i σ' H' → Ex H' H'' → tu { D with nx := fun σ2 H2 => Ex (noT H1) H2 ∧ Pv (i + 1) σ2 H2, ct := fun σ2 H2 => Ex (noT H1) H2 ∧ Pv (i + 1) σ2 H2, bk := tz D } (σ'.set j (some (xs.getD i .non))) H'') ∧ (∀ σ' H', Ex (noT H1) H' → Pv xs.length σ' H' → tz D σ' H')) : tSeq (tFor (iList K te) (gName j) tu) tz D σ H :=
  h _ fun p xs H1 e1 hx hw => by
    obtain ⟨Pv, h0, hs, hd⟩ := kk xs H1 e1 hw
    exact ⟨p, rfl, ⟨xs, SqL.of hx⟩, for_runs (D := { D with nx := tz D }) (runs_list (SqL.of (noT_of hx (fun ps z => by cases z)))) (fun i σ' H' => Ex (noT H1) H' ∧ Pv i σ' H') ⟨noT_ex H1, h0⟩ (fun i σ H p => p.1) (fun i σ' H' H'' hi p e => hs i σ' H' H'' hi p.1 p.2 e) (fun σ' H' p => hd σ' H' p.1 p.2)⟩
theorem rep_flat (x : V) : ∀ k : Nat, (List.replicate k [x]).flatten = List.replicate k x
  | 0 => rfl
  | k + 1 => by rw [List.replicate_succ, List.flatten_cons, rep_flat x k]; rfl
theorem oda_rep {x : V} {d : PyData} (h : Od K H x d) : ∀ k : Nat, OdAll K H (List.replicate k x) (List.replicate k d)
  | 0 => .nil
  | k + 1 => .cons h (oda_rep h k)
theorem eo_repT {d : PyData} {k : Nat} (h : EvO K H0 ta σ H (.tuple [d])) (h2 : 2 ≤ k) (hk : k ≤ 1000) : EvO K H0 (tOp (rRepT K) ta (tC (.int (k : Int)))) σ H (.tuple (List.replicate k d)) := fun H1 e e0 Q q =>
  h H1 e e0 _ fun v H2 e2 hv => by
    cases hv with
    | @tup a xs _ hs has =>
      cases has with
      | cons hx hn =>
        cases hn
        rename_i x
        refine ⟨a, (k : Int), [x], rfl, rfl, ex_t (nw_ex _ _) hs, by simp, by omega, by omega, by show 1 ≤ 1000; decide, fun p hp => ?_⟩
        have em := Ex.new1 (o := .tup (List.replicate (k : Int).toNat [x]).flatten) hp
        refine q _ _ (e2.trans em) (.tup (SqT.of (nw_new (fresh_back (e0.trans e2) hp) (fun ps z => by cases z))) ?_)
        rw [Int.toNat_natCast, rep_flat]
        exact oda_rep (hx.mono (by rw [Int.toNat_natCast, rep_flat] at em; exact nw_mono em)) k
end
def dueD (n : Nat) (a b : Tx) (d : PyData) : PyData := match chkM n a b d with
  | .inl k => .list [nD k]
  | .inr s => .tuple [.str "paper", .str s]
theorem chk_cases (n : Nat) (a b : Tx) (d : PyData) : (∃ es, d = .tuple es ∧ es.length ≤ 120 ∧ chkM n a b d = if ledGo n a es = some b then .inl es.length else .inr "deeds") ∨ ((∀ es, d = .tuple es → 120 < es.length) ∧ chkM n a b d = .inr "form") := by
  cases d with
  | tuple es =>
    by_cases h : 120 < es.length
    · exact .inr ⟨fun e he => by cases he; exact h, if_pos h⟩
    · exact .inl ⟨es, rfl, by omega, if_neg h⟩
  | _ => exact .inr ⟨(fun e he => by cases he), rfl⟩
theorem sh_due (n : Nat) (a b : Tx) (d : PyData) : ShD 10 1000000 (dueD n a b d) := by
  unfold dueD
  have hs : ∀ s : Str, s.cps.toList.all (fun c => decide (c < 16 ^ 8)) = true → s.cps.size ≤ 10 → ShD 10 1000000 (.tuple [.str "paper", .str s]) := fun s h1 h2 => (sh_tup (k := 0) (N := 10) (M := 100) (L := 2) (fun x hx => by
    rcases List.mem_cons.mp hx with e | e
    · rw [e]; exact sh_str (by decide +kernel) (by decide +kernel)
    · rw [List.mem_singleton] at e; rw [e]; exact sh_str h1 h2) (Nat.le_of_ble_eq_true rfl) (by decide)).up (by decide) (by decide)
  rcases chk_cases n a b d with ⟨es, rfl, hl, e⟩ | ⟨_, e⟩
  · rw [e]
    split
    · rename_i k hk
      split at hk
      · cases hk
        exact (sh_lst (k := 0) (N := 10) (M := 100) (L := 1) (fun x hx => by rw [List.mem_singleton] at hx; rw [hx]; exact sh_nat (by omega)) (Nat.le_of_ble_eq_true rfl) (by decide)).up (by decide) (by decide)
      · cases hk
    · rename_i s hk
      split at hk
      · cases hk
      · cases hk
        exact hs _ (by decide +kernel) (by decide +kernel)
  · rw [e]
    exact hs _ (by decide +kernel) (by decide +kernel)
theorem dp_noT {K : PySem.W.Frag} {H : Hp} {v : V} {d : PyData} (h : Dp K H v d) : Dp K (noT H) v d := Dp.to (fun a xs hs => by
    rcases hs with (hs | ⟨ob, hs⟩) | hs
    · exact .inl (.inl (noT_of hs (fun ps z => by cases z)))
    · exact .inl (.inr ⟨ob, noT_of hs (fun ps z => by cases z)⟩)
    · exact .inr hs) (fun a xs hs => by
    rcases hs with (hs | ⟨ob, hs⟩) | hs
    · exact .inl (.inl (noT_of hs (fun ps z => by cases z)))
    · exact .inl (.inr ⟨ob, noT_of hs (fun ps z => by cases z)⟩)
    · exact .inr hs) h
theorem due_ref {K : PySem.W.Frag} {H : Hp} {v : V} {n : Nat} {a b : Tx} {d : PyData} (h : Dp K H v (dueD n a b d)) : ∃ r, v = .ref r := by
  unfold dueD at h
  split at h <;> (cases h; exact ⟨_, rfl⟩)
theorem ev_ledIs {te tb : TE} {σ : L2.St} {H : Hp} {o : Option Tx} {b : Tx} (h : Ev te σ H (oV o)) (h2 : Ev tb σ H (tv b)) : Ev (tOp rEq te tb) σ H (.bl (decide (o = some b))) := by
  cases o with
  | none => exact ev_is (ev_eq (x := .non) h h2 rfl) rfl
  | some t => exact ev_is (ev_eq (x := tv t) h h2 rfl) (by rw [tv_dec]; congr 1; rw [decide_eq_decide]; exact ⟨fun e => by rw [e], fun e => Option.some.inj e⟩)
theorem s_asgD {K : PySem.W.Frag} {te : TE} {σ : L2.St} {H : Hp} {d : PyData} {D : Ends} {i : Nat} (h : EvD K te σ H d) (k : ∀ v H1, Ex H H1 → Dp K H1 v d → D.nx (σ.set i (some v)) H1) : tAsg te (gName i) D σ H := h H (Ex.refl H) _ k
end K9
namespace K9
open PySem PySem.Spec PyProof.Rows L2 Evl
local macro_rules | `(tactic| walk_at "ev") => `(tactic| first
  | with_reducible exact ev_c
  | ((with_reducible refine' ev_var ?k0); (case k0 => exact rfl))
  | with_reducible assumption
  | ((with_reducible refine' ev_lenS ?k0 ?k1); (case k0 => walk_at "ev"); (case k1 => walk_at "sz"))
  | ((with_reducible refine' ev_I0 ?k0 ?k1); (case k0 => walk_at "ev"); (case k1 => walk_at "ev"))
  | ((with_reducible refine' ev_I ?k0 ?k1 ?k2); (case k0 => walk_at "ev"); (case k1 => walk_at "ev"); (case k2 => walk_at "sz"))
  | ((with_reducible refine' ev_eq ?k0 ?k1 ?k2); (case k0 => walk_at "ev"); (case k1 => walk_at "ev"); (case k2 => walk_at "sz"))
  | ((with_reducible refine' ev_ne ?k0 ?k1 ?k2); (case k0 => walk_at "ev"); (case k1 => walk_at "ev"); (case k2 => walk_at "sz"))
  | ((with_reducible refine' ev_slTo ?k0 ?k1 ?k2 ?k3); (case k0 => walk_at "ev"); (case k1 => walk_at "ev"); (case k2 => walk_at "sz"); (case k3 => walk_at "sz"))
  | ((with_reducible refine' ev_slFrom ?k0 ?k1 ?k2 ?k3); (case k0 => walk_at "ev"); (case k1 => walk_at "ev"); (case k2 => walk_at "sz"); (case k3 => walk_at "sz"))
  | ((with_reducible refine' ev_slMid ?k0 ?k1 ?k2 ?k3 ?k4 ?k5); (case k0 => walk_at "ev"); (case k1 => walk_at "ev"); (case k2 => walk_at "ev"); (case k3 => walk_at "sz"); (case k4 => walk_at "sz"); (case k5 => walk_at "sz"))
  | ((with_reducible refine' ev_addS ?k0 ?k1 ?k2); (case k0 => walk_at "ev"); (case k1 => walk_at "ev"); (case k2 => walk_at "sz"))
  | ((with_reducible refine' ev_cl ?k0 ?k1); (case k0 => walk_at "ea"); (case k1 => walk_at "sp"))
  | ((with_reducible refine' ev_notV ?k0); (case k0 => walk_at "ev"))
  | ((with_reducible refine' ev_un ?k0 ru_neg); (case k0 => walk_at "ev")))
local macro_rules | `(tactic| walk_at "ea") => `(tactic| first
  | with_reducible exact ea_nil
  | ((with_reducible refine' ea_cons ?k0 ?k1); (case k0 => walk_at "ev"); (case k1 => walk_at "ea")))
local macro_rules | `(tactic| walk_at "et") => `(tactic| first
  | with_reducible assumption
  | ((with_reducible refine' et_test ?k0); (case k0 => walk_at "ev"))
  | ((with_reducible refine' et_B ?k0); (case k0 => walk_at "ev"))
  | ((with_reducible refine' et_not ?k0); (case k0 => walk_at "et")))
local macro_rules | `(tactic| walk_at "sz") => `(tactic| first
  | rfl
  | omega
  | (simp only [List.length_take, List.length_drop, List.length_append]; omega)
  | (constructor <;> omega)
  | assumption)
local macro_rules | `(tactic| walk_at "sp") => `(tactic| first | assumption)

section
variable {P : Program} {w : World} {K : PySem.W.Frag} {mg : Str → Option Value} {base : Heap} {z : ExA}
def spDr (Tt : List (Addr × Str)) : Sp := fun vs H Q _ => ∃ (m c g : Addr) (k : Nat) (a b : Tx) (n : Nat), vs = [.ref m, tv a, tv b, iv n, apV n a b] ∧ Ok a ∧ Ok b ∧ a.length ≤ 11 ∧ b.length ≤ 11 ∧ 1 ≤ n ∧ n ≤ 6 ∧ Mm Tt m c g k H ∧ k ≤ 700000 ∧ (∀ H2, Ex (off m g H) H2 → Mm Tt m c g (k + 200) H2 → Q (.bl true) H2)
theorem ok_deeds_right {Tt : List (Addr × Str)} {c0 p0 : Addr} (T : Topf mg) (XF : Excf P K mg z) (F : FnPC K mg base "_law_deeds_right" s_l_deeds_right c0 p0) (F_l_told : FnP K mg "_law_told" s_l_told)
    (hmT : (p0, ("_law_deeds_right" : Str) ++ ".<locals>." ++ "<lambda>") ∈ Tt) (huT : ∀ q ∈ Tt, q.1 = p0 → q.2 = ("_law_deeds_right" : Str) ++ ".<locals>." ++ "<lambda>")
    (C_deed_row : Cal P w K mg base CX0 5 "deed_row" ["one", "other", "size"] (spRow K)) (C_deeds_apart : Cal P w K mg base CX0 5 "deeds_apart" ["one", "other", "size"] spDap) (C_check_deeds : Cal P w K mg base (L2.CX P w) 4 "check_deeds" ["one", "other", "size", "deeds"] (spChk K z)) (C_l_like : CalG P w K mg base CX0 1 "_law_like" ["_law_got", "_law_due"] (spLike K)) (C_l_led : Cal P w K mg base CX0 2 "_law_led" ["_law_text", "_law_wide", "_law_row"] (spLed K)) (C_l_odds : Cal P w K mg base CX0 1 "_law_odds" [] (spOdds K)) (C_l_bent : Cal P w K mg base CX0 7 "_law_bent" ["_law_m", "_law_thing", "_law_some"] (spBent Tt K 3)) :
    CalG P w K mg base CX0 8 "_law_deeds_right" ["_law_m", "_law_one", "_law_other", "_law_wide", "_law_due"] (spDr Tt) := by
  refine cal_mkGC F sc_l_deeds_right (fun vs H Q E h => ?_) (fun _ _ _ _ _ _ us hl => match us, hl with | [_, _, _, _, _], _ => rfl) (fun f A outer s H vs Q E hr hg TB h => ?_)
  · obtain ⟨m, c, g, k, a, b, n, rfl, _⟩ := h; rfl
  · obtain ⟨m, c, g, k, a, b, n, rfl, ho, hob, hza, hzb, h1, h6, M, hk, q⟩ := h
    refine ⟨_, (pss_cons (ps_set (i := 5) sc_l_deeds_right.nd rfl (Or.inl rfl) (pe_c C_deed_row (hr.mono (by decide)) rfl (pa_cons (pv 1) (pa_cons (pv 2) (pa_cons (pv 3) pa_nil)))))
      (pss_cons (ps_if (pt_not (pt_val (pe_cG C_l_like (hr.mono (by decide)) hg rfl (pa_cons (pe_lst (pa_cons (pe_c C_deeds_apart (hr.mono (by decide)) rfl (pa_cons (pv 1) (pa_cons (pv 2) (pa_cons (pv 3) pa_nil)))) (pa_cons (pe_c C_deed_row (hr.mono (by decide)) rfl (pa_cons (pv 1) (pa_cons (pv 2) (pa_cons (pv 3) pa_nil)))) pa_nil))) (pa_cons (pe_lst (pa_cons (pv 4) (pa_cons (pv 5) pa_nil))) pa_nil))))) (pss_one (ps_ret pe_bl)) pss_nil)
      (pss_cons (ps_if (pt_cmpR op_ne (pe_cmpR op_isN (pv 5) pe_non (nomark _)) (pe_cmpR op_isN (pv 4) pe_non (nomark _)) (nomark _)) (pss_one (ps_ret pe_bl)) pss_nil)
      (pss_cons (ps_if (PW.pt (pw_and (pt_cmpR op_notN (pv 5) pe_non (nomark _)) (pw_and1 (PW.pt (pw_or (pt_not (pt_val (pe_callB (k_isi (K := K) rfl) (by rfl) T.b_isinstance (by decide +kernel) (pa_cons (pv 5) (pa_cons (pe_tyb (n := "tuple") rfl T.b_tuple (by decide +kernel)) pa_nil))))) (pw_or1 (pt_cmpR op_ne (pe_callB (k_len (K := K) rfl) (by rfl) T.b_len (by decide +kernel) (pa_cons (pv 5) pa_nil)) (pv 4) (nomark _)))))))) (pss_one (ps_ret pe_bl)) pss_nil)
      (pss_cons (ps_if (PW.pt (pw_and (pt_cmpR op_notN (pv 5) pe_non (nomark _)) (pw_and1 (pt_cmpR op_ne (pe_c C_l_led (hr.mono (by decide)) rfl (pa_cons (pv 1) (pa_cons (pv 3) (pa_cons (pv 5) pa_nil)))) (pv 2) (nomark _))))) (pss_one (ps_ret pe_bl)) pss_nil)
      (pss_cons (ps_set (i := 6) sc_l_deeds_right.nd rfl (Or.inl rfl) (pe_ifExp (pt_cmpR op_notN (pv 5) pe_non (nomark _)) (pv 5) (pe_tup (pa_cons (pe_tup (pa_cons pe_str (pa_cons pe_int pa_nil))) (pa_cons (pe_tup (pa_cons pe_str (pa_cons pe_int pa_nil))) pa_nil)))))
      (pss_cons (ps_set (i := 7) sc_l_deeds_right.nd rfl (Or.inl rfl) (pe_lst (pa_cons (pv 6) (pa_cons (k_revT (K := K) rfl (pv 6)) (pa_cons (pe_op (k_catT (K := K) rfl) (pv 6) (pe_tup (pa_cons (pe_tup (pa_cons pe_str (pa_cons pe_int pa_nil))) (pa_cons (pe_tup (pa_cons pe_str (pa_cons pe_int pa_nil))) pa_nil)))) (pa_cons (pe_callTy (k_list (K := K) rfl) (by rfl) T.b_list (by decide +kernel) (pa_cons (pv 6) pa_nil)) (pa_cons (pe_slice (k_slT (K := K) rfl) (pv 6) po_none (po_some (pe_un un_neg pe_int))) (pa_cons pe_non (pa_cons (pe_tup (pa_cons (pe_tup pa_nil) pa_nil)) pa_nil)))))))))
      (pss_cons (ps_expr (k_bm (K := K) rfl PySem.F.plainAttrs_list PySem.F.slot_list_append PySem.F.type_list_append mt_append (pv 7) (pa_cons (pe_op (k_catT (K := K) rfl) (pv 6) (pe_tup (pa_cons (pe_tup (pa_cons pe_str (pa_cons pe_int pa_nil))) pa_nil))) pa_nil)))
      (pss_cons (ps_for (passes_of rfl) rfl (pi_range1 rfl T.b_range (pa_cons pe_int pa_nil)) (pg_name (i := 8) sc_l_deeds_right.nd rfl (Or.inl rfl))
        (pss_one (ps_expr (k_bm (K := K) rfl PySem.F.plainAttrs_list PySem.F.slot_list_append PySem.F.type_list_append mt_append (pv 7) (pa_cons (pe_c C_l_bent (hr.mono (by decide)) rfl (pa_cons (pv 0) (pa_cons (pv 6) (pa_cons (pe_op op_cat (pe_c0 C_l_odds (hr.mono (by decide)) rfl) (pe_lst (pa_cons (pe_tup (pa_cons pe_str (pa_cons pe_int pa_nil))) (pa_cons (pe_tup (pa_cons pe_str (pa_cons pe_int pa_nil))) pa_nil)))) pa_nil)))) pa_nil)))))
      (pss_cons (ps_for (passes_of rfl) rfl (k_pil (K := K) rfl (pe_op op_cat (pv 7) (pe_lst (pa_cons (pe_op (k_repT (K := K) rfl) (pe_tup (pa_cons (pe_tup (pa_cons pe_str (pa_cons pe_int pa_nil))) pa_nil)) pe_int) (pa_cons (pe_tup (pa_cons (pe_tup (pa_cons pe_str (pa_cons pe_bl pa_nil))) pa_nil)) (pa_cons (pe_tup (pa_cons (pe_tup (pa_cons (pe_lst (pa_cons pe_str pa_nil)) (pa_cons pe_int pa_nil))) pa_nil)) pa_nil)))))) (pg_name (i := 10) sc_l_deeds_right.nd rfl (Or.inr rfl))
        (pss_cons (ps_set (i := 9) sc_l_deeds_right.nd rfl (Or.inl rfl) (pe_tup (pa_cons pe_str (pa_cons pe_str pa_nil))))
          (pss_cons (ps_if (PW.pt (pw_and (pt_val (pe_callB (k_isi (K := K) rfl) (by rfl) T.b_isinstance (by decide +kernel) (pa_cons (pv 10) (pa_cons (pe_tyb (n := "tuple") rfl T.b_tuple (by decide +kernel)) pa_nil)))) (pw_and1 (pt_cmpR op_lt (pe_callB (k_len (K := K) rfl) (by rfl) T.b_len (by decide +kernel) (pa_cons (pv 10) pa_nil)) pe_int (nomark _))))) (pss_one (ps_set (i := 9) sc_l_deeds_right.nd rfl (Or.inl rfl) (pe_ifExp (pt_cmpR op_eq (pe_c C_l_led (hr.mono (by decide)) rfl (pa_cons (pv 1) (pa_cons (pv 3) (pa_cons (pv 10) pa_nil)))) (pv 2) (nomark _)) (pe_lst (pa_cons (pe_callB (k_len (K := K) rfl) (by rfl) T.b_len (by decide +kernel) (pa_cons (pv 10) pa_nil)) pa_nil)) (pe_tup (pa_cons pe_str (pa_cons pe_str pa_nil)))))) pss_nil)
          (pss_one (ps_if (pt_not (pt_val (pe_cG C_l_like (hr.mono (by decide)) hg rfl (pa_cons (k_told (K := K) (k := 5) (t := fun E => tCall _ [] E _) rfl T XF F_l_told rfl TB rfl hmT huT (hr.mono (by decide)) (LamX.lamS_by (sc := defScope s_l_deeds_right) (by decide +kernel)) rfl (fun _ _ _ _ _ => rfl) (fun A2 outer2 s2 H2 E2 f2 c2 hr2 => pe_cX C_check_deeds (hr2.mono (by decide)) pass_lam rfl (pa_cons (pv 1) (pa_cons (pv 2) (pa_cons (pv 3) (pa_cons (pv 10) pa_nil)))))) (pa_cons (pv 9) pa_nil))))) (pss_one (ps_ret pe_bl)) pss_nil)))))
      (pss_one (ps_ret pe_bl)))))))))))), ?_⟩
    have hsec : Sec [tv a, tv b, iv n] a b n := ⟨rfl, ho, hob, by omega, by omega, h1, h6⟩
    have hF := deeds_facts (n := n) (a := a) (b := b) h1 h6 ho hob hza hzb
    -- the row
    refine q_asgD (K := K) (d := rowD n a b) (ed_cl (ea_cons (ev_var rfl) (ea_cons (ev_var rfl) (ea_cons (ev_var rfl) ea_nil))) fun H1 e1 Q1 q1 E1 => ⟨a, b, n, hsec, q1⟩) fun v H1 e1 hv => ?_
    have hnon : rootM n a ≠ rootM n b → v = .non ∧ apV n a b = .non ∧ rowD n a b = .none := fun hk => by
      have e : rowD n a b = .none := if_neg hk
      rw [e] at hv
      cases hv
      exact ⟨rfl, if_neg hk, e⟩
    have hyes : rootM n a = rootM n b → ∃ p xs, v = .ref p ∧ SqT K H1 p xs ∧ DpAll K H1 xs ((deedsM n a b).1.map ddD) ∧ apV n a b = iv (apM n a b) := fun hk => by
      have e : rowD n a b = .tuple ((deedsM n a b).1.map ddD) := if_pos hk
      rw [e] at hv
      cases hv with
      | tup hs has => exact ⟨_, _, rfl, hs, has, if_pos hk⟩
    have hsh : ShD 10 1000000 (.list [apD n a b, rowD n a b]) := by
      refine sh_lst (k := 9) (N := 10000) (L := 2) (fun d hd => ?_) (Nat.le_of_ble_eq_true rfl) (by decide)
      rcases List.mem_cons.mp hd with e | e
      · rw [e]
        unfold apD
        split
        · rename_i hk; exact sh_nat (by have := (hF hk).few; omega)
        · exact sh_non
      · rw [List.mem_singleton] at e
        rw [e]
        unfold rowD
        split
        · rename_i hk
          exact (sh_tup (k := 1) (N := 22) (M := 10000) (L := 22) (hF hk).sh (by rw [List.length_map, (hF hk).len]; exact (hF hk).few) (by decide)).up (by decide) (by decide)
        · exact sh_non
    refine q_when (b := false) (et_is (et_not (et_test (ev_like (ds := [apD n a b, rowD n a b]) (ld_lst (ad_cons (ed_ev (ev_cl (ea_cons (ev_var rfl) (ea_cons (ev_var rfl) (ea_cons (ev_var rfl) ea_nil))) fun H5 e5 Q5 q5 E5 => ⟨a, b, n, hsec, q5⟩) (dp_ap n a b)) (ad_cons (ed_cl (ea_cons (ev_var rfl) (ea_cons (ev_var rfl) (ea_cons (ev_var rfl) ea_nil))) fun H5 e5 Q5 q5 E5 => ⟨a, b, n, hsec, q5⟩) ad_nil)) (Nat.le_of_ble_eq_true rfl)) (ld_lst (ad_cons (ed_ev (ev_var rfl) (dp_ap n a b)) (ad_cons (ed_ev (ev_var rfl) hv) ad_nil)) (Nat.le_of_ble_eq_true rfl)) hsh))) rfl) (fun z => by cases z) (fun _ H2 e2 => ?_)
    -- both or none
    refine q_when (b := false) (et_B (ev_is (ev_ne (ev_isN (ev_var rfl)) (ev_isN (ev_var rfl)) rfl) ?_)) (fun z => by cases z) (fun _ H3 e3 => ?_)
    · by_cases hk : rootM n a = rootM n b
      · obtain ⟨p, xs, rfl, _, _, e⟩ := hyes hk
        rw [e]
        rfl
      · obtain ⟨rfl, e, _⟩ := hnon hk
        rw [e]
        rfl
    have e13 := e2.trans e3
    -- as long as due
    refine q_when (b := false) ?_ (fun z => by cases z) (fun _ H4 e4 => ?_)
    · by_cases hk : rootM n a = rootM n b
      · obtain ⟨p, xs, rfl, hs, has, e⟩ := hyes hk
        have hs3 := ex_t e13 hs
        rw [e]
        refine et_is (et_and (a := true) (b := false) (et_B (ev_is (ev_notN (ev_var rfl)) rfl)) fun _ => et_is (et_or (a := false) (b := false) (et_is (et_not (et_test (ev_isTup (ev_var rfl) (Od.tup hs3 (OdAll.of (DpAll.mono e13 has))).knd))) rfl) fun _ => et_B (ev_is (ev_ne (ev_lenT (ev_var (v := .ref p) rfl) hs3) (ev_var rfl) rfl) ?_)) rfl) rfl
        rw [dpa_len has, List.length_map, (hF hk).len, decide_eq_true rfl]
        rfl
      · obtain ⟨rfl, e, _⟩ := hnon hk
        exact et_is (et_and (a := false) (b := true) (et_B (ev_is (ev_notN (ev_var rfl)) rfl)) (fun z => by cases z)) rfl
    have e14 := e13.trans e4
    -- it leads there
    refine q_when (b := false) ?_ (fun z => by cases z) (fun _ H5 e5 => ?_)
    · by_cases hk : rootM n a = rootM n b
      · obtain ⟨p, xs, rfl, hs, has, e⟩ := hyes hk
        refine et_is (et_and (a := true) (b := false) (et_B (ev_is (ev_notN (ev_var rfl)) rfl)) fun _ => et_B (ev_is (ev_ne (ev_cl (z := tv b) (ea_cons (ev_var rfl) (ea_cons (ev_var rfl) (ea_cons (ev_var rfl) ea_nil))) fun H8 e8 Q8 q8 E8 => ⟨a, n, .ref p, _, rfl, ho, by omega, h1, h6, Od.tup (ex_t (e14.trans e8) hs) (OdAll.of (DpAll.mono (e14.trans e8) has)), by rw [List.length_map, (hF hk).len]; have := (hF hk).few; omega, by rw [(hF hk).led]; exact q8⟩) (ev_var (v := tv b) rfl) rfl) ?_)) rfl
        rw [decide_eq_true rfl]
        rfl
      · obtain ⟨rfl, e, _⟩ := hnon hk
        exact et_is (et_and (a := false) (b := true) (et_B (ev_is (ev_notN (ev_var rfl)) rfl)) (fun z => by cases z)) rfl
    have e15 := e14.trans e5
    -- the base
    obtain ⟨hbl, hbs⟩ := bs_facts (n := n) (a := a) (b := b) h1 h6 ho hob hza hzb
    refine q_asgD (K := K) (d := .tuple (bsD n a b)) (ed_if (b := !decide (v = .non)) (et_B (ev_notN (ev_var rfl))) (fun hb => ?_) (fun hb => ?_)) fun vb H6 e6 hvb => ?_
    · by_cases hk : rootM n a = rootM n b
      · have e : rowD n a b = .tuple (bsD n a b) := by unfold rowD bsD; rw [if_pos hk, if_pos hk]
        rw [← e]
        exact ed_ev (ev_var rfl) (Dp.mono e15 hv)
      · obtain ⟨rfl, _, _⟩ := hnon hk
        cases hb
    · by_cases hk : rootM n a = rootM n b
      · obtain ⟨p, xs, rfl, _⟩ := hyes hk
        cases hb
      · have e : bsD n a b = [cD0, uD0] := if_neg hk
        rw [e]
        exact ed_u (ud_tup (ad_cons (ed_u (ud_tup (ad_cons (ed_ev ev_c (.str _)) (ad_cons (ed_ev ev_c (.int _)) ad_nil)) (Nat.le_of_ble_eq_true rfl))) (ad_cons (ed_u (ud_tup (ad_cons (ed_ev ev_c (.str _)) (ad_cons (ed_ev ev_c (.int _)) ad_nil)) (Nat.le_of_ble_eq_true rfl))) ad_nil)) (Nat.le_of_ble_eq_true rfl))
    have e06 : Ex H H6 := e1.trans (e15.trans e6)
    have M6 := M.ext e06
    have hsmb : SmD 3 (.tuple (bsD n a b)) := .inr (.inr ⟨_, rfl, by omega, hbs⟩)
    have hvo := sm_off M6 hsmb hvb
    have hvs := hvo
    cases hvs with
    | @tup pb xb _ hsb hab =>
    have hob6 := OdAll.of hab
    have hclb : ∀ x ∈ bsD n a b, cl x = true := fun x hx => (hbs x hx).cl.1
    have hnnb : ∀ x ∈ bsD n a b, noN1 x = true := fun x hx => (hbs x hx).cl.2
    have hbN : TupN 22 (.tuple (bsD n a b)) := ⟨_, rfl, hbl, hclb⟩
    have hcu' : ∀ (H8 : Hp) (σ : L2.St) (s : Str) {H7 : Hp}, EvO K H8 (tTup (tCons (tC (.str s)) (tCons (tC (.int 0)) tNil))) σ H7 (.tuple [.str s, .int 0]) := fun H8 σ s {H7} => eo_tup (ao_cons (eo_ev ev_c (fun _ => .str _)) (ao_cons (eo_ev ev_c (fun _ => .int _)) ao_nil)) (Nat.le_of_ble_eq_true rfl)
    have hcu : ∀ (H8 : Hp) (σ : L2.St) (s : Str), EvO K H8 (tTup (tCons (tC (.str s)) (tCons (tC (.int 0)) tNil))) σ H8 (.tuple [.str s, .int 0]) := fun H8 σ s => eo_tup (ao_cons (eo_ev ev_c (fun _ => .str _)) (ao_cons (eo_ev ev_c (fun _ => .int _)) ao_nil)) (Nat.le_of_ble_eq_true rfl)
    have hodb : Od K (off m g H6) (.ref pb) (.tuple (bsD n a b)) := .tup hsb hob6
    have hN1 : ∀ d, d = PyData.tuple (bsD n a b) → TupN 22 d := fun d e => by rw [e]; exact hbN
    refine q_asgLS (T := Tt) (c := c) (K := K) (as_cons (eos_var (ev_var rfl) hodb) fun H' e' => as_cons (eos_rev (ev_var rfl) (ex_t (off_sub e') hsb) (hob6.mono (off_sub e'))) fun H' e2' =>
      as_cons (eos_cat (N2 := 2) (eos_is (eos_var (ev_var rfl) (hodb.mono (off_sub (off_trans e' e2')))) hN1) (fun H' e3' => eos_is (eos_of (d := .tuple [cD0, uD0]) fun H8 => eo_tup (ao_cons (hcu _ _ _) (ao_cons (hcu _ _ _) ao_nil)) (Nat.le_of_ble_eq_true rfl)) (fun d e => by rw [e]; exact ⟨_, rfl, Nat.le_of_ble_eq_true rfl, fun x hx => by rcases List.mem_cons.mp hx with e | e; rw [e]; rfl; rw [List.mem_singleton] at e; rw [e]; rfl⟩)) (by decide)) fun H' e3' =>
      as_cons (eos_list (ev_var rfl) (ex_t (off_sub (off_trans (off_trans e' e2') e3')) hsb) (hob6.mono (off_sub (off_trans (off_trans e' e2') e3')))) fun H' e4' => as_cons (eos_sl (ev_var rfl) (ex_t (off_sub (off_trans (off_trans (off_trans e' e2') e3') e4')) hsb) (hob6.mono (off_sub (off_trans (off_trans (off_trans e' e2') e3') e4'))) hclb Evl.eo_none (Evl.eo_some (ev_un ev_c ru_neg))) fun H' e5' =>
      as_cons (eos_of (d := .none) fun H8 => eo_ev ev_c (fun _ => .non)) fun H' e6' => as_cons (eos_of (d := .tuple [.tuple []]) fun H8 => eo_tup (ao_cons (eo_tup ao_nil (Nat.le_of_ble_eq_true rfl)) ao_nil) (Nat.le_of_ble_eq_true rfl)) fun H' e7' => as_nil) M6 (fun ds hw => ?_) fun l xs7 ds7 H7 e7 M7 hl0 hlne hl7 hd7 hw => ?_
    · obtain ⟨d1, r1, rfl, _, d2, r2, rfl, _, d3, r3, rfl, _, d4, r4, rfl, _, d5, r5, rfl, _, d6, r6, rfl, _, d7, r7, rfl, _, rfl⟩ := hw
      exact Nat.le_of_ble_eq_true rfl
    obtain ⟨d1, r1, rfl, _, d2, r2, rfl, _, d3, r3, rfl, _, d4, r4, rfl, _, d5, r5, rfl, _, d6, r6, rfl, hd6, d7, r7, rfl, _, rfl⟩ := hw
    have hnon7 : V.non ∈ xs7 := non_mem hd7 (by rw [hd6]; simp)
    have hlen7 : xs7.length = 7 := by rw [oda_len hd7]; rfl
    have hodb7 := hodb.mono (off_sub e7)
    refine qq_appS (T := Tt) (c := c) (K := K) (k := k) (k' := k) (H0 := H6) e7 hl0 hl7 hlne hd7 hnon7 (ev_var rfl) (eos_cat (N2 := 1) (eos_is (eos_var (ev_var rfl) hodb7) hN1) (fun H' e3' => eos_is (eos_of (d := .tuple [.tuple [.str "Copy", .int 0]]) fun H8 => eo_tup (ao_cons (hcu _ _ _) ao_nil) (Nat.le_of_ble_eq_true rfl)) (fun d e => by rw [e]; exact ⟨_, rfl, Nat.le_of_ble_eq_true rfl, fun x hx => by rw [List.mem_singleton] at hx; rw [hx]; rfl⟩)) (by decide)) (fun d h => h.cl) M7 (by omega) fun v8 d8 H8 e8 M8 hl8 hd8 => ?_
    have hS := srcB_R1 (B0 := off m g H6) (j := 8) (n := 3) (ta := tCons (tC (.int 3)) tNil) (σ := [some (.ref m), some (tv a), some (tv b), some (iv n), some (apV n a b), some v, some (.ref pb), some (.ref l), none, none, none]) (H := H8) (ea_cons ev_c ea_nil) (by decide)
    refine q_forB hS (fun i σ' H' => ∃ y8 xs ds, σ' = [some (.ref m), some (tv a), some (tv b), some (iv n), some (apV n a b), some v, some (.ref pb), some (.ref l), y8, none, none] ∧ Mm Tt m c g (k + i * 24) H' ∧ H' l = some (.lst xs) ∧ OdAll K (drp (off m g H') l) xs ds ∧ V.non ∈ xs ∧ xs.length = 8 + i) (fun H1 e1 => ⟨e8.trans e1, _, _, _, rfl, M8.ext e1, e1 _ _ hl8, hd8.mono (drp_mono (off_mono e1)), List.mem_append_left _ hnon7, by rw [List.length_append, hlen7]; rfl⟩) ?_ ?_
    · intro i σ' Ha Hb hi eB pv eab
      obtain ⟨y8, xs, ds, rfl, Ma, hla, hda, hna, hxl⟩ := pv
      have Mb := Ma.ext eab
      have eBb := eB.trans eab
      have hbent : EvOS Tt K m c g (k + i * 24) (k + i * 24 + 24) (tCl (spBent Tt K 3) (tCons (tVar 0) (tCons (tVar 6) (tCons (tOp rCat (tCl (spOdds K) tNil) (tLst (tCons (tTup (tCons (tC (.str "copy")) (tCons (tC (.int 0)) tNil))) (tCons (tTup (tCons (tC (.str "undo")) (tCons (tC (.int 0)) tNil))) tNil)))) tNil)))) [some (.ref m), some (tv a), some (tv b), some (iv n), some (apV n a b), some v, some (.ref pb), some (.ref l), some (.int (0 + (i : Int))), none, none] Hb (fun d => cl d = true) := fun Hc ec Mc Q5 q5 => by
        refine ⟨_, rfl, _, rfl, rfl, fun po xs0 H1 ds0 hpo e1 hx0 hd0 hlen hclo => ?_⟩
        refine lo_lst (H0 := Hc) (H := Hc) (ao_cons (hcu' Hc _ _) (ao_cons (hcu' Hc _ _) ao_nil)) (Nat.le_of_ble_eq_true rfl) H1 e1 e1 _ fun p2 ys H2 hp2 e2 hy hd2 => ?_
        have hl0' := oda_len hd0
        have hl2' := oda_len hd2
        refine ⟨po, p2, xs0, ys, rfl, rfl, e2 _ _ hx0, hy, sz60 (by rw [hl0', hl2', hlen]; exact Nat.le_of_ble_eq_true rfl), fun r hr => ?_⟩
        have em := Ex.new1 (o := .lst (xs0 ++ ys)) hr
        have eall := e1.trans (e2.trans em)
        have M2 := Mc.ext (e1.trans e2)
        refine ⟨m, c, g, k + i * 24, .ref pb, .tuple (bsD n a b), r, xs0 ++ ys, ds0 ++ _, rfl, Mc.ext eall, by omega, by decide, hsmb, Dp.mono (off_sub ((off_trans eBb ec).trans eall)) hvo, off_new M2 hr (fun ps z => by cases z), (oda_app (hd0.mono (nw_mono (e2.trans em))) (hd2.mono (nw_mono em))).mono (nw_off Mc), by rw [List.length_append]; omega, by rw [List.length_append, hlen]; exact Nat.le_of_ble_eq_true rfl, clAll_of fun x hx => ?_, fun v d H3 e3 M3 hd hc => q5 v d H3 (off_trans (off_of eall) e3) M3 hd hc⟩
        rcases List.mem_append.mp hx with h | h
        · exact clAll_mem hclo x h
        · rcases List.mem_cons.mp h with e | e
          · rw [e]; rfl
          · rw [List.mem_singleton] at e; rw [e]; rfl
      refine q_appS (T := Tt) (c := c) (K := K) (H0 := H6) eBb hl0 (eab _ _ hla) hlne (hda.mono (drp_mono (off_mono eab))) hna (ev_var rfl) hbent (fun d h => h) Mb (by omega) fun v9 d9 H9 e9 M9 hl9 hd9 => ⟨e9, _, _, _, rfl, by rw [Nat.succ_mul, ← Nat.add_assoc]; exact M9, hl9, hd9, List.mem_append_left _ hna, by rw [List.length_append, hxl]; rfl⟩
    · intro σ' H9 eB9 pv
      obtain ⟨y8, xs, ds, rfl, M9, hl9, hd9, _, hxl⟩ := pv
      have hd9' : OdAll K (noT H9) xs ds := hd9.mono ((drp_ex _ _).trans fun a o h => noT_of (off_ex m g H9 _ _ h) (off_tbl h))
      refine q_forNL (j := 10) (W := fun zs H1 => LamX.Tabs Tt H1 ∧ ∃ es, OdAll K (noT H1) zs es) (fun Q5 q5 => ⟨_, rfl, ?_⟩) ?_
      · refine lo_lst (H0 := H9) (H := H9) (ao_cons (eo_repT (k := 121) (eo_tup (ao_cons (hcu' H9 _ _) ao_nil) (Nat.le_of_ble_eq_true rfl)) (by decide) (by decide)) (ao_cons (eo_tup (ao_cons (eo_tup (ao_cons (eo_ev ev_c (fun _ => .str _)) (ao_cons (eo_ev ev_c (fun _ => .bl _)) ao_nil)) (Nat.le_of_ble_eq_true rfl)) ao_nil) (Nat.le_of_ble_eq_true rfl)) (ao_cons (eo_tup (ao_cons (eo_tup (ao_cons (eo_lst (ao_cons (eo_ev ev_c (fun _ => .str _)) ao_nil) (Nat.le_of_ble_eq_true rfl)) (ao_cons (eo_ev ev_c (fun _ => .int _)) ao_nil)) (Nat.le_of_ble_eq_true rfl)) ao_nil) (Nat.le_of_ble_eq_true rfl)) ao_nil))) (Nat.le_of_ble_eq_true rfl) H9 (Ex.refl H9) (Ex.refl H9) _ fun p2 ys H2 hp2 e2 hy hd2 => ?_
        have hl2' := oda_len hd2
        refine ⟨l, p2, xs, ys, rfl, rfl, e2 _ _ hl9, hy, sz60 (by rw [hl2', hxl]; exact Nat.le_of_ble_eq_true rfl), fun r hr => ?_⟩
        have em := Ex.new1 (o := .lst (xs ++ ys)) hr
        exact q5 r _ _ (e2.trans em) upd_same ⟨M9.tabs.ext (e2.trans em), _, oda_app (hd9'.mono (noT_mono (e2.trans em))) (hd2.mono ((nw_mono em).trans (nw_noT _ _)))⟩
      · intro zs H10 e10 hw
        obtain ⟨hT10, es, hzs⟩ := hw
        refine ⟨fun i σ' H' => LamX.Tabs Tt H' ∧ ∃ y9 y10, σ' = [some (.ref m), some (tv a), some (tv b), some (iv n), some (apV n a b), some v, some (.ref pb), some (.ref l), y8, y9, y10], ⟨hT10, _, _, rfl⟩, ?_, ?_⟩
        · intro i σ' H11 H12 hi eB11 pv e12
          obtain ⟨hT11, y9, y10, rfl⟩ := pv
          rw [getD_at hi]
          have hz := oda_len hzs
          have hdi := oda_get hzs i hi (by omega)
          generalize zs[i] = th at hdi
          generalize es[i]'(by omega) = d at hdi
          have eB12 := eB11.trans e12
          have hT12 := hT11.ext e12
          refine q_asgD (K := K) (d := .tuple [.str "paper", .str "form"]) (ed_u (ud_tup (ad_cons (ed_ev ev_c (.str _)) (ad_cons (ed_ev ev_c (.str _)) ad_nil)) (Nat.le_of_ble_eq_true rfl))) fun v9 H13 e13 hv9 => ?_
          have eB13 := eB12.trans e13
          have hd13 := hdi.mono eB13
          have key : ∃ bb : Bool, EvT (tAnd (tTest (tCB (rIsi K) (tCons (tVar 10) (tCons (tC (.ty "tuple")) tNil)))) (tB (tOp (rI0 fun i j => .bl (decide (i < j))) (tCB (rLenQ K) (tCons (tVar 10) tNil)) (tC (.int 121))))) [some (.ref m), some (tv a), some (tv b), some (iv n), some (apV n a b), some v, some (.ref pb), some (.ref l), y8, some v9, some th] H13 bb ∧
              (bb = true → ∃ es, d = .tuple es ∧ es.length ≤ 120 ∧ chkM n a b d = if ledGo n a es = some b then .inl es.length else .inr "deeds") ∧ (bb = false → chkM n a b d = .inr "form") := by
            by_cases ht : ∃ es, d = .tuple es
            · obtain ⟨es, rfl⟩ := ht
              have hd13' := hd13
              cases hd13 with
              | @tup q ys _ hs has =>
                have hyl := oda_len has
                refine ⟨decide (es.length < 121), et_is (et_and (a := true) (b := decide (es.length < 121)) (et_test (ev_isTup (ev_var rfl) hd13'.knd)) fun _ => et_B (ev_is (ev_I0 (ev_lenT (ev_var (v := .ref q) rfl) hs) ev_c) (by rw [hyl]; congr 1; rw [decide_eq_decide]; omega))) (Bool.true_and _), fun hb => ?_, fun hb => ?_⟩
                · have := of_decide_eq_true hb
                  rcases chk_cases n a b (.tuple es) with ⟨es', e, h1, h2⟩ | ⟨h1, _⟩
                  · exact ⟨es', e, h1, h2⟩
                  · have := h1 es rfl; omega
                · have := of_decide_eq_false hb
                  rcases chk_cases n a b (.tuple es) with ⟨es', e, h1, h2⟩ | ⟨_, h2⟩
                  · cases e; omega
                  · exact h2
            · have hk2 : (kindN d == "tuple") = false := beq_eq_false_iff_ne.mpr fun z => ht (kind_tup z)
              refine ⟨false, et_is (et_and (a := false) (b := true) (et_is (et_test (ev_isTup (ev_var rfl) hd13.knd)) hk2) (fun z => by cases z)) rfl, (fun z => by cases z), fun _ => ?_⟩
              rcases chk_cases n a b d with ⟨es', e, _⟩ | ⟨_, h2⟩
              · exact absurd ⟨es', e⟩ ht
              · exact h2
          obtain ⟨bb, hbb, ht1, hf1⟩ := key
          refine q_whenP (b := bb) (fun σ' H' => ∃ v9, σ' = [some (.ref m), some (tv a), some (tv b), some (iv n), some (apV n a b), some v, some (.ref pb), some (.ref l), y8, some v9, some th] ∧ Dp K H' v9 (dueD n a b d) ∧ Ex (noT H10) H' ∧ LamX.Tabs Tt H') ?_ hbb (fun hz hb H14 e14 => ?_) (fun hb H14 e14 => ⟨v9, rfl, by unfold dueD; rw [hf1 hb]; exact Dp.mono e14 hv9, eB13.trans e14, hT12.ext (e13.trans e14)⟩)
          · rintro σ' H14 ⟨v9, rfl, hv9, eB14, hT14⟩
            obtain ⟨r, rfl⟩ := due_ref hv9
            refine ⟨hT14, fun H15 eN T15 H16 Eb Qb e16 hQ hE => ?_⟩
            have e146 : Ex (noT H14) H16 := (ext_noT eN).trans e16
            have eB16 : Ex (noT H10) H16 := (noT_idem eB14).trans e146
            have T16 := T15.ext e16
            refine ⟨_, rfl, _, rfl, _, rfl, _, rfl, a, b, n, th, d, hsec, rfl, hdi.mono eB16, ?_⟩
            cases hch : chkM n a b d with
            | inl kk =>
              refine fun H17 e17 => hQ _ _ fun p H18 hp e18 hx => ?_
              have e68 := e17.trans e18
              refine ⟨_, rfl, p, r, dueD n a b d, rfl, ?_, Dp.mono (e146.trans e68) (dp_noT hv9), sh_due n a b d, fun H19 e19 => ⟨true, rfl, ?_⟩⟩
              · unfold dueD
                rw [hch]
                exact .lst (SqL.of hx) (.cons (.int _) .nil)
              · refine iteF ?_
                exact ⟨eB16.trans (e68.trans e19), T16.ext (e68.trans e19), _, _, rfl⟩
            | inr ss =>
              refine fun dd H17 e17 hdd => hE _ _ _ ⟨z.pa, dd, _, .tuple [.str "paper", .str ss], rfl, rfl, hdd, .inl ⟨rfl, ss, rfl, rfl⟩, fun v5 H18 e18 hv5 => ?_⟩
              have e68 := e17.trans e18
              have hdue : dueD n a b d = .tuple [.str "paper", .str ss] := by unfold dueD; rw [hch]
              rw [← hdue] at hv5
              obtain ⟨p, rfl⟩ := due_ref hv5
              refine ⟨_, rfl, p, r, dueD n a b d, rfl, hv5, Dp.mono (e146.trans e68) (dp_noT hv9), sh_due n a b d, fun H19 e19 => ⟨true, rfl, ?_⟩⟩
              refine iteF ?_
              exact ⟨eB16.trans (e68.trans e19), T16.ext (e68.trans e19), _, _, rfl⟩
          · obtain ⟨es', rfl, hel, hch⟩ := ht1 hb
            have hd14 := hd13.mono e14
            cases hd14 with
            | @tup q ys _ hs has =>
              have hyl := oda_len has
              refine s_asgD (K := K) (d := dueD n a b (.tuple es')) (ed_if (b := decide (ledGo n a es' = some b)) (et_B (ev_ledIs (ev_cl (z := oV (ledGo n a es')) (ea_cons (ev_var rfl) (ea_cons (ev_var rfl) (ea_cons (ev_var rfl) ea_nil))) fun H8 e8 Q8 q8 E8 => ⟨a, n, .ref q, es', rfl, ho, by omega, h1, h6, Od.tup (ex_t e8 hs) (has.mono e8), by omega, q8⟩) (ev_var rfl))) (fun hb2 => ?_) (fun hb2 => ?_)) fun v9' H15 e15 hv9' => hz _ _ ⟨v9', rfl, hv9', eB13.trans (e14.trans e15), hT12.ext (e13.trans (e14.trans e15))⟩
              · have e : dueD n a b (.tuple es') = .list [nD es'.length] := by unfold dueD; rw [hch, if_pos (of_decide_eq_true hb2)]
                rw [e]
                exact ed_l (ld_lst (ad_cons (ed_ev (ev_lenT (ev_var (v := .ref q) rfl) hs) (by rw [hyl]; exact .int _)) ad_nil) (Nat.le_of_ble_eq_true rfl))
              · have e : dueD n a b (.tuple es') = .tuple [.str "paper", .str "deeds"] := by unfold dueD; rw [hch, if_neg (of_decide_eq_false hb2)]
                rw [e]
                exact ed_u (ud_tup (ad_cons (ed_ev ev_c (.str _)) (ad_cons (ed_ev ev_c (.str _)) ad_nil)) (Nat.le_of_ble_eq_true rfl))
        · intro σ' H11 eB11 pv
          obtain ⟨hT11, y9, y10, rfl⟩ := pv
          have e11 := off_noT (off_of (m := m) (g := g) e10) eB11
          exact s_ret ev_c fun H12 e12 => q H12 ((off_trans (off_trans (off_of e06) eB9) e11).trans e12) (((((M9.ext e10).noT eB11 hT11)).ext e12).le (by omega))
end
end K9
namespace K9
open PySem PySem.Spec PyProof.Rows L2 Evl
local macro_rules | `(tactic| walk_at "ev") => `(tactic| first
  | with_reducible exact ev_c
  | ((with_reducible refine' ev_var ?k0); (case k0 => exact rfl))
  | with_reducible assumption
  | ((with_reducible refine' ev_lenS ?k0 ?k1); (case k0 => walk_at "ev"); (case k1 => walk_at "sz"))
  | ((with_reducible refine' ev_I0 ?k0 ?k1); (case k0 => walk_at "ev"); (case k1 => walk_at "ev"))
  | ((with_reducible refine' ev_I ?k0 ?k1 ?k2); (case k0 => walk_at "ev"); (case k1 => walk_at "ev"); (case k2 => walk_at "sz"))
  | ((with_reducible refine' ev_eq ?k0 ?k1 ?k2); (case k0 => walk_at "ev"); (case k1 => walk_at "ev"); (case k2 => walk_at "sz"))
  | ((with_reducible refine' ev_ne ?k0 ?k1 ?k2); (case k0 => walk_at "ev"); (case k1 => walk_at "ev"); (case k2 => walk_at "sz"))
  | ((with_reducible refine' ev_slTo ?k0 ?k1 ?k2 ?k3); (case k0 => walk_at "ev"); (case k1 => walk_at "ev"); (case k2 => walk_at "sz"); (case k3 => walk_at "sz"))
  | ((with_reducible refine' ev_slFrom ?k0 ?k1 ?k2 ?k3); (case k0 => walk_at "ev"); (case k1 => walk_at "ev"); (case k2 => walk_at "sz"); (case k3 => walk_at "sz"))
  | ((with_reducible refine' ev_slMid ?k0 ?k1 ?k2 ?k3 ?k4 ?k5); (case k0 => walk_at "ev"); (case k1 => walk_at "ev"); (case k2 => walk_at "ev"); (case k3 => walk_at "sz"); (case k4 => walk_at "sz"); (case k5 => walk_at "sz"))
  | ((with_reducible refine' ev_addS ?k0 ?k1 ?k2); (case k0 => walk_at "ev"); (case k1 => walk_at "ev"); (case k2 => walk_at "sz"))
  | ((with_reducible refine' ev_cl ?k0 ?k1); (case k0 => walk_at "ea"); (case k1 => walk_at "sp"))
  | ((with_reducible refine' ev_notV ?k0); (case k0 => walk_at "ev"))
  | ((with_reducible refine' ev_un ?k0 ru_neg); (case k0 => walk_at "ev")))
local macro_rules | `(tactic| walk_at "ea") => `(tactic| first
  | with_reducible exact ea_nil
  | ((with_reducible refine' ea_cons ?k0 ?k1); (case k0 => walk_at "ev"); (case k1 => walk_at "ea")))
local macro_rules | `(tactic| walk_at "et") => `(tactic| first
  | with_reducible assumption
  | ((with_reducible refine' et_test ?k0); (case k0 => walk_at "ev"))
  | ((with_reducible refine' et_B ?k0); (case k0 => walk_at "ev"))
  | ((with_reducible refine' et_not ?k0); (case k0 => walk_at "et")))
local macro_rules | `(tactic| walk_at "sz") => `(tactic| first
  | rfl
  | omega
  | (simp only [List.length_take, List.length_drop, List.length_append]; omega)
  | (constructor <;> omega)
  | assumption)
local macro_rules | `(tactic| walk_at "sp") => `(tactic| first | assumption)

/-! ### min of a list of data -/
def rMinD (K : PySem.W.Frag) : List V → Hp → VK → Prop := fun vs H Q => ∃ (a : Addr) (xs : List V) (d : PyData) (ds : List PyData), vs = [.ref a] ∧ SqL K H a xs ∧ DpAll K H xs (d :: ds) ∧ PySem.W.AlikeAll (d :: ds) ∧ PyData.depthAll (d :: ds) ≤ 10 ∧ ∀ v, Dp K H v (PySem.W.minD d ds) → Q v H
theorem vals_at : ∀ {xs : List V} {us : List Value}, Vals xs us → ∀ (i : Nat) (u : Value), us[i]? = some u → ∃ x, xs[i]? = some x ∧ RelV x u
  | _, _, .nil, i, u, h => by simp at h
  | _, _, .cons (a := x) h hs, 0, u, hu => ⟨x, rfl, by have := Option.some.inj (show some _ = some u from hu); rw [← this]; exact h⟩
  | _, _, .cons h hs, i + 1, u, hu => by
    obtain ⟨x, a, b⟩ := vals_at hs i u (by simpa using hu)
    exact ⟨x, by simpa using a, b⟩
theorem cr_minD {X : Cx} (hc : X.calm = true) (hu : X.A.units + 64 < cLine) : CallR X (.builtin "min") (rMinD X.K) := by
  intro pins s σ H xs us Q I r h
  obtain ⟨a, ys, d, ds, rfl, hs, hd, ha, hdp, q⟩ := h
  obtain ⟨u, rfl, ru⟩ := vals1 r
  obtain rfl : u = Value.ref a := ru
  obtain ⟨its, r2, pl, hz2⟩ := I.list hs
  obtain ⟨as, hra⟩ := Dp.readsAll I _ _ _ hd r2
  refine PySem.W.min_list_data (vs := its.toArray) (I.ok.hd hc) pl.isList (by simpa using hra) ha (by omega) fun i v h' tk bs hv hr hk => ?_
  obtain ⟨x, hx, rx⟩ := vals_at r2 i v (by simpa using hv)
  have hi : i < ys.length := by
    rcases Nat.lt_or_ge i ys.length with z | z
    · exact z
    · rw [List.getElem?_eq_none z] at hx; cases hx
  rw [List.getElem?_eq_getElem hi] at hx
  have hx := Option.some.inj hx
  have hdi := dpa_get hd i hi (by rw [← dpa_len hd]; exact hi)
  rw [hx] at hdi
  obtain ⟨cs, hr2⟩ := Dp.reads I _ _ _ hdi rx
  have e := PyProof.Rows.reads_det (fun b o q _ => hk b o q) hr2 hr
  rw [← e.1] at hdi
  exact ⟨x, H, I.kept (t' := tk) hk, rx, q x hdi⟩
theorem k_minD {X : Cx} {K : PySem.W.Frag} (hK : X.K = K) (hc : X.calm = true) (hu : X.A.units + 64 < cLine) : CallR X (.builtin "min") (rMinD K) := by subst hK; exact cr_minD hc hu
/-- the key of a text in the sums -/
def keyM (s : Nat) (u : Tx) : PyData := .tuple [nD s, nD u.length, tD u]
theorem lt_nD (a b : Nat) : PySem.W.dataLt (nD a) (nD b) = decide (a < b) := by
  have := PySem.W.dataLt_int (a : Int) (b : Int)
  rw [this, decide_eq_decide]
  omega
theorem keyM_lt {s s' : Nat} {u u' : Tx} (h : s < s' ∨ s = s' ∧ u.length < u'.length) : PySem.W.dataLt (keyM s u) (keyM s' u') = true := by
  unfold keyM
  rw [PySem.W.dataLt_tuple, PySem.W.dataLt_cons (by simp [PySem.W.alike]), PySem.W.dataLt_cons (by simp [PySem.W.alike]), eqv_nD, eqv_nD, lt_nD, lt_nD]
  rcases h with h | ⟨h, h2⟩
  · rw [if_neg (by rw [decide_eq_false (by omega)]; decide), decide_eq_true h]
  · rw [if_pos (decide_eq_true h), if_neg (by rw [decide_eq_false (by omega)]; decide), decide_eq_true h2]
theorem keyM_ge {s s' : Nat} {u u' : Tx} (h : s' < s ∨ s = s' ∧ u'.length < u.length) : PySem.W.dataLt (keyM s u) (keyM s' u') = false := by
  unfold keyM
  rw [PySem.W.dataLt_tuple, PySem.W.dataLt_cons (by simp [PySem.W.alike]), PySem.W.dataLt_cons (by simp [PySem.W.alike]), eqv_nD, eqv_nD, lt_nD, lt_nD]
  rcases h with h | ⟨h, h2⟩
  · rw [if_neg (by rw [decide_eq_false (by omega)]; decide), decide_eq_false (by omega)]
  · rw [if_pos (decide_eq_true h), if_neg (by rw [decide_eq_false (by omega)]; decide), decide_eq_false (by omega)]
theorem keyM_irr (s : Nat) (u : Tx) : PySem.W.dataLt (keyM s u) (keyM s u) = false := by
  unfold keyM
  rw [PySem.W.dataLt_tuple]
  exact lex_irrefl _
theorem min_strict {α : Type} (f : α → PyData) (mid : α) (hirr : PySem.W.dataLt (f mid) (f mid) = false) : ∀ (xs : List α) (x : α), (∀ u, u = x ∨ u ∈ xs → u = mid ∨ (PySem.W.dataLt (f mid) (f u) = true ∧ PySem.W.dataLt (f u) (f mid) = false)) → (x = mid ∨ mid ∈ xs) → PySem.W.minD (f x) (xs.map f) = f mid
  | [], x, _, hm => by
    rcases hm with e | e
    · rw [e]; rfl
    · cases e
  | y :: xs, x, h, hm => by
    show PySem.W.minD (if PySem.W.dataLt (f y) (f x) then f y else f x) (xs.map f) = f mid
    by_cases hx : x = mid
    · have hyx : PySem.W.dataLt (f y) (f x) = false := by
        rw [hx]
        rcases h y (.inr List.mem_cons_self) with e | e
        · rw [e]; exact hirr
        · exact e.2
      rw [hyx, if_neg (by decide)]
      exact min_strict f mid hirr xs x (fun u hu => h u (hu.elim .inl fun z => .inr (List.mem_cons_of_mem _ z))) (.inl hx)
    · have hmy : y = mid ∨ mid ∈ xs := by
        rcases hm with e | e
        · exact absurd e hx
        · rcases List.mem_cons.mp e with e | e
          · exact .inl e.symm
          · exact .inr e
      by_cases hy : y = mid
      · have hyx : PySem.W.dataLt (f y) (f x) = true := by
          rw [hy]
          rcases h x (.inl rfl) with e | e
          · exact absurd e hx
          · exact e.1
        rw [hyx, if_pos rfl]
        exact min_strict f mid hirr xs y (fun u hu => h u (hu.elim (fun z => .inr (by rw [z]; exact List.mem_cons_self)) fun z => .inr (List.mem_cons_of_mem _ z))) (.inl hy)
      · have hmx := hmy.elim (fun z => absurd z hy) id
        by_cases hlt : PySem.W.dataLt (f y) (f x) = true
        · rw [if_pos hlt]
          exact min_strict f mid hirr xs y (fun u hu => h u (hu.elim (fun z => .inr (by rw [z]; exact List.mem_cons_self)) fun z => .inr (List.mem_cons_of_mem _ z))) (.inr hmx)
        · rw [if_neg hlt]
          exact min_strict f mid hirr xs x (fun u hu => h u (hu.elim .inl fun z => .inr (List.mem_cons_of_mem _ z))) (.inr hmx)
/-! ### the middle text is near -/
structure Bunch (n : Nat) (ts : List Tx) : Prop where
  n1 : 1 ≤ n
  n6 : n ≤ 6
  ne : ts ≠ []
  l4 : ts.length ≤ 4
  ok : ∀ t ∈ ts, Ok t ∧ t.length ≤ 8
  kin : ∀ t ∈ ts, Kin n (ts.headD []) t
section
variable {n : Nat} {ts : List Tx} {u : Tx}
theorem Bunch.hd (B : Bunch n ts) : ts.headD [] ∈ ts := by
  cases ts with
  | nil => exact absurd rfl B.ne
  | cons a r => exact List.mem_cons_self
theorem Bunch.mid (B : Bunch n ts) : Good n 11 (ts.headD []) (midT n ts) := by
  have hs := mid_short B.n1 B.ne (fun t ht => (B.ok t ht).1) B.kin B.l4 (fun t ht => (B.ok t ht).2)
  by_cases hl : (ts.headD []).length < n
  · have em : midT n ts = ts.headD [] := by unfold midT; rw [if_pos hl]
    rw [em]
    exact ⟨Kin.refl n _, (B.ok _ B.hd).1, by have := (B.ok _ B.hd).2; omega⟩
  · obtain ⟨a, b, _⟩ := mid_facts B.n1 B.ne (fun t ht => (B.ok t ht).1) B.kin hl
    exact ⟨a, b, hs⟩
theorem Bunch.good (B : Bunch n ts) {t : Tx} (ht : t ∈ ts) : Good n 11 t u ↔ Good n 11 (ts.headD []) u :=
  ⟨fun ⟨a, b, c⟩ => ⟨(B.kin t ht).trans a, b, c⟩, fun ⟨a, b, c⟩ => ⟨(B.kin t ht).symm.trans a, b, c⟩⟩
theorem Bunch.allKin (B : Bunch n ts) : allKin n ts = true := by
  unfold K9.allKin
  rw [List.all_eq_true]
  intro t ht
  exact decide_eq_true ((kin_iff B.n1 (B.ok _ B.hd).1 (B.ok t ht).1).mpr (B.kin t ht))
theorem Bunch.allKin2 (B : Bunch n ts) (g : Good n 11 (ts.headD []) u) : K9.allKin n (u :: ts) = true := by
  unfold K9.allKin
  rw [List.all_eq_true]
  intro t ht
  refine decide_eq_true ?_
  show rootM n u = rootM n t
  rcases List.mem_cons.mp ht with e | e
  · rw [e]
  · exact (kin_iff B.n1 g.2.1 (B.ok t e).1).mpr (g.1.symm.trans (B.kin t e))
theorem Bunch.allSum (B : Bunch n ts) (g : Good n 11 (ts.headD []) u) : K9.allSum n u ts = toAll n ts u := by
  unfold K9.allSum toAll
  congr 1
  apply List.map_congr_left
  intro t ht
  rw [ap_dd B.n1 (g.1.symm.trans (B.kin t ht)), dd_comm]
theorem sum_le_mul (f : Tx → Nat) (b : Nat) : ∀ ts : List Tx, (∀ t ∈ ts, f t ≤ b) → (ts.map f).sum ≤ ts.length * b
  | [], _ => by simp
  | t :: ts, h => by
    have := sum_le_mul f b ts fun x hx => h x (List.mem_cons_of_mem _ hx)
    have h2 := h t List.mem_cons_self
    rw [List.map_cons, List.sum_cons, List.length_cons, Nat.succ_mul]
    omega
theorem Bunch.few (B : Bunch n ts) (g : Good n 11 (ts.headD []) u) : toAll n ts u ≤ 1000 := by
  have := sum_le_mul (fun t => dd n t u) 19 ts fun t ht => by
    have h := dd_le B.n1 ((B.kin t ht).symm.trans g.1)
    have h2 := (B.ok t ht).2
    have h3 := g.2.2
    show dd n t u ≤ 19
    omega
  have h4 := B.l4
  unfold toAll
  omega
theorem Bunch.least (B : Bunch n ts) (g : Good n 11 (ts.headD []) u) : u = midT n ts ∨ (PySem.W.dataLt (keyM (toAll n ts (midT n ts)) (midT n ts)) (keyM (toAll n ts u) u) = true ∧ PySem.W.dataLt (keyM (toAll n ts u) u) (keyM (toAll n ts (midT n ts)) (midT n ts)) = false) := by
  obtain ⟨a, b⟩ := mid_best B.n1 B.ne (fun t ht => (B.ok t ht).1) B.kin g.1 g.2.1
  by_cases e : u = midT n ts
  · exact .inl e
  · right
    have h : toAll n ts (midT n ts) < toAll n ts u ∨ toAll n ts (midT n ts) = toAll n ts u ∧ (midT n ts).length < u.length := by
      rcases Nat.lt_or_ge (toAll n ts (midT n ts)) (toAll n ts u) with z | z
      · exact .inl z
      · have e1 : toAll n ts u = toAll n ts (midT n ts) := by omega
        obtain ⟨c, d⟩ := b e1
        refine .inr ⟨e1.symm, ?_⟩
        rcases Nat.lt_or_ge (midT n ts).length u.length with z2 | z2
        · exact z2
        · exact absurd (d (by omega)) e
    exact ⟨keyM_lt h, keyM_ge (h.elim .inl fun z => .inr ⟨z.1.symm, z.2⟩)⟩
end
section
variable {K : PySem.W.Frag} {σ : L2.St} {H : Hp} {te ta tb td ty : TE} {D : Ends} {tz : TS}
theorem q_lockAsgL {d : Addr} {kvs : List (Tx × V)} {i : Nat} {xs : List V} (hd : H d = some (dD kvs)) (h : ∀ od, EvL te σ (upd H d (.frz od (dD kvs))) xs) (k : ∀ p H1, H p = none → Ex H H1 → H1 p = some (.lst xs) → tz D (σ.set i (some (.ref p))) H1) : tSeq (tLock (tAsg te (gName i))) tz D σ H :=
  ⟨d, dD kvs, hd, trivial, fun od => h od _ (Ex.refl _) _ fun p H2 hp e2 hx => by
    have hpd : p ≠ d := fun z => by rw [z, upd_same] at hp; cases hp
    refine ⟨e2 _ _ upd_same, k p _ ?_ (ex_unl hd e2) (by rw [upd_other hpd]; exact hx)⟩
    rw [upd_other hpd] at hp
    exact hp⟩
theorem rd_mono {H' : Hp} {a : Addr} {u : HO} (h : Rd H a u) (e : Ex H H') : Rd H' a u := h.elim (fun z => .inl (e _ _ z)) fun ⟨o, z⟩ => .inr ⟨o, e _ _ z⟩
theorem ev_niR {a : Addr} {t : Tx} {kvs : List (Tx × V)} (h : Ev ty σ H (tv t)) (h1 : Ev td σ H (.ref a)) (ha : Rd H a (dD kvs)) : Ev (tDNotIn ty td) σ H (.bl (!(lookT kvs t).isSome)) := fun H1 e Q q =>
  h H1 e _ fun H2 e2 => h1 H2 (e.trans e2) _ fun H3 e3 => ⟨a, _, rfl, dget_R (rd_mono ha (e.trans (e2.trans e3))) t, q H3 (e2.trans e3)⟩
theorem ev_likeV {t1 t2 : TE} {ds : List PyData} {p : Addr} {xs : List V} (h1 : Ev t1 σ H (.ref p)) (hx : H p = some (.lst xs)) (hd : DpAll K H xs ds) (h2 : EvLD K t2 σ H ds) (hs : ShD 10 1000000 (.list ds)) : Ev (tCl (spLike K) (tCons t1 (tCons t2 tNil))) σ H (.bl true) := fun H1 e Q q =>
  h1 H1 e _ fun H2 e2 => h2 H2 (e.trans e2) _ fun p2 ys H3 hp2 e3 hy hd2 => ⟨p, p2, .list ds, rfl, .lst (SqL.of ((e.trans (e2.trans e3)) _ _ hx)) (DpAll.mono (e.trans (e2.trans e3)) hd), .lst (SqL.of hy) hd2, hs, fun H4 e4 => q H4 (e2.trans (e3.trans e4))⟩
theorem key_row {v : V} {s : Nat} {u : Tx} (h : Dp K H v (keyM s u)) : ∃ a, v = .ref a ∧ SqT K H a [iv s, iv u.length, tv u] := by
  unfold keyM at h
  cases h with
  | @tup a _ _ hs has =>
    cases has with
    | cons h1 h2 => cases h2 with
      | cons h3 h4 => cases h4 with
        | cons h5 h6 =>
          cases h6; cases h1; cases h3; cases h5
          exact ⟨a, rfl, hs⟩
theorem dpa_take : ∀ {vs : List V} {ds : List PyData} (i : Nat), DpAll K H vs ds → DpAll K H (vs.take i) (ds.take i)
  | _, _, 0, h => .nil
  | _, _, _ + 1, .nil => .nil
  | _, _, i + 1, .cons h hs => .cons h (dpa_take i hs)
end
end K9
namespace K9
open PySem PySem.Spec PyProof.Rows L2 Evl
local macro_rules | `(tactic| walk_at "ev") => `(tactic| first
  | with_reducible exact ev_c
  | ((with_reducible refine' ev_var ?k0); (case k0 => exact rfl))
  | with_reducible assumption
  | ((with_reducible refine' ev_lenS ?k0 ?k1); (case k0 => walk_at "ev"); (case k1 => walk_at "sz"))
  | ((with_reducible refine' ev_I0 ?k0 ?k1); (case k0 => walk_at "ev"); (case k1 => walk_at "ev"))
  | ((with_reducible refine' ev_I ?k0 ?k1 ?k2); (case k0 => walk_at "ev"); (case k1 => walk_at "ev"); (case k2 => walk_at "sz"))
  | ((with_reducible refine' ev_eq ?k0 ?k1 ?k2); (case k0 => walk_at "ev"); (case k1 => walk_at "ev"); (case k2 => walk_at "sz"))
  | ((with_reducible refine' ev_ne ?k0 ?k1 ?k2); (case k0 => walk_at "ev"); (case k1 => walk_at "ev"); (case k2 => walk_at "sz"))
  | ((with_reducible refine' ev_slTo ?k0 ?k1 ?k2 ?k3); (case k0 => walk_at "ev"); (case k1 => walk_at "ev"); (case k2 => walk_at "sz"); (case k3 => walk_at "sz"))
  | ((with_reducible refine' ev_slFrom ?k0 ?k1 ?k2 ?k3); (case k0 => walk_at "ev"); (case k1 => walk_at "ev"); (case k2 => walk_at "sz"); (case k3 => walk_at "sz"))
  | ((with_reducible refine' ev_slMid ?k0 ?k1 ?k2 ?k3 ?k4 ?k5); (case k0 => walk_at "ev"); (case k1 => walk_at "ev"); (case k2 => walk_at "ev"); (case k3 => walk_at "sz"); (case k4 => walk_at "sz"); (case k5 => walk_at "sz"))
  | ((with_reducible refine' ev_addS ?k0 ?k1 ?k2); (case k0 => walk_at "ev"); (case k1 => walk_at "ev"); (case k2 => walk_at "sz"))
  | ((with_reducible refine' ev_cl ?k0 ?k1); (case k0 => walk_at "ea"); (case k1 => walk_at "sp"))
  | ((with_reducible refine' ev_notV ?k0); (case k0 => walk_at "ev"))
  | ((with_reducible refine' ev_un ?k0 ru_neg); (case k0 => walk_at "ev")))
local macro_rules | `(tactic| walk_at "ea") => `(tactic| first
  | with_reducible exact ea_nil
  | ((with_reducible refine' ea_cons ?k0 ?k1); (case k0 => walk_at "ev"); (case k1 => walk_at "ea")))
local macro_rules | `(tactic| walk_at "et") => `(tactic| first
  | with_reducible assumption
  | ((with_reducible refine' et_test ?k0); (case k0 => walk_at "ev"))
  | ((with_reducible refine' et_B ?k0); (case k0 => walk_at "ev"))
  | ((with_reducible refine' et_not ?k0); (case k0 => walk_at "et")))
local macro_rules | `(tactic| walk_at "sz") => `(tactic| first
  | rfl
  | omega
  | (simp only [List.length_take, List.length_drop, List.length_append]; omega)
  | (constructor <;> omega)
  | assumption)
local macro_rules | `(tactic| walk_at "sp") => `(tactic| first | assumption)

/-- the tables of the fewest deeds from each -/
def Fars (H : Hp) (af : Addr) (n : Nat) (ts : List Tx) (fl : List (Addr × List Tx)) : Prop := H af = some (.lst (fl.map fun p => V.ref p.1)) ∧ fl.length = ts.length ∧ ∀ i (h1 : i < fl.length) (h2 : i < ts.length), H fl[i].1 = some (dD (distD n ts[i] fl[i].2)) ∧ FarOf n 11 ts[i] fl[i].2
theorem Fars.mono {H H' : Hp} {af : Addr} {n : Nat} {ts : List Tx} {fl : List (Addr × List Tx)} (h : Fars H af n ts fl) (e : Ex H H') : Fars H' af n ts fl := ⟨e _ _ h.1, h.2.1, fun i h1 h2 => ⟨e _ _ (h.2.2 i h1 h2).1, (h.2.2 i h1 h2).2⟩⟩
theorem getD_ref {fl : List (Addr × List Tx)} {i : Nat} (h : i < fl.length) : (fl.map fun p => V.ref p.1).getD i .non = .ref fl[i].1 := by
  rw [List.getD_eq_getElem?_getD, List.getElem?_map, List.getElem?_eq_getElem h]; rfl
section
variable {P : Program} {w : World} {K : PySem.W.Frag} {mg : Str → Option Value} {base : Heap}
def spMr (K : PySem.W.Frag) : Sp := fun vs H Q _ => ∃ (ab af : Addr) (n : Nat) (ts : List Tx) (fl : List (Addr × List Tx)), vs = [.ref ab, iv n, .ref af] ∧ Bunch n ts ∧ SqT K H ab (ts.map tv) ∧ Fars H af n ts fl ∧ RetV (.bl true) H Q
theorem ok_middle_right (T : Topf mg) (F : FnP K mg "_law_middle_right" s_l_middle_right) (C_l_like : CalG P w K mg base CX0 1 "_law_like" ["_law_got", "_law_due"] (spLike K)) (C_middle_text : Cal P w K mg base CX0 6 "middle_text" ["texts", "size"] (spMt K)) (C_deeds_to_all : Cal P w K mg base CX0 6 "deeds_to_all" ["text", "texts", "size"] (spDta K)) : CalG P w K mg base CX0 7 "_law_middle_right" ["_law_bunch", "_law_wide", "_law_far_so"] (spMr K) := by
  refine cal_mkG F sc_l_middle_right (fun vs H Q E h => ?_) (fun _ _ _ _ _ _ us hl => match us, hl with | [_, _, _], _ => rfl) (fun f cdv A outer s H vs Q E hr hg h => ?_)
  · obtain ⟨ab, af, n, ts, fl, rfl, _⟩ := h; rfl
  · obtain ⟨ab, af, n, ts, fl, rfl, B, hab, hf, q⟩ := h
    refine ⟨_, (pss_cons (ps_lock (ps_setLc (i := 3) (own := [("_law_text", 7)]) rfl sc_l_middle_right.nd rfl rfl (sw_true rfl rfl rfl (by decide +kernel)) (pi_keys (pe_ix (k_ixL (K := K) rfl) (pv 2) pe_int (fun _ _ => rfl))) (blkOk_by (own := [("_law_text", 7)]) (N := N_l_middle_right) (sc := defScope s_l_middle_right) (by decide +kernel)) (fun _ _ _ _ _ => (pg_name (i := 7) sc_l_middle_right.nd rfl (Or.inr rfl))) (fun _ _ _ _ _ => pts_one (pt_cmpR (k_eqD (K := K) rfl hr.units) (pe_lc (own := [("_law_known", 8)]) rfl sc_l_middle_right.nd (k_pil (K := K) rfl (pv 2)) (blkOk_by (own := [("_law_known", 8)]) (N := N_l_middle_right) (sc := _) (by rfl)) (fun _ _ _ _ _ => (pg_name (i := 8) sc_l_middle_right.nd rfl (Or.inl rfl))) (fun _ _ _ _ _ => pts_one (pt_cmp (pc_dnotin (hu_of hr) (pv 7) (pv 8)))) (fun _ _ _ _ _ => pe_int)) (pe_lst pa_nil) (nomark _))) (fun _ _ _ _ _ => (pv 7))))
      (pss_cons (ps_setLc (i := 4) (own := [("_law_text", 7)]) rfl sc_l_middle_right.nd rfl rfl (sw_true rfl rfl rfl (by decide +kernel)) (k_pil (K := K) rfl (pv 3)) (blkOk_by (own := [("_law_text", 7)]) (N := N_l_middle_right) (sc := defScope s_l_middle_right) (by decide +kernel)) (fun _ _ _ _ _ => (pg_name (i := 7) sc_l_middle_right.nd rfl (Or.inr rfl))) (fun _ _ _ _ _ => pts_nil) (fun _ _ _ _ _ => (pe_tup (pa_cons (pe_callB (k_sum (K := K) rfl rfl) (by rfl) T.b_sum (by decide +kernel) (pa_cons (pe_lc (own := [("_law_known", 8)]) rfl sc_l_middle_right.nd (k_pil (K := K) rfl (pv 2)) (blkOk_by (own := [("_law_known", 8)]) (N := N_l_middle_right) (sc := _) (by rfl)) (fun _ _ _ _ _ => (pg_name (i := 8) sc_l_middle_right.nd rfl (Or.inl rfl))) (fun _ _ _ _ _ => pts_nil) (fun _ _ _ _ _ => (pe_dget (hu_of hr) (pv 8) (pv 7) (fun _ _ => rfl)))) pa_nil)) (pa_cons (pe_callB call_len_str (by rfl) T.b_len (by decide +kernel) (pa_cons (pv 7) pa_nil)) (pa_cons (pv 7) pa_nil))))))
      (pss_cons (ps_set (i := 5) sc_l_middle_right.nd rfl (Or.inl rfl) (pe_callB (k_minD (K := K) rfl rfl hr.units) (by rfl) T.b_min (by decide +kernel) (pa_cons (pv 4) pa_nil)))
      (pss_cons (ps_if (pt_not (pt_val (pe_cG C_l_like (hr.mono (by decide)) hg rfl (pa_cons (pe_lst (pa_cons (pe_c C_middle_text (hr.mono (by decide)) rfl (pa_cons (pv 0) (pa_cons (pv 1) pa_nil))) (pa_cons (pe_c C_middle_text (hr.mono (by decide)) rfl (pa_cons (pv 0) (pa_cons (pv 1) pa_nil))) pa_nil))) (pa_cons (pe_lst (pa_cons (pe_ix (k_ixT (K := K) rfl) (pv 5) pe_int (fun _ _ => rfl)) (pa_cons (pe_ix (k_ixT (K := K) rfl) (pv 5) pe_int (fun _ _ => rfl)) pa_nil))) pa_nil))))) (pss_one (ps_ret pe_bl)) pss_nil)
      (pss_cons (ps_setLc (i := 6) (own := [("_law_row", 9)]) rfl sc_l_middle_right.nd rfl rfl (sw_true rfl rfl rfl (by decide +kernel)) (k_pil (K := K) rfl (pe_slice (k_slL (K := K) rfl) (pv 4) po_none (po_some pe_int))) (blkOk_by (own := [("_law_row", 9)]) (N := N_l_middle_right) (sc := defScope s_l_middle_right) (by decide +kernel)) (fun _ _ _ _ _ => (pg_name (i := 9) sc_l_middle_right.nd rfl (Or.inl rfl))) (fun _ _ _ _ _ => pts_nil) (fun _ _ _ _ _ => (pe_c C_deeds_to_all (hr.mono (by decide)) rfl (pa_cons (pe_ix (k_ixT (K := K) rfl) (pv 9) pe_int (fun _ _ => rfl)) (pa_cons (pv 0) (pa_cons (pv 1) pa_nil))))))
      (pss_one (ps_ret (pe_cG C_l_like (hr.mono (by decide)) hg rfl (pa_cons (pv 6) (pa_cons (pe_lc (own := [("_law_row", 9)]) rfl sc_l_middle_right.nd (k_pil (K := K) rfl (pe_slice (k_slL (K := K) rfl) (pv 4) po_none (po_some pe_int))) (blkOk_by (own := [("_law_row", 9)]) (N := N_l_middle_right) (sc := defScope s_l_middle_right) (by decide +kernel)) (fun _ _ _ _ _ => (pg_name (i := 9) sc_l_middle_right.nd rfl (Or.inl rfl))) (fun _ _ _ _ _ => pts_nil) (fun _ _ _ _ _ => (pe_ix (k_ixT (K := K) rfl) (pv 9) pe_int (fun _ _ => rfl)))) pa_nil)))))))))), ?_⟩
    have h1 := B.n1
    have h6 := B.n6
    have hl4 := B.l4
    have htl : 1 ≤ ts.length := List.length_pos_iff.mpr B.ne
    have hfl := hf.2.1
    have hbun : ∀ H', Ex H H' → Bun K H' ab ts := fun H' e => ⟨ex_t e hab, ⟨htl, by omega⟩, fun t ht => ⟨(B.ok t ht).1, by have := (B.ok t ht).2; omega⟩⟩
    have h0f : 0 < fl.length := by omega
    have hat : ∀ i (h : i < ts.length), ts[i] ∈ ts := fun i h => List.getElem_mem h
    have hhd : ts.headD [] = ts[0] := by
      cases ts with
      | nil => exact absurd rfl B.ne
      | cons a r => rfl
    obtain ⟨hd0, hfar0⟩ := hf.2.2 0 h0f htl
    have hus : ∀ u, u ∈ fl[0].2 ↔ Good n 11 (ts.headD []) u := fun u => by rw [hfar0.2 u, hhd]
    have hin : ∀ i (h : i < fl.length) u, u ∈ fl[0].2 → u ∈ fl[i].2 := fun i h u hu => ((hf.2.2 i h (by omega)).2.2 u).mpr ((B.good (hat i (by omega))).mpr ((hus u).mp hu))
    have hul : fl[0].2.length ≤ 2048 := kin_few (m := 10) (t := ts[0]) h1 _ hfar0.1 fun u hu => by
      obtain ⟨a, b, c⟩ := (hfar0.2 u).mp hu
      exact ⟨a, b, by omega⟩
    have hkeys : (distD n ts[0] fl[0].2).map (·.1) = fl[0].2 := distD_keys _ _ _
    have hdl : (distD n ts[0] fl[0].2).length = fl[0].2.length := by unfold distD; rw [List.length_map]
    have hsh : ∀ u ∈ fl[0].2, ShD 0 11 (tD u) := fun u hu => sh_tx ((hus u).mp hu).2.1 ((hus u).mp hu).2.2
    generalize hU : fl[0].2 = us at hus hin hul hkeys hdl hsh hd0 hfar0
    -- all texts that all come to
    refine q_lockAsgL (xs := us.map tv) hd0 (fun od => ?_) fun pe H1 hpe e1 hx1 => ?_
    · have hix : Ev (tOp (rIxL K) (tVar 2) (tC (.int 0))) (start N_l_middle_right [.ref ab, iv n, .ref af]) (upd H fl[0].1 (.frz od (dD (distD n ts[0] us)))) (.ref fl[0].1) := by
        have hne : af ≠ fl[0].1 := fun z => by
          have a := hf.1
          rw [z, hd0] at a
          cases a
        refine ev_op (ev_var (v := .ref af) rfl) ev_c (rv_ixL (SqL.of (xs := fl.map fun p => V.ref p.1) (by rw [upd_other hne]; exact hf.1)) (atI_nat (j := 0) ?_))
        rw [List.getElem?_map, List.getElem?_eq_getElem h0f]
        rfl
      have hS := src_keys (j := 7) (od := od) (kvs := distD n ts[0] us) hix upd_same
      rw [hkeys, hdl] at hS
      refine el_is (el_lc (vs := [7]) (fun _ => true) (fun i => tv (us.getD i [])) hS (by omega) (fun i _ => rfl) (fun i H7 e7 hi => ?_) (fun i H7 e7 hi _ => by rw [txs_at hi]; exact ev_var rfl)) (txs_map us tv)
      rw [txs_at hi]
      have hui := txs_in hi
      generalize us.getD i [] = u at hui
      have haf7 : H7 af = some (.lst (fl.map fun p => V.ref p.1)) := e7 _ _ (by
        rw [upd_other (fun z => by have a := hf.1; rw [z, hd0] at a; cases a)]
        exact hf.1)
      have hS2 := src_L (K := K) (j := 8) (tl := tVar 2) (σ := (wipe (start N_l_middle_right [.ref ab, iv n, .ref af]) [7]).set 7 (some (tv u))) (H := H7) (ev_var (v := .ref af) rfl) (SqL.of haf7)
      rw [List.length_map] at hS2
      refine et_is (et_B (ev_eqNN (l := []) (m := []) (el_is (el_lc (vs := [8]) (fun _ => false) (fun _ => iv 1) hS2 (by omega) (fun i _ => rfl) (fun k H8 e8 hk => ?_) (fun k H8 e8 hk hf => by cases hf)) (by unfold given; simp)) (el_lst (vs := []) ea_nil (Nat.le_of_ble_eq_true rfl)))) rfl
      rw [getD_ref hk]
      refine et_B (ev_is (ev_niR (t := u) (kvs := distD n (ts[k]'(by omega)) fl[k].2) (ev_var rfl) (ev_var rfl) ?_) ?_)
      · refine rd_mono ?_ (e7.trans e8)
        by_cases z : fl[k].1 = fl[0].1
        · have a := (hf.2.2 k hk (by omega)).1
          rw [z, hd0] at a
          have a := Option.some.inj a
          rw [z, ← a]
          exact .inr ⟨od, upd_same⟩
        · exact .inl (by rw [upd_other z]; exact (hf.2.2 k hk (by omega)).1)
      · rw [dist_isSome, decide_eq_true (hin k hk u hui)]
        rfl
    -- the sums
    have hg : ∀ u ∈ us, Good n 11 (ts.headD []) u := fun u hu => (hus u).mp hu
    have hf1 := hf.mono e1
    have hS := src_L (K := K) (j := 7) (tl := tVar 3) (σ := [some (.ref ab), some (iv n), some (.ref af), some (.ref pe), none, none, none, none, none, none]) (H := H1) (ev_var (v := .ref pe) rfl) (SqL.of hx1)
    rw [List.length_map] at hS
    refine q_asgLD (K := K) (ds := us.map fun u => keyM (toAll n ts u) u) ?_ fun ps xs4 H2 hps e2 hx4 hd4 => ?_
    · have hE := ld_lcF (K := K) (vs := [7]) (tt := tYes) (te := tTup (tCons (tCB (rSum K) (tCons (tLc (iList K (tVar 2)) (gName 8) tYes (tDGet (tVar 8) (tVar 7)) [8]) tNil)) (tCons (tCB (fun xs H Q => ∃ z, xs = [.str z] ∧ z.length ≤ sizeLine ∧ Q (.int z.length) H) (tCons (tVar 7) tNil)) (tCons (tVar 7) tNil)))) (fun _ => true) (fun i => .tup [iv (toAll n ts (us.getD i [])), iv (us.getD i []).length, tv (us.getD i [])]) (fun i => keyM (toAll n ts (us.getD i [])) (us.getD i [])) (fun i H' p h => .tup (SqT.of h) (.cons (.int _) (.cons (.int _) (.cons (.str _) .nil)))) hS (by omega) (fun i _ => rfl) (fun i H7 _ _ H8 _ Q q => q H8 (Ex.refl H8)) (fun i H7 e7 hi _ => by
        rw [txs_at hi]
        have hui := txs_in hi
        generalize us.getD i [] = u at hui
        have hf7 := hf1.mono e7
        have hlt := (hg u hui).2.2
        have hS2 := src_L (K := K) (j := 8) (tl := tVar 2) (σ := (wipe [some (.ref ab), some (iv n), some (.ref af), some (.ref pe), none, none, none, none, none, none] [7]).set 7 (some (tv u))) (H := H7) (ev_var (v := .ref af) rfl) (SqL.of hf7.1)
        rw [List.length_map, hfl] at hS2
        have hsum := ev_sumL (K := K) (ns := ts.map fun t => ((dd n t u : Nat) : Int)) (el_is (el_lc (tt := tYes) (te := tDGet (tVar 8) (tVar 7)) (vs := [8]) (fun _ => true) (fun k => V.int ((dd n (ts.getD k []) u : Nat) : Int)) hS2 (by omega) (fun i _ => rfl) (fun i H7 _ _ H8 _ Q q => q H8 (Ex.refl H8)) (fun k H8 e8 hk _ => by
          rw [getD_ref (by omega), show ts.getD k [] = ts[k] by rw [List.getD_eq_getElem?_getD, List.getElem?_eq_getElem hk]; rfl]
          exact ev_dget (t := u) (ev_var (v := .ref fl[k].1) rfl) (ev_var rfl) (e8 _ _ (hf7.2.2 k (by omega) hk).1) (dist_look (hin k (by omega) u hui)))) (by rw [txs_map ts fun t => V.int ((dd n t u : Nat) : Int), List.map_map]; rfl))
        have hcast : (ts.map fun t => ((dd n t u : Nat) : Int)).sum = ((toAll n ts u : Nat) : Int) := by
          have := sum_cast (ts.map fun t => dd n t u)
          rw [List.map_map] at this
          exact this
        rw [hcast] at hsum
        exact eu_tup (ea_cons hsum (ea_cons (ev_lenS (t := u) (ev_var rfl) (by omega)) (ea_cons (ev_var rfl) ea_nil))) (Nat.le_of_ble_eq_true rfl))
      have hm : ((List.range us.length).filter fun _ => true).map (fun i => keyM (toAll n ts (us.getD i [])) (us.getD i [])) = us.map fun u => keyM (toAll n ts u) u := by
        rw [List.filter_eq_self.mpr fun _ _ => rfl]
        refine List.ext_getElem (by simp) fun i h1 h2 => ?_
        rw [List.getElem_map, List.getElem_range, List.getElem_map, List.getD_eq_getElem?_getD, List.getElem?_eq_getElem (by simpa using h2)]
        rfl
      rw [hm] at hE
      exact hE
    -- the best
    have hmid : midT n ts ∈ us := (hus _).mpr B.mid
    obtain ⟨x, rest, hxr⟩ : ∃ x rest, us = x :: rest := by
      cases us with
      | nil => cases hmid
      | cons x r => exact ⟨x, r, rfl⟩
    have hmin : PySem.W.minD (keyM (toAll n ts x) x) (rest.map fun u => keyM (toAll n ts u) u) = keyM (toAll n ts (midT n ts)) (midT n ts) :=
      min_strict (fun u => keyM (toAll n ts u) u) (midT n ts) (keyM_irr _ _) rest x (fun u hu => B.least (hg u (by rw [hxr]; exact hu.elim (fun z => by rw [z]; exact List.mem_cons_self) fun z => List.mem_cons_of_mem _ z))) (by
        rw [hxr] at hmid
        exact (List.mem_cons.mp hmid).elim (fun z => .inl z.symm) .inr)
    refine q_asgD (K := K) (d := keyM (toAll n ts (midT n ts)) (midT n ts)) (fun H7 e7 Q7 q7 => ⟨_, rfl, ps, xs4, keyM (toAll n ts x) x, rest.map fun u => keyM (toAll n ts u) u, rfl, SqL.of (e7 _ _ hx4), by rw [hxr] at hd4; exact DpAll.mono e7 hd4, ?_, ?_, fun v hv => q7 v H7 (Ex.refl H7) (by rw [← hmin]; exact hv)⟩) fun vb H3 e3 hvb => ?_
    · have hk : ∀ y ∈ keyM (toAll n ts x) x :: rest.map (fun u => keyM (toAll n ts u) u), ∃ s u, y = keyM s u := fun y hy => by
        rcases List.mem_cons.mp hy with e | e
        · exact ⟨_, _, e⟩
        · obtain ⟨u, _, rfl⟩ := List.mem_map.mp e
          exact ⟨_, _, rfl⟩
      refine ⟨fun y hy z hz => ?_, fun y hy => ?_⟩
      · obtain ⟨s, u, rfl⟩ := hk y hy
        obtain ⟨s', u', rfl⟩ := hk z hz
        unfold keyM tD
        simp [PySem.W.alike, PySem.W.alikeAll]
      · obtain ⟨s, u, rfl⟩ := hk y hy
        unfold keyM
        exact fun z => by cases z
    · refine Nat.le_trans (dep_all (k := 1) fun y hy => ?_) (by decide)
      have : ∃ s u, y = keyM s u := by
        rcases List.mem_cons.mp hy with e | e
        · exact ⟨_, _, e⟩
        · obtain ⟨u, _, rfl⟩ := List.mem_map.mp e
          exact ⟨_, _, rfl⟩
      obtain ⟨s, u, rfl⟩ := this
      unfold keyM tD
      simp [PyData.depth, PyData.depthAll]
    obtain ⟨ra, rfl, hra⟩ := key_row hvb
    have hix2 : Ev (tOp (rIxT K) (tVar 5) (tC (.int 2))) [some (.ref ab), some (iv n), some (.ref af), some (.ref pe), some (.ref ps), some (.ref ra), none, none, none, none] H3 (tv (midT n ts)) := ev_op (ev_var (v := .ref ra) rfl) ev_c (rv_ixT hra (atI_nat (j := 2) rfl))
    have e03 := e1.trans (e2.trans e3)
    have hmv : midV n ts = tv (midT n ts) := if_pos B.allKin
    have hmt : Ev (tCl (spMt K) (tCons (tVar 0) (tCons (tVar 1) tNil))) [some (.ref ab), some (iv n), some (.ref af), some (.ref pe), some (.ref ps), some (.ref ra), none, none, none, none] H3 (tv (midT n ts)) := ev_cl (ea_cons (ev_var rfl) (ea_cons (ev_var rfl) ea_nil)) fun H5 e5 Q5 q5 E5 => ⟨ab, ts, n, rfl, hbun H5 (e03.trans e5), ⟨h1, h6⟩, by rw [hmv]; exact q5⟩
    refine q_when (b := false) (et_is (et_not (et_test (ev_like (ds := [tD (midT n ts), tD (midT n ts)]) (ld_lst (ad_cons (ed_tx hmt) (ad_cons (ed_tx hmt) ad_nil)) (Nat.le_of_ble_eq_true rfl)) (ld_lst (ad_cons (ed_tx hix2) (ad_cons (ed_tx hix2) ad_nil)) (Nat.le_of_ble_eq_true rfl)) ?_))) rfl) (fun z => by cases z) (fun _ H4 e4 => ?_)
    · exact (sh_lst (k := 0) (N := 11) (M := 100) (L := 2) (fun d hd => by
        rcases List.mem_cons.mp hd with e | e
        · rw [e]; exact hsh _ hmid
        · rw [List.mem_singleton] at e; rw [e]; exact hsh _ hmid) (Nat.le_of_ble_eq_true rfl) (by decide)).up (by decide) (by decide)
    -- from some of them to all
    have e24 := e3.trans e4
    have hx44 := e24 _ _ hx4
    have hd44 := DpAll.mono e24 hd4
    have hcut : cutV xs4 none (some 6) = xs4.take 6 := cutV_to xs4 6
    have hsl : ∀ (σ : L2.St) (H' : Hp), Ex H4 H' → σ[4]? = some (some (.ref ps)) → EvL (tSl (rSlL K) (tVar 4) tNoPart (tPart (tC (.int 6)))) σ H' (xs4.take 6) := fun σ H' e' hσ => by
      rw [← hcut]
      exact el_sl (ev_var hσ) Evl.eo_none (Evl.eo_some ev_c) (SqL.of (e' _ _ hx44))
    have hd6 := dpa_take 6 hd44
    rw [← List.map_take] at hd6
    have hl6 := dpa_len hd6
    rw [List.length_map] at hl6
    have hus6 : (us.take 6).length ≤ 6 := by rw [List.length_take]; omega
    have hrow : ∀ i (h : i < (xs4.take 6).length) H', Ex H4 H' → ∃ a, (xs4.take 6).getD i .non = .ref a ∧ SqT K H' a [iv (toAll n ts ((us.take 6).getD i [])), iv ((us.take 6).getD i []).length, tv ((us.take 6).getD i [])] := fun i h H' e' => by
      have hdi := dpa_get hd6 i h (by rw [List.length_map]; omega)
      rw [List.getElem_map] at hdi
      obtain ⟨a, ha, hs⟩ := key_row hdi
      refine ⟨a, by rw [getD_at h, ha], ?_⟩
      rw [List.getD_eq_getElem?_getD, List.getElem?_eq_getElem (show i < (us.take 6).length by omega)]
      exact ex_t e' hs
    have hin6 : ∀ i, i < (us.take 6).length → (us.take 6).getD i [] ∈ us := fun i h => List.take_subset _ _ (txs_in h)
    have hS6 := src_NL (K := K) (j := 9) (hsl [some (.ref ab), some (iv n), some (.ref af), some (.ref pe), some (.ref ps), some (.ref ra), none, none, none, none] H4 (Ex.refl _) rfl)
    refine q_asgL (xs := (us.take 6).map fun u => iv (toAll n ts u)) (el_is (el_lc (vs := [9]) (fun _ => true) (fun i => iv (toAll n ts ((us.take 6).getD i []))) hS6 (by omega) (fun i _ => rfl) (fun i H7 _ _ H8 _ Q q => q H8 (Ex.refl H8)) (fun i H7 e7 hi _ => ?_)) (by rw [hl6]; exact txs_map (us.take 6) fun u => iv (toAll n ts u))) fun p6 H5 hp6 e5 hx6 => ?_
    · obtain ⟨a, ha, hs⟩ := hrow i hi H7 e7
      rw [ha]
      have hgu := hg _ (hin6 i (by omega))
      generalize (us.take 6).getD i [] = u at hs hgu
      refine ev_cl (ea_cons (ev_op (ev_var (v := .ref a) rfl) ev_c (rv_ixT hs (atI_nat (j := 2) rfl))) (ea_cons (ev_var rfl) (ea_cons (ev_var rfl) ea_nil))) fun H8 e8 Q8 q8 E8 => ⟨u, ab, ts, n, rfl, hgu.2.1, by have := hgu.2.2; omega, hbun H8 (e03.trans (e4.trans (e7.trans e8))), ⟨h1, h6⟩, ?_⟩
      have : allV n u ts = iv (toAll n ts u) := by unfold allV; rw [if_pos (B.allKin2 hgu), B.allSum hgu]
      rw [this]
      exact q8
    · have hS7 := src_NL (K := K) (j := 9) (hsl [some (.ref ab), some (iv n), some (.ref af), some (.ref pe), some (.ref ps), some (.ref ra), some (.ref p6), none, none, none] H5 e5 rfl)
      have hints : ∀ H', DpAll K H' ((us.take 6).map fun u => iv (toAll n ts u)) ((us.take 6).map fun u => nD (toAll n ts u)) := fun H' => dpa_map fun a _ => .int _
      refine s_ret (v := .bl true) (ev_likeV (ds := (us.take 6).map fun u => nD (toAll n ts u)) (ev_var (v := .ref p6) rfl) hx6 (hints _) (ld_el (el_is (el_lc (vs := [9]) (fun _ => true) (fun i => iv (toAll n ts ((us.take 6).getD i []))) hS7 (by omega) (fun i _ => rfl) (fun i H7 _ _ H8 _ Q q => q H8 (Ex.refl H8)) (fun i H7 e7 hi _ => ?_)) (by rw [hl6]; exact txs_map (us.take 6) fun u => iv (toAll n ts u))) (hints _)) ?_) fun H6 e6 => q H6 (e03.trans (e4.trans (e5.trans e6)))
      · obtain ⟨a, ha, hs⟩ := hrow i hi H7 (e5.trans e7)
        rw [ha]
        exact ev_op (ev_var (v := .ref a) rfl) ev_c (rv_ixT hs (atI_nat (j := 0) rfl))
      · refine (sh_lst (k := 0) (N := 11) (M := 1000) (L := 6) (fun d hd => ?_) (by rw [List.length_map]; exact hus6) (by decide)).up (by decide) (by decide)
        obtain ⟨u, hu, rfl⟩ := List.mem_map.mp hd
        exact sh_nat (by have := B.few (hg u (List.take_subset _ _ hu)); omega)
end
end K9
namespace K9
/-! Bare texts, few texts between, sorting by hand; plain Lean. -/
theorem bare_facts {n : Nat} (h1 : 1 ≤ n) : ∀ (k : Nat) (t : Tx), t.length ≤ k → Ok t → Ok (bareM n t) ∧ Kin n (bareM n t) t ∧ (bareM n t).length ≤ t.length
  | k, t, hz, ho => by
    cases hd : dbls n t with
    | nil => rw [bare_nil hd]; exact ⟨ho, Kin.refl n t, Nat.le_refl _⟩
    | cons p r =>
      have hp : isdb n t p = true := mem_dbls.mp (by rw [hd]; exact List.mem_cons_self)
      have hl := und_len hp
      cases k with
      | zero => omega
      | succ k =>
        rw [bare_cons h1 hd]
        obtain ⟨a, b, c⟩ := bare_facts h1 k (und n t p) (by omega) (und_ok ho)
        exact ⟨a, b.trans (cop1_kin h1 (und_cop1 hp)), by omega⟩
theorem prod_le {n : Nat} (h1 : 1 ≤ n) : ∀ (a b : List Nat) (c : Int), 0 ≤ c → (∀ m ∈ List.zipWith (fun (a b : Nat) => (a : Int) - (b : Int)) a b, 0 ≤ m) → (List.zipWith (fun (a b : Nat) => (a : Int) - (b : Int)) a b).foldl (fun c m => c * (m / (n : Int) + 1)) c ≤ c * 2 ^ a.sum
  | [], b, c, hc, _ => by simp
  | x :: a, [], c, hc, _ => by
    show c ≤ c * 2 ^ (x :: a).sum
    have h2 : (1 : Int) ≤ 2 ^ (x :: a).sum := by
      have : 0 < 2 ^ (x :: a).sum := Nat.pow_pos (by decide)
      have h3 : ((2 ^ (x :: a).sum : Nat) : Int) = 2 ^ (x :: a).sum := by push_cast; rfl
      omega
    calc c = c * 1 := (Int.mul_one c).symm
      _ ≤ c * 2 ^ (x :: a).sum := Int.mul_le_mul_of_nonneg_left h2 hc
  | x :: a, y :: b, c, hc, h => by
    have hm : 0 ≤ (x : Int) - (y : Int) := h _ (by simp)
    show (List.zipWith _ a b).foldl _ (c * (((x : Int) - (y : Int)) / (n : Int) + 1)) ≤ _
    have hq0 : 0 ≤ ((x : Int) - (y : Int)) / (n : Int) := Int.ediv_nonneg hm (by omega)
    have hq : ((x : Int) - (y : Int)) / (n : Int) ≤ (x : Int) - (y : Int) := Int.ediv_le_self _ hm
    have hx : (x : Int) + 1 ≤ 2 ^ x := by
      have : x < 2 ^ x := Nat.lt_two_pow_self
      have h3 : ((2 ^ x : Nat) : Int) = 2 ^ x := by push_cast; rfl
      omega
    have hc2 : 0 ≤ c * (((x : Int) - (y : Int)) / (n : Int) + 1) := Int.mul_nonneg hc (by omega)
    have ih := prod_le h1 a b _ hc2 fun m hm => h m (List.mem_cons_of_mem _ hm)
    have h4 : c * (((x : Int) - (y : Int)) / (n : Int) + 1) ≤ c * 2 ^ x := Int.mul_le_mul_of_nonneg_left (by omega) hc
    have h5 : (0 : Int) ≤ 2 ^ a.sum := by
      have h3 : ((2 ^ a.sum : Nat) : Int) = 2 ^ a.sum := by push_cast; rfl
      rw [← h3]
      exact Int.natCast_nonneg _
    calc _ ≤ _ := ih
      _ ≤ c * 2 ^ x * 2 ^ a.sum := Int.mul_le_mul_of_nonneg_right h4 h5
      _ = c * 2 ^ (x :: a).sum := by rw [List.sum_cons, Int.mul_assoc, ← Int.pow_add]
theorem bt_few {n : Nat} (h1 : 1 ≤ n) {l u : Tx} (hl : l.length ≤ 11) (hd : doesM n l u = true) : betwM n l u ≤ 1024 := by
  have h := prod_le h1 (rns n l) (rns n u) 1 (by decide) (does_pos hd)
  have hs : (rns n l).sum ≤ 10 := by
    by_cases hn : l.length < n
    · have : rns n l = [] := by unfold rns; rw [if_pos hn]
      rw [this]; decide
    · have := rns_sum hn
      omega
  have h2 : 2 ^ (rns n l).sum ≤ 2 ^ 10 := Nat.pow_le_pow_right (by decide) hs
  have h3 : ((2 ^ (rns n l).sum : Nat) : Int) = 2 ^ (rns n l).sum := by push_cast; rfl
  have h4 : betwM n l u ≤ 1 * 2 ^ (rns n l).sum := h
  have h5 : (2 : Nat) ^ 10 = 1024 := rfl
  omega
/-! ### sorting by hand -/
def insN (x : Nat) : List Nat → List Nat
  | [] => [x]
  | y :: l => if x ≤ y then x :: y :: l else y :: insN x l
def isrt : List Nat → List Nat
  | [] => []
  | x :: l => insN x (isrt l)
theorem insN_perm (x : Nat) : ∀ l : List Nat, (insN x l).Perm (x :: l)
  | [] => List.Perm.refl _
  | y :: l => by
    unfold insN
    split
    · exact List.Perm.refl _
    · exact ((insN_perm x l).cons y).trans (List.Perm.swap x y l)
theorem isrt_perm : ∀ l : List Nat, (isrt l).Perm l
  | [] => List.Perm.refl _
  | x :: l => (insN_perm x (isrt l)).trans ((isrt_perm l).cons x)
theorem insN_sorted (x : Nat) : ∀ l : List Nat, l.Pairwise (· ≤ ·) → (insN x l).Pairwise (· ≤ ·)
  | [], _ => by unfold insN; simp
  | y :: l, h => by
    obtain ⟨a, b⟩ := List.pairwise_cons.mp h
    unfold insN
    split
    · rename_i hxy
      refine List.pairwise_cons.mpr ⟨fun z hz => ?_, h⟩
      rcases List.mem_cons.mp hz with e | e
      · rw [e]; exact hxy
      · exact Nat.le_trans hxy (a z e)
    · rename_i hxy
      refine List.pairwise_cons.mpr ⟨fun z hz => ?_, insN_sorted x l b⟩
      rcases List.mem_cons.mp ((insN_perm x l).mem_iff.mp hz) with e | e
      · rw [e]; omega
      · exact a z e
theorem isrt_sorted : ∀ l : List Nat, (isrt l).Pairwise (· ≤ ·)
  | [] => List.Pairwise.nil
  | x :: l => insN_sorted x _ (isrt_sorted l)
theorem srtN_isrt (l : List Nat) : srtN l = isrt l := by
  refine List.Perm.eq_of_pairwise (le := fun a b => a ≤ b) (fun a b _ _ h1 h2 => Nat.le_antisymm h1 h2) (srtN_sorted l) (isrt_sorted l) ?_
  exact (srtN_perm l).trans (isrt_perm l).symm
theorem midN_isrt : midN = fun l => (isrt l).getD ((l.length - 1) / 2) 0 := by
  funext l
  unfold midN
  rw [srtN_isrt]
end K9
namespace K9
open PySem PySem.Spec PyProof.Rows L2 Evl
local macro_rules | `(tactic| walk_at "ev") => `(tactic| first
  | with_reducible exact ev_c
  | ((with_reducible refine' ev_var ?k0); (case k0 => exact rfl))
  | with_reducible assumption
  | ((with_reducible refine' ev_lenS ?k0 ?k1); (case k0 => walk_at "ev"); (case k1 => walk_at "sz"))
  | ((with_reducible refine' ev_I0 ?k0 ?k1); (case k0 => walk_at "ev"); (case k1 => walk_at "ev"))
  | ((with_reducible refine' ev_I ?k0 ?k1 ?k2); (case k0 => walk_at "ev"); (case k1 => walk_at "ev"); (case k2 => walk_at "sz"))
  | ((with_reducible refine' ev_eq ?k0 ?k1 ?k2); (case k0 => walk_at "ev"); (case k1 => walk_at "ev"); (case k2 => walk_at "sz"))
  | ((with_reducible refine' ev_ne ?k0 ?k1 ?k2); (case k0 => walk_at "ev"); (case k1 => walk_at "ev"); (case k2 => walk_at "sz"))
  | ((with_reducible refine' ev_slTo ?k0 ?k1 ?k2 ?k3); (case k0 => walk_at "ev"); (case k1 => walk_at "ev"); (case k2 => walk_at "sz"); (case k3 => walk_at "sz"))
  | ((with_reducible refine' ev_slFrom ?k0 ?k1 ?k2 ?k3); (case k0 => walk_at "ev"); (case k1 => walk_at "ev"); (case k2 => walk_at "sz"); (case k3 => walk_at "sz"))
  | ((with_reducible refine' ev_slMid ?k0 ?k1 ?k2 ?k3 ?k4 ?k5); (case k0 => walk_at "ev"); (case k1 => walk_at "ev"); (case k2 => walk_at "ev"); (case k3 => walk_at "sz"); (case k4 => walk_at "sz"); (case k5 => walk_at "sz"))
  | ((with_reducible refine' ev_addS ?k0 ?k1 ?k2); (case k0 => walk_at "ev"); (case k1 => walk_at "ev"); (case k2 => walk_at "sz"))
  | ((with_reducible refine' ev_cl ?k0 ?k1); (case k0 => walk_at "ea"); (case k1 => walk_at "sp"))
  | ((with_reducible refine' ev_notV ?k0); (case k0 => walk_at "ev"))
  | ((with_reducible refine' ev_un ?k0 ru_neg); (case k0 => walk_at "ev")))
local macro_rules | `(tactic| walk_at "ea") => `(tactic| first
  | with_reducible exact ea_nil
  | ((with_reducible refine' ea_cons ?k0 ?k1); (case k0 => walk_at "ev"); (case k1 => walk_at "ea")))
local macro_rules | `(tactic| walk_at "et") => `(tactic| first
  | with_reducible assumption
  | ((with_reducible refine' et_test ?k0); (case k0 => walk_at "ev"))
  | ((with_reducible refine' et_B ?k0); (case k0 => walk_at "ev"))
  | ((with_reducible refine' et_not ?k0); (case k0 => walk_at "et")))
local macro_rules | `(tactic| walk_at "sz") => `(tactic| first
  | rfl
  | omega
  | (simp only [List.length_take, List.length_drop, List.length_append]; omega)
  | (constructor <;> omega)
  | assumption)
local macro_rules | `(tactic| walk_at "sp") => `(tactic| first | assumption)

theorem passF {X : Cx} : Passes (L2.CX X.prog X.w) X (fun _ _ _ => False) := fun _ _ _ _ _ _ _ ⟨_, _, _, _, _, _, _, _, _, _, _, _, z⟩ => z.elim
section
variable {T : List (Addr × Str)} {K : PySem.W.Frag} {m c g : Addr} {k k' k1 n : Nat} {σ : L2.St} {H H0 H' : Hp} {te ta tb tm tn tl : TE} {ts tr : TA} {D : Ends} {tz tu : TS} {W : V → Prop} {tt : TT}
theorem es_ev {v : V} (h : Ev te σ (off m g H0) v) : EvS T m c g k k te σ H0 (· = v) := fun H e M Q q => h H e _ fun H2 e2 => q v H2 (off_of e2) (M.ext e2) rfl
/-- 1 + a drawn number -/
theorem es_one {lim : Nat} (h : EvS T m c g k k' te σ H0 (fun v => ∃ r : Nat, v = iv r ∧ r < lim)) : EvS T m c g k k' (tOp (rI0 fun i j => .int (i + j)) (tC (.int 1)) te) σ H0 (fun v => ∃ r : Nat, v = iv r ∧ 1 ≤ r ∧ r < lim + 1) :=
  es_is (es_opR (z := fun y => match y with | .int z => .int (1 + z) | _ => .non) ev_c h (fun y H8 hy => by obtain ⟨z, rfl, hz⟩ := hy; exact rv_I0)) (fun v hv => by
    obtain ⟨y, ⟨z, rfl, hz⟩, rfl⟩ := hv
    exact ⟨1 + z, (by show V.int _ = V.int _; congr 1), by omega, by omega⟩)
theorem es_text {long : Nat} (hm : Ev tm σ (off m g H0) (.ref m)) (h : ∀ H', Ex (off m g H0) H' → EvS T m c g k k1 te σ H' (fun v => ∃ r : Nat, v = iv r ∧ 1 ≤ r ∧ r < 7)) (hk : k1 ≤ 900000) (hl : long ≤ 5) : EvS T m c g k (k1 + 20) (tCl (spText_of T) (tCons tm (tCons te (tCons (tC (iv long)) tNil)))) σ H0 (fun v => ∃ t : Tx, v = tv t ∧ Ok t ∧ t.length ≤ long) := fun H e M Q q =>
  hm H e _ fun H1 e1 => h H1 (e.trans e1) H1 (off_ex m g H1) (M.ext e1) _ fun v H2 e2 M2 ⟨r, ev, h1, h7⟩ => ⟨m, c, g, k1, r, long, by rw [ev], M2, hk, by omega, by omega, hl, fun t H3 e3 M3 ho hz => q (tv t) H3 (off_trans (off_trans (off_of e1) e2) e3) M3 ⟨t, rfl, ho, hz⟩⟩
theorem es_bare {tw : TE} (h1 : 1 ≤ n) (h6 : n ≤ 6) (h : EvS T m c g k k' te σ H0 (fun v => ∃ t : Tx, v = tv t ∧ Ok t ∧ t.length ≤ 5)) (hn : Ev tw σ (off m g H0) (iv n)) : EvS T m c g k k' (tCl spBare (tCons te (tCons tw tNil))) σ H0 (fun v => ∃ t : Tx, v = tv t ∧ Ok t ∧ t.length ≤ 5 ∧ ∃ t1, Ok t1 ∧ Kin n t t1 ∧ t = rootM n t1) := fun H e M Q q =>
  h H e M _ fun v H1 e1 M1 ⟨t, ev, ho, hz⟩ => hn H1 (off_trans e e1) _ fun H2 e2 => ⟨t, n, by rw [ev], by omega, h1, h6, fun H3 e3 => by
    obtain ⟨a, b, c⟩ := bare_facts h1 t.length t (Nat.le_refl _) ho
    exact q _ H3 (e1.trans (e2.trans e3)) (M1.ext (e2.trans e3)) ⟨_, rfl, a, by omega, t, ho, b, bare_root h1 t.length t (Nat.le_refl _) ho⟩⟩
theorem es_grown {t : Tx} {most : Nat} {tt tw : TE} (hm : Ev tm σ (off m g H0) (.ref m)) (ht : Ev tt σ (off m g H0) (tv t)) (hn : Ev tw σ (off m g H0) (iv n)) (hk : k ≤ 900000) (ho : Ok t) (hz : t.length ≤ most) (h50 : most ≤ 50) (h1 : 1 ≤ n) (h6 : n ≤ 6) :
    EvS T m c g k (k + 20) (tCl (spGrown T) (tCons tm (tCons tt (tCons tw (tCons (tC (iv most)) tNil))))) σ H0 (fun v => ∃ u : Tx, v = tv u ∧ Ok u ∧ Kin n t u ∧ u.length ≤ most) := fun H e M Q q =>
  hm H e _ fun H1 e1 => ht H1 (e.trans e1) _ fun H2 e2 => hn H2 (e.trans (e1.trans e2)) _ fun H3 e3 => ⟨m, c, g, k, t, n, most, rfl, M.ext (e1.trans (e2.trans e3)), hk, ho, hz, h50, h1, h6, fun u H4 e4 M4 hu hk hl => q (tv u) H4 (off_trans (off_of (e1.trans (e2.trans e3))) e4) M4 ⟨u, rfl, hu, hk, hl⟩⟩
/-- a comprehension over range(a number from lo on) that draws -/
theorem tlcS2 {d lo lim j : Nat} {vs : List Nat} {Q : VK} (W : V → Prop) (h : EvS T m c g k k' tn σ H (fun v => ∃ r : Nat, v = iv r ∧ lo ≤ r ∧ r < lim)) (M : Mm T m c g k H) (hl : lim ≤ 40000) (hw : ∀ x, wipe ((wipe σ vs).set j (some x)) vs = wipe σ vs)
    (he : ∀ r i H', r < lim → i < r → Ex (off m g H) H' → EvS T m c g (k' + i * d) (k' + (i + 1) * d) te ((wipe σ vs).set j (some (iv i))) H' W)
    (q : ∀ r D xs H2, lo ≤ r → r < lim → Ex (off m g H) H2 → Mm T m c g (k' + r * d) H2 → H2 D = some (.lst xs) → xs.length = r → (∀ x ∈ xs, W x) → Q (.ref D) H2) : tLc (iRng1 (tCons tn tNil)) (gName j) tYes te vs σ H Q :=
  h H (off_ex m g H) M _ fun v H2 e2 M2 ⟨r, ev, hlo, hr⟩ => ⟨(r : Int), by rw [ev], by omega, by omega,
    lcS (n := r) (d := d) (Q := Q) W M2 (by omega) hw (fun i H' hi eB => he r i H' hr hi (off_trans e2 eB)) (fun D xs H3 hD e3 M3 hx hl hW => q r D xs H3 hlo hr (off_trans e2 e3) M3 hx hl hW)⟩
theorem txs_of {P : Tx → Prop} : ∀ {xs : List V}, (∀ x ∈ xs, ∃ u : Tx, x = tv u ∧ P u) → ∃ ts : List Tx, xs = ts.map tv ∧ ∀ t ∈ ts, P t
  | [], _ => ⟨[], rfl, fun _ h => by cases h⟩
  | x :: xs, h => by
    obtain ⟨u, e, hu⟩ := h x List.mem_cons_self
    obtain ⟨ts, e2, hts⟩ := txs_of fun y hy => h y (List.mem_cons_of_mem _ hy)
    refine ⟨u :: ts, by rw [List.map_cons, ← e2, e], fun t ht => ?_⟩
    rcases List.mem_cons.mp ht with z | z
    · rw [z]; exact hu
    · exact hts t z
theorem q_notS (h : EvS T m c g k k' te σ H (· = .bl true)) (M : Mm T m c g k H) (q : ∀ H2, Ex (off m g H) H2 → Mm T m c g k' H2 → tz D σ H2) : tSeq (tIfS (tNot (tTest te)) tu tNext) tz D σ H :=
  h H (off_ex m g H) M _ fun v H2 e2 M2 ev => ⟨true, ev, iteF (q H2 e2 M2)⟩
theorem q_notS2 {b : Bool} (hb : EvT tt σ H b) (h : b = true → ∀ H1, Ex H H1 → EvS T m c g k k' te σ H1 (· = .bl true)) (M : Mm T m c g k H) (hkk : k ≤ k') (q : ∀ H2, Ex (off m g H) H2 → Mm T m c g k' H2 → tz D σ H2) : tSeq (tIfS (tAnd tt (tNot (tTest te))) tu tNext) tz D σ H :=
  hb H (Ex.refl H) _ fun H1 e1 => by
    cases b with
    | true => exact iteT (h rfl H1 e1 H1 (off_ex m g H1) (M.ext e1) _ fun v H2 e2 M2 ev => ⟨true, ev, iteF (q H2 (off_trans (off_of e1) e2) M2)⟩)
    | false => exact iteF (iteF (q H1 (off_of e1) ((M.ext e1).le hkk)))
/-- the tables of the fewest deeds, one for each text of a tuple -/
theorem lcD {a : Addr} {txs : List Tx} {j : Nat} {vs : List Nat} {Q : VK} (h : Ev tl σ H (.ref a)) (hs : SqT K H a (txs.map tv)) (hz : txs.length ≤ 40000) (hw : ∀ x, wipe ((wipe σ vs).set j (some x)) vs = wipe σ vs)
    (he : ∀ t H', Ex H H' → t ∈ txs → ∀ Q : VK, (∀ p H2 us, H' p = none → Ex H' H2 → H2 p = some (dD (distD n t us)) → FarOf n 11 t us → Q (.ref p) H2) → te ((wipe σ vs).set j (some (tv t))) H' Q)
    (q : ∀ A fl H2, H A = none → Ex H H2 → Fars H2 A n txs fl → Q (.ref A) H2) : tLc (iTup K tl) (gName j) tYes te vs σ H Q :=
  h H (Ex.refl H) _ fun H1 e1 => ⟨a, rfl, ⟨txs.map tv, ex_t e1 hs⟩, fun A hA => by
    have hlen : (txs.map tv).length = txs.length := List.length_map _
    refine ⟨fun i mm H' => i + mm = txs.length ∧ Ex H1 H' ∧ ∃ fl : List (Addr × List Tx), H' A = some (.lst (fl.map fun p => V.ref p.1)) ∧ fl.length = i ∧ ∀ k (h1 : k < fl.length) (h2 : k < txs.length), fl[k].1 ≠ A ∧ H' fl[k].1 = some (dD (distD n txs[k] fl[k].2)) ∧ FarOf n 11 txs[k] fl[k].2, ⟨txs.length, by omega, Ex.new hA, [], upd_same, rfl, fun k h1 h2 => absurd h1 (Nat.not_lt_zero _)⟩, fun i mm H' hW => ?_⟩
    obtain ⟨em, eH, fl, hx, hl, hfl⟩ := hW
    have hs' := ex_t (e1.trans eH) hs
    by_cases hi : i < txs.length
    · refine .inr ⟨⟨txs.map tv, (txs.map tv)[i]'(by omega), hs', List.getElem?_eq_getElem (by omega)⟩, fun H'' => Ex H1 H'' ∧ ∃ fl : List (Addr × List Tx), H'' A = some (.lst (fl.map fun p => V.ref p.1)) ∧ fl.length = i + 1 ∧ ∀ k (h1 : k < fl.length) (h2 : k < txs.length), fl[k].1 ≠ A ∧ H'' fl[k].1 = some (dD (distD n txs[k] fl[k].2)) ∧ FarOf n 11 txs[k] fl[k].2, fun H'' p' => ⟨mm - 1, by omega, by omega, p'⟩, fun x H'' y => ?_⟩
      obtain ⟨rfl, y⟩ := y
      have ey := y (txs.map tv) hs'
      rw [List.getElem?_eq_getElem (by omega), List.getElem_map] at ey
      have ey := Option.some.inj ey
      subst ey
      refine ⟨hw _, ?_⟩
      show te _ _ _
      refine he txs[i] H'' (e1.trans eH) (List.getElem_mem hi) _ fun p H4 us hp e4 hpd hfo => ⟨_, e4 _ _ hx, sz60' (by rw [List.length_map, hl]; omega), Ex.mut (eH.trans e4) hA, fl ++ [(p, us)], by rw [upd_same, List.map_append]; rfl, by rw [List.length_append, hl]; rfl, fun k h1 h2 => ?_⟩
      have hpA : p ≠ A := fun z => by rw [z, hx] at hp; cases hp
      by_cases hk : k < fl.length
      · rw [List.getElem_append_left hk]
        obtain ⟨a1, a2, a3⟩ := hfl k hk h2
        exact ⟨a1, by rw [upd_other a1]; exact e4 _ _ a2, a3⟩
      · have : k = i := by rw [List.length_append, List.length_singleton] at h1; omega
        subst this
        have hg : (fl ++ [(p, us)])[k] = (p, us) := by
          rw [List.getElem_append_right (by omega)]
          simp [hl]
        rw [hg]
        exact ⟨hpA, by rw [upd_other hpA]; exact hpd, hfo⟩
    · have hi2 : i = txs.length := by omega
      refine .inl ⟨⟨txs.map tv, hs', by omega⟩, q A fl H' (fresh_back e1 hA) (e1.trans eH) ⟨hx, by omega, fun k h1 h2 => (hfl k h1 h2).2⟩⟩⟩
theorem q_par2 {i j : Nat} {v w' : V} (h : Ev ta σ H v) (h2 : Ev tb σ H w') (q : ∀ H1, Ex H H1 → tz D ((σ.set i (some v)).set j (some w')) H1) : tSeq (tPar i j (tCons ta (tCons tb tNil))) tz D σ H := h H (Ex.refl H) _ fun H1 e1 => h2 H1 e1 _ fun H2 e2 => ⟨_, _, rfl, q H2 (e1.trans e2)⟩
theorem atI_last {α : Type} {xs : List α} {x : α} (h : 0 < xs.length) (hx : xs[xs.length - 1]? = some x) : atI xs (-1) = some x := by
  have h1 : ixN xs.length (-1) = some (xs.length - 1) := by
    unfold ixN
    rw [if_neg (by decide), if_pos (by omega)]
    congr 1
    omega
  unfold atI
  rw [h1]
  exact hx
/-- over a new tuple of pairs of texts -/
theorem q_forPairs {te : TE} {i j : Nat} (ps : List (Tx × Tx)) (h : EvUD K te σ H (ps.map fun p => .tuple [tD p.1, tD p.2])) (Pv : Nat → L2.St → Hp → Prop) (h0 : ∀ H1, Ex H H1 → Pv 0 σ H1)
    (hs : ∀ H1, Ex H H1 → ∀ k σ' H' H'', (hk : k < ps.length) → Ex (noT H1) H' → Pv k σ' H' → Ex H' H'' → tu { D with nx := fun σ2 H2 => Ex (noT H1) H2 ∧ Pv (k + 1) σ2 H2, ct := fun σ2 H2 => Ex (noT H1) H2 ∧ Pv (k + 1) σ2 H2, bk := tz D } ((σ'.set i (some (tv ps[k].1))).set j (some (tv ps[k].2))) H'')
    (hd : ∀ H1, Ex H H1 → ∀ σ' H', Ex (noT H1) H' → Pv ps.length σ' H' → tz D σ' H') : tSeq (tFor (iTup K te) (gTup K 2 (gCons (gName i) (gCons (gName j) gNil))) tu) tz D σ H :=
  h H (Ex.refl H) _ fun p xs H1 hp e1 hx hd1 => by
    have hxl : xs.length = ps.length := by rw [dpa_len hd1, List.length_map]
    have hR : Runs (Itt K p) (gTup K 2 (gCons (gName i) (gCons (gName j) gNil))) ps.length (fun k σ => (σ.set i (some (tv (ps.getD k ([], [])).1))).set j (some (tv (ps.getD k ([], [])).2))) (noT H1) := fun H2 e2 => by
      have hx2 : H2 p = some (.tup xs) := e2 _ _ (noT_of hx (fun ps z => by cases z))
      have hd2 : DpAll K H2 xs (ps.map fun p => .tuple [tD p.1, tD p.2]) := by
        have : ∀ {vs : List V} {ds : List PyData}, DpAll K H1 vs ds → DpAll K (noT H1) vs ds := by
          intro vs ds hh
          induction ds generalizing vs with
          | nil => cases hh; exact .nil
          | cons d ds ih => cases hh with | cons a b => exact .cons (dp_noT a) (ih b)
        exact DpAll.mono e2 (this hd1)
      refine ⟨fun k hk => ⟨⟨xs, xs[k], SqT.of hx2, List.getElem?_eq_getElem (by omega)⟩, fun σ x H3 y => ?_⟩, ⟨xs, SqT.of hx2, by omega⟩⟩
      obtain ⟨rfl, y⟩ := y
      refine ⟨Ex.refl _, fun Q q => ?_⟩
      have ey := y xs (SqT.of hx2)
      have hk2 : k < xs.length := by omega
      rw [List.getElem?_eq_getElem hk2] at ey
      have ey := Option.some.inj ey
      have hdi := dpa_get hd2 k hk2 (by rw [List.length_map]; exact hk)
      rw [ey, List.getElem_map] at hdi
      have hg : ps.getD k ([], []) = ps[k] := by rw [List.getD_eq_getElem?_getD, List.getElem?_eq_getElem hk]; rfl
      dsimp only at q
      rw [hg] at q
      generalize ps[k] = t at hdi q
      cases hdi with
      | @tup a _ _ hs has =>
        cases has with
        | cons h1 h2 =>
          cases h2 with
          | cons h3 h4 =>
            cases h4
            cases h1
            cases h3
            exact ⟨a, _, rfl, hs, rfl, _, _, rfl, _, _, rfl, rfl, q⟩
    refine ⟨p, rfl, ⟨xs, SqT.of hx⟩, for_runs (D := { D with nx := tz D }) hR (fun k σ' H' => Ex (noT H1) H' ∧ Pv k σ' H') ⟨noT_ex H1, h0 H1 e1⟩ (fun i σ H p => p.1) (fun k σ' H' H'' hk p e => ?_) (fun σ' H' p => hd H1 e1 σ' H' p.1 p.2)⟩
    have hg : ps.getD k ([], []) = ps[k] := by rw [List.getD_eq_getElem?_getD, List.getElem?_eq_getElem hk]; rfl
    dsimp only
    rw [hg]
    exact hs H1 e1 k σ' H' H'' hk p.1 p.2 e
end
end K9
namespace K9
open PySem PySem.Spec PyProof.Rows L2 Evl
local macro_rules | `(tactic| walk_at "ev") => `(tactic| first
  | with_reducible exact ev_c
  | ((with_reducible refine' ev_var ?k0); (case k0 => exact rfl))
  | with_reducible assumption
  | ((with_reducible refine' ev_lenS ?k0 ?k1); (case k0 => walk_at "ev"); (case k1 => walk_at "sz"))
  | ((with_reducible refine' ev_I0 ?k0 ?k1); (case k0 => walk_at "ev"); (case k1 => walk_at "ev"))
  | ((with_reducible refine' ev_I ?k0 ?k1 ?k2); (case k0 => walk_at "ev"); (case k1 => walk_at "ev"); (case k2 => walk_at "sz"))
  | ((with_reducible refine' ev_eq ?k0 ?k1 ?k2); (case k0 => walk_at "ev"); (case k1 => walk_at "ev"); (case k2 => walk_at "sz"))
  | ((with_reducible refine' ev_ne ?k0 ?k1 ?k2); (case k0 => walk_at "ev"); (case k1 => walk_at "ev"); (case k2 => walk_at "sz"))
  | ((with_reducible refine' ev_slTo ?k0 ?k1 ?k2 ?k3); (case k0 => walk_at "ev"); (case k1 => walk_at "ev"); (case k2 => walk_at "sz"); (case k3 => walk_at "sz"))
  | ((with_reducible refine' ev_slFrom ?k0 ?k1 ?k2 ?k3); (case k0 => walk_at "ev"); (case k1 => walk_at "ev"); (case k2 => walk_at "sz"); (case k3 => walk_at "sz"))
  | ((with_reducible refine' ev_slMid ?k0 ?k1 ?k2 ?k3 ?k4 ?k5); (case k0 => walk_at "ev"); (case k1 => walk_at "ev"); (case k2 => walk_at "ev"); (case k3 => walk_at "sz"); (case k4 => walk_at "sz"); (case k5 => walk_at "sz"))
  | ((with_reducible refine' ev_addS ?k0 ?k1 ?k2); (case k0 => walk_at "ev"); (case k1 => walk_at "ev"); (case k2 => walk_at "sz"))
  | ((with_reducible refine' ev_cl ?k0 ?k1); (case k0 => walk_at "ea"); (case k1 => walk_at "sp"))
  | ((with_reducible refine' ev_notV ?k0); (case k0 => walk_at "ev"))
  | ((with_reducible refine' ev_un ?k0 ru_neg); (case k0 => walk_at "ev")))
local macro_rules | `(tactic| walk_at "ea") => `(tactic| first
  | with_reducible exact ea_nil
  | ((with_reducible refine' ea_cons ?k0 ?k1); (case k0 => walk_at "ev"); (case k1 => walk_at "ea")))
local macro_rules | `(tactic| walk_at "et") => `(tactic| first
  | with_reducible assumption
  | ((with_reducible refine' et_test ?k0); (case k0 => walk_at "ev"))
  | ((with_reducible refine' et_B ?k0); (case k0 => walk_at "ev"))
  | ((with_reducible refine' et_not ?k0); (case k0 => walk_at "et")))
local macro_rules | `(tactic| walk_at "sz") => `(tactic| first
  | rfl
  | omega
  | (simp only [List.length_take, List.length_drop, List.length_append]; omega)
  | (constructor <;> omega)
  | assumption)
local macro_rules | `(tactic| walk_at "sp") => `(tactic| first | assumption)

section
variable {T : List (Addr × Str)} {K : PySem.W.Frag} {m c g : Addr} {k k' k1 n : Nat} {σ : L2.St} {H H0 H' : Hp} {te ta tb tm tn tl tu : TE} {ts tr : TA} {D : Ends} {tz : TS} {W : V → Prop} {tt : TT}
theorem es_dr {a b : Tx} (ha : EvA ts σ (off m g H0) [.ref m, tv a, tv b, iv n, apV n a b]) (ho : Ok a) (hob : Ok b) (hza : a.length ≤ 11) (hzb : b.length ≤ 11) (h1 : 1 ≤ n) (h6 : n ≤ 6) (hk : k ≤ 700000) : EvS T m c g k (k + 200) (tCl (spDr T) ts) σ H0 (· = .bl true) := fun H e M Q q =>
  ha H e _ fun H1 e1 => ⟨m, c, g, k, a, b, n, rfl, ho, hob, hza, hzb, h1, h6, M.ext e1, hk, fun H2 e2 M2 => q _ H2 (off_trans (off_of e1) e2) M2 rfl⟩
theorem dist_ne {us : List Tx} {t : Tx} {x : Addr} {z : Int} : dD (distD n t us) ≠ mD c x z := fun e => by
  have h := HO.dK.inj e
  cases us with
  | nil => cases h
  | cons u r =>
    have := (List.cons.inj h).1
    have h2 := congrArg Prod.snd this
    cases h2
theorem fars_off {txs : List Tx} {fl : List (Addr × List Tx)} {A : Addr} (M : Mm T m c g k H) (h : Fars H A n txs fl) (hA : A ≠ g) : Fars (off m g H) A n txs fl := by
  obtain ⟨_, _, _, h1, h2, h3, _⟩ := M.ex
  refine ⟨off_at h.1 (fun z => by have a := h.1; rw [z, h1] at a; cases a) hA (fun ps z => by cases z), h.2.1, fun i hi hj => ⟨off_at (h.2.2 i hi hj).1 (fun z => ?_) (fun z => ?_) (fun ps z => by unfold dD at z; cases z), (h.2.2 i hi hj).2⟩⟩
  · have a := (h.2.2 i hi hj).1
    rw [z, h1] at a
    exact dist_ne (Option.some.inj a).symm
  · have a := (h.2.2 i hi hj).1
    rw [z, h3] at a
    unfold dD at a
    cases a
theorem btM_eq {n : Nat} {l e : Tx} (hd : doesM n l e = true) : btM n l e = btR n l e := by
  unfold btR
  rw [if_pos hd]
  unfold btM btL
  by_cases h : e.length < n
  · rw [if_pos h, if_pos h]
    unfold sortT
    simp
  · rw [if_neg h, if_neg h]
theorem btR_len {n : Nat} (h1 : 1 ≤ n) {l e : Tx} : ((btR n l e).length : Int) = if doesM n l e then betwM n l e else 0 := by
  unfold btR
  by_cases h : doesM n l e = true
  · rw [if_pos h, if_pos h]
    unfold sortT
    rw [List.length_mergeSort, bt_count h1 h]
  · rw [if_neg h, if_neg h]; rfl
theorem btR_mem {n : Nat} (h1 : 1 ≤ n) {l e x : Tx} (ho : Ok l) (hoe : Ok e) (hx : x ∈ btR n l e) : Ok x ∧ x.length ≤ l.length := by
  unfold btR at hx
  by_cases h : doesM n l e = true
  · rw [if_pos h] at hx
    unfold sortT at hx
    rw [List.mem_mergeSort] at hx
    obtain ⟨a, b, _⟩ := (bt_mem h1 ho hoe h).mp hx
    obtain ⟨i, hi⟩ := comes_undR h1 a l.length (Nat.le_refl _) ho b
    exact ⟨a, by have := undK_len hi; omega⟩
  · rw [if_neg h] at hx; cases hx
theorem btR_few {n : Nat} (h1 : 1 ≤ n) {l e : Tx} (hl : l.length ≤ 11) : (btR n l e).length ≤ 1024 := by
  have h := btR_len h1 (l := l) (e := e)
  by_cases hd : doesM n l e = true
  · rw [if_pos hd] at h
    have := bt_few h1 hl hd
    omega
  · rw [if_neg hd] at h
    omega
/-- an expression that may change the tables of code objects -/
def EvN (T : List (Addr × Str)) (te : TE) (σ : L2.St) (H : Hp) (P : V → Hp → Prop) : Prop := ∀ H1, Ex (noT H) H1 → LamX.Tabs T H1 → ∀ Q : VK, (∀ v H2, Ex (noT H1) H2 → LamX.Tabs T H2 → P v H2 → Q v H2) → te σ H1 Q
theorem q_lstN {i : Nat} {v2 : V} {P : V → Hp → Prop} (h : EvN T te σ H P) (hT : LamX.Tabs T H) (h2 : ∀ H1, Ex (noT H) H1 → Ev tb σ H1 v2)
    (q : ∀ p v H1 H2, Ex (noT H) H1 → P v H1 → Ex H1 H2 → LamX.Tabs T H2 → H2 p = some (.lst [v, v2]) → tz D (σ.set i (some (.ref p))) H2) : tSeq (tAsg (tLst (tCons te (tCons tb tNil))) (gName i)) tz D σ H :=
  h H (noT_ex H) hT _ fun v H1 e1 T1 hp => h2 H1 e1 H1 (Ex.refl H1) _ fun H2 e2 => ⟨Nat.le_of_ble_eq_true rfl, fun p hp2 => q p v H1 _ e1 hp (e2.trans (Ex.new hp2)) (T1.ext (e2.trans (Ex.new hp2))) upd_same⟩
theorem q_lstN2 {i : Nat} {v1 : V} {P : V → Hp → Prop} (h : Ev te σ H v1) (hT : LamX.Tabs T H) (h2 : EvN T tb σ H P)
    (q : ∀ p v H1 H2, Ex (noT H) H1 → P v H1 → Ex H1 H2 → LamX.Tabs T H2 → H2 p = some (.lst [v1, v]) → tz D (σ.set i (some (.ref p))) H2) : tSeq (tAsg (tLst (tCons te (tCons tb tNil))) (gName i)) tz D σ H :=
  h H (Ex.refl H) _ fun H1 e1 => h2 H1 ((noT_ex H).trans e1) (hT.ext e1) _ fun v H2 e2 T2 hp => ⟨Nat.le_of_ble_eq_true rfl, fun p hp2 => q p v H2 _ ((noT_mono e1).trans e2) hp (Ex.new hp2) (T2.ext (Ex.new hp2)) upd_same⟩
theorem en_bts {z : ExA} {l e : Tx} (h1 : 1 ≤ n) (h6 : n ≤ 6) (ho : Ok l) (hoe : Ok e) (hzl : l.length ≤ 60) (hze : e.length ≤ 60) (hfew : doesM n l e = true → betwM n l e ≤ 2000) (hl : Ev ta σ (noT H) (tv l)) (he : Ev tb σ (noT H) (tv e)) (hn : Ev tn σ (noT H) (iv n)) :
    EvN T (tCall (spBt T z) [] (fun _ _ _ => False) (tCons ta (tCons tb (tCons tn tNil)))) σ H (fun v H2 => ∃ p, v = .ref p ∧ H2 p = some (.tup ((btR n l e).map tv))) := fun H1 e1 T1 Q q =>
  (ea_cons hl (ea_cons he (ea_cons hn ea_nil))) H1 e1 _ fun H2 e2 => ⟨l, e, n, ⟨rfl, ho, hoe, hzl, hze, h1, h6⟩, T1.ext e2, by
    by_cases hd : doesM n l e = true
    · rw [if_pos hd, if_neg (by have := hfew hd; omega), btM_eq hd]
      exact fun p H3 e3 T3 hp => q _ H3 ((noT_mono e2).trans e3) T3 ⟨p, rfl, hp⟩
    · rw [if_neg hd]
      have hb : btR n l e = [] := if_neg hd
      exact fun p H3 e3 T3 hp => q _ H3 ((noT_mono e2).trans e3) T3 ⟨p, rfl, by rw [hb]; exact hp⟩⟩
theorem ev_clVU2 {sp : Sp} {xs : List V} {x y v : V} (h0 : Ev ta σ H x) (h : EvU tu σ H xs) (h2 : Ev tb σ H y) (hs : ∀ p H2, Ex H H2 → H2 p = some (.tup xs) → SpV sp [x, .ref p, y] H2 v) : Ev (tCl sp (tCons ta (tCons tu (tCons tb tNil)))) σ H v := fun H1 e Q q =>
  h0 H1 e _ fun H2 e2 => h H2 (e.trans e2) _ fun p H3 hp e3 hx => h2 H3 (e.trans (e2.trans e3)) _ fun H4 e4 => hs p H4 (e.trans (e2.trans (e3.trans e4))) (e4 _ _ hx) H4 (Ex.refl H4) Q (fun H5 e5 => q H5 (e2.trans (e3.trans (e4.trans e5)))) E0
/-- a held list and a new one, the same data -/
theorem ev_neLD {ds : List PyData} {p : Addr} {xs : List V} (h1 : Ev ta σ H (.ref p)) (hx : H p = some (.lst xs)) (hd : DpAll K H xs ds) (h2 : EvLD K tb σ H ds) (hf : Fit k (.list ds)) (he : PyData.eqv (.list ds) (.list ds) = true) (hk : k ≤ 64 := by decide) : Ev (tOp (rNeD K) ta tb) σ H (.bl false) := fun H1 e Q q =>
  h1 H1 e _ fun H2 e2 => h2 H2 (e.trans e2) _ fun p2 ys H3 hp2 e3 hy hd2 => ⟨.list ds, .list ds, .lst (SqL.of ((e.trans (e2.trans e3)) _ _ hx)) (DpAll.mono (e.trans (e2.trans e3)) hd), .lst (SqL.of hy) hd2, hf.shaped hk, hf.shaped hk, by rw [he]; exact q H3 (e2.trans e3)⟩
theorem q_tupOf {i : Nat} {P : List V → Hp → Prop} (h : ∀ Q : VK, (∀ A xs H2, H2 A = some (.lst xs) → P xs H2 → Q (.ref A) H2) → te σ H Q) (q : ∀ xs H2 p, P xs H2 → H2 p = none → tz D (σ.set i (some (.ref p))) (upd H2 p (.tup xs))) : tSeq (tAsg (tCB (rTupQ K) (tCons te tNil)) (gName i)) tz D σ H :=
  h _ fun A xs H2 hx hp => ⟨A, xs, rfl, .inl ⟨SqL.of hx, fun p hp2 => q xs H2 p hp hp2⟩⟩
theorem q_lcD {a : Addr} {txs : List Tx} {i j : Nat} {vs : List Nat} (h : Ev tl σ H (.ref a)) (hs : SqT K H a (txs.map tv)) (hz : txs.length ≤ 40000) (hw : ∀ x, wipe ((wipe σ vs).set j (some x)) vs = wipe σ vs)
    (he : ∀ t H', Ex H H' → t ∈ txs → ∀ Q : VK, (∀ p H2 us, H' p = none → Ex H' H2 → H2 p = some (dD (distD n t us)) → FarOf n 11 t us → Q (.ref p) H2) → te ((wipe σ vs).set j (some (tv t))) H' Q)
    (q : ∀ A fl H2, H A = none → Ex H H2 → Fars H2 A n txs fl → tz D (σ.set i (some (.ref A))) H2) : tSeq (tAsg (tLc (iTup K tl) (gName j) tYes te vs) (gName i)) tz D σ H := lcD (Q := fun v H1 => tz D (σ.set i (some v)) H1) h hs hz hw he (fun A fl H2 a b c => q A fl H2 a b c)
theorem far_call {ta : TA} {t : Tx} {Q : VK} (h : EvA ta σ H [tv t, iv n, .int 11]) (ho : Ok t) (hz : t.length ≤ 11) (h1 : 1 ≤ n) (h6 : n ≤ 6) (q : ∀ p H2 us, H p = none → Ex H H2 → H2 p = some (dD (distD n t us)) → FarOf n 11 t us → Q (.ref p) H2) : tCl spFar ta σ H Q :=
  h H (Ex.refl H) _ fun H2 e2 => ⟨t, n, 11, rfl, ho, hz, Nat.le_refl _, h1, h6, fun p H3 us hp e3 hx hf => q p H3 us (fresh_back e2 hp) (e2.trans e3) hx hf⟩
end
end K9
namespace K9
open PySem PySem.Spec PyProof.Rows L2 Evl
local macro_rules | `(tactic| walk_at "ev") => `(tactic| first
  | with_reducible exact ev_c
  | ((with_reducible refine' ev_var ?k0); (case k0 => exact rfl))
  | with_reducible assumption
  | ((with_reducible refine' ev_lenS ?k0 ?k1); (case k0 => walk_at "ev"); (case k1 => walk_at "sz"))
  | ((with_reducible refine' ev_I0 ?k0 ?k1); (case k0 => walk_at "ev"); (case k1 => walk_at "ev"))
  | ((with_reducible refine' ev_I ?k0 ?k1 ?k2); (case k0 => walk_at "ev"); (case k1 => walk_at "ev"); (case k2 => walk_at "sz"))
  | ((with_reducible refine' ev_eq ?k0 ?k1 ?k2); (case k0 => walk_at "ev"); (case k1 => walk_at "ev"); (case k2 => walk_at "sz"))
  | ((with_reducible refine' ev_ne ?k0 ?k1 ?k2); (case k0 => walk_at "ev"); (case k1 => walk_at "ev"); (case k2 => walk_at "sz"))
  | ((with_reducible refine' ev_slTo ?k0 ?k1 ?k2 ?k3); (case k0 => walk_at "ev"); (case k1 => walk_at "ev"); (case k2 => walk_at "sz"); (case k3 => walk_at "sz"))
  | ((with_reducible refine' ev_slFrom ?k0 ?k1 ?k2 ?k3); (case k0 => walk_at "ev"); (case k1 => walk_at "ev"); (case k2 => walk_at "sz"); (case k3 => walk_at "sz"))
  | ((with_reducible refine' ev_slMid ?k0 ?k1 ?k2 ?k3 ?k4 ?k5); (case k0 => walk_at "ev"); (case k1 => walk_at "ev"); (case k2 => walk_at "ev"); (case k3 => walk_at "sz"); (case k4 => walk_at "sz"); (case k5 => walk_at "sz"))
  | ((with_reducible refine' ev_addS ?k0 ?k1 ?k2); (case k0 => walk_at "ev"); (case k1 => walk_at "ev"); (case k2 => walk_at "sz"))
  | ((with_reducible refine' ev_cl ?k0 ?k1); (case k0 => walk_at "ea"); (case k1 => walk_at "sp"))
  | ((with_reducible refine' ev_notV ?k0); (case k0 => walk_at "ev"))
  | ((with_reducible refine' ev_un ?k0 ru_neg); (case k0 => walk_at "ev")))
local macro_rules | `(tactic| walk_at "ea") => `(tactic| first
  | with_reducible exact ea_nil
  | ((with_reducible refine' ea_cons ?k0 ?k1); (case k0 => walk_at "ev"); (case k1 => walk_at "ea")))
local macro_rules | `(tactic| walk_at "et") => `(tactic| first
  | with_reducible assumption
  | ((with_reducible refine' et_test ?k0); (case k0 => walk_at "ev"))
  | ((with_reducible refine' et_B ?k0); (case k0 => walk_at "ev"))
  | ((with_reducible refine' et_not ?k0); (case k0 => walk_at "et")))
local macro_rules | `(tactic| walk_at "sz") => `(tactic| first
  | rfl
  | omega
  | (simp only [List.length_take, List.length_drop, List.length_append]; omega)
  | (constructor <;> omega)
  | assumption)
local macro_rules | `(tactic| walk_at "sp") => `(tactic| first | assumption)

theorem lit {s : Str} {t : Tx} (h : s.cps.toList = t) : V.str s = tv t := by
  subst h
  rfl
def okB (t : Tx) : Bool := t.all fun c => decide (97 ≤ c) && decide (c < 103)
theorem okB_ok {t : Tx} (h : okB t = true) : Ok t := fun c hc => by
  have := List.all_eq_true.mp h c hc
  rw [Bool.and_eq_true, decide_eq_true_iff, decide_eq_true_iff] at this
  unfold Let
  omega
def BunC (ts : List Tx) : Bool := (decide (1 ≤ ts.length) && decide (ts.length ≤ 8)) && ts.all fun t => okB t && decide (t.length ≤ 60)
theorem bunC {K : PySem.W.Frag} {H : Hp} {p : Addr} {ts : List Tx} (h : BunC ts = true) (hs : SqT K H p (ts.map tv)) : Bun K H p ts := by
  unfold BunC at h
  simp only [Bool.and_eq_true, decide_eq_true_iff, List.all_eq_true] at h
  exact ⟨hs, h.1, fun t ht => ⟨okB_ok (h.2 t ht).1, (h.2 t ht).2⟩⟩
section
variable {T : List (Addr × Str)} {K : PySem.W.Frag} {k n : Nat} {σ : L2.St} {H : Hp} {te ta tb tc tn tu : TE} {ts : TA} {D : Ends} {tz ty : TS} {t2 : TT} {z : ExA}
theorem ev_lit {s : Str} {t : Tx} (h : s.cps.toList = t) : Ev (tC (.str s)) σ H (tv t) := ev_is ev_c (lit h)
theorem ev_rep {s : Str} {k : Int} {t : Tx} (h : (PySem.Txt.mul s k).cps.toList = t) (hl : s.length ≤ 16) (h0 : 0 ≤ k) (h1 : k ≤ 1048576) : Ev (tOp (fun x y H Q => ∃ s k, x = .str s ∧ y = .int k ∧ s.length ≤ 16 ∧ 0 ≤ k ∧ k ≤ 1048576 ∧ Q (.str (PySem.Txt.mul s k)) H) (tC (.str s)) (tC (.int k))) σ H (tv t) := ev_is (ev_repS ev_c ev_c hl h0 h1) (lit h)
theorem eu_is {xs ys : List V} (h : EvU te σ H xs) (e : xs = ys) : EvU te σ H ys := by subst e; exact h
theorem eu_rep {xs : List V} {k : Nat} (h : EvU ta σ H xs) (hx : xs ≠ []) (h2 : 2 ≤ k) (hk : k ≤ 1000) (hl : xs.length ≤ 1000) : EvU (tOp (rRepT K) ta (tC (.int (k : Int)))) σ H (List.replicate k xs).flatten := fun H1 e Q q =>
  h H1 e _ fun p H2 hp e2 hx2 => ⟨p, (k : Int), xs, rfl, rfl, SqT.of hx2, hx, by omega, by omega, hl, fun p2 hp2 => q p2 _ (fresh_back e2 hp2) (e2.trans (Ex.new hp2)) (by rw [Int.toNat_natCast]; exact upd_same)⟩
theorem eu_cat {xs ys : List V} (h : EvU ta σ H xs) (h2 : EvU tb σ H ys) (hx : xs ≠ []) (hy : ys ≠ []) (hz : xs.length + ys.length ≤ 100000) : EvU (tOp (rCatA K) ta tb) σ H (xs ++ ys) := fun H1 e Q q =>
  h H1 e _ fun p H2 hp e2 hx2 => h2 H2 (e.trans e2) _ fun p2 H3 hp2 e3 hy2 => ⟨p, p2, xs, ys, rfl, rfl, SqT.of (e3 _ _ hx2), SqT.of hy2, sz60 (by omega), fun w => absurd w hx, fun _ w => absurd w hy, fun _ _ r hr => q r _ (fresh_back (e2.trans e3) hr) ((e2.trans e3).trans (Ex.new hr)) upd_same⟩
theorem ev_mt {txs : List Tx} (h : EvU tu σ H (txs.map tv)) (hn : Ev tn σ H (iv n)) (hb : BunC txs = true) (h1 : 1 ≤ n) (h6 : n ≤ 6) : Ev (tCl (spMt K) (tCons tu (tCons tn tNil))) σ H (midV n txs) :=
  ev_clU2 h hn fun p H2 e2 hp H3 e3 Q q E => ⟨p, txs, n, rfl, bunC hb (SqT.of (e3 _ _ hp)), ⟨h1, h6⟩, q⟩
theorem ev_mtV {p : Addr} {txs : List Tx} (h : Ev tu σ H (.ref p)) (hp : H p = some (.tup (txs.map tv))) (hn : Ev tn σ H (iv n)) (hb : BunC txs = true) (h1 : 1 ≤ n) (h6 : n ≤ 6) : Ev (tCl (spMt K) (tCons tu (tCons tn tNil))) σ H (midV n txs) :=
  ev_cl (ea_cons h (ea_cons hn ea_nil)) fun H3 e3 Q q E => ⟨p, txs, n, rfl, bunC hb (SqT.of (e3 _ _ hp)), ⟨h1, h6⟩, q⟩
theorem ev_dta {txs : List Tx} {t : Tx} (h0 : Ev ta σ H (tv t)) (h : EvU tu σ H (txs.map tv)) (hn : Ev tn σ H (iv n)) (ho : okB t = true) (hz : t.length ≤ 60) (hb : BunC txs = true) (h1 : 1 ≤ n) (h6 : n ≤ 6) : Ev (tCl (spDta K) (tCons ta (tCons tu (tCons tn tNil)))) σ H (allV n t txs) :=
  ev_clVU2 h0 h hn fun p H2 e2 hp H3 e3 Q q E => ⟨t, p, txs, n, rfl, okB_ok ho, hz, bunC hb (SqT.of (e3 _ _ hp)), ⟨h1, h6⟩, q⟩
theorem ev_dtaV {p : Addr} {txs : List Tx} {t : Tx} (h0 : Ev ta σ H (tv t)) (h : Ev tu σ H (.ref p)) (hp : H p = some (.tup (txs.map tv))) (hn : Ev tn σ H (iv n)) (ho : okB t = true) (hz : t.length ≤ 60) (hb : BunC txs = true) (h1 : 1 ≤ n) (h6 : n ≤ 6) : Ev (tCl (spDta K) (tCons ta (tCons tu (tCons tn tNil)))) σ H (allV n t txs) :=
  ev_cl (ea_cons h0 (ea_cons h (ea_cons hn ea_nil))) fun H3 e3 Q q E => ⟨t, p, txs, n, rfl, okB_ok ho, hz, bunC hb (SqT.of (e3 _ _ hp)), ⟨h1, h6⟩, q⟩
def secB (a b : Tx) : Bool := okB a && okB b && decide (a.length ≤ 60) && decide (b.length ≤ 60)
theorem secC {a b : Tx} (h : secB a b = true) (h1 : 1 ≤ n) (h6 : n ≤ 6) : Sec [tv a, tv b, iv n] a b n := by
  unfold secB at h
  simp only [Bool.and_eq_true, decide_eq_true_iff] at h
  exact ⟨rfl, okB_ok h.1.1.1, okB_ok h.1.1.2, h.1.2, h.2, h1, h6⟩
theorem ev_bc {a b : Tx} (h : EvA ts σ H [tv a, tv b, iv n]) (hs : secB a b = true) (h1 : 1 ≤ n) (h6 : n ≤ 6) : Ev (tCl spBc ts) σ H (.int (if doesM n a b then betwM n a b else 0)) := ev_cl h fun H3 e3 Q q E => ⟨a, b, n, secC hs h1 h6, q⟩
theorem ev_dap {a b : Tx} (h : EvA ts σ H [tv a, tv b, iv n]) (hs : secB a b = true) (h1 : 1 ≤ n) (h6 : n ≤ 6) : Ev (tCl spDap ts) σ H (apV n a b) := ev_cl h fun H3 e3 Q q E => ⟨a, b, n, secC hs h1 h6, q⟩
theorem ev_lenD {ds : List PyData} (h : EvD K te σ H (.tuple ds)) : Ev (tCB (rLenQ K) (tCons te tNil)) σ H (iv ds.length) := fun H1 e Q q =>
  h H1 e _ fun v H2 e2 hv => by
    cases hv with
    | @tup p xs _ hs has => exact ⟨p, xs, rfl, .inr hs, by rw [dpa_len has]; exact q H2 e2⟩
theorem ed_row {a b : Tx} (h : EvA ts σ H [tv a, tv b, iv n]) (hs : secB a b = true) (h1 : 1 ≤ n) (h6 : n ≤ 6) : EvD K (tCl (spRow K) ts) σ H (rowD n a b) := ed_cl h fun H3 e3 Q q E => ⟨a, b, n, secC hs h1 h6, q⟩
theorem ev_chk {a b : Tx} {d : PyData} {kk : Nat} (h1 : Ev ta σ H (tv a)) (h2 : Ev tb σ H (tv b)) (h3 : Ev tc σ H (iv n)) (h4 : ∀ H1, EvO K H1 te σ H1 d) (hs : secB a b = true) (hn1 : 1 ≤ n) (hn6 : n ≤ 6) (hc : chkM n a b d = .inl kk) :
    Ev (tCall (spChk K z) [] (fun _ _ _ => False) (tCons ta (tCons tb (tCons tc (tCons te tNil))))) σ H (iv kk) := fun H1 e Q q =>
  h1 H1 e _ fun H2 e2 => h2 H2 (e.trans e2) _ fun H3 e3 => h3 H3 (e.trans (e2.trans e3)) _ fun H4 e4 => h4 H4 H4 (Ex.refl H4) (Ex.refl H4) _ fun v H5 e5 hd => ⟨a, b, n, v, d, secC hs hn1 hn6, rfl, hd.mono (nw_ex _ _), by rw [hc]; exact fun H6 e6 => q H6 (e2.trans (e3.trans (e4.trans (e5.trans e6))))⟩
theorem ev_neLL {ds : List PyData} (h1 : EvLD K ta σ H ds) (h2 : EvLD K tb σ H ds) (hf : Fit k (.list ds)) (he : PyData.eqv (.list ds) (.list ds) = true) (hk : k ≤ 64 := by decide) : Ev (tOp (rNeD K) ta tb) σ H (.bl false) := fun H1 e Q q =>
  h1 H1 e _ fun p xs H2 hp e2 hx hd => h2 H2 (e.trans e2) _ fun p2 ys H3 hp2 e3 hy hd2 => ⟨.list ds, .list ds, .lst (SqL.of (e3 _ _ hx)) (DpAll.mono e3 hd), .lst (SqL.of hy) hd2, hf.shaped hk, hf.shaped hk, by rw [he]; exact q H3 (e2.trans e3)⟩
theorem ev_eqLV {ds : List PyData} {p : Addr} {xs : List V} (h1 : Ev ta σ H (.ref p)) (hx : H p = some (.lst xs)) (hd : DpAll K H xs ds) (h2 : EvLD K tb σ H ds) (hf : Fit k (.list ds)) (he : PyData.eqv (.list ds) (.list ds) = true) (hk : k ≤ 64 := by decide) : Ev (tOp (rEqD K) ta tb) σ H (.bl true) := fun H1 e Q q =>
  h1 H1 e _ fun H2 e2 => h2 H2 (e.trans e2) _ fun p2 ys H3 hp2 e3 hy hd2 => ⟨.list ds, .list ds, .lst (SqL.of ((e.trans (e2.trans e3)) _ _ hx)) (DpAll.mono (e.trans (e2.trans e3)) hd), .lst (SqL.of hy) hd2, hf.shaped hk, hf.shaped hk, by rw [he]; exact q H3 (e2.trans e3)⟩
/-- too many are told -/
theorem en_told {l e : Tx} (hs : secB l e = true) (h1 : 1 ≤ n) (h6 : n ≤ 6) (hd : doesM n l e = true) (hb : 2000 < betwM n l e) (ha : EvA ts σ (noT H) [tv l, tv e, iv n]) :
    EvN T (LamX.tLam T (TTold K z) fun E => tCall (spBt T z) [] E ts) σ H (fun v H2 => Dp K H2 v (.tuple [.str "many", .int 2000])) := fun H1 e1 T1 Q q =>
  ⟨T1, fun H2 eN T2 => fun H3 Eb Qb e3 hQ hE => ha H3 ((noT_idem e1).trans ((ext_noT eN).trans e3)) _ fun H4 e4 => ⟨l, e, n, secC hs h1 h6, T2.ext (e3.trans e4), by
    rw [if_pos hd, if_pos hb]
    exact fun dd H5 e5 hdd => hE _ _ _ ⟨z.tm, dd, _, _, rfl, rfl, hdd, .inr ⟨rfl, 2000, rfl, rfl⟩, fun v H6 e6 hv => q v H6 ((ext_noT eN).trans (e3.trans (e4.trans (e5.trans e6)))) (T2.ext (e3.trans (e4.trans (e5.trans e6)))) hv⟩⟩⟩
theorem q_lenN {xs : List V} (h : EvN T te σ H (fun v H2 => ∃ p, v = .ref p ∧ H2 p = some (.tup xs))) (hT : LamX.Tabs T H) (hxl : xs.length = n) (h2 : ∀ H1, Ex (noT H) H1 → EvT t2 σ H1 false) (q : ∀ H2, Ex (noT H) H2 → LamX.Tabs T H2 → tz D σ H2) :
    tSeq (tIfS (tOr (tB (tOp rNe (tCB (rLenQ K) (tCons te tNil)) (tC (iv n)))) t2) ty tNext) tz D σ H :=
  h H (noT_ex H) hT _ fun v H1 e1 T1 ⟨p, ev, hp⟩ => by
    refine ⟨p, xs, by rw [ev], .inr (SqT.of hp), ?_⟩
    simp only [tC]
    refine rv_ne (x := .int (xs.length : Int)) (y := iv n) rfl H1 (Ex.refl H1) _ fun H2 e2 => ⟨_, rfl, ?_⟩
    rw [hxl, decide_eq_true rfl]
    exact iteF (h2 H2 (e1.trans e2) H2 (Ex.refl H2) _ fun H3 e3 => iteF (q H3 (e1.trans (e2.trans e3)) (T1.ext (e2.trans e3))))
end
def midT2 (n : Nat) (ts : List Tx) : Tx := if (ts.headD []).length < n then ts.headD [] else tx ((ts.headD []).take n) (stp n (ts.headD [])) ((List.range (rns n (ts.headD [])).length).map fun i => (fun l : List Nat => (isrt l).getD ((l.length - 1) / 2) 0) (colN (ts.map (rns n)) i))
theorem mid_is {n : Nat} {ts : List Tx} {t : Tx} (hk : allKin n ts = true) (h : midT2 n ts = t) : midV n ts = tv t := by
  unfold midV
  rw [if_pos hk, ← h]
  unfold midT midR midT2
  rw [midN_isrt]
theorem mid_non {n : Nat} {ts : List Tx} (hk : allKin n ts = false) : midV n ts = .non := if_neg (by rw [hk]; decide)
theorem all_is {n k : Nat} {t : Tx} {ts : List Tx} (hk : allKin n (t :: ts) = true) (h : allSum n t ts = k) : allV n t ts = iv k := by
  unfold allV
  rw [if_pos hk, h]
theorem all_non {n : Nat} {t : Tx} {ts : List Tx} (hk : allKin n (t :: ts) = false) : allV n t ts = .non := if_neg (by rw [hk]; decide)
section
variable {K : PySem.W.Frag} {σ : L2.St} {H H0 : Hp} {te ta tb : TE}
theorem oda_reps {xs : List V} {ds : List PyData} (h : OdAll K H xs ds) : ∀ k : Nat, OdAll K H (List.replicate k xs).flatten (List.replicate k ds).flatten
  | 0 => .nil
  | k + 1 => by rw [List.replicate_succ, List.replicate_succ, List.flatten_cons, List.flatten_cons]; exact oda_app h (oda_reps h k)
theorem eo_repL {ds : List PyData} {k : Nat} (h : EvO K H0 ta σ H (.tuple ds)) (hne : ds ≠ []) (h2 : 2 ≤ k) (hk : k ≤ 1000) (hl : ds.length ≤ 1000) : EvO K H0 (tOp (rRepT K) ta (tC (.int (k : Int)))) σ H (.tuple (List.replicate k ds).flatten) := fun H1 e e0 Q q =>
  h H1 e e0 _ fun v H2 e2 hv => by
    cases hv with
    | @tup a xs _ hs has =>
      have hl2 := oda_len has
      refine ⟨a, (k : Int), xs, rfl, rfl, ex_t (nw_ex _ _) hs, fun z => hne (List.eq_nil_of_length_eq_zero (by rw [← hl2, z]; rfl)), by omega, by omega, by omega, fun p hp => ?_⟩
      have em := Ex.new1 (o := .tup (List.replicate (k : Int).toNat xs).flatten) hp
      refine q _ _ (e2.trans em) (.tup (SqT.of (nw_new (fresh_back (e0.trans e2) hp) (fun ps z => by cases z))) ?_)
      rw [Int.toNat_natCast]
      exact oda_reps (has.mono (by rw [Int.toNat_natCast] at em; exact nw_mono em)) k
theorem ev_andT (h1 : Ev ta σ H (.bl true)) (h2 : Ev tb σ H (.bl true)) : Ev (tAndV ta tb) σ H (.bl true) := fun H1 e Q q => h1 H1 e _ fun H2 e2 => ⟨true, rfl, iteT (h2 H2 (e.trans e2) Q fun H3 e3 => q H3 (e2.trans e3))⟩
theorem eo_cu (s : Str) (i : Int) : EvO K H0 (tTup (tCons (tC (.str s)) (tCons (tC (.int i)) tNil))) σ H (.tuple [.str s, .int i]) := eo_tup (ao_cons (eo_ev ev_c (fun _ => .str _)) (ao_cons (eo_ev ev_c (fun _ => .int _)) ao_nil)) (Nat.le_of_ble_eq_true rfl)
end
end K9
namespace K9
open PySem PySem.Spec PyProof.Rows L2 Evl
local macro_rules | `(tactic| walk_at "ev") => `(tactic| first
  | with_reducible exact ev_c
  | ((with_reducible refine' ev_var ?k0); (case k0 => exact rfl))
  | with_reducible assumption
  | ((with_reducible refine' ev_lenS ?k0 ?k1); (case k0 => walk_at "ev"); (case k1 => walk_at "sz"))
  | ((with_reducible refine' ev_I0 ?k0 ?k1); (case k0 => walk_at "ev"); (case k1 => walk_at "ev"))
  | ((with_reducible refine' ev_I ?k0 ?k1 ?k2); (case k0 => walk_at "ev"); (case k1 => walk_at "ev"); (case k2 => walk_at "sz"))
  | ((with_reducible refine' ev_eq ?k0 ?k1 ?k2); (case k0 => walk_at "ev"); (case k1 => walk_at "ev"); (case k2 => walk_at "sz"))
  | ((with_reducible refine' ev_ne ?k0 ?k1 ?k2); (case k0 => walk_at "ev"); (case k1 => walk_at "ev"); (case k2 => walk_at "sz"))
  | ((with_reducible refine' ev_slTo ?k0 ?k1 ?k2 ?k3); (case k0 => walk_at "ev"); (case k1 => walk_at "ev"); (case k2 => walk_at "sz"); (case k3 => walk_at "sz"))
  | ((with_reducible refine' ev_slFrom ?k0 ?k1 ?k2 ?k3); (case k0 => walk_at "ev"); (case k1 => walk_at "ev"); (case k2 => walk_at "sz"); (case k3 => walk_at "sz"))
  | ((with_reducible refine' ev_slMid ?k0 ?k1 ?k2 ?k3 ?k4 ?k5); (case k0 => walk_at "ev"); (case k1 => walk_at "ev"); (case k2 => walk_at "ev"); (case k3 => walk_at "sz"); (case k4 => walk_at "sz"); (case k5 => walk_at "sz"))
  | ((with_reducible refine' ev_addS ?k0 ?k1 ?k2); (case k0 => walk_at "ev"); (case k1 => walk_at "ev"); (case k2 => walk_at "sz"))
  | ((with_reducible refine' ev_cl ?k0 ?k1); (case k0 => walk_at "ea"); (case k1 => walk_at "sp"))
  | ((with_reducible refine' ev_notV ?k0); (case k0 => walk_at "ev"))
  | ((with_reducible refine' ev_un ?k0 ru_neg); (case k0 => walk_at "ev")))
local macro_rules | `(tactic| walk_at "ea") => `(tactic| first
  | with_reducible exact ea_nil
  | ((with_reducible refine' ea_cons ?k0 ?k1); (case k0 => walk_at "ev"); (case k1 => walk_at "ea")))
local macro_rules | `(tactic| walk_at "et") => `(tactic| first
  | with_reducible assumption
  | ((with_reducible refine' et_test ?k0); (case k0 => walk_at "ev"))
  | ((with_reducible refine' et_B ?k0); (case k0 => walk_at "ev"))
  | ((with_reducible refine' et_not ?k0); (case k0 => walk_at "et")))
local macro_rules | `(tactic| walk_at "sz") => `(tactic| first
  | rfl
  | omega
  | (simp only [List.length_take, List.length_drop, List.length_append]; omega)
  | (constructor <;> omega)
  | assumption)
local macro_rules | `(tactic| walk_at "sp") => `(tactic| first | assumption)

def fr (c k : Nat) : Tx := List.replicate k c
def fF : Tx := fr 97 6 ++ fr 98 6 ++ fr 99 6 ++ fr 100 6 ++ fr 101 6
def fG : Tx := fr 97 5 ++ fr 98 5 ++ fr 99 5 ++ fr 100 4 ++ fr 101 4
section
variable {P : Program} {w : World} {K : PySem.W.Frag} {mg : Str → Option Value} {base : Heap} {z : ExA}
def spLaw (Tt : List (Addr × Str)) (K : PySem.W.Frag) : Sp := fun vs H Q _ => ∃ (a : Addr) (ns : List Int), vs = [.ref a] ∧ SqL K H a (ns.map V.int) ∧ ns.length ≤ 1000 ∧ LamX.Tabs Tt H ∧ ∀ H2, Q (.bl true) H2
theorem ok_law {Tt : List (Addr × Str)} {c0 p0 : Addr} (T : Topf mg) (XF : Excf P K mg z) (F : FnPC K mg base "law" s_law c0 p0) (F_l_told : FnP K mg "_law_told" s_l_told)
    (hmT : (p0, ("law" : Str) ++ ".<locals>." ++ "<lambda>") ∈ Tt) (huT : ∀ q ∈ Tt, q.1 = p0 → q.2 = ("law" : Str) ++ ".<locals>." ++ "<lambda>")
    (C_l_begun : Cal P w K mg base CX0 2 "_law_begun" ["_law_script"] (spBegun K Tt)) (C_l_draw : Cal P w K mg base CX0 2 "_law_draw" ["_law_m", "_law_limit"] (spDraw Tt)) (C_l_bare : Cal P w K mg base CX0 2 "_law_bare" ["_law_text", "_law_wide"] spBare) (C_l_text_of : Cal P w K mg base CX0 3 "_law_text_of" ["_law_m", "_law_many", "_law_long"] (spText_of Tt)) (C_l_grown : Cal P w K mg base CX0 3 "_law_grown" ["_law_m", "_law_text", "_law_wide", "_law_most"] (spGrown Tt)) (C_l_far : Cal P w K mg base CX0 3 "_law_far" ["_law_text", "_law_wide", "_law_most"] spFar)
    (C_l_deeds_right : CalG P w K mg base CX0 8 "_law_deeds_right" ["_law_m", "_law_one", "_law_other", "_law_wide", "_law_due"] (spDr Tt)) (C_l_middle_right : CalG P w K mg base CX0 7 "_law_middle_right" ["_law_bunch", "_law_wide", "_law_far_so"] (spMr K)) (C_l_between : Cal P w K mg base CX0 3 "_law_between" ["_law_late", "_law_early", "_law_wide"] spBtw) (C_between_count : Cal P w K mg base CX0 6 "between_count" ["later", "elder", "size"] spBc) (C_between_texts : Cal P w K mg base (L2.CX P w) 6 "between_texts" ["later", "elder", "size"] (spBt Tt z)) (C_l_like : CalG P w K mg base CX0 1 "_law_like" ["_law_got", "_law_due"] (spLike K))
    (C_deeds_to_all : Cal P w K mg base CX0 6 "deeds_to_all" ["text", "texts", "size"] (spDta K)) (C_middle_text : Cal P w K mg base CX0 6 "middle_text" ["texts", "size"] (spMt K)) (C_deeds_apart : Cal P w K mg base CX0 5 "deeds_apart" ["one", "other", "size"] spDap) (C_deed_row : Cal P w K mg base CX0 5 "deed_row" ["one", "other", "size"] (spRow K)) (C_check_deeds : Cal P w K mg base (L2.CX P w) 4 "check_deeds" ["one", "other", "size", "deeds"] (spChk K z)) :
    CalG P w K mg base CX0 10 "law" ["_law_script"] (spLaw Tt K) := by
  refine cal_mkGC F sc_law (fun vs H Q E h => ?_) (fun _ _ _ _ _ _ us hl => match us, hl with | [_], _ => rfl) (fun f A outer s H vs Q E hr hg TB h => ?_)
  · obtain ⟨a, ns, rfl, _⟩ := h; rfl
  · obtain ⟨a, ns, rfl, hs, hz, hT, q⟩ := h
    refine ⟨_, (pss_cons (ps_set (i := 1) sc_law.nd rfl (Or.inr rfl) (pe_c C_l_begun (hr.mono (by decide)) rfl (pa_cons (pv 0) pa_nil)))
      (pss_cons (ps_for (passes_of rfl) rfl (pi_range1 rfl T.b_range (pa_cons pe_int pa_nil)) (pg_name (i := 2) sc_law.nd rfl (Or.inl rfl))
        (pss_cons (ps_set (i := 3) sc_law.nd rfl (Or.inr rfl) (pe_op op_add pe_int (pe_c C_l_draw (hr.mono (by decide)) rfl (pa_cons (pv 1) (pa_cons pe_int pa_nil)))))
          (pss_cons (ps_set (i := 4) sc_law.nd rfl (Or.inr rfl) (pe_c C_l_bare (hr.mono (by decide)) rfl (pa_cons (pe_c C_l_text_of (hr.mono (by decide)) rfl (pa_cons (pv 1) (pa_cons (pe_op op_add pe_int (pe_c C_l_draw (hr.mono (by decide)) rfl (pa_cons (pv 1) (pa_cons pe_int pa_nil)))) (pa_cons pe_int pa_nil)))) (pa_cons (pv 3) pa_nil))))
          (pss_cons (ps_set (i := 5) sc_law.nd rfl (Or.inl rfl) (pe_callTy (k_tuple (K := K) rfl) (by rfl) T.b_tuple (by decide +kernel) (pa_cons (pe_lc (own := [("_law_k", 15)]) rfl sc_law.nd (pi_range1 rfl T.b_range (pa_cons (pe_op op_add pe_int (pe_c C_l_draw (hr.mono (by decide)) rfl (pa_cons (pv 1) (pa_cons pe_int pa_nil)))) pa_nil)) (blkOk_by (own := [("_law_k", 15)]) (N := N_law) (sc := defScope s_law) (by decide +kernel)) (fun _ _ _ _ _ => (pg_name (i := 15) sc_law.nd rfl (Or.inl rfl))) (fun _ _ _ _ _ => pts_nil) (fun _ _ _ _ _ => (pe_c C_l_grown (hr.mono (by decide)) rfl (pa_cons (pv 1) (pa_cons (pv 4) (pa_cons (pv 3) (pa_cons pe_int pa_nil))))))) pa_nil)))
          (pss_cons (ps_setLc (i := 7) (own := [("_law_one", 6)]) rfl sc_law.nd rfl rfl (sw_true rfl rfl rfl (by decide +kernel)) (k_pit (K := K) rfl (pv 5)) (blkOk_by (own := [("_law_one", 6)]) (N := N_law) (sc := defScope s_law) (by decide +kernel)) (fun _ _ _ _ _ => (pg_name (i := 6) sc_law.nd rfl (Or.inl rfl))) (fun _ _ _ _ _ => pts_nil) (fun _ _ _ _ _ => (pe_c C_l_far (hr.mono (by decide)) rfl (pa_cons (pv 6) (pa_cons (pv 3) (pa_cons pe_int pa_nil))))))
          (pss_cons (ps_par (i := 6) (j := 8) rfl sc_law.nd rfl rfl (by decide) rfl rfl (pa_cons (pe_ix (k_ixT (K := K) rfl) (pv 5) pe_int (fun _ _ => rfl)) (pa_cons (pe_ix (k_ixT (K := K) rfl) (pv 5) (pe_un un_neg pe_int) (fun _ _ => rfl)) pa_nil)) rfl)
          (pss_cons (ps_if (pt_not (pt_val (pe_cG C_l_deeds_right (hr.mono (by decide)) hg rfl (pa_cons (pv 1) (pa_cons (pv 6) (pa_cons (pv 8) (pa_cons (pv 3) (pa_cons (pe_dget (hu_of hr) (pe_ix (k_ixL (K := K) rfl) (pv 7) pe_int (fun _ _ => rfl)) (pv 8) (fun _ _ => rfl)) pa_nil)))))))) (pss_one (ps_ret pe_bl)) pss_nil)
          (pss_cons (ps_if (pt_not (pt_val (pe_cG C_l_middle_right (hr.mono (by decide)) hg rfl (pa_cons (pv 5) (pa_cons (pv 3) (pa_cons (pv 7) pa_nil)))))) (pss_one (ps_ret pe_bl)) pss_nil)
          (pss_cons (ps_set (i := 9) sc_law.nd rfl (Or.inl rfl) (pe_c C_l_grown (hr.mono (by decide)) rfl (pa_cons (pv 1) (pa_cons (pv 6) (pa_cons (pv 3) (pa_cons pe_int pa_nil))))))
          (pss_cons (ps_for (passes_of rfl) rfl (k_pit (K := K) rfl (pe_tup (pa_cons (pe_tup (pa_cons (pv 9) (pa_cons (pv 6) pa_nil))) (pa_cons (pe_tup (pa_cons (pv 6) (pa_cons (pv 9) pa_nil))) (pa_cons (pe_tup (pa_cons (pv 9) (pa_cons (pv 8) pa_nil))) pa_nil))))) (k_pgtup (K := K) (n := 2) rfl (by rfl) (pgs_cons (pg_name (i := 10) sc_law.nd rfl (Or.inl rfl)) (pgs_cons (pg_name (i := 14) sc_law.nd rfl (Or.inr rfl)) pgs_nil)))
            (pss_cons (ps_set (i := 11) sc_law.nd rfl (Or.inl rfl) (pe_c C_l_between (hr.mono (by decide)) rfl (pa_cons (pv 10) (pa_cons (pv 14) (pa_cons (pv 3) pa_nil)))))
              (pss_cons (ps_set (i := 12) sc_law.nd rfl (Or.inl rfl) (pe_lst (pa_cons (pe_cX C_between_texts (hr.mono (by decide)) (E := fun _ _ _ => False) passF rfl (pa_cons (pv 10) (pa_cons (pv 14) (pa_cons (pv 3) pa_nil)))) (pa_cons (pe_c C_between_count (hr.mono (by decide)) rfl (pa_cons (pv 10) (pa_cons (pv 14) (pa_cons (pv 3) pa_nil)))) pa_nil))))
              (pss_one (ps_if (pt_not (pt_val (pe_cG C_l_like (hr.mono (by decide)) hg rfl (pa_cons (pv 12) (pa_cons (pe_lst (pa_cons (pe_callTy (k_tuple (K := K) rfl) (by rfl) T.b_tuple (by decide +kernel) (pa_cons (pv 11) pa_nil)) (pa_cons (pe_callB (k_len (K := K) rfl) (by rfl) T.b_len (by decide +kernel) (pa_cons (pv 11) pa_nil)) pa_nil))) pa_nil))))) (pss_one (ps_ret pe_bl)) pss_nil)))))
          (pss_cons (ps_set (i := 13) sc_law.nd rfl (Or.inl rfl) (pe_c C_l_text_of (hr.mono (by decide)) rfl (pa_cons (pv 1) (pa_cons pe_int (pa_cons pe_int pa_nil)))))
          (pss_cons (ps_if (PW.pt (pw_and (pt_cmpR op_ne (pe_c C_l_bare (hr.mono (by decide)) rfl (pa_cons (pv 13) (pa_cons (pv 3) pa_nil))) (pv 4) (nomark _)) (pw_and1 (pt_not (pt_val (pe_cG C_l_deeds_right (hr.mono (by decide)) hg rfl (pa_cons (pv 1) (pa_cons (pv 6) (pa_cons (pv 13) (pa_cons (pv 3) (pa_cons pe_non pa_nil))))))))))) (pss_one (ps_ret pe_bl)) pss_nil)
          (pss_cons (ps_set (i := 12) sc_law.nd rfl (Or.inl rfl) (pe_lst (pa_cons (pe_c C_middle_text (hr.mono (by decide)) rfl (pa_cons (pe_tup (pa_cons (pv 6) (pa_cons (pv 13) pa_nil))) (pa_cons (pv 3) pa_nil))) (pa_cons (pe_c C_deeds_to_all (hr.mono (by decide)) rfl (pa_cons (pv 6) (pa_cons (pe_tup (pa_cons (pv 13) pa_nil)) (pa_cons (pv 3) pa_nil)))) pa_nil))))
          (pss_one (ps_if (PW.pt (pw_and (pt_cmpR op_ne (pe_c C_l_bare (hr.mono (by decide)) rfl (pa_cons (pv 13) (pa_cons (pv 3) pa_nil))) (pv 4) (nomark _)) (pw_and1 (pt_cmpR (k_neD (K := K) rfl hr.units) (pv 12) (pe_lst (pa_cons pe_non (pa_cons pe_non pa_nil))) (nomark _))))) (pss_one (ps_ret pe_bl)) pss_nil)))))))))))))))
      (pss_cons (ps_set (i := 14) sc_law.nd rfl (Or.inr rfl) (pe_op op_add_str (pe_op op_add_str (pe_op op_add_str (pe_op op_add_str (pe_op op_repS pe_str pe_int) (pe_op op_repS pe_str pe_int)) (pe_op op_repS pe_str pe_int)) (pe_op op_repS pe_str pe_int)) (pe_op op_repS pe_str pe_int)))
      (pss_cons (ps_set (i := 12) sc_law.nd rfl (Or.inl rfl) (pe_lst (pa_cons (pe_c C_between_count (hr.mono (by decide)) rfl (pa_cons (pv 14) (pa_cons pe_str (pa_cons pe_int pa_nil)))) (pa_cons (k_told (K := K) (k := 7) (t := fun E => tCall _ [] E _) rfl T XF F_l_told rfl TB rfl hmT huT (hr.mono (by decide)) (LamX.lamS_by (sc := defScope s_law) (by decide +kernel)) rfl (fun _ _ _ _ _ => rfl) (fun A2 outer2 s2 H2 E2 f2 c2 hr2 => pe_cX C_between_texts (hr2.mono (by decide)) pass_lam rfl (pa_cons (pv 14) (pa_cons pe_str (pa_cons pe_int pa_nil))))) pa_nil))))
      (pss_cons (ps_if (pt_cmpR (k_neD (K := K) rfl hr.units) (pe_op op_cat (pv 12) (pe_lst (pa_cons (pe_c C_deeds_apart (hr.mono (by decide)) rfl (pa_cons (pv 14) (pa_cons pe_str (pa_cons pe_int pa_nil)))) pa_nil))) (pe_lst (pa_cons pe_int (pa_cons (pe_tup (pa_cons pe_str (pa_cons pe_int pa_nil))) (pa_cons pe_int pa_nil)))) (nomark _)) (pss_one (ps_ret pe_bl)) pss_nil)
      (pss_cons (ps_set (i := 12) sc_law.nd rfl (Or.inl rfl) (pe_lst (pa_cons (pe_c C_middle_text (hr.mono (by decide)) rfl (pa_cons (pe_tup (pa_cons pe_str (pa_cons pe_str (pa_cons pe_str pa_nil)))) (pa_cons pe_int pa_nil))) (pa_cons (pe_c C_middle_text (hr.mono (by decide)) rfl (pa_cons (pe_tup (pa_cons pe_str (pa_cons pe_str pa_nil))) (pa_cons pe_int pa_nil))) (pa_cons (pe_callB (k_len (K := K) rfl) (by rfl) T.b_len (by decide +kernel) (pa_cons (pe_c C_deed_row (hr.mono (by decide)) rfl (pa_cons pe_str (pa_cons pe_str (pa_cons pe_int pa_nil)))) pa_nil)) pa_nil)))))
      (pss_cons (ps_if (pt_cmpR (k_neD (K := K) rfl hr.units) (pv 12) (pe_lst (pa_cons pe_str (pa_cons pe_str (pa_cons pe_int pa_nil)))) (nomark _)) (pss_one (ps_ret pe_bl)) pss_nil)
      (pss_cons (ps_set (i := 12) sc_law.nd rfl (Or.inl rfl) (pe_lst (pa_cons (pe_c C_deeds_to_all (hr.mono (by decide)) rfl (pa_cons pe_str (pa_cons (pe_tup (pa_cons pe_str (pa_cons pe_str (pa_cons pe_str pa_nil)))) (pa_cons pe_int pa_nil)))) (pa_cons (pe_cX C_check_deeds (hr.mono (by decide)) (E := fun _ _ _ => False) passF rfl (pa_cons pe_str (pa_cons pe_str (pa_cons pe_int (pa_cons (pe_tup (pa_cons (pe_tup (pa_cons pe_str (pa_cons pe_int pa_nil))) (pa_cons (pe_tup (pa_cons pe_str (pa_cons pe_int pa_nil))) pa_nil))) pa_nil))))) pa_nil))))
      (pss_cons (ps_if (PW.pt (pw_or (pt_cmpR (k_neD (K := K) rfl hr.units) (pv 12) (pe_lst (pa_cons pe_int (pa_cons pe_int pa_nil))) (nomark _)) (pw_or1 (pt_cmpR op_ne (pe_cX C_check_deeds (hr.mono (by decide)) (E := fun _ _ _ => False) passF rfl (pa_cons pe_str (pa_cons pe_str (pa_cons pe_int (pa_cons (pe_op (k_repT (K := K) rfl) (pe_tup (pa_cons (pe_tup (pa_cons pe_str (pa_cons pe_int pa_nil))) (pa_cons (pe_tup (pa_cons pe_str (pa_cons pe_int pa_nil))) pa_nil))) pe_int) pa_nil))))) pe_int (nomark _))))) (pss_one (ps_ret pe_bl)) pss_nil)
      (pss_cons (ps_set (i := 14) sc_law.nd rfl (Or.inr rfl) (pe_op op_add_str (pe_op op_add_str (pe_op op_add_str (pe_op op_add_str (pe_op op_repS pe_str pe_int) (pe_op op_repS pe_str pe_int)) (pe_op op_repS pe_str pe_int)) (pe_op op_repS pe_str pe_int)) (pe_op op_repS pe_str pe_int)))
      (pss_cons (ps_if (PW.pt (pw_or (pt_cmpR op_ne (pe_callB (k_len (K := K) rfl) (by rfl) T.b_len (by decide +kernel) (pa_cons (pe_cX C_between_texts (hr.mono (by decide)) (E := fun _ _ _ => False) passF rfl (pa_cons (pv 14) (pa_cons pe_str (pa_cons pe_int pa_nil)))) pa_nil)) pe_int (nomark _)) (pw_or1 (pt_cmpR op_ne (pe_c C_middle_text (hr.mono (by decide)) rfl (pa_cons (pe_op (k_repT (K := K) rfl) (pe_tup (pa_cons pe_str pa_nil)) pe_int) (pa_cons pe_int pa_nil))) pe_str (nomark _))))) (pss_one (ps_ret pe_bl)) pss_nil)
      (pss_cons (ps_set (i := 12) sc_law.nd rfl (Or.inl rfl) (pe_lst (pa_cons (pe_c C_middle_text (hr.mono (by decide)) rfl (pa_cons (pe_tup (pa_cons pe_str (pa_cons pe_str (pa_cons pe_str pa_nil)))) (pa_cons pe_int pa_nil))) (pa_cons (pe_c C_deeds_to_all (hr.mono (by decide)) rfl (pa_cons pe_str (pa_cons (pe_tup (pa_cons pe_str (pa_cons pe_str pa_nil))) (pa_cons pe_int pa_nil)))) (pa_cons (pe_c C_deeds_to_all (hr.mono (by decide)) rfl (pa_cons pe_str (pa_cons (pe_tup (pa_cons pe_str pa_nil)) (pa_cons pe_int pa_nil)))) pa_nil)))))
      (pss_cons (ps_if (pt_cmpR (k_neD (K := K) rfl hr.units) (pv 12) (pe_lst (pa_cons pe_non (pa_cons pe_non (pa_cons pe_non pa_nil)))) (nomark _)) (pss_one (ps_ret pe_bl)) pss_nil)
      (pss_cons (ps_if (pt_cmpR op_ne (pe_cX C_check_deeds (hr.mono (by decide)) (E := fun _ _ _ => False) passF rfl (pa_cons (pe_op op_repS pe_str pe_int) (pa_cons (pe_op op_repS pe_str pe_int) (pa_cons pe_int (pa_cons (pe_tup (pa_cons (pe_tup (pa_cons pe_str (pa_cons pe_int pa_nil))) (pa_cons (pe_tup (pa_cons pe_str (pa_cons pe_int pa_nil))) pa_nil))) pa_nil))))) pe_int (nomark _)) (pss_one (ps_ret pe_bl)) pss_nil)
      (pss_cons (ps_set (i := 14) sc_law.nd rfl (Or.inr rfl) (pe_tup (pa_cons (pe_op op_add_str (pe_op op_add_str (pe_op op_repS pe_str pe_int) (pe_op op_repS pe_str pe_int)) pe_str) (pa_cons (pe_op op_add_str (pe_op op_add_str (pe_op op_repS pe_str pe_int) pe_str) (pe_op op_repS pe_str pe_int)) (pa_cons (pe_op op_add_str (pe_op op_add_str pe_str (pe_op op_repS pe_str pe_int)) (pe_op op_repS pe_str pe_int)) pa_nil)))))
      (pss_cons (ps_if (pt_cmpR op_ne (pe_c C_middle_text (hr.mono (by decide)) rfl (pa_cons (pv 14) (pa_cons pe_int pa_nil))) (pe_op op_add_str (pe_op op_add_str (pe_op op_repS pe_str pe_int) (pe_op op_repS pe_str pe_int)) (pe_op op_repS pe_str pe_int)) (nomark _)) (pss_one (ps_ret pe_bl)) pss_nil)
      (pss_cons (ps_set (i := 14) sc_law.nd rfl (Or.inr rfl) (pe_op (k_catT (K := K) rfl) (pe_op (k_repT (K := K) rfl) (pe_tup (pa_cons pe_str pa_nil)) pe_int) (pe_op (k_repT (K := K) rfl) (pe_tup (pa_cons pe_str pa_nil)) pe_int)))
      (pss_cons (ps_if (PW.pt (pw_or (pt_cmpR op_ne (pe_c C_middle_text (hr.mono (by decide)) rfl (pa_cons (pv 14) (pa_cons pe_int pa_nil))) pe_str (nomark _)) (pw_or1 (pt_cmpR op_ne (pe_c C_deeds_to_all (hr.mono (by decide)) rfl (pa_cons pe_str (pa_cons (pv 14) (pa_cons pe_int pa_nil)))) pe_int (nomark _))))) (pss_one (ps_ret pe_bl)) pss_nil)
      (pss_cons (ps_set (i := 12) sc_law.nd rfl (Or.inl rfl) (pe_lst (pa_cons (pe_c C_deeds_apart (hr.mono (by decide)) rfl (pa_cons (pe_op op_repS pe_str pe_int) (pa_cons (pe_op op_repS pe_str pe_int) (pa_cons pe_int pa_nil)))) (pa_cons (pe_c C_deeds_apart (hr.mono (by decide)) rfl (pa_cons (pe_op op_repS pe_str pe_int) (pa_cons (pe_op op_repS pe_str pe_int) (pa_cons pe_int pa_nil)))) (pa_cons (pe_c C_between_count (hr.mono (by decide)) rfl (pa_cons (pe_op op_repS pe_str pe_int) (pa_cons (pe_op op_repS pe_str pe_int) (pa_cons pe_int pa_nil)))) pa_nil)))))
      (pss_one (ps_ret (pe_and (pe_cmpR (k_eqD (K := K) rfl hr.units) (pv 12) (pe_lst (pa_cons pe_int (pa_cons pe_int (pa_cons pe_int pa_nil)))) (nomark _)) (pe_one (pe_cmpR op_eq (pe_c C_middle_text (hr.mono (by decide)) rfl (pa_cons (pe_tup (pa_cons pe_str (pa_cons pe_str (pa_cons pe_str (pa_cons pe_str (pa_cons pe_str pa_nil)))))) (pa_cons pe_int pa_nil))) pe_str (nomark _))))))))))))))))))))))))), ?_⟩
    refine ⟨_, rfl, a, ns, rfl, hs, hz, hT, fun m c g H1 e1 M1 hm0 hg0 => ?_⟩
    have hS := srcB_R1 (B0 := off m g H1) (j := 2) (n := 4) (ta := tCons (tC (.int 4)) tNil) (σ := (start N_law [.ref a]).set 1 (some (.ref m))) (H := H1) (ea_cons ev_c ea_nil) (by decide)
    refine q_forB hS (fun i σ' H' => ∃ y2 y3 y4 y5 y6 y7 y8 y9 y10 y11 y12 y13 y14 y15, σ' = [some (.ref a), some (.ref m), y2, y3, y4, y5, y6, y7, y8, y9, y10, y11, y12, y13, y14, y15] ∧ Mm Tt m c g (i * 700) H') (fun H' e' => ⟨off_of e', _, _, _, _, _, _, _, _, _, _, _, _, _, _, rfl, by rw [Nat.zero_mul]; exact M1.ext e'⟩) ?_ ?_
    · intro i σ' Ha Hb hi eB pv eab
      obtain ⟨y2, y3, y4, y5, y6, y7, y8, y9, y10, y11, y12, y13, y14, y15, rfl, Ma⟩ := pv
      have Mb := Ma.ext eab
      have eBb := eB.trans eab
      generalize hk : i * 700 = k at Mb
      have hk3 : k ≤ 2100 := by omega
      -- the width
      refine q_es (es_one (es_draw (lim := 3) (ea_cons (ev_var rfl) (ea_cons ev_c ea_nil)) (by omega) (by decide) (by decide))) Mb fun v H2 e2 M2 hv => ?_
      obtain ⟨n, rfl, hn1, hn4⟩ := hv
      -- the bare text
      refine q_es (es_bare (n := n) hn1 (by omega) (es_text (long := 5) (ev_var rfl) (fun H' e' => es_is (es_one (es_draw (lim := 3) (ea_cons (ev_var rfl) (ea_cons ev_c ea_nil)) (by omega) (by decide) (by decide))) (fun v ⟨r, h1, h2, h3⟩ => ⟨r, h1, h2, by omega⟩)) (by omega) (by decide)) (ev_var rfl)) M2 fun v H3 e3 M3 hv => ?_
      obtain ⟨t0, rfl, ho0, hz0, t1, ho1, hk01, hroot⟩ := hv
      -- the bunch
      refine q_tupOf (K := K) (P := fun xs H4 => Ex (off m g H3) H4 ∧ Mm Tt m c g (k + 110) H4 ∧ (1 ≤ xs.length ∧ xs.length ≤ 4) ∧ ∀ x ∈ xs, ∃ u : Tx, x = tv u ∧ Ok u ∧ Kin n t0 u ∧ u.length ≤ 8) (fun Q5 q5 => tlcS2 (T := Tt) (c := c) (d := 20) (lo := 1) (lim := 5) (Q := Q5) (fun v => ∃ u : Tx, v = tv u ∧ Ok u ∧ Kin n t0 u ∧ u.length ≤ 8) (es_one (es_draw (lim := 4) (ea_cons (ev_var rfl) (ea_cons ev_c ea_nil)) (by omega) (by decide) (by decide))) M3 (by decide) (fun x => rfl) (fun r j H' hr hj e' => by
        rw [Nat.succ_mul, ← Nat.add_assoc]
        exact es_grown (most := 8) (ev_var rfl) (ev_var rfl) (ev_var rfl) (by omega) ho0 (by omega) (by decide) hn1 (by omega)) (fun r A xs H4 hlo hr e4 M4 hx hl hW => q5 A xs H4 hx ⟨e4, M4.le (by omega), ⟨by omega, by omega⟩, hW⟩)) fun xs H4 p hPx hp => ?_
      obtain ⟨e4, M4, hl, hW⟩ := hPx
      obtain ⟨ts, rfl, hts⟩ := txs_of hW
      rw [List.length_map] at hl
      have em := Ex.new1 (o := .tup (ts.map tv)) hp
      have M5 : Mm Tt m c g (k + 110) (upd H4 p (.tup (ts.map tv))) := M4.ext em
      have e25 : Ex (off m g H3) (upd H4 p (.tup (ts.map tv))) := e4.trans em
      have hp5 : (upd H4 p (.tup (ts.map tv))) p = some (.tup (ts.map tv)) := upd_same
      have eB5 : Ex (off m g H1) (upd H4 p (.tup (ts.map tv))) := off_trans (off_trans (off_trans eBb e2) e3) e25
      show tSeq _ _ _ _ (upd H4 p (.tup (ts.map tv)))
      have hpm : p ≠ m ∧ p ≠ c ∧ p ≠ g := M4.far hp
      generalize upd H4 p (.tup (ts.map tv)) = H5 at M5 e25 hp5 eB5
      have hne : ts ≠ [] := fun z => by rw [z] at hl; exact absurd hl.1 (by decide)
      have hhd : ts.headD [] ∈ ts := by
        cases ts with
        | nil => exact absurd rfl hne
        | cons a r => exact List.mem_cons_self
      have B : Bunch n ts := ⟨hn1, by omega, hne, by omega, fun t ht => ⟨(hts t ht).1, (hts t ht).2.2⟩, fun t ht => (hts _ hhd).2.1.symm.trans (hts t ht).2.1⟩
      -- the tables
      refine q_lcD (n := n) (txs := ts) (ev_var rfl) (SqT.of hp5) (by omega) (fun x => rfl) (fun t H' e' ht Q5 q5 => far_call (ea_cons (ev_var rfl) (ea_cons (ev_var rfl) (ea_cons ev_c ea_nil))) (hts t ht).1 (by have := (hts t ht).2.2; omega) hn1 (by omega) q5) fun A7 fl H6 hA7 e6 hF => ?_
      have M6 := M5.ext e6
      have hA7g := (M5.far hA7).2.2
      have hFo := fars_off M6 hF hA7g
      have hp6 := e6 _ _ hp5
      have hp6o : off m g H6 p = some (.tup (ts.map tv)) := off_at hp6 hpm.1 hpm.2.2 (fun ps z => by cases z)
      have htl : 0 < ts.length := by omega
      have hone : (ts.map tv)[0]? = some (tv (ts.headD [])) := headD_at (by omega)
      obtain ⟨hoo, hko, hzo⟩ := hts _ hhd
      obtain ⟨oth, hothi, hoth⟩ : ∃ oth, (ts.map tv)[(ts.map tv).length - 1]? = some (tv oth) ∧ oth ∈ ts := ⟨ts[ts.length - 1]'(by omega), by rw [List.length_map, List.getElem?_map, List.getElem?_eq_getElem (by omega)]; rfl, List.getElem_mem _⟩
      obtain ⟨hot, hkt, hzt⟩ := hts _ hoth
      -- one, other
      refine q_par2 (v := tv (ts.headD [])) (w' := tv oth) (ev_op (ev_var (v := .ref p) rfl) ev_c (rv_ixT (SqT.of hp6) (atI_nat (j := 0) hone))) (ev_op (ev_var (v := .ref p) rfl) (ev_un ev_c ru_neg) (rv_ixT (SqT.of hp6) (atI_last (by rw [List.length_map]; exact htl) hothi))) fun H7 e7 => ?_
      have hkoo : Kin n (ts.headD []) oth := B.kin oth hoth
      have hapV : apV n (ts.headD []) oth = iv (dd n (ts.headD []) oth) := by
        unfold apV
        rw [if_pos ((kin_iff hn1 hoo hot).mpr hkoo), ap_dd hn1 hkoo]
      have hfl0 : 0 < fl.length := by rw [hF.2.1]; exact htl
      have hts0 : ts[0]'htl = ts.headD [] := by
        cases ts with
        | nil => exact absurd rfl hne
        | cons a r => rfl
      -- the deeds
      refine q_notS (es_dr (n := n) (a := ts.headD []) (b := oth) (ea_cons (ev_var rfl) (ea_cons (ev_var rfl) (ea_cons (ev_var rfl) (ea_cons (ev_var rfl) (ea_cons ?_ ea_nil))))) hoo hot (by omega) (by omega) hn1 (by omega) (by omega)) (M6.ext e7) fun H8 e8 M8 => ?_
      · have hF7 := hFo.mono (off_mono e7)
        rw [hapV]
        refine ev_dget (a := fl[0].1) (t := oth) (ev_op (ev_var (v := .ref A7) rfl) ev_c (rv_ixL (SqL.of hF7.1) (atI_nat (j := 0) (by rw [List.getElem?_map, List.getElem?_eq_getElem hfl0]; rfl)))) (ev_var rfl) (hF7.2.2 0 hfl0 htl).1 ?_
        rw [hts0]
        refine dist_look (((hF7.2.2 0 hfl0 htl).2.2 oth).mpr ?_)
        rw [hts0]
        exact ⟨hkoo, hot, by omega⟩
      -- the middle text
      have hF8 : Fars H8 A7 n ts fl := hFo.mono ((off_mono e7).trans e8)
      have hp8 : H8 p = some (.tup (ts.map tv)) := ((off_mono e7).trans e8) _ _ hp6o
      refine q_when (b := false) (et_is (et_not (et_test (ev_cl (z := .bl true) (ea_cons (ev_var rfl) (ea_cons (ev_var rfl) (ea_cons (ev_var rfl) ea_nil))) fun H9 e9 Q9 q9 E9 => ⟨p, A7, n, ts, fl, rfl, B, SqT.of (e9 _ _ hp8), hF8.mono e9, q9⟩))) rfl) (fun z => by cases z) fun _ H9 e9 => ?_
      -- a later one
      refine q_es (es_grown (n := n) (t := ts.headD []) (most := 11) (ev_var rfl) (ev_var rfl) (ev_var rfl) (by omega) hoo (by omega) (by decide) hn1 (by omega)) (M8.ext e9) fun v H10 e10 M10 hv => ?_
      obtain ⟨lt, rfl, hol, hkl, hzl⟩ := hv
      have eB10 : Ex (off m g H1) H10 := off_trans (off_trans (off_trans (eB5.trans e6) (off_of e7)) e8) ((off_of e9).trans (Ex.refl _) |> fun x => off_trans x e10)
      -- between
      refine q_forPairs (K := K) [(lt, ts.headD []), (ts.headD [], lt), (lt, oth)] (ud_tup (ad_cons (ed_u (ud_tup (ad_cons (ed_tx (ev_var rfl)) (ad_cons (ed_tx (ev_var rfl)) ad_nil)) (Nat.le_of_ble_eq_true rfl))) (ad_cons (ed_u (ud_tup (ad_cons (ed_tx (ev_var rfl)) (ad_cons (ed_tx (ev_var rfl)) ad_nil)) (Nat.le_of_ble_eq_true rfl))) (ad_cons (ed_u (ud_tup (ad_cons (ed_tx (ev_var rfl)) (ad_cons (ed_tx (ev_var rfl)) ad_nil)) (Nat.le_of_ble_eq_true rfl))) ad_nil))) (Nat.le_of_ble_eq_true rfl))
        (fun k σ' H' => LamX.Tabs Tt H' ∧ ∃ y2 y10 y11 y12 y14, σ' = [some (.ref a), some (.ref m), y2, some (iv n), some (tv t0), some (.ref p), some (tv (ts.headD [])), some (.ref A7), some (tv oth), some (tv lt), y10, y11, y12, y13, y14, y15]) (fun H' e' => ⟨M10.tabs.ext e', _, _, _, _, _, rfl⟩) ?_ ?_
      · intro H11 e11 kk σ' H12 H13 hkk eB12 pv e13
        obtain ⟨hT12, z2, z10, z11, z12, z14, rfl⟩ := pv
        have hpr : ∀ pr ∈ [(lt, ts.headD []), (ts.headD [], lt), (lt, oth)], Ok pr.1 ∧ Ok pr.2 ∧ pr.1.length ≤ 11 ∧ pr.2.length ≤ 11 := fun pr hpr => by
          simp only [List.mem_cons, List.not_mem_nil, or_false] at hpr
          rcases hpr with e | e | e <;> rw [e] <;> exact ⟨by assumption, by assumption, by dsimp only; omega, by dsimp only; omega⟩
        obtain ⟨ho1', ho2', hz1', hz2'⟩ := hpr _ (List.getElem_mem hkk)
        generalize ([(lt, ts.headD []), (ts.headD [], lt), (lt, oth)] : List (Tx × Tx))[kk] = pr at ho1' ho2' hz1' hz2'
        obtain ⟨nl, ne⟩ := pr
        dsimp only at ho1' ho2' hz1' hz2'
        refine q_asgL (xs := (btR n nl ne).map tv) (el_cl (ea_cons (ev_var rfl) (ea_cons (ev_var rfl) (ea_cons (ev_var rfl) ea_nil))) fun H14 e14 Q14 q14 E14 => ⟨nl, ne, n, rfl, ho1', ho2', hz1', hz2', hn1, by omega, q14⟩) fun ps H14 hps e14 hx14 => ?_
        have hT14 := hT12.ext (e13.trans e14)
        have hcnt := btR_len hn1 (l := nl) (e := ne)
        refine q_lstN (T := Tt) (en_bts (z := z) (T := Tt) (l := nl) (e := ne) hn1 (by omega) ho1' ho2' (by omega) (by omega) (fun hd => by have := bt_few hn1 hz1' hd; omega) (ev_var rfl) (ev_var rfl) (ev_var rfl)) hT14 (v2 := .int (if doesM n nl ne then betwM n nl ne else 0)) (fun H15 e15 => ev_cl (ea_cons (ev_var rfl) (ea_cons (ev_var rfl) (ea_cons (ev_var rfl) ea_nil))) fun H16 e16 Q16 q16 E16 => ⟨nl, ne, n, ⟨rfl, ho1', ho2', by omega, by omega, hn1, by omega⟩, q16⟩) fun pq v15 H15 H16 e15 hv15 e16 T16 hx16 => ?_
        obtain ⟨pb, rfl, hpb⟩ := hv15
        have hx14' := (e15.trans e16) _ _ (noT_of hx14 (fun ps z => by cases z))
        have hpb' := e16 _ _ hpb
        have eB16 : Ex (noT H11) H16 := (noT_idem (eB12.trans (e13.trans e14))).trans (e15.trans e16)
        refine s_when (b := false) (et_is (et_not (et_test (ev_likeV (ds := [.tuple ((btR n nl ne).map tD), nD (btR n nl ne).length]) (ev_var (v := .ref pq) rfl) hx16 (.cons (.tup (SqT.of hpb') (dpa_map fun a _ => dp_tx a)) (.cons (by rw [← hcnt]; exact .int _) .nil)) (ld_lst (ad_cons (ed_u (fun H17 e17 Q17 q17 => ⟨_, rfl, ps, _, rfl, .inl ⟨SqL.of (e17 _ _ hx14'), fun p hp => q17 p _ _ hp (Ex.new hp) upd_same (dpa_map fun a _ => dp_tx a)⟩⟩)) (ad_cons (ed_ev (ev_lenL (ev_var (v := .ref ps) rfl) (SqL.of hx14')) (by rw [List.length_map]; exact .int _)) ad_nil)) (Nat.le_of_ble_eq_true rfl)) ?_))) rfl) (fun z => by cases z) fun _ H17 e17 => ⟨eB16.trans e17, T16.ext e17, _, _, _, _, _, rfl⟩
        have hfew := btR_few hn1 (l := nl) (e := ne) hz1'
        refine (sh_lst (k := 1) (N := 20000) (M := 100000) (L := 2) (fun d hd => ?_) (Nat.le_of_ble_eq_true rfl) (by decide)).up (by decide) (by decide)
        rcases List.mem_cons.mp hd with e | e
        · rw [e]
          refine sh_tup (k := 0) (N := 11) (M := 20000) (L := 1024) (fun x hx => ?_) (by rw [List.length_map]; exact hfew) (by decide)
          obtain ⟨u, hu, rfl⟩ := List.mem_map.mp hx
          obtain ⟨a1, a2⟩ := btR_mem hn1 ho1' ho2' hu
          exact sh_tx a1 (by omega)
        · rw [List.mem_singleton] at e
          rw [e]
          exact sh_nat (by omega)
      · intro H11 e11 σ' H12 eB12 pv
        obtain ⟨hT12, z2, z10, z11, z12, z14, rfl⟩ := pv
        have M12 := (M10.ext e11).noT eB12 hT12
        have eB12' : Ex (off m g H1) H12 := off_noT (eB10.trans e11) eB12
        -- a strange one
        refine q_es (es_text (long := 5) (ev_var rfl) (fun H' e' => es_is (es_ev ev_c) (fun v e => ⟨2, e, by decide, by decide⟩)) (by omega) (by decide)) M12 fun v H13 e13 M13 hv => ?_
        obtain ⟨st, rfl, hos, hzs⟩ := hv
        have hbr : bareM n st = rootM n st := bare_root hn1 st.length st (Nat.le_refl _) hos
        have hr0 : t0 = rootM n (ts.headD []) := by
          rw [hroot]
          exact (kin_iff hn1 ho1 hoo).mpr (hk01.symm.trans hko)
        have hbare : ∀ H' (σ : L2.St), σ[13]? = some (some (tv st)) → σ[3]? = some (some (iv n)) → σ[4]? = some (some (tv t0)) → EvT (tB (tOp rNe (tCl spBare (tCons (tVar 13) (tCons (tVar 3) tNil))) (tVar 4))) σ H' (!decide (bareM n st = t0)) := fun H' σ h13 h3 h4 => et_B (ev_is (ev_ne (x := tv (bareM n st)) (ev_cl (ea_cons (ev_var h13) (ea_cons (ev_var h3) ea_nil)) fun H8 e8 Q8 q8 E8 => ⟨st, n, rfl, by omega, hn1, by omega, q8⟩) (ev_var h4) rfl) (by rw [tv_dec]))
        have hne' : (!decide (bareM n st = t0)) = true → rootM n (ts.headD []) ≠ rootM n st := fun hb e => by
          have hb2 : bareM n st ≠ t0 := by simpa using hb
          exact hb2 (by rw [hbr, ← e, ← hr0])
        refine q_notS2 (hbare H13 _ rfl rfl rfl) (fun hb H14 e14 => es_dr (n := n) (a := ts.headD []) (b := st) (ea_cons (ev_var rfl) (ea_cons (ev_var rfl) (ea_cons (ev_var rfl) (ea_cons (ev_var rfl) (ea_cons (ev_is ev_c (by unfold apV; rw [if_neg (hne' hb)])) ea_nil))))) hoo hos (by omega) (by omega) hn1 (by omega) (by omega)) M13 (by omega) fun H14 e14 M14 => ?_
        -- no middle, no sum
        have hb1 : ∀ H', ∀ p', SqT K H' p' ([ts.headD [], st].map tv) → Bun K H' p' [ts.headD [], st] := fun H' p' h => ⟨h, ⟨Nat.le_of_ble_eq_true rfl, Nat.le_of_ble_eq_true rfl⟩, fun t ht => by
          simp only [List.mem_cons, List.not_mem_nil, or_false] at ht
          rcases ht with e | e <;> rw [e]
          · exact ⟨hoo, by omega⟩
          · exact ⟨hos, by omega⟩⟩
        have hb2 : ∀ H', ∀ p', SqT K H' p' ([st].map tv) → Bun K H' p' [st] := fun H' p' h => ⟨h, ⟨Nat.le_of_ble_eq_true rfl, Nat.le_of_ble_eq_true rfl⟩, fun t ht => by
          rw [List.mem_singleton] at ht
          rw [ht]
          exact ⟨hos, by omega⟩⟩
        refine q_asgL (xs := [midV n [ts.headD [], st], allV n (ts.headD []) [st]]) (el_lst (ea_cons (ev_clU2 (xs := [ts.headD [], st].map tv) (eu_tup (ea_cons (ev_var rfl) (ea_cons (ev_var rfl) ea_nil)) (Nat.le_of_ble_eq_true rfl)) (ev_var (v := iv n) rfl) fun p' H15 e15 hp' H16 e16 Q16 q16 E16 => ⟨p', [ts.headD [], st], n, rfl, hb1 H16 p' (SqT.of (e16 _ _ hp')), ⟨hn1, by omega⟩, q16⟩) (ea_cons (ev_clVU2 (xs := [st].map tv) (ev_var (v := tv (ts.headD [])) rfl) (eu_tup (ea_cons (ev_var rfl) ea_nil) (Nat.le_of_ble_eq_true rfl)) (ev_var (v := iv n) rfl) fun p' H15 e15 hp' H16 e16 Q16 q16 E16 => ⟨ts.headD [], p', [st], n, rfl, hoo, by omega, hb2 H16 p' (SqT.of (e16 _ _ hp')), ⟨hn1, by omega⟩, q16⟩) ea_nil)) (Nat.le_of_ble_eq_true rfl)) fun pw H15 hpw e15 hx15 => ?_
        refine s_when (b := false) (et_is (et_and (a := !decide (bareM n st = t0)) (b := false) (hbare H15 _ rfl rfl rfl) (fun hb => et_B (ev_neLD (ds := [.none, .none]) (k := 1) (ev_var (v := .ref pw) rfl) hx15 ?_ (ld_lst (ad_cons (ed_ev ev_c .non) (ad_cons (ed_ev ev_c .non) ad_nil)) (Nat.le_of_ble_eq_true rfl)) (fit_lst fun d hd => ?_) rfl))) (Bool.and_false _)) (fun z => by cases z) fun _ H16 e16 => ?_
        · have hn := hne' hb
          have e1 : midV n [ts.headD [], st] = .non := if_neg (fun h => hn (of_decide_eq_true (List.all_eq_true.mp h st (by simp))))
          have e2 : allV n (ts.headD []) [st] = .non := if_neg (fun h => hn (of_decide_eq_true (List.all_eq_true.mp h st (by simp))))
          rw [e1, e2]
          exact .cons .non (.cons .non .nil)
        · simp only [List.mem_cons, List.not_mem_nil, or_false] at hd
          rcases hd with e | e <;> rw [e] <;> exact fit_non
        · refine ⟨off_trans (off_trans eB12' e13) e14 |>.trans (e15.trans e16), _, _, _, _, _, _, _, _, _, _, _, _, _, _, rfl, ?_⟩
          exact (M14.ext (e15.trans e16)).le (by rw [Nat.succ_mul]; omega)
    · intro σ' H2 eB pv
      obtain ⟨y2, y3, y4, y5, y6, y7, y8, y9, y10, y11, y12, y13, y14, y15, rfl, M2⟩ := pv
      have hT2 := M2.tabs
      have cE : ("abcde" : Str).cps.toList = [97, 98, 99, 100, 101] := by decide +kernel
      have cA : ("a" : Str).cps.toList = [97] := by decide +kernel
      have cC : ("c" : Str).cps.toList = [99] := by decide +kernel
      have cB : ("b" : Str).cps.toList = [98] := by decide +kernel
      have c_ab : ("ab" : Str).cps.toList = [97, 98] := by decide +kernel
      have c_ba : ("ba" : Str).cps.toList = [98, 97] := by decide +kernel
      have c_aab : ("aab" : Str).cps.toList = [97, 97, 98] := by decide +kernel
      have c_abb : ("abb" : Str).cps.toList = [97, 98, 98] := by decide +kernel
      have c_aabb : ("aabb" : Str).cps.toList = [97, 97, 98, 98] := by decide +kernel
      have c_aaab : ("aaab" : Str).cps.toList = [97, 97, 97, 98] := by decide +kernel
      have c_a2 : ("aa" : Str).cps.toList = [97, 97] := by decide +kernel
      have c_a3 : ("aaa" : Str).cps.toList = [97, 97, 97] := by decide +kernel
      have c_a4 : ("aaaa" : Str).cps.toList = [97, 97, 97, 97] := by decide +kernel
      have c_a6 : ("aaaaaa" : Str).cps.toList = [97, 97, 97, 97, 97, 97] := by decide +kernel
      have rp : ∀ {s : Str} {k : Int} {t : Tx} {σ : L2.St} {H : Hp}, (PySem.Txt.mul s k).cps.toList = t → s.length ≤ 16 ∧ 0 ≤ k ∧ k ≤ 1048576 → Ev (tOp (fun x y H Q => ∃ s k, x = .str s ∧ y = .int k ∧ s.length ≤ 16 ∧ 0 ≤ k ∧ k ≤ 1048576 ∧ Q (.str (PySem.Txt.mul s k)) H) (tC (.str s)) (tC (.int k))) σ H (tv t) := fun h h2 => ev_rep h h2.1 h2.2.1 h2.2.2
      -- too many between
      refine q_asg (v := tv fF) (ev_addS (ev_addS (ev_addS (ev_addS (rp (t := fr 97 6) (by decide +kernel) (by decide +kernel)) (rp (t := fr 98 6) (by decide +kernel) (by decide +kernel)) (by decide +kernel)) (rp (t := fr 99 6) (by decide +kernel) (by decide +kernel)) (by decide +kernel)) (rp (t := fr 100 6) (by decide +kernel) (by decide +kernel)) (by decide +kernel)) (rp (t := fr 101 6) (by decide +kernel) (by decide +kernel)) (by decide +kernel)) fun H3 e3 => ?_
      refine q_lstN2 (T := Tt) (v1 := .int 7776) (ev_is (ev_bc (n := 1) (a := fF) (b := [97, 98, 99, 100, 101]) (ea_cons (ev_var rfl) (ea_cons (ev_lit cE) (ea_cons ev_c ea_nil))) (by decide +kernel) (by decide) (by decide)) (by rw [if_pos (by decide +kernel)]; congr 1)) (hT2.ext e3) (en_told (n := 1) (l := fF) (e := [97, 98, 99, 100, 101]) (by decide +kernel) (by decide) (by decide) (by decide +kernel) (by decide +kernel) (ea_cons (ev_var rfl) (ea_cons (ev_lit cE) (ea_cons ev_c ea_nil)))) fun p4 v4 H4 H5 e4 hv4 e5 T5 hx5 => ?_
      refine q_when (b := false) (et_B (ev_neLL (K := K) (k := 2) (ds := [nD 7776] ++ [.tuple [.str "many", .int 2000]] ++ [nD 25]) (ld_catV (ds := [nD 7776, .tuple [.str "many", .int 2000]]) (es := [nD 25]) (ev_var (v := .ref p4) rfl) hx5 (.cons (.int _) (.cons (Dp.mono e5 hv4) .nil)) (ld_lst (ad_cons (ed_nat (ev_is (ev_dap (n := 1) (a := fF) (b := [97, 98, 99, 100, 101]) (ea_cons (ev_var rfl) (ea_cons (ev_lit cE) (ea_cons ev_c ea_nil))) (by decide +kernel) (by decide) (by decide)) (by unfold apV; rw [if_pos (by decide +kernel)]; congr 1))) ad_nil) (by decide)) (by decide)) (ld_lst (ad_cons (ed_int ev_c) (ad_cons (ed_u (ud_tup (ad_cons (ed_ev ev_c (.str _)) (ad_cons (ed_ev ev_c (.int _)) ad_nil)) (by decide))) (ad_cons (ed_int ev_c) ad_nil))) (by decide)) (fit_lst fun d hd => ?_) (by decide +kernel))) (fun z => by cases z) fun _ H6 e6 => ?_
      · simp only [List.cons_append, List.nil_append, List.mem_cons, List.not_mem_nil, or_false] at hd
        rcases hd with e | e | e <;> rw [e]
        · exact fit_int _
        · exact fit_tup fun x hx => by
            simp only [List.mem_cons, List.not_mem_nil, or_false] at hx
            rcases hx with e | e <;> rw [e]
            · exact fit_str (by decide +kernel)
            · exact fit_int _
        · exact fit_int _
      have T6 := T5.ext e6
      -- middles
      refine q_asgL (xs := [tv [97, 97, 98, 98], tv [97, 98], iv 2]) (el_lst (ea_cons (ev_is (ev_mt (n := 1) (txs := [[97, 97, 98], [97, 98, 98], [97, 97, 98, 98]]) (eu_tup (ea_cons (ev_lit c_aab) (ea_cons (ev_lit c_abb) (ea_cons (ev_lit c_aabb) ea_nil))) (by decide)) ev_c (by decide +kernel) (by decide) (by decide)) (mid_is (by decide +kernel) (by decide +kernel))) (ea_cons (ev_is (ev_mt (n := 1) (txs := [[97, 98], [97, 97, 97, 98]]) (eu_tup (ea_cons (ev_lit c_ab) (ea_cons (ev_lit c_aaab) ea_nil)) (by decide)) ev_c (by decide +kernel) (by decide) (by decide)) (mid_is (by decide +kernel) (by decide +kernel)))
        (ea_cons (ev_is (ev_lenD (ds := (deedsM 1 [97, 97, 98] [97, 98, 98]).1.map ddD) (by
          have h := ed_row (K := K) (n := 1) (a := [97, 97, 98]) (b := [97, 98, 98]) (σ := [some (.ref a), some (.ref m), y2, y3, y4, y5, y6, y7, y8, y9, y10, y11, some (.ref p4), y13, some (tv fF), y15]) (H := H6) (ts := tCons (tC (.str "aab")) (tCons (tC (.str "abb")) (tCons (tC (.int 1)) tNil))) (ea_cons (ev_lit c_aab) (ea_cons (ev_lit c_abb) (ea_cons ev_c ea_nil))) (by decide +kernel) (by decide) (by decide)
          have e : rowD 1 [97, 97, 98] [97, 98, 98] = .tuple ((deedsM 1 [97, 97, 98] [97, 98, 98]).1.map ddD) := if_pos (by decide +kernel)
          rw [e] at h
          exact h)) (by rw [List.length_map]; show V.int _ = V.int _; congr 1)) ea_nil))) (by decide)) fun p7 H7 hp7 e7 hx7 => ?_
      refine q_when (b := false) (et_B (ev_neLD (K := K) (k := 1) (ds := [tD [97, 97, 98, 98], tD [97, 98], nD 2]) (ev_var (v := .ref p7) rfl) hx7 (.cons (dp_tx _) (.cons (dp_tx _) (.cons (.int _) .nil))) (ld_lst (ad_cons (ed_tx (ev_lit c_aabb)) (ad_cons (ed_tx (ev_lit c_ab)) (ad_cons (ed_int ev_c) ad_nil))) (by decide)) ⟨by decide +kernel, by decide +kernel⟩ (by decide +kernel))) (fun z => by cases z) fun _ H8 e8 => ?_
      -- deeds
      refine q_asgL (xs := [iv 2, iv 2]) (el_lst (ea_cons (ev_is (ev_dta (n := 1) (t := [97, 97, 98, 98]) (txs := [[97, 97, 98], [97, 98, 98], [97, 97, 98, 98]]) (ev_lit c_aabb) (eu_tup (ea_cons (ev_lit c_aab) (ea_cons (ev_lit c_abb) (ea_cons (ev_lit c_aabb) ea_nil))) (by decide)) ev_c (by decide +kernel) (by decide) (by decide +kernel) (by decide) (by decide)) (all_is (by decide +kernel) (by decide +kernel))) (ea_cons (ev_chk (z := z) (n := 1) (a := [97, 97, 98]) (b := [97, 98, 98]) (d := .tuple [.tuple [.str "copy", .int 2], .tuple [.str "undo", .int 0]]) (ev_lit c_aab) (ev_lit c_abb) ev_c (fun H1 => eo_tup (ao_cons (eo_cu _ _) (ao_cons (eo_cu _ _) ao_nil)) (by decide)) (by decide +kernel) (by decide) (by decide) (by decide +kernel)) ea_nil)) (by decide)) fun p9 H9 hp9 e9 hx9 => ?_
      refine q_when (b := false) (et_is (et_or (a := false) (b := false) (et_B (ev_neLD (K := K) (k := 1) (ds := [nD 2, nD 2]) (ev_var (v := .ref p9) rfl) hx9 (.cons (.int _) (.cons (.int _) .nil)) (ld_lst (ad_cons (ed_int ev_c) (ad_cons (ed_int ev_c) ad_nil)) (by decide)) ⟨by decide +kernel, by decide +kernel⟩ (by decide +kernel))) fun _ => et_B (ev_is (ev_ne (x := iv 120) (ev_chk (z := z) (n := 1) (a := [97]) (b := [97]) (d := .tuple (List.replicate 60 [.tuple [.str "copy", .int 0], .tuple [.str "undo", .int 0]]).flatten) (ev_lit cA) (ev_lit cA) ev_c (fun H1 => eo_repL (k := 60) (eo_tup (ao_cons (eo_cu _ _) (ao_cons (eo_cu _ _) ao_nil)) (by decide)) (by simp) (by decide) (by decide) (by decide)) (by decide +kernel) (by decide) (by decide) (by decide +kernel)) ev_c rfl) (by decide +kernel))) rfl) (fun z => by cases z) fun _ H10 e10 => ?_
      have T10 := T6.ext (e7.trans (e8.trans (e9.trans e10)))
      -- just as many as are listed
      refine q_asg (v := tv fG) (ev_addS (ev_addS (ev_addS (ev_addS (rp (t := fr 97 5) (by decide +kernel) (by decide +kernel)) (rp (t := fr 98 5) (by decide +kernel) (by decide +kernel)) (by decide +kernel)) (rp (t := fr 99 5) (by decide +kernel) (by decide +kernel)) (by decide +kernel)) (rp (t := fr 100 4) (by decide +kernel) (by decide +kernel)) (by decide +kernel)) (rp (t := fr 101 4) (by decide +kernel) (by decide +kernel)) (by decide +kernel)) fun H11 e11 => ?_
      refine q_lenN (T := Tt) (n := 2000) (en_bts (z := z) (n := 1) (l := fG) (e := [97, 98, 99, 100, 101]) (by decide) (by decide) (okB_ok (by decide +kernel)) (okB_ok (by decide +kernel)) (by decide) (by decide) (fun _ => by decide +kernel) (ev_var rfl) (ev_lit cE) ev_c) (T10.ext e11) (by
        rw [List.length_map]
        have h := btR_len (n := 1) (by decide) (l := fG) (e := [97, 98, 99, 100, 101])
        rw [if_pos (by decide +kernel), show betwM 1 fG [97, 98, 99, 100, 101] = 2000 by decide +kernel] at h
        omega) (fun H12 e12 => et_B (ev_is (ev_ne (x := tv [97]) (y := tv [97]) (ev_is (ev_mt (n := 1) (txs := List.replicate 8 [97]) (eu_is (eu_rep (k := 8) (eu_tup (ea_cons (ev_lit cA) ea_nil) (by decide)) (by simp) (by decide) (by decide) (by decide)) rfl) ev_c (by decide +kernel) (by decide) (by decide)) (mid_is (by decide +kernel) (by decide +kernel))) (ev_lit cA) rfl) (by rw [decide_eq_true rfl]; rfl))) fun H12 e12 T12 => ?_
      -- not kin
      refine q_asgL (xs := [.non, .non, .non]) (el_lst (ea_cons (ev_is (ev_mt (n := 1) (txs := [[97, 98], [97, 97, 98], [98, 97]]) (eu_tup (ea_cons (ev_lit c_ab) (ea_cons (ev_lit c_aab) (ea_cons (ev_lit c_ba) ea_nil))) (by decide)) ev_c (by decide +kernel) (by decide) (by decide)) (mid_non (by decide +kernel))) (ea_cons (ev_is (ev_dta (n := 1) (t := [97, 98]) (txs := [[97, 97, 98], [98, 97]]) (ev_lit c_ab) (eu_tup (ea_cons (ev_lit c_aab) (ea_cons (ev_lit c_ba) ea_nil)) (by decide)) ev_c (by decide +kernel) (by decide) (by decide +kernel) (by decide) (by decide)) (all_non (by decide +kernel))) (ea_cons (ev_is (ev_dta (n := 1) (t := [98, 97]) (txs := [[97, 98]]) (ev_lit c_ba) (eu_tup (ea_cons (ev_lit c_ab) ea_nil) (by decide)) ev_c (by decide +kernel) (by decide) (by decide +kernel) (by decide) (by decide)) (all_non (by decide +kernel))) ea_nil))) (by decide)) fun p13 H13 hp13 e13 hx13 => ?_
      refine q_when (b := false) (et_B (ev_neLD (K := K) (k := 1) (ds := [.none, .none, .none]) (ev_var (v := .ref p13) rfl) hx13 (.cons .non (.cons .non (.cons .non .nil))) (ld_lst (ad_cons (ed_ev ev_c .non) (ad_cons (ed_ev ev_c .non) (ad_cons (ed_ev ev_c .non) ad_nil))) (by decide)) ⟨by decide +kernel, by decide +kernel⟩ (by decide +kernel))) (fun z => by cases z) fun _ H14 e14 => ?_
      refine q_when (b := false) (et_B (ev_is (ev_ne (x := iv 2) (ev_chk (z := z) (n := 1) (a := fr 97 60) (b := fr 97 60) (d := .tuple [.tuple [.str "copy", .int 0], .tuple [.str "undo", .int 0]]) (rp (by decide +kernel) (by decide +kernel)) (rp (by decide +kernel) (by decide +kernel)) ev_c (fun H1 => eo_tup (ao_cons (eo_cu _ _) (ao_cons (eo_cu _ _) ao_nil)) (by decide)) (by decide +kernel) (by decide) (by decide) (by decide +kernel)) ev_c rfl) (by decide +kernel))) (fun z => by cases z) fun _ H15 e15 => ?_
      -- long ones
      refine q_asgU (xs := [fr 97 29 ++ fr 98 29 ++ [99], fr 97 29 ++ [98] ++ fr 99 29, [97] ++ fr 98 29 ++ fr 99 29].map tv) (eu_tup (ea_cons (ev_addS (ev_addS (rp (t := fr 97 29) (by decide +kernel) (by decide +kernel)) (rp (t := fr 98 29) (by decide +kernel) (by decide +kernel)) (by decide +kernel)) (ev_lit cC) (by decide +kernel)) (ea_cons (ev_addS (ev_addS (rp (t := fr 97 29) (by decide +kernel) (by decide +kernel)) (ev_lit cB) (by decide +kernel)) (rp (t := fr 99 29) (by decide +kernel) (by decide +kernel)) (by decide +kernel)) (ea_cons (ev_addS (ev_addS (ev_lit cA) (rp (t := fr 98 29) (by decide +kernel) (by decide +kernel)) (by decide +kernel)) (rp (t := fr 99 29) (by decide +kernel) (by decide +kernel)) (by decide +kernel)) ea_nil))) (by decide)) fun p16 H16 hp16 e16 hx16 => ?_
      refine q_when (b := false) (et_B (ev_is (ev_ne (x := tv (fr 97 29 ++ fr 98 29 ++ fr 99 29)) (ev_is (ev_mtV (n := 1) (ev_var (v := .ref p16) rfl) hx16 ev_c (by decide +kernel) (by decide) (by decide)) (mid_is (by decide +kernel) (by decide +kernel))) (ev_addS (ev_addS (rp (t := fr 97 29) (by decide +kernel) (by decide +kernel)) (rp (t := fr 98 29) (by decide +kernel) (by decide +kernel)) (by decide +kernel)) (rp (t := fr 99 29) (by decide +kernel) (by decide +kernel)) (by decide +kernel)) rfl) (by rw [decide_eq_true rfl]; rfl))) (fun z => by cases z) fun _ H17 e17 => ?_
      refine q_asgU (xs := (List.replicate 3 [97, 98] ++ List.replicate 5 [97, 97, 98]).map tv) (eu_is (eu_cat (eu_rep (k := 3) (eu_tup (ea_cons (ev_lit c_ab) ea_nil) (by decide)) (by simp) (by decide) (by decide) (by decide)) (eu_rep (k := 5) (eu_tup (ea_cons (ev_lit c_aab) ea_nil) (by decide)) (by simp) (by decide) (by decide) (by decide)) (by simp) (by simp) (by simp)) rfl) fun p18 H18 hp18 e18 hx18 => ?_
      refine q_when (b := false) (et_is (et_or (a := false) (b := false) (et_B (ev_is (ev_ne (x := tv [97, 97, 98]) (ev_is (ev_mtV (n := 1) (ev_var (v := .ref p18) rfl) hx18 ev_c (by decide +kernel) (by decide) (by decide)) (mid_is (by decide +kernel) (by decide +kernel))) (ev_lit c_aab) rfl) (by rw [decide_eq_true rfl]; rfl))) fun _ => et_B (ev_is (ev_ne (x := iv 3) (ev_is (ev_dtaV (n := 1) (t := [97, 97, 98]) (ev_lit c_aab) (ev_var (v := .ref p18) rfl) hx18 ev_c (by decide +kernel) (by decide) (by decide +kernel) (by decide) (by decide)) (all_is (by decide +kernel) (by decide +kernel))) ev_c rfl) (by decide +kernel))) rfl) (fun z => by cases z) fun _ H19 e19 => ?_
      -- wide ones
      refine q_asgL (xs := [iv 2, iv 2, .int 3]) (el_lst (ea_cons (ev_is (ev_dap (n := 6) (a := fr 97 18) (b := fr 97 6) (ea_cons (rp (by decide +kernel) (by decide +kernel)) (ea_cons (rp (by decide +kernel) (by decide +kernel)) (ea_cons ev_c ea_nil))) (by decide +kernel) (by decide) (by decide)) (by unfold apV; rw [if_pos (by decide +kernel)]; congr 1)) (ea_cons (ev_is (ev_dap (n := 5) (a := fr 97 6) (b := fr 97 16) (ea_cons (rp (by decide +kernel) (by decide +kernel)) (ea_cons (rp (by decide +kernel) (by decide +kernel)) (ea_cons ev_c ea_nil))) (by decide +kernel) (by decide) (by decide)) (by unfold apV; rw [if_pos (by decide +kernel)]; congr 1)) (ea_cons (ev_is (ev_bc (n := 6) (a := fr 97 18) (b := fr 97 6) (ea_cons (rp (by decide +kernel) (by decide +kernel)) (ea_cons (rp (by decide +kernel) (by decide +kernel)) (ea_cons ev_c ea_nil))) (by decide +kernel) (by decide) (by decide)) (by rw [if_pos (by decide +kernel)]; congr 1)) ea_nil))) (by decide)) fun p20 H20 hp20 e20 hx20 => ?_
      exact s_ret (v := .bl true) (ev_andT (ev_eqLV (K := K) (k := 1) (ds := [nD 2, nD 2, nD 3]) (ev_var (v := .ref p20) rfl) hx20 (.cons (.int _) (.cons (.int _) (.cons (.int _) .nil))) (ld_lst (ad_cons (ed_int ev_c) (ad_cons (ed_int ev_c) (ad_cons (ed_int ev_c) ad_nil))) (by decide)) ⟨by decide +kernel, by decide +kernel⟩ (by decide +kernel)) (ev_is (ev_eq (x := tv [97, 97, 97]) (ev_is (ev_mt (n := 1) (txs := [[97], [97, 97, 97, 97], [97, 97], [97, 97, 97, 97, 97, 97], [97, 97, 97]]) (eu_tup (ea_cons (ev_lit cA) (ea_cons (ev_lit c_a4) (ea_cons (ev_lit c_a2) (ea_cons (ev_lit c_a6) (ea_cons (ev_lit c_a3) ea_nil))))) (by decide)) ev_c (by decide +kernel) (by decide) (by decide)) (mid_is (by decide +kernel) (by decide +kernel))) (ev_lit c_a3) rfl) (by rw [decide_eq_true rfl]))) fun H21 e21 => q H21
end
end K9
namespace K9
open PySem PySem.Spec PyProof.Rows L2 Evl
/-- the heap that the law's caller leaves: the script, the empty tables -/
def lawHp (K : PySem.W.Frag) (a : Addr) (o : HO) (ts : List Addr) : Hp := fun b => if b ∈ ts then some (.tbl #[]) else if b = a ∧ K.lookup a = none then some o else none
abbrev tabO : Obj := { cls := .none, data := .fields #[] }
section
variable {K : PySem.W.Frag} {a b : Addr} {o u : HO} {ts : List Addr}
theorem lawHp_tab (h : b ∈ ts) : lawHp K a o ts b = some (.tbl #[]) := if_pos h
theorem lawHp_a (h : a ∉ ts) (k : K.lookup a = none) : lawHp K a o ts a = some o := (if_neg h).trans (if_pos ⟨rfl, k⟩)
theorem lawHp_cases (h : lawHp K a o ts b = some u) : (b ∈ ts ∧ u = .tbl #[]) ∨ (b ∉ ts ∧ b = a ∧ K.lookup a = none ∧ u = o) := by
  unfold lawHp at h
  by_cases z : b ∈ ts
  · rw [if_pos z] at h
    exact .inl ⟨z, (Option.some.inj h).symm⟩
  · rw [if_neg z] at h
    by_cases y : b = a ∧ K.lookup a = none
    · rw [if_pos y] at h
      exact .inr ⟨z, y.1, y.2, (Option.some.inj h).symm⟩
    · rw [if_neg y] at h
      cases h
end
/-- what the caller's heap must say -/
structure EndS (K : PySem.W.Frag) (mg mb : Str → Option Value) (cs : List (Addr × Addr)) (a : Addr) (vs : List Value) (ns : List Int) (s : Shared) : Prop where
  kin : K.In s.heap
  g : s.heap.Ns mainGlobals mg
  b : s.heap.Ns builtinsNs mb
  bb : ∀ x : Str, x ≠ "__name__" → mb x = bootBuiltins x
  lim : s.heap.NoLimit
  gens : s.gens = #[]
  tab : ∀ p ∈ cs, s.heap.get? p.2 = some tabO
  out : ∀ p ∈ cs, K.lookup p.2 = none
  code : ∀ p ∈ cs, PySem.W.CodeHd s.heap p.1 p.2
  bm : ∃ (bm : Addr) (ob : Obj), mg "__builtins__" = some (.ref bm) ∧ bm ≠ builtinsNs ∧ s.heap.get? bm = some ob ∧ ob.cls = .type "module" ∧ ob.dict = some builtinsNs ∧ ob.data = .plain
  at_ : s.heap.get? a = some { cls := .type "list", data := .seq vs.toArray }
  isI : IntsAre vs ns
  len : ns.length ≤ sizeLine
section
variable {P : Program} {w : World} {K : PySem.W.Frag} {mg mb : Str → Option Value} {cs : List (Addr × Addr)} {a b : Addr} {vs : List Value} {ns : List Int} {s : Shared}
def scrO (vs : List Value) (ns : List Int) : HO := .frz { cls := .type "list", data := .seq vs.toArray } (.lst (ns.map V.int))
def endH (K : PySem.W.Frag) (cs : List (Addr × Addr)) (a : Addr) (vs : List Value) (ns : List Int) : Hp := lawHp K a (scrO vs ns) (cs.map Prod.snd)
theorem EndS.tabs (h : EndS K mg mb cs a vs ns s) (hb : b ∈ cs.map Prod.snd) : s.heap.get? b = some tabO := by
  obtain ⟨p, hp, rfl⟩ := List.mem_map.mp hb
  exact h.tab p hp
theorem EndS.noT (h : EndS K mg mb cs a vs ns s) : a ∉ cs.map Prod.snd := fun z => by
  have e := h.at_.symm.trans (h.tabs z)
  cases e
/-- no tracked object but lists and tables -/
theorem EndS.off (h : EndS K mg mb cs a vs ns s) {o : Obj} (e : s.heap.get? b = some o) (h1 : ∀ xs n, o.data ≠ .seq xs n) (h2 : o.data ≠ .fields #[]) : endH K cs a vs ns b = none := by
  cases q : endH K cs a vs ns b with
  | none => rfl
  | some u =>
    rcases lawHp_cases q with ⟨z, _⟩ | ⟨_, z, _, _⟩
    · have e2 := e.symm.trans (h.tabs z)
      cases e2
      exact absurd rfl h2
    · rw [z, h.at_] at e
      cases e
      exact absurd rfl (h1 _ _)
theorem EndS.nsH (h : EndS K mg mb cs a vs ns s) {b : Addr} {m : Str → Option Value} (n : s.heap.Ns b m) : (hidT s.heap (endH K cs a vs ns)).Ns b m := by
  obtain ⟨o, es, ep, e, d, r⟩ := n
  refine ⟨o, es, ep, hidT_get e (h.off e (fun xs n z => ?_) fun z => ?_), d, r⟩
  · rw [d] at z; cases z
  · rw [d] at z; cases z
theorem EndS.kinH (h : EndS K mg mb cs a vs ns s) : K.In (hidT s.heap (endH K cs a vs ns)) := fun b o e => by
  refine hidT_get (h.kin b o e) ?_
  cases q : endH K cs a vs ns b with
  | none => rfl
  | some u =>
    rcases lawHp_cases q with ⟨z, _⟩ | ⟨_, z, k, _⟩
    · obtain ⟨p, hp, ep⟩ := List.mem_map.mp z
      have no := h.out p hp
      rw [show p.2 = b from ep, e] at no
      cases no
    · rw [z, k] at e
      cases e
theorem EndS.mod (h : EndS K mg mb cs a vs ns s) : L2.Mod K mg (hidT s.heap (endH K cs a vs ns)) :=
  ⟨h.kinH, h.nsH h.g, ⟨mb, h.nsH h.b, h.bb⟩, by obtain ⟨mc, l1, l2⟩ := h.lim; exact ⟨mc, h.nsH l1, l2⟩⟩
theorem EndS.tabB (h : EndS K mg mb cs a vs ns s) {p : Addr × Addr} (hp : p ∈ cs) : LamX.TabB (hidT s.heap (endH K cs a vs ns)) mg p.1 p.2 := by
  have ht := h.tab p hp
  refine ⟨?_, ?_, fun z => ?_⟩
  · obtain ⟨o, us, file, tf, flags, tg, inF, text, tt, e, c, d, k, r⟩ := h.code p hp
    refine ⟨o, us, file, tf, flags, tg, inF, text, tt, hidT_get e (h.off e (fun xs n z => ?_) fun z => ?_), c, d, k, r⟩
    · rw [d] at z; cases z
    · rw [d] at z
      cases z
      simp at k
  · obtain ⟨bm, ob, b1, b2, b3, b4, b5, b6⟩ := h.bm
    refine ⟨bm, ob, b1, b2, fun z => ?_, fun z => ?_, hidT_get b3 (h.off b3 (fun xs n z => ?_) fun z => ?_), b4, b5, b6⟩
    · obtain ⟨o, es, ep, e, d, _⟩ := h.g
      rw [← z, b3] at e
      cases e
      rw [b6] at d
      cases d
    · rw [z, ht] at b3
      cases b3
      cases b6
    · rw [b6] at z; cases z
    · rw [b6] at z; cases z
  · obtain ⟨o, es, ep, e, d, _⟩ := h.g
    rw [z, ht] at e
    cases e
    cases d
theorem EndS.hok (h : EndS K mg mb cs a vs ns s) : HOk P w (endH K cs a vs ns) s.heap := fun b u q => by
  rcases lawHp_cases q with ⟨z, rfl⟩ | ⟨_, rfl, _, rfl⟩
  · exact h.tabs z
  · exact ⟨h.at_, by rw [List.length_map]; exact h.len, vs, _, vals_ints h.isI, h.at_⟩
theorem EndS.sq (h : EndS K mg mb cs a vs ns s) : SqL K (endH K cs a vs ns) a (ns.map V.int) := by
  cases k : K.lookup a with
  | none => exact .inl (.inr ⟨_, lawHp_a h.noT k⟩)
  | some o =>
    have e := (h.kin a o k).symm.trans h.at_
    cases e
    exact .inr ⟨_, vs.toArray, _, k, rfl, rfl, rfl, by rw [List.size_toArray, h.isI.length]; exact h.len, by simpa using vals_ints h.isI⟩
theorem EndS.env (h : EndS K mg mb cs a vs ns s) : Env0 P w K mg (hidT s.heap (endH K cs a vs ns)) callerA [] s (endH K cs a vs ns) :=
  ⟨rfl, h.mod, fun b o e => of_hidT e, Nat.le_of_eq (hidT_size _ _), trivial, (fun b z => nomatch z), h.hok, .of_eq h.gens⟩
/-- the call -/
theorem EndS.call {k : Nat} {f : Addr} {x : Str} {sp : Sp} {Lw : Str} (h : EndS K mg mb cs a vs ns s) (hr : Room k callerA) (hf : mg Lw = some (.ref f))
    (C : CalG P w K mg (hidT s.heap (endH K cs a vs ns)) CX0 k Lw [x] sp) (hsp : sp [.ref a] (endH K cs a vs ns) (fun v _ => v = .bl true) fun _ _ _ => False) :
    codeAny (model P w) callerA (.call (.ref f) ⟨[.ref a], []⟩) (fun r s' => r = .ok (.ret (.bool true)) ∧ OldK s.heap s'.heap ∧ s'.os = s.os ∧ AllBare s'.gens) s := by
  obtain ⟨f', fd, F, hm, _, B⟩ := C.ex
  have ef := hf.symm.trans hm
  cases ef
  refine codeAny_mono (F.run callerA [] s _ ⟨[.ref a], []⟩ [.ref a] [.ref a] _ _ hr rfl h.env (B s [.ref a] h.kin rfl) (.cons rfl .nil) hsp) fun r s' z => ?_
  cases r with
  | error e => exact False.elim z
  | ok fl =>
    cases fl with
    | next => exact False.elim z
    | brk => exact False.elim z
    | cont => exact False.elim z
    | ret u =>
      obtain ⟨v, H', os, bare, un, hok', r', rfl⟩ := z
      obtain rfl : u = Value.bool true := r'
      have rest : ∀ b o, b ∉ cs.map Prod.snd → s.heap.get? b = some o → s'.heap.get? b = some o := fun b o nb e => by
        cases q : endH K cs a vs ns b with
        | none => exact un.keep b o e q (fun z => nomatch z) (fun z => nomatch z)
        | some u =>
          rcases lawHp_cases q with ⟨z, _⟩ | ⟨_, ea, _, eu⟩
          · exact absurd z nb
          · subst eu
            have e1 := (h.hok (P := P) (w := w) b _ q).1
            have e2 := (hok' b _ (un.frzs b _ _ q)).1
            rw [e] at e1
            cases e1
            exact e2
      have more : ∀ p ∈ cs, ∃ m : Array Value, s'.heap.get? p.2 = some { cls := .none, data := .fields m } := fun p hp => by
        obtain ⟨m, z⟩ := un.tbls p.2 #[] (lawHp_tab (List.mem_map.mpr ⟨p, hp, rfl⟩))
        exact ⟨_, hok' p.2 _ z⟩
      refine ⟨rfl, ⟨fun b o e => ?_, fun b o e => ?_⟩, os, bare⟩
      · by_cases z : b ∈ cs.map Prod.snd
        · obtain ⟨p, hp, rfl⟩ := List.mem_map.mp z
          obtain ⟨m, em⟩ := more p hp
          have eo := e.symm.trans (h.tab p hp)
          cases eo
          exact .inr (.inl ⟨((h.code p hp).tab (h.tab p hp)).isCodeTable, rfl, #[], m, rfl, by rw [Array.empty_append]; exact em⟩)
        · exact .inl (rest b o z e)
      · by_cases z : b ∈ cs.map Prod.snd
        · obtain ⟨p, hp, rfl⟩ := List.mem_map.mp z
          obtain ⟨m, em⟩ := more p hp
          exact ⟨_, em⟩
        · exact ⟨o, rest b o z e⟩
end
end K9
namespace K9
open PySem PySem.Spec PyProof.Rows L2 Evl
def lamQ (x : Str) : Str := x ++ ".<locals>." ++ "<lambda>"
def TtOf (K : PySem.W.Frag) : List (Addr × Str) := [(tbl K "between_texts", lamQ "between_texts"), (tbl K "_law_deeds_right", lamQ "_law_deeds_right"), (tbl K "law", lamQ "law")]
theorem three {a b c : Addr} {x y z : Str} (h1 : a ≠ b) (h2 : a ≠ c) (h3 : b ≠ c) : (∀ q ∈ [(a, x), (b, y), (c, z)], q.1 = a → q.2 = x) ∧ (∀ q ∈ [(a, x), (b, y), (c, z)], q.1 = b → q.2 = y) ∧ (∀ q ∈ [(a, x), (b, y), (c, z)], q.1 = c → q.2 = z) := by
  refine ⟨fun q hq e => ?_, fun q hq e => ?_, fun q hq e => ?_⟩ <;>
  · rcases List.mem_cons.mp hq with rfl | hq
    · first | rfl | exact absurd e h1 | exact absurd e h2 | exact absurd e.symm h1 | exact absurd e.symm h2
    · rcases List.mem_cons.mp hq with rfl | hq
      · first | rfl | exact absurd e h1 | exact absurd e h3 | exact absurd e.symm h1 | exact absurd e.symm h3
      · rcases List.mem_cons.mp hq with rfl | hq
        · first | rfl | exact absurd e h2 | exact absurd e h3 | exact absurd e.symm h2 | exact absurd e.symm h3
        · cases hq
theorem apartB_ok {K : PySem.W.Frag} (h : apartB K = true) : tbl K "between_texts" ≠ tbl K "_law_deeds_right" ∧ tbl K "between_texts" ≠ tbl K "law" ∧ tbl K "_law_deeds_right" ≠ tbl K "law" := by
  obtain ⟨h1, h⟩ := He.ba h
  obtain ⟨h2, h3⟩ := He.ba h
  exact ⟨fun e => by rw [e] at h1; simp at h1, fun e => by rw [e] at h2; simp at h2, fun e => by rw [e] at h3; simp at h3⟩
section
variable {P : Program} {w : World} {K : PySem.W.Frag} {mg : Str → Option Value} {base h : Heap}
theorem fnP_at {x : Str} {st : Stmt} (X : K.In h) (G : h.Ns mainGlobals mg) (c : He.SaysD faAll fnAll K) (i : Nat) (h1 : fnAll[i]? = some (hdD x st)) (h2 : faAll[i]? = some (.glo x)) : FnP K mg x st := by
  obtain ⟨fd, F⟩ := c.def_ i h1
  exact ⟨_, fd, F, He.glo_ok X G (c.fact i h2)⟩
theorem fnPC_at {x : Str} {st : Stmt} (X : K.In h) (G : h.Ns mainGlobals mg) (c : He.SaysD faAll fnAll K) (i : Nat) (h1 : fnAll[i]? = some (hdD x st)) (h2 : faAll[i]? = some (.glo x))
    (B : ∀ p ∈ tfN, LamX.TabB base mg (He.cT K p).1 (He.cT K p).2) (hx : tfN.contains (x, none) = true) : FnPC K mg base x st (He.cT K (x, none)).1 (tbl K x) := by
  obtain ⟨fd, F⟩ := c.def_ i h1
  obtain ⟨oc, od, dV, kV, doc, pm, an, cdv, ct, osl, e, lk, hcd, _, _⟩ := F.ex
  obtain ⟨cd, ec⟩ := He.codeIn_ref hcd
  have e2 : fd.code = .ref cd := by rw [e, ← ec]
  refine ⟨_, fd, F, He.glo_ok X G (c.fact i h2), ?_, B (x, none) (by simpa using hx)⟩
  rw [e2]
  exact congrArg Value.ref (He.codeOf_eq (p := (x, none)) lk e2).symm
theorem gc_int {x : Str} {i : Int} (X : K.In h) (G : h.Ns mainGlobals mg) (c : (He.Fa.int x i).ok K = true) : GC mg x (.int i) := by
  obtain ⟨t, e⟩ := He.int_ok X G c
  exact ⟨_, e, t, rfl⟩
theorem gc_str {x y : Str} (X : K.In h) (G : h.Ns mainGlobals mg) (c : (He.Fa.str x y).ok K = true) : GC mg x (.str y) := by
  obtain ⟨t, e⟩ := He.str_ok X G c
  exact ⟨_, e, t, rfl⟩
theorem topf_of (X : K.In h) (G : h.Ns mainGlobals mg) (c : He.SaysD faAll fnAll K) : Topf mg where
  b_len := He.free_ok X G (c.fact 66 rfl)
  b_isinstance := He.free_ok X G (c.fact 67 rfl)
  b_int := He.free_ok X G (c.fact 68 rfl)
  b_bool := He.free_ok X G (c.fact 69 rfl)
  b_str := He.free_ok X G (c.fact 70 rfl)
  b_tuple := He.free_ok X G (c.fact 71 rfl)
  b_list := He.free_ok X G (c.fact 72 rfl)
  b_set := He.free_ok X G (c.fact 73 rfl)
  b_all := He.free_ok X G (c.fact 74 rfl)
  b_sum := He.free_ok X G (c.fact 75 rfl)
  b_abs := He.free_ok X G (c.fact 76 rfl)
  b_min := He.free_ok X G (c.fact 77 rfl)
  b_max := He.free_ok X G (c.fact 78 rfl)
  b_sorted := He.free_ok X G (c.fact 79 rfl)
  b_range := He.free_ok X G (c.fact 80 rfl)
  b_zip := He.free_ok X G (c.fact 81 rfl)
  b_enumerate := He.free_ok X G (c.fact 82 rfl)
  b_repr := He.free_ok X G (c.fact 83 rfl)
  c_LETTERS := gc_str X G (c.fact 85 rfl)
  c_MOST_LONG := gc_int X G (c.fact 86 rfl)
  c_MOST_SIZE := gc_int X G (c.fact 87 rfl)
  c_MANY_LETTERS := gc_int X G (c.fact 88 rfl)
  c_HEAD := gc_str X G (c.fact 89 rfl)
  c_STEPS := gc_str X G (c.fact 90 rfl)
  c_COPY := gc_str X G (c.fact 91 rfl)
  c_UNDO := gc_str X G (c.fact 92 rfl)
  c_MOST_LISTED := gc_int X G (c.fact 93 rfl)
  c_MOST_TEXTS := gc_int X G (c.fact 94 rfl)
  c_MOST_DEEDS := gc_int X G (c.fact 95 rfl)
theorem super_of (X : K.In h) (G : h.Ns mainGlobals mg) (c : He.SaysD faAll fnAll K) : mg "super" = none := He.free_ok X G (c.fact 84 rfl)
theorem cls_of (X : K.In h) (G : h.Ns mainGlobals mg) (c : He.SaysD faAll fnAll K) : ∀ x ∈ clsN, mg x = some (.ref (He.ga K x)) := fun x hx => He.glo_ok X G (c.facts (List.mem_append_right _ (List.mem_append_left _ (List.mem_map.mpr ⟨x, hx, rfl⟩))))
theorem law_pkg (X : K.In h) (G : h.Ns mainGlobals mg) (c : He.SaysD faAll fnAll K) (XF : Excf P K mg (zOf K)) (ap : apartB K = true) (B : ∀ p ∈ tfN, LamX.TabB base mg (He.cT K p).1 (He.cT K p).2) : CalG P w K mg base CX0 10 "law" ["_law_script"] (spLaw (TtOf K) K) := by
  have T := topf_of X G c
  obtain ⟨n1, n2, n3⟩ := apartB_ok ap
  obtain ⟨u0, u1, u2⟩ := three (x := lamQ "between_texts") (y := lamQ "_law_deeds_right") (z := lamQ "law") n1 n2 n3
  have m0 : (tbl K "between_texts", lamQ "between_texts") ∈ TtOf K := List.mem_cons_self
  have m1 : (tbl K "_law_deeds_right", lamQ "_law_deeds_right") ∈ TtOf K := List.mem_cons_of_mem _ List.mem_cons_self
  have m2 : (tbl K "law", lamQ "law") ∈ TtOf K := List.mem_cons_of_mem _ (List.mem_cons_of_mem _ List.mem_cons_self)
  have C_is_whole := ok_is_whole (P := P) (w := w) (base := base) T (fnP_at X G c 0 rfl rfl)
  have C_is_text := ok_is_text (P := P) (w := w) (base := base) T (fnP_at X G c 1 rfl rfl)
  have C_need_text := ok_need_text (P := P) (w := w) (base := base) T (fnP_at X G c 2 rfl rfl) C_is_text
  have C_need_size := ok_need_size (P := P) (w := w) (base := base) T (fnP_at X G c 3 rfl rfl) C_is_whole
  have C_need_two := ok_need_two (P := P) (w := w) (base := base) T (fnP_at X G c 4 rfl rfl) C_need_text C_need_size
  have C_copied_of := ok_copied_of (P := P) (w := w) (base := base) T (fnP_at X G c 5 rfl rfl)
  have C_need_texts := ok_need_texts (P := P) (w := w) (base := base) T (fnP_at X G c 30 rfl rfl) C_is_text
  have C_middle_of := ok_middle_of (P := P) (w := w) (base := base) T (fnP_at X G c 32 rfl rfl)
  have C_doublings_of := ok_doublings_of (P := P) (w := w) (base := base) T (fnP_at X G c 6 rfl rfl)
  have C_gaps_of := ok_gaps_of (P := P) (w := w) (base := base) T (fnP_at X G c 7 rfl rfl)
  have C_steps_of := ok_steps_of (P := P) (w := w) (base := base) T (fnP_at X G c 8 rfl rfl) C_gaps_of
  have C_runs_of := ok_runs_of (P := P) (w := w) (base := base) T (fnP_at X G c 9 rfl rfl) C_gaps_of
  have C_laid_out := ok_laid_out (P := P) (w := w) (base := base) T (fnP_at X G c 10 rfl rfl)
  have C_built_of := ok_built_of (P := P) (w := w) (base := base) T (fnP_at X G c 11 rfl rfl) C_laid_out
  have C_root_of := ok_root_of (P := P) (w := w) (base := base) T (fnP_at X G c 12 rfl rfl) C_steps_of C_runs_of C_built_of
  have C_first_place := ok_first_place (P := P) (w := w) (base := base) T (fnP_at X G c 13 rfl rfl) C_runs_of
  have C_unlike_word := ok_unlike_word (P := P) (w := w) (base := base) T (fnP_at X G c 14 rfl rfl) C_steps_of
  have C_is_short := ok_is_short (P := P) (w := w) (base := base) T (fnP_at X G c 15 rfl rfl)
  have C_growths_of := ok_growths_of (P := P) (w := w) (base := base) T (fnP_at X G c 16 rfl rfl) C_runs_of
  have C_short_run := ok_short_run (P := P) (w := w) (base := base) T (fnP_at X G c 17 rfl rfl) C_growths_of C_is_short
  have C_does_come := ok_does_come (P := P) (w := w) (base := base) T (fnP_at X G c 18 rfl rfl) C_unlike_word C_short_run
  have C_are_kin_of := ok_are_kin_of (P := P) (w := w) (base := base) T (fnP_at X G c 19 rfl rfl) C_root_of
  have C_between_count_of := ok_between_count_of (P := P) (w := w) (base := base) T (fnP_at X G c 20 rfl rfl) C_growths_of
  have C_between_count := ok_between_count (P := P) (w := w) (base := base) T (fnP_at X G c 21 rfl rfl) C_need_two C_does_come C_between_count_of
  have C_apart_of := ok_apart_of (P := P) (w := w) (base := base) T (fnP_at X G c 23 rfl rfl) C_growths_of
  have C_deeds_apart := ok_deeds_apart (P := P) (w := w) (base := base) T (fnP_at X G c 24 rfl rfl) C_need_two C_are_kin_of C_apart_of
  have C_undone_at := ok_undone_at (P := P) (w := w) (base := base) T (fnP_at X G c 25 rfl rfl)
  have C_deeds_of := ok_deeds_of (P := P) (w := w) (base := base) T (fnP_at X G c 26 rfl rfl) C_growths_of C_first_place C_copied_of C_undone_at
  have C_deed_row := ok_deed_row (P := P) (w := w) (base := base) T (fnP_at X G c 27 rfl rfl) C_need_two C_are_kin_of C_deeds_of
  have C_is_deed := ok_is_deed (P := P) (w := w) (base := base) T (fnP_at X G c 28 rfl rfl) C_is_whole C_doublings_of
  have C_check_deeds := ok_check_deeds (P := P) (w := w) (base := base) T XF (fnP_at X G c 29 rfl rfl) C_need_two C_is_deed C_copied_of C_undone_at
  have C_l_mixed := ok_mixed (P := P) (w := w) (base := base) T (fnP_at X G c 35 rfl rfl)
  have C_l_is_twice := ok_is_twice (P := P) (w := w) (base := base) T (fnP_at X G c 43 rfl rfl)
  have C_l_draw := ok_draw (P := P) (w := w) (base := base) (Tt := TtOf K) T (fnP_at X G c 37 rfl rfl) C_l_mixed
  have C_l_folded := ok_folded (P := P) (w := w) (base := base) T (fnP_at X G c 36 rfl rfl)
  have C_l_begun := ok_begun (P := P) (w := w) (base := base) (Tt := TtOf K) T (fnP_at X G c 38 rfl rfl) C_l_folded
  have C_l_of := ok_of (P := P) (w := w) (base := base) T (fnP_at X G c 40 rfl rfl) C_l_draw
  have B0 := ok_bent0 (P := P) (w := w) (base := base) (Tt := TtOf K) (fnP_at X G c 50 rfl rfl)
  have B1 := ok_bentS 0 4 (by decide) T (fnP_at X G c 50 rfl rfl) C_l_draw C_l_of B0
  have B2 := ok_bentS 1 5 (by decide) T (fnP_at X G c 50 rfl rfl) C_l_draw C_l_of B1
  have C_l_bent := ok_bentS 2 6 (by decide) T (fnP_at X G c 50 rfl rfl) C_l_draw C_l_of B2
  have C_l_text_of := ok_text_of (P := P) (w := w) (base := base) T (fnP_at X G c 41 rfl rfl) C_l_draw
  have C_l_grown := ok_grown (P := P) (w := w) (base := base) T (fnP_at X G c 42 rfl rfl) C_l_draw
  have C_l_like := ok_like (P := P) (w := w) (base := base) T (fnP_at X G c 39 rfl rfl)
  have C_l_once := ok_once (P := P) (w := w) (base := base) T (fnP_at X G c 45 rfl rfl)
  have C_l_bare := ok_bare (P := P) (w := w) (base := base) T (fnP_at X G c 44 rfl rfl) C_l_is_twice
  have C_l_near_texts := ok_near_texts (P := P) (w := w) (base := base) T (fnP_at X G c 51 rfl rfl) C_l_once C_l_is_twice
  have C_l_is_int := ok_is_int (P := P) (w := w) (base := base) T (fnP_at X G c 49 rfl rfl)
  have C_l_led := ok_led (P := P) (w := w) (base := base) T (fnP_at X G c 54 rfl rfl) C_l_is_int C_l_is_twice
  have C_l_odds := ok_odds (P := P) (w := w) (base := base) T (fnP_at X G c 47 rfl rfl)
  have C_l_does_come := ok_does_come_l (P := P) (w := w) (base := base) T (fnP_at X G c 46 rfl rfl) C_l_is_twice
  have C_l_far := ok_far (P := P) (w := w) (base := base) T (fnP_at X G c 52 rfl rfl) C_l_near_texts
  have C_between_texts := ok_between_texts (P := P) (w := w) (base := base) T XF (fnPC_at X G c 22 rfl rfl B rfl) m0 u0 C_need_two C_does_come C_between_count_of C_growths_of C_runs_of C_steps_of C_built_of
  have C_are_all_kin := ok_are_all_kin (P := P) (w := w) (base := base) T (fnP_at X G c 31 rfl rfl) C_are_kin_of
  have C_middle_text := ok_middle_text (P := P) (w := w) (base := base) T (fnP_at X G c 33 rfl rfl) C_need_texts C_need_size C_are_all_kin C_runs_of C_middle_of C_built_of C_steps_of
  have C_deeds_to_all := ok_deeds_to_all (P := P) (w := w) (base := base) T (fnP_at X G c 34 rfl rfl) C_need_text C_need_texts C_need_size C_are_all_kin C_apart_of
  have C_l_between := ok_between_l (P := P) (w := w) (base := base) T (fnP_at X G c 53 rfl rfl) C_l_does_come C_l_once
  have C_l_deeds_right := ok_deeds_right (P := P) (w := w) (base := base) T XF (fnPC_at X G c 55 rfl rfl B rfl) (fnP_at X G c 48 rfl rfl) m1 u1 C_deed_row C_deeds_apart C_check_deeds C_l_like C_l_led C_l_odds C_l_bent
  have C_l_middle_right := ok_middle_right (P := P) (w := w) (base := base) T (fnP_at X G c 56 rfl rfl) C_l_like C_middle_text C_deeds_to_all
  exact ok_law T XF (fnPC_at X G c 57 rfl rfl B rfl) (fnP_at X G c 48 rfl rfl) m2 u2 C_l_begun C_l_draw C_l_bare C_l_text_of C_l_grown C_l_far C_l_deeds_right C_l_middle_right C_l_between C_between_count C_between_texts C_l_like C_deeds_to_all C_middle_text C_deeds_apart C_deed_row C_check_deeds
end
theorem says_pkg {w : World} {K : PySem.W.Frag} {mg : Str → Option Value} {base h : Heap} (X : K.In h) (G : h.Ns mainGlobals mg) (Y : SaysY w h K) (B : ∀ p ∈ tfN, LamX.TabB base mg (He.cT K p).1 (He.cT K p).2) : CalG Pm w K mg base CX0 10 "law" ["_law_script"] (spLaw (TtOf K) K) := by
  have c := Y.x.t.d
  obtain ⟨e1, e2⟩ := He.ba Y.x.more
  have i := Y.i
  have i1 : fnI K "BadPaper" = iP.val := (List.cons.inj i).1
  have i2 : fnI K "TooMany" = iM.val := (List.cons.inj (List.cons.inj i).2).1
  exact law_pkg X G c (excf_of (by kernel_rfl) (super_of X G c) i1 i2 e1 (fun x hx => cls_of X G c x (by simpa [clsN, or_comm, or_left_comm, or_assoc] using hx))) e2 B
theorem walkY {q : Program} {loose : List Str} {XP : (Str → Option Value) → Heap → Prop} {d : DefRec} (hd0 : d.params.defaults = []) (hn : d.name = ("law" : Str)) :
    PySem.W.WalkO q loose XP hkY.says Rw.toRowW d [] (fun f vs => PySem.call f vs) := by
  refine Att.attach_callB (l := PySem.Challenge.rw_twicewritten_k09_whole_between) (n := 63) rfl hd0 fun w s₀ s₁ mg mb fa o pm cd doc a vs ns G Y ho hd hcd hmg hobj hints hlen hbits hg => ?_
  obtain ⟨K, KX, c⟩ := Y
  rw [hn] at hmg
  have E : EndS K mg mb (tfN.map (He.cT K)) a vs ns s₁ := ⟨KX, G.T.g, G.T.b, G.T.builtins, G.T.nolimit, hg, fun p hp => by
      obtain ⟨y, hy, rfl⟩ := List.mem_map.mp hp
      exact c.x.empty y hy, fun p hp => by
      obtain ⟨y, hy, rfl⟩ := List.mem_map.mp hp
      exact c.x.out y hy, fun p hp => by
      obtain ⟨y, hy, rfl⟩ := List.mem_map.mp hp
      exact PySem.W.codeHd_of_K KX (c.x.hd y hy), G.T.bmain, hobj, hints, Nat.le_trans hlen (by rw [sizeLine_eq]; decide)⟩
  refine E.call (k := 10) ⟨rfl, by decide, by decide⟩ hmg (says_pkg KX G.T.g c fun p hp => E.tabB (List.mem_map.mpr ⟨p, hp, rfl⟩)) ?_
  refine ⟨a, ns, rfl, E.sq, Nat.le_trans hlen (by decide), fun p hp => ?_, fun _ => rfl⟩
  refine LamX.TabS.nil (lawHp_tab ?_)
  simp only [TtOf, List.mem_cons, List.not_mem_nil, or_false] at hp
  rcases hp with rfl | rfl | rfl
  · exact List.mem_cons_self
  · exact List.mem_cons_of_mem _ List.mem_cons_self
  · exact List.mem_cons_of_mem _ (List.mem_cons_of_mem _ List.mem_cons_self)
end K9
open PySem PySem.W PySem.Calls PyProof.Rows
theorem PySem.Challenge.cw_twicewritten_k09_whole_between_holds : PySem.Challenge.rw_twicewritten_k09_whole_between.Holds := by
  w_on; o_law
  refine HandSHeadRun.head_any (r := K9.Rw) (q := view K9.Rw.prog [83]) (H := K9.hkY) (ob := K9.obY) (M := 20000) (loose := K9.looseN) (d := HandSHeadRun.topDef K9.Rw.prog 83) (kwd := []) K9.obY_eq
    (by kernel_rfl) (fun s => by kernel_rfl) K9.runY (by kernel_rfl) (by kernel_rfl) (by kernel_rfl) (by rfl) (by first | assumption | decide +kernel) (by decide +kernel) ⟨rfl, rfl, rfl, rfl, rfl, by decide +kernel⟩ ?hw ?hc
  case hw => w_witness2
  case hc => exact K9.walkY (by kernel_rfl) (by kernel_rfl)
