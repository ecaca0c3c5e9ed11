import PyProof.Rows.All
import HandS.HeadHook4
import HandS.ExcIs
import HandS.Words
import PySem.Challenge.RW_anystair_k15_errors_in_order
import HandS.Head0
import HandS.Head1
import HandS.Head2
import HandS.HeadEnd
import HandS.HeadHook1
import HandS.HeadHook2
import HandS.HeadWalk
import HandS.ForMost
import HandS.Exc
import HandS.ExcOwn
import HandS.WordsExc
import HandS.IsInst
import HandS.Deep
import HandS.Flow
import HandS.Style
import HandS.TupAny
import HandS.TupMul
import HandS.Strs
import PyProof.P3In
import HandS.ExcCtx
import HandS.HotCalls
import HandS.Iter
import HandS.Comp
import HandS.Text
import HandS.Zip
import HandS.Lambda
import PyProof.CallStr
import PyProof.TwoTypes
import PyProof.TwoTypesSub
import KE.KRevSl
import HandS.EndTab
import HandS.NestedK
import HandS.SetFor
import PyProof.EqAt
import PyProof.EqKinds
import KE.GoesMore
import KE.GoesEnum
import PyProof.EnumMake
import HandS.RaiseMore
set_option Elab.async false
set_option linter.all false
set_option maxRecDepth 100000
set_option maxHeartbeats 0
namespace DL
open PySem L2
abbrev errL : List Str := ["InvalidStair", "InvalidCourse", "InvalidGiven", "InvalidFacts", "InvalidIndex", "InvalidNumber", "NoCase", "Unlike", "Quarrel", "NothingToUndo"]
abbrev clsL : List Str := ["InvalidStair", "InvalidCourse", "InvalidGiven", "InvalidFacts", "InvalidIndex", "InvalidNumber", "NoCase", "Unlike", "Quarrel", "NothingToUndo", "InvalidText", "TooMany"]
def excB (K : PySem.W.Frag) (D : Addr) : Bool :=
  He.eqO (PySem.W.findIn K (.ref D) "__getattribute__") (some (some (.builtin "BaseException.__getattribute__"))) && (He.eqO (PySem.W.findIn K (.ref D) "__getattr__") (some none) && (decide (PySem.W.subIn K (.ref D) (.type "BaseException") = some true) && (PySem.W.hasDictIn K D &&
    (He.eqO (PySem.W.findIn K (.ref D) "__class__") (some (some (.builtin "object.__class__"))) && (He.eqO (PySem.W.specialIn K (.builtin "object.__class__") "__get__") (some (some (.builtin "getset_descriptor.__get__"))) && (decide (PySem.W.takesIn K (.builtin "object.__class__") = some true) && decide (PySem.W.mroIn K D (.type "object") = some true)))))))
theorem excB_ok {K : PySem.W.Frag} {D : Addr} (h : excB K D = true) : ExcC K D := by
  obtain ⟨h1, h⟩ := He.ba h
  obtain ⟨h2, h⟩ := He.ba h
  obtain ⟨h3, h⟩ := He.ba h
  obtain ⟨h4, h⟩ := He.ba h
  obtain ⟨h5, h⟩ := He.ba h
  obtain ⟨h6, h⟩ := He.ba h
  obtain ⟨h7, h8⟩ := He.ba h
  exact ⟨He.eqO_ok h1, He.eqO_ok h2, of_decide_eq_true h3, h4, He.eqO_ok h5, He.eqO_ok h6, of_decide_eq_true h7, of_decide_eq_true h8⟩
/-- all that the law's text asks of the classes of errors -/
def errB (es cs : List Str) (K : PySem.W.Frag) : Bool := es.all fun c => (cs.all fun d => decide (PySem.W.kitOne K (.ref (He.ga K c)) (.ref (He.ga K d)) = some (c == d))) && (decide (PySem.W.kitOne K (.ref (He.ga K c)) (.type "ValueError") = some true) && (excB K (He.ga K c) && decide (PySem.W.exmOne K (.ref (He.ga K c)) (.ref (He.ga K "StairError")) = some true)))
theorem errB_ok {es cs : List Str} {K : PySem.W.Frag} (h : errB es cs K = true) {c : Str} (hc : c ∈ es) : (∀ d ∈ cs, PySem.W.kitOne K (.ref (He.ga K c)) (.ref (He.ga K d)) = some (c == d)) ∧ PySem.W.kitOne K (.ref (He.ga K c)) (.type "ValueError") = some true ∧ ExcC K (He.ga K c) ∧ PySem.W.exmOne K (.ref (He.ga K c)) (.ref (He.ga K "StairError")) = some true := by
  obtain ⟨h1, h⟩ := He.ba (List.all_eq_true.mp h c hc)
  obtain ⟨h2, h⟩ := He.ba h
  obtain ⟨h3, h4⟩ := He.ba h
  exact ⟨fun d hd => of_decide_eq_true (List.all_eq_true.mp h1 d hd), of_decide_eq_true h2, excB_ok h3, of_decide_eq_true h4⟩
end DL
namespace DL
open PySem PySem.Spec PyProof.Rows L2
def topS (i : Nat) : Stmt := PySem.Challenge.pw_anystair_k15_errors_in_order.main.body.getD i (.Pass ⟨0, 0, 0, 0⟩)
abbrev s_is_whole : Stmt := topS 17
abbrev NM_is_whole : List Str := ["value", "low", "high"]
abbrev s_is_rising : Stmt := topS 20
abbrev NM_is_rising : List Str := ["line", "at"]
abbrev s_level_at : Stmt := topS 23
abbrev NM_level_at : List Str := ["stair", "number", "found", "mark", "level"]
abbrev s_steps_with : Stmt := topS 28
abbrev NM_steps_with : List Str := ["course", "words", "at"]
abbrev s_are_so : Stmt := topS 49
abbrev NM_are_so : List Str := ["told", "facts", "fact"]
abbrev s_step_line : Stmt := topS 102
abbrev NM_step_line : List Str := ["step", "part"]
abbrev s_law_vat : Stmt := topS 106
abbrev NM_law_vat : List Str := ["script", "k", "cell"]
abbrev s_law_under : Stmt := topS 107
abbrev NM_law_under : List Str := ["vat", "many", "found", "wide"]
abbrev s_law_is_whole : Stmt := topS 109
abbrev NM_law_is_whole : List Str := ["value", "low", "high"]
abbrev s_law_names : Stmt := topS 113
abbrev NM_law_names : List Str := ["e", "some", "labels", "word", "good"]
abbrev s_is_pair : Stmt := topS 18
abbrev NM_is_pair : List Str := ["value", "most"]
abbrev s_need_number : Stmt := topS 22
abbrev NM_need_number : List Str := ["number"]
abbrev s_is_step : Stmt := topS 27
abbrev NM_is_step : List Str := ["value", "ahead"]
abbrev s_have_given : Stmt := topS 31
abbrev NM_have_given : List Str := ["course", "value", "number"]
abbrev s_need_indices : Stmt := topS 33
abbrev NM_need_indices : List Str := ["course", "one", "other", "index"]
abbrev s_number_of : Stmt := topS 35
abbrev NM_number_of : List Str := ["step", "stair", "ahead"]
abbrev s_is_fact : Stmt := topS 44
abbrev NM_is_fact : List Str := ["course", "value"]
abbrev s_text_of : Stmt := topS 103
abbrev NM_text_of : List Str := ["course", "step"]
abbrev s_law_some : Stmt := topS 108
abbrev NM_law_some : List Str := ["vat", "things"]
abbrev s_law_is_step : Stmt := topS 110
abbrev NM_law_is_step : List Str := ["value", "ahead"]
abbrev s_law_error : Stmt := topS 114
abbrev NM_law_error : List Str := ["call", "e"]
abbrev s_has_stair : Stmt := topS 19
abbrev NM_has_stair : List Str := ["value", "marks", "told", "step"]
abbrev s_has_course : Stmt := topS 29
abbrev NM_has_course : List Str := ["value", "at"]
abbrev s_need_given : Stmt := topS 32
abbrev NM_need_given : List Str := ["course", "given"]
abbrev s_all_numbers : Stmt := topS 36
abbrev NM_all_numbers : List Str := ["course", "stair", "given", "found", "left", "step"]
abbrev s_has_facts : Stmt := topS 45
abbrev NM_has_facts : List Str := ["course", "value", "fact"]
abbrev s_need_fact : Stmt := topS 47
abbrev NM_need_fact : List Str := ["course", "fact"]
abbrev s_law_is_course : Stmt := topS 111
abbrev NM_law_is_course : List Str := ["value", "words", "at", "twos"]
abbrev s_law_odd : Stmt := topS 115
abbrev NM_law_odd : List Str := ["vat", "depth", "some", "row", "part"]
abbrev s_law_by : Stmt := topS 117
abbrev NM_law_by : List Str := ["call", "one", "other"]
abbrev s_need_stair : Stmt := topS 21
abbrev NM_need_stair : List Str := ["stair"]
abbrev s_need_course : Stmt := topS 30
abbrev NM_need_course : List Str := ["course"]
abbrev s_need_facts : Stmt := topS 46
abbrev NM_need_facts : List Str := ["course", "facts"]
abbrev s_law_course : Stmt := topS 112
abbrev NM_law_course : List Str := ["vat", "most", "found", "words", "turn", "word", "ahead", "one", "other", "step"]
abbrev s_law_bent : Stmt := topS 116
abbrev NM_law_bent : List Str := ["vat", "value", "near", "at", "way"]
abbrev s_are_given : Stmt := topS 34
abbrev NM_are_given : List Str := ["course", "value"]
abbrev s_numbers : Stmt := topS 37
abbrev NM_numbers : List Str := ["course", "stair", "given"]
abbrev s_are_facts : Stmt := topS 48
abbrev NM_are_facts : List Str := ["course", "value"]
abbrev s_is_case : Stmt := topS 50
abbrev NM_is_case : List Str := ["course", "facts", "value"]
abbrev s_case_for : Stmt := topS 59
abbrev NM_case_for : List Str := ["course", "facts"]
abbrev s_need_all : Stmt := topS 63
abbrev NM_need_all : List Str := ["course", "facts", "claim"]
abbrev s_need_two : Stmt := topS 67
abbrev NM_need_two : List Str := ["course", "facts", "one", "other"]
abbrev s_need_like : Stmt := topS 79
abbrev NM_need_like : List Str := ["one_course", "other_course"]
abbrev s_needless_facts : Stmt := topS 95
abbrev NM_needless_facts : List Str := ["course", "facts", "at"]
abbrev s_quarrels : Stmt := topS 100
abbrev NM_quarrels : List Str := ["course", "facts", "found", "lot", "less"]
abbrev s_course_text : Stmt := topS 104
abbrev NM_course_text : List Str := ["course"]
abbrev s_follows : Stmt := topS 64
abbrev NM_follows : List Str := ["course", "facts", "claim"]
abbrev s_breaking : Stmt := topS 65
abbrev NM_breaking : List Str := ["course", "facts", "claim"]
abbrev s_stretches : Stmt := topS 74
abbrev NM_stretches : List Str := ["course", "facts", "one", "other"]
abbrev s_gap_range : Stmt := topS 75
abbrev NM_gap_range : List Str := ["course", "facts", "one", "other", "found"]
abbrev s_case_with : Stmt := topS 76
abbrev NM_case_with : List Str := ["course", "facts", "one", "other", "number"]
abbrev s_alike : Stmt := topS 83
abbrev NM_alike : List Str := ["one_course", "other_course"]
abbrev s_parting : Stmt := topS 84
abbrev NM_parting : List Str := ["one_course", "other_course"]
abbrev s_paper_for : Stmt := topS 89
abbrev NM_paper_for : List Str := ["course", "facts", "claim"]
abbrev s_is_paper : Stmt := topS 93
abbrev NM_is_paper : List Str := ["course", "facts", "claim", "value"]
abbrev s_least_lots : Stmt := topS 99
abbrev NM_least_lots : List Str := ["course", "facts", "claim", "found", "lot", "less"]
abbrev s_law_course_calls : Stmt := topS 118
abbrev NM_law_course_calls : List Str := ["odd", "found", "call"]
abbrev s_law_facts_calls : Stmt := topS 119
abbrev NM_law_facts_calls : List Str := ["course", "odd", "found", "call"]
abbrev s_law : Stmt := topS 120
abbrev NM_law : List Str := ["script", "k", "vat", "course", "facts", "odds", "odd", "found", "call", "two", "word"]
abbrev RR : PySem.W.OpenRow := PySem.W.OpenLaw.row PySem.Challenge.rw_anystair_k15_errors_in_order
def D_is_whole : He.DefD := ⟨("is_whole", none), "is_whole", "is_whole", defArgs s_is_whole, defBody s_is_whole, defScope s_is_whole, [], []⟩
def D_is_rising : He.DefD := ⟨("is_rising", none), "is_rising", "is_rising", defArgs s_is_rising, defBody s_is_rising, defScope s_is_rising, [], []⟩
def D_level_at : He.DefD := ⟨("level_at", none), "level_at", "level_at", defArgs s_level_at, defBody s_level_at, defScope s_level_at, [], []⟩
def D_steps_with : He.DefD := ⟨("steps_with", none), "steps_with", "steps_with", defArgs s_steps_with, defBody s_steps_with, defScope s_steps_with, [], []⟩
def D_are_so : He.DefD := ⟨("are_so", none), "are_so", "are_so", defArgs s_are_so, defBody s_are_so, defScope s_are_so, [], []⟩
def D_step_line : He.DefD := ⟨("step_line", none), "step_line", "step_line", defArgs s_step_line, defBody s_step_line, defScope s_step_line, [], []⟩
def D_law_vat : He.DefD := ⟨("_law_vat", none), "_law_vat", "_law_vat", defArgs s_law_vat, defBody s_law_vat, defScope s_law_vat, [], []⟩
def D_law_under : He.DefD := ⟨("_law_under", none), "_law_under", "_law_under", defArgs s_law_under, defBody s_law_under, defScope s_law_under, [], []⟩
def D_law_is_whole : He.DefD := ⟨("_law_is_whole", none), "_law_is_whole", "_law_is_whole", defArgs s_law_is_whole, defBody s_law_is_whole, defScope s_law_is_whole, [], []⟩
def D_law_names : He.DefD := ⟨("_law_names", none), "_law_names", "_law_names", defArgs s_law_names, defBody s_law_names, defScope s_law_names, [], []⟩
def D_is_pair : He.DefD := ⟨("is_pair", none), "is_pair", "is_pair", defArgs s_is_pair, defBody s_is_pair, defScope s_is_pair, [], []⟩
def D_need_number : He.DefD := ⟨("need_number", none), "need_number", "need_number", defArgs s_need_number, defBody s_need_number, defScope s_need_number, [], []⟩
def D_is_step : He.DefD := ⟨("is_step", none), "is_step", "is_step", defArgs s_is_step, defBody s_is_step, defScope s_is_step, [], []⟩
def D_have_given : He.DefD := ⟨("have_given", none), "have_given", "have_given", defArgs s_have_given, defBody s_have_given, defScope s_have_given, [], []⟩
def D_need_indices : He.DefD := ⟨("need_indices", none), "need_indices", "need_indices", defArgs s_need_indices, defBody s_need_indices, defScope s_need_indices, [], []⟩
def D_number_of : He.DefD := ⟨("number_of", none), "number_of", "number_of", defArgs s_number_of, defBody s_number_of, defScope s_number_of, [], []⟩
def D_is_fact : He.DefD := ⟨("is_fact", none), "is_fact", "is_fact", defArgs s_is_fact, defBody s_is_fact, defScope s_is_fact, [], []⟩
def D_text_of : He.DefD := ⟨("text_of", none), "text_of", "text_of", defArgs s_text_of, defBody s_text_of, defScope s_text_of, [], []⟩
def D_law_some : He.DefD := ⟨("_law_some", none), "_law_some", "_law_some", defArgs s_law_some, defBody s_law_some, defScope s_law_some, [], []⟩
def D_law_is_step : He.DefD := ⟨("_law_is_step", none), "_law_is_step", "_law_is_step", defArgs s_law_is_step, defBody s_law_is_step, defScope s_law_is_step, [], []⟩
def D_law_error : He.DefD := ⟨("_law_error", none), "_law_error", "_law_error", defArgs s_law_error, defBody s_law_error, defScope s_law_error, [], []⟩
def D_has_stair : He.DefD := ⟨("has_stair", none), "has_stair", "has_stair", defArgs s_has_stair, defBody s_has_stair, defScope s_has_stair, [], []⟩
def D_has_course : He.DefD := ⟨("has_course", none), "has_course", "has_course", defArgs s_has_course, defBody s_has_course, defScope s_has_course, [], []⟩
def D_need_given : He.DefD := ⟨("need_given", none), "need_given", "need_given", defArgs s_need_given, defBody s_need_given, defScope s_need_given, [], []⟩
def D_all_numbers : He.DefD := ⟨("all_numbers", none), "all_numbers", "all_numbers", defArgs s_all_numbers, defBody s_all_numbers, defScope s_all_numbers, [], []⟩
def D_has_facts : He.DefD := ⟨("has_facts", none), "has_facts", "has_facts", defArgs s_has_facts, defBody s_has_facts, defScope s_has_facts, [], []⟩
def D_need_fact : He.DefD := ⟨("need_fact", none), "need_fact", "need_fact", defArgs s_need_fact, defBody s_need_fact, defScope s_need_fact, [], []⟩
def D_law_is_course : He.DefD := ⟨("_law_is_course", none), "_law_is_course", "_law_is_course", defArgs s_law_is_course, defBody s_law_is_course, defScope s_law_is_course, [], []⟩
def D_law_odd : He.DefD := ⟨("_law_odd", none), "_law_odd", "_law_odd", defArgs s_law_odd, defBody s_law_odd, defScope s_law_odd, [], []⟩
def D_law_by : He.DefD := ⟨("_law_by", none), "_law_by", "_law_by", defArgs s_law_by, defBody s_law_by, defScope s_law_by, [], []⟩
def D_need_stair : He.DefD := ⟨("need_stair", none), "need_stair", "need_stair", defArgs s_need_stair, defBody s_need_stair, defScope s_need_stair, [], []⟩
def D_need_course : He.DefD := ⟨("need_course", none), "need_course", "need_course", defArgs s_need_course, defBody s_need_course, defScope s_need_course, [], []⟩
def D_need_facts : He.DefD := ⟨("need_facts", none), "need_facts", "need_facts", defArgs s_need_facts, defBody s_need_facts, defScope s_need_facts, [], []⟩
def D_law_course : He.DefD := ⟨("_law_course", none), "_law_course", "_law_course", defArgs s_law_course, defBody s_law_course, defScope s_law_course, [], []⟩
def D_law_bent : He.DefD := ⟨("_law_bent", none), "_law_bent", "_law_bent", defArgs s_law_bent, defBody s_law_bent, defScope s_law_bent, [], []⟩
def D_are_given : He.DefD := ⟨("are_given", none), "are_given", "are_given", defArgs s_are_given, defBody s_are_given, defScope s_are_given, [], []⟩
def D_numbers : He.DefD := ⟨("numbers", none), "numbers", "numbers", defArgs s_numbers, defBody s_numbers, defScope s_numbers, [], []⟩
def D_are_facts : He.DefD := ⟨("are_facts", none), "are_facts", "are_facts", defArgs s_are_facts, defBody s_are_facts, defScope s_are_facts, [], []⟩
def D_is_case : He.DefD := ⟨("is_case", none), "is_case", "is_case", defArgs s_is_case, defBody s_is_case, defScope s_is_case, [], []⟩
def D_case_for : He.DefD := ⟨("case_for", none), "case_for", "case_for", defArgs s_case_for, defBody s_case_for, defScope s_case_for, [], []⟩
def D_need_all : He.DefD := ⟨("need_all", none), "need_all", "need_all", defArgs s_need_all, defBody s_need_all, defScope s_need_all, [], []⟩
def D_need_two : He.DefD := ⟨("need_two", none), "need_two", "need_two", defArgs s_need_two, defBody s_need_two, defScope s_need_two, [], []⟩
def D_need_like : He.DefD := ⟨("need_like", none), "need_like", "need_like", defArgs s_need_like, defBody s_need_like, defScope s_need_like, [], []⟩
def D_needless_facts : He.DefD := ⟨("needless_facts", none), "needless_facts", "needless_facts", defArgs s_needless_facts, defBody s_needless_facts, defScope s_needless_facts, [], []⟩
def D_quarrels : He.DefD := ⟨("quarrels", none), "quarrels", "quarrels", defArgs s_quarrels, defBody s_quarrels, defScope s_quarrels, [], []⟩
def D_course_text : He.DefD := ⟨("course_text", none), "course_text", "course_text", defArgs s_course_text, defBody s_course_text, defScope s_course_text, [], []⟩
def D_follows : He.DefD := ⟨("follows", none), "follows", "follows", defArgs s_follows, defBody s_follows, defScope s_follows, [], []⟩
def D_breaking : He.DefD := ⟨("breaking", none), "breaking", "breaking", defArgs s_breaking, defBody s_breaking, defScope s_breaking, [], []⟩
def D_stretches : He.DefD := ⟨("stretches", none), "stretches", "stretches", defArgs s_stretches, defBody s_stretches, defScope s_stretches, [], []⟩
def D_gap_range : He.DefD := ⟨("gap_range", none), "gap_range", "gap_range", defArgs s_gap_range, defBody s_gap_range, defScope s_gap_range, [], []⟩
def D_case_with : He.DefD := ⟨("case_with", none), "case_with", "case_with", defArgs s_case_with, defBody s_case_with, defScope s_case_with, [], []⟩
def D_alike : He.DefD := ⟨("alike", none), "alike", "alike", defArgs s_alike, defBody s_alike, defScope s_alike, [], []⟩
def D_parting : He.DefD := ⟨("parting", none), "parting", "parting", defArgs s_parting, defBody s_parting, defScope s_parting, [], []⟩
def D_paper_for : He.DefD := ⟨("paper_for", none), "paper_for", "paper_for", defArgs s_paper_for, defBody s_paper_for, defScope s_paper_for, [], []⟩
def D_is_paper : He.DefD := ⟨("is_paper", none), "is_paper", "is_paper", defArgs s_is_paper, defBody s_is_paper, defScope s_is_paper, [], []⟩
def D_least_lots : He.DefD := ⟨("least_lots", none), "least_lots", "least_lots", defArgs s_least_lots, defBody s_least_lots, defScope s_least_lots, [], []⟩
def D_law_course_calls : He.DefD := ⟨("_law_course_calls", none), "_law_course_calls", "_law_course_calls", defArgs s_law_course_calls, defBody s_law_course_calls, defScope s_law_course_calls, [], []⟩
def D_law_facts_calls : He.DefD := ⟨("_law_facts_calls", none), "_law_facts_calls", "_law_facts_calls", defArgs s_law_facts_calls, defBody s_law_facts_calls, defScope s_law_facts_calls, [], []⟩
def D_law : He.DefD := ⟨("law", none), "law", "law", defArgs s_law, defBody s_law, defScope s_law, [], []⟩
def fnL : List He.DefD := [D_is_whole, D_is_rising, D_level_at, D_steps_with, D_are_so, D_step_line, D_law_vat, D_law_under, D_law_is_whole, D_law_names, D_is_pair, D_need_number, D_is_step, D_have_given, D_need_indices, D_number_of, D_is_fact, D_text_of, D_law_some, D_law_is_step, D_law_error, D_has_stair, D_has_course, D_need_given, D_all_numbers, D_has_facts, D_need_fact, D_law_is_course, D_law_odd, D_law_by, D_need_stair, D_need_course, D_need_facts, D_law_course, D_law_bent, D_are_given, D_numbers, D_are_facts, D_is_case, D_case_for, D_need_all, D_need_two, D_need_like, D_needless_facts, D_quarrels, D_course_text, D_follows, D_breaking, D_stretches, D_gap_range, D_case_with, D_alike, D_parting, D_paper_for, D_is_paper, D_least_lots, D_law_course_calls, D_law_facts_calls, D_law]
def faL : List He.Fa := [.glo "is_whole", .glo "is_rising", .glo "level_at", .glo "steps_with", .glo "are_so", .glo "step_line", .glo "_law_vat", .glo "_law_under", .glo "_law_is_whole", .glo "_law_names", .glo "is_pair", .glo "need_number", .glo "is_step", .glo "have_given", .glo "need_indices", .glo "number_of", .glo "is_fact", .glo "text_of", .glo "_law_some", .glo "_law_is_step", .glo "_law_error", .glo "has_stair", .glo "has_course", .glo "need_given", .glo "all_numbers", .glo "has_facts", .glo "need_fact", .glo "_law_is_course", .glo "_law_odd", .glo "_law_by", .glo "need_stair", .glo "need_course", .glo "need_facts", .glo "_law_course", .glo "_law_bent", .glo "are_given", .glo "numbers", .glo "are_facts", .glo "is_case", .glo "case_for", .glo "need_all", .glo "need_two", .glo "need_like", .glo "needless_facts", .glo "quarrels", .glo "course_text", .glo "follows", .glo "breaking", .glo "stretches", .glo "gap_range", .glo "case_with", .glo "alike", .glo "parting", .glo "paper_for", .glo "is_paper", .glo "least_lots", .glo "_law_course_calls", .glo "_law_facts_calls", .glo "law", .free "ValueError", .free "abs", .free "bool", .free "int", .free "isinstance", .free "len", .free "list", .free "max", .free "min", .free "range", .free "str", .free "tuple", .free "zip", .glo "InvalidCourse", .exc "InvalidCourse", .glo "InvalidFacts", .exc "InvalidFacts", .glo "InvalidGiven", .exc "InvalidGiven", .glo "InvalidIndex", .exc "InvalidIndex", .glo "InvalidNumber", .exc "InvalidNumber", .glo "InvalidStair", .exc "InvalidStair", .glo "NoCase", .exc "NoCase", .glo "Unlike", .exc "Unlike", .int "HIGH" 1000000000000, .int "MOST_PUTS" 4, .int "MOST_STEPS" 8, .int "NUMBERS" 1000000000, .glo "Quarrel", .glo "NothingToUndo", .glo "InvalidText", .glo "TooMany", .glo "StairError"]
def tfL : List He.Defn := [("_law_by", none), ("_law_course_calls", none), ("_law_facts_calls", none), ("law", none)]
def exL (K : PySem.W.Frag) : Bool := errB errL clsL K && (decide ((He.cT K ("_law_by", none)).2 ≠ (He.cT K ("_law_course_calls", none)).2) && (decide ((He.cT K ("_law_by", none)).2 ≠ (He.cT K ("_law_facts_calls", none)).2) && (decide ((He.cT K ("_law_by", none)).2 ≠ (He.cT K ("law", none)).2) && (decide ((He.cT K ("_law_course_calls", none)).2 ≠ (He.cT K ("_law_facts_calls", none)).2) && (decide ((He.cT K ("_law_course_calls", none)).2 ≠ (He.cT K ("law", none)).2) && (decide ((He.cT K ("_law_facts_calls", none)).2 ≠ (He.cT K ("law", none)).2)))))))
abbrev hkL : PySem.W.Hook := He.hookX 2 faL fnL [] tfL exL
def obL (s : PySem.W.SharedT) : He.AlX := He.obsX 2 faL fnL [] tfL exL (HandSHeadRun.getT s)
theorem obL_eq (s : PySem.W.SharedT) : obL s = hkL.obs s.abs := He.obsX_eq (HandSHeadRun.getT_eq s)
def lo0 : List PySem.Str := ["StairError", "InvalidStair", "InvalidCourse", "InvalidGiven", "InvalidFacts", "InvalidIndex", "InvalidNumber", "NoCase", "Unlike", "Quarrel", "NothingToUndo", "TooMany", "InvalidText", "HIGH", "NUMBERS"]
def lo1 : List PySem.Str := ["is_whole", "is_pair", "has_stair", "is_rising", "need_stair", "need_number", "level_at", "stair_by", "MOST_STEPS", "is_step", "steps_with", "has_course", "need_course", "have_given", "need_given"]
def lo2 : List PySem.Str := ["need_indices", "are_given", "number_of", "all_numbers", "numbers", "closed", "kept_heights", "ring_in", "round_at_end", "is_fact", "has_facts", "need_facts", "need_fact", "are_facts", "are_so"]
def lo3 : List PySem.Str := ["is_case", "step_rows", "all_step_rows", "split_rows", "all_splits", "leaves", "first_leaf", "case_by", "found_case", "case_for", "contrary", "breaks", "need_all", "follows", "breaking"]
def lo4 : List PySem.Str := ["need_two", "span_in", "is_ahead", "in_order", "higher", "united", "all_spans", "stretches", "gap_range", "case_with", "MOST_PUTS", "need_like", "moved_step", "joined", "parted_by"]
def lo5 : List PySem.Str := ["alike", "parting", "MOST_ROWS", "paper_from", "first_rows", "paper_for", "is_row", "is_ring", "shows", "is_paper", "needless_facts", "all_lots", "is_part", "picked", "least_lots"]
def lo6 : List PySem.Str := ["quarrels", "step_line", "text_of", "course_text", "_law_vat", "_law_under", "_law_some", "_law_is_whole", "_law_is_step", "_law_is_course", "_law_course", "_law_names", "_law_error", "_law_odd", "_law_bent"]
def lo7 : List PySem.Str := ["_law_by", "_law_course_calls", "_law_facts_calls"]
def looseL : List PySem.Str := lo0 ++ lo1 ++ lo2 ++ lo3 ++ lo4 ++ lo5 ++ lo6 ++ lo7
end DL
namespace HandSHeadRun
open PySem PySem.W PySem.Calls PyProof.Rows DL
theorem run_three {α β γ δ : Type} {o : Option α} {f : α → β} {g : α → γ} {h : α → δ} {b : β} {c : γ} {d : δ} (e1 : o.map f = some b) (e2 : o.map g = some c) (e3 : o.map h = some d) : o.map (fun s => (f s, g s, h s)) = some (b, c, d) := by
  cases o with
  | none => cases e1
  | some x => cases e1; cases e2; cases e3; rfl
theorem run1 (w : World) (os : OsState) : ((endF (stepQ (denQ tabQ) RR.prog w) 15000 RR.prog w os).map fun s => looksF RR.prog (boot_heap w.params) s.abs) = some true := by
  kernel_rfl
theorem run2 (w : World) (os : OsState) : ((endF (stepQ (denQ tabQ) RR.prog w) 15000 RR.prog w os).map fun s => seenQ (PySem.W.view RR.prog [120]) looseL (importedModules RR.prog.main.body) (fun s => xlAt (PySem.W.view RR.prog [120]) [] s && recOk RR.toRowW.records s) s.abs) = some (openGood (PySem.W.view RR.prog [120]) looseL) := by
  kernel_rfl
theorem run3 (w : World) (os : OsState) : ((endF (stepQ (denQ tabQ) RR.prog w) 15000 RR.prog w os).map fun s => obL s) = some (PySem.W.Hook.val hkL w) := by
  kernel_rfl
theorem runL (w : World) : RunEq RR (PySem.W.view RR.prog [120]) hkL obL 15000 looseL w := fun os => run_three (run1 w os) (run2 w os) (run3 w os)
end HandSHeadRun
namespace DL
end DL
namespace DL
open PySem PySem.W PySem.Calls PyProof.Rows HandSHeadRun
abbrev QQ : Program := view RR.prog [120]
abbrev dL := HandSHeadRun.topDef RR.prog 120
theorem hc1 : opening RR.prog = plainProg RR.prog.main.scope.names := by kernel_rfl
theorem hc2 : ∀ s, fenceModules? RR.prog s = some s := fun s => by with_unfolding_all rfl
theorem hc3 : defOf QQ RR.name = some (dL, []) := by kernel_rfl
theorem hc4 : RR.prog.theDef RR.name = some (dL.params, dL.body, dL.scope) := by kernel_rfl
theorem hc5 : kwWritten? dL.params.kwonlyargs dL.params.kw_defaults = some [] := by kernel_rfl
theorem hc6 : (!RR.writes || RR.records.isEmpty) = true := by rfl
theorem hc7 : RR.wellSaid = true := by decide +kernel
theorem hc8 : (chainsOk QQ && opensWell RR.prog && (frees RR.toRowW && RR.within.isEmpty)) = true := by decide +kernel
theorem hc9 : RR.prog.bare := ⟨rfl, rfl, rfl, rfl, rfl, by decide +kernel⟩
theorem hc10 : RR.toRowW.promised := by w_witness2
theorem hc11 : dL.name = ("law" : PySem.Str) := by kernel_rfl
theorem hc12 : dL.params.defaults = [] := by kernel_rfl
end DL
/-! DL: expressions and statements as functions on plain data, over the hand layer -/
namespace DL
open PySem L2
abbrev Dt := PyData
inductive Slot where
  | dat (d : Dt)
  | own (b : Bool) (xs : List Dt)
  | raw (v : V)
abbrev En := List (Option Slot)
inductive R (α : Type) where
  | ok (a : α) (e : En)
  | exc (c : Str) (e : En)
  | bad
def R.bind {α β : Type} (x : R α) (f : α → En → R β) : R β := match x with
  | .ok a e => f a e
  | .exc c e => .exc c e
  | .bad => .bad
inductive SO where
  | nx (e : En)
  | rt (d : Dt) (e : En)
  | bk (e : En)
  | ct (e : En)
  | exc (c : Str) (e : En)
  | bad
/-- an object that holds data -/
inductive IsDat : HO → Prop where
  | lst (xs : List V) : IsDat (.lst xs)
  | tup (xs : List V) : IsDat (.tup xs)
def Ex (H H' : Hp) : Prop := ∀ a o, H a = some o → H' a = some o
theorem Ex.refl (H : Hp) : Ex H H := fun _ _ h => h
theorem Ex.trans {H H1 H2 : Hp} (a : Ex H H1) (b : Ex H1 H2) : Ex H H2 := fun x o h => b x o (a x o h)
theorem Ex.new {H : Hp} {p : Addr} {o : HO} (h : H p = none) : Ex H (upd H p o) := fun a u e => by
  rw [upd_ne (ne_of_none e h)]
  exact e
/-- what kind of frame: T of the tables, keep: what stays -/
structure Kd where
  T : Hp → Prop
  keep : HO → Bool
  kd : ∀ o, IsDat o → keep o = true
  tm : ∀ H H', T H → (∀ a o, H a = some o → (∀ xs, o ≠ .lst xs) → H' a = some o) → T H'
def kd0 : Kd := ⟨fun _ => True, fun _ => true, fun _ _ => rfl, fun _ _ _ _ => trivial⟩
/-- what of a heap stays -/
def filt (κ : Kd) (H : Hp) : Hp := fun a => match H a with
  | some o => if κ.keep o then some o else none
  | none => none
theorem filt_some {κ : Kd} {H : Hp} {a : Addr} {o : HO} (h : filt κ H a = some o) : H a = some o ∧ κ.keep o = true := by
  unfold filt at h
  split at h
  · rename_i u hu
    split at h
    · rename_i hk
      cases h
      exact ⟨hu, hk⟩
    · cases h
  · cases h
theorem filt_of {κ : Kd} {H : Hp} {a : Addr} {o : HO} (h : H a = some o) (k : κ.keep o = true) : filt κ H a = some o := by
  unfold filt
  rw [h]
  simp [k]
theorem filt_ne {κ : Kd} {H : Hp} {a : Addr} (h : filt κ H a ≠ none) : ∃ o, H a = some o ∧ κ.keep o = true := by
  cases z : filt κ H a with
  | none => exact absurd z h
  | some o => exact ⟨o, filt_some z⟩
structure Fr where
  G0 : Hp
  H0 : Hp
  P0 : List (Nat × Addr)
def Sub (G H : Hp) : Prop := ∀ a o, G a = some o → H a = some o ∧ IsDat o
mutual
/-- what a value is worth as data -/
inductive DR (G : Hp) : V → Dt → Prop
  | non : DR G .non .none
  | bl (b : Bool) : DR G (.bl b) (.bool b)
  | int (i : Int) : DR G (.int i) (.int i)
  | str (x : Str) : DR G (.str x) (.str x)
  | lst {a : Addr} {xs : List V} {ds : List Dt} : G a = some (.lst xs) → DRs G xs ds → DR G (.ref a) (.list ds)
  | tup {a : Addr} {xs : List V} {ds : List Dt} : G a = some (.tup xs) → DRs G xs ds → DR G (.ref a) (.tuple ds)
inductive DRs (G : Hp) : List V → List Dt → Prop
  | nil : DRs G [] []
  | cons {v : V} {vs : List V} {d : Dt} {ds : List Dt} : DR G v d → DRs G vs ds → DRs G (v :: vs) (d :: ds)
end
def SlotR (B : Fr) (H G : Hp) (i : Nat) (v : V) : Slot → Prop
  | .dat d => DR G v d
  | .own b xs => ∃ a vs, v = .ref a ∧ H a = some (.lst vs) ∧ G a = none ∧ DRs G vs xs ∧ (b = false → (i, a) ∈ B.P0) ∧ (b = true → B.H0 a = none)
  | .raw w => v = w
structure SR (κ : Kd) (B : Fr) (σ : St) (H G : Hp) (e : En) : Prop where
  sub : Sub G H
  t : κ.T H
  g0 : Ex B.G0 G
  h0 : ∀ a o, B.H0 a = some o → (∀ p ∈ B.P0, p.2 ≠ a) → κ.keep o = true → H a = some o
  n0 : ∀ a, B.H0 a ≠ none → B.G0 a = none → G a = none
  dom : ∀ a, B.H0 a ≠ none → ∃ o, H a = some o ∧ κ.keep o = true
  len : e.length = σ.length
  slot : ∀ i s, e[i]? = some (some s) → ∃ v, σ[i]? = some (some v) ∧ SlotR B H G i v s
  sep : ∀ (i j : Nat) b c xs ys a, i ≠ j → e[i]? = some (some (.own b xs)) → e[j]? = some (some (.own c ys)) → σ[i]? = some (some (.ref a)) → σ[j]? ≠ some (some (.ref a))

/-! ### data stays -/
mutual
theorem DR.ex {G G' : Hp} (x : Ex G G') : ∀ {d : Dt} {v : V}, DR G v d → DR G' v d
  | .none, _, h => by cases h; exact .non
  | .bool b, _, h => by cases h; exact .bl b
  | .int i, _, h => by cases h; exact .int i
  | .str s, _, h => by cases h; exact .str s
  | .list ds, _, h => by
    cases h with
    | lst hs ha => exact .lst (x _ _ hs) (DRs.ex x ha)
  | .tuple ds, _, h => by
    cases h with
    | tup hs ha => exact .tup (x _ _ hs) (DRs.ex x ha)
  | .dict _, _, h => by cases h
theorem DRs.ex {G G' : Hp} (x : Ex G G') : ∀ {ds : List Dt} {vs : List V}, DRs G vs ds → DRs G' vs ds
  | [], _, h => by cases h; exact .nil
  | d :: ds, _, h => by
    cases h with
    | cons h1 h2 => exact .cons (DR.ex x h1) (DRs.ex x h2)
end
theorem DRs.length {G : Hp} : ∀ {ds : List Dt} {vs : List V}, DRs G vs ds → vs.length = ds.length
  | [], _, h => by cases h; rfl
  | d :: ds, _, h => by
    cases h with
    | cons h1 h2 => simp [DRs.length h2]
theorem DRs.get {G : Hp} : ∀ {ds : List Dt} {vs : List V} {i : Nat} {d : Dt}, DRs G vs ds → ds[i]? = some d → ∃ v, vs[i]? = some v ∧ DR G v d
  | [], _, _, _, h, e => by simp at e
  | _ :: ds, _, 0, _, h, e => by
    cases h with
    | cons h1 h2 =>
      simp at e; subst e
      exact ⟨_, rfl, h1⟩
  | _ :: ds, _, i + 1, _, h, e => by
    cases h with
    | cons h1 h2 =>
      obtain ⟨v, e1, e2⟩ := DRs.get (i := i) h2 (by simpa using e)
      exact ⟨v, by simpa using e1, e2⟩
theorem DRs.append {G : Hp} : ∀ {ds es : List Dt} {vs ws : List V}, DRs G vs ds → DRs G ws es → DRs G (vs ++ ws) (ds ++ es)
  | [], _, _, _, h, k => by cases h; exact k
  | d :: ds, _, _, _, h, k => by
    cases h with
    | cons h1 h2 => exact .cons h1 (DRs.append h2 k)
theorem DRs.take {G : Hp} : ∀ {ds : List Dt} {vs : List V} (n : Nat), DRs G vs ds → DRs G (vs.take n) (ds.take n)
  | _, _, 0, _ => .nil
  | [], _, _ + 1, h => by cases h; exact .nil
  | d :: ds, _, n + 1, h => by
    cases h with
    | cons h1 h2 => exact .cons h1 (DRs.take n h2)
theorem DRs.drop {G : Hp} : ∀ {ds : List Dt} {vs : List V} (n : Nat), DRs G vs ds → DRs G (vs.drop n) (ds.drop n)
  | _, _, 0, h => h
  | [], _, _ + 1, h => by cases h; exact .nil
  | d :: ds, _, n + 1, h => by
    cases h with
    | cons h1 h2 => exact DRs.drop n h2
theorem DRs.set {G : Hp} {d : Dt} {v : V} (r : DR G v d) : ∀ {ds : List Dt} {vs : List V} (i : Nat), DRs G vs ds → DRs G (vs.set i v) (ds.set i d)
  | [], _, _, h => by cases h; exact .nil
  | _ :: ds, _, 0, h => by
    cases h with
    | cons h1 h2 => exact .cons r h2
  | _ :: ds, _, i + 1, h => by
    cases h with
    | cons h1 h2 => exact .cons h1 (DRs.set r i h2)
theorem DRs.of_get {G : Hp} : ∀ {ds : List Dt} {vs : List V}, vs.length = ds.length → (∀ (i : Nat) (v : V) (d : Dt), vs[i]? = some v → ds[i]? = some d → DR G v d) → DRs G vs ds
  | [], [], _, _ => .nil
  | [], _ :: _, h, _ => by simp at h
  | _ :: _, [], h, _ => by simp at h
  | d :: ds, v :: vs, h, k => .cons (k 0 v d rfl rfl) (DRs.of_get (by simpa using h) fun i w e h1 h2 => k (i + 1) w e (by simpa using h1) (by simpa using h2))
theorem DRs.reverse {G : Hp} : ∀ {ds : List Dt} {vs : List V}, DRs G vs ds → DRs G vs.reverse ds.reverse
  | [], _, h => by cases h; exact .nil
  | d :: ds, _, h => by
    cases h with
    | cons h1 h2 =>
      rw [List.reverse_cons, List.reverse_cons]
      exact DRs.append (DRs.reverse h2) (.cons h1 .nil)
theorem SlotR.ex {B : Fr} {H H' G G' : Hp} {i : Nat} {v : V} {s : Slot} (x : Ex G G') (h : SlotR B H G i v s) (own : ∀ b xs a, s = .own b xs → v = .ref a → H' a = H a ∧ G' a = none) : SlotR B H' G' i v s := by
  cases s with
  | dat d => exact DR.ex x h
  | own b xs =>
    obtain ⟨a, vs, e1, e2, e3, e4, e5, e6⟩ := h
    obtain ⟨o1, o2⟩ := own b xs a rfl e1
    exact ⟨a, vs, e1, o1.trans e2, o2, DRs.ex x e4, e5, e6⟩
  | raw w => exact h

mutual
theorem DR.dp {K : PySem.W.Frag} {G H : Hp} (S : Sub G H) : ∀ {d : Dt} {v : V}, DR G v d → Dp K H v d
  | .none, _, h => by cases h; exact .non
  | .bool b, _, h => by cases h; exact .bl b
  | .int i, _, h => by cases h; exact .int i
  | .str s, _, h => by cases h; exact .str s
  | .list ds, _, h => by
    cases h with
    | lst hs ha => exact .lst (.inl (.inl (S _ _ hs).1)) (DRs.dp S ha)
  | .tuple ds, _, h => by
    cases h with
    | tup hs ha => exact .tup (.inl (.inl (S _ _ hs).1)) (DRs.dp S ha)
  | .dict _, _, h => by cases h
theorem DRs.dp {K : PySem.W.Frag} {G H : Hp} (S : Sub G H) : ∀ {ds : List Dt} {vs : List V}, DRs G vs ds → DpAll K H vs ds
  | [], _, h => by cases h; exact .nil
  | d :: ds, _, h => by
    cases h with
    | cons h1 h2 => exact .cons (DR.dp S h1) (DRs.dp S h2)
end
/-! ### the state's moves -/
section
variable {κ : Kd} {B : Fr} {σ : L2.St} {H G : Hp} {e : En}
theorem SR.own_at (h : SR κ B σ H G e) {i : Nat} {b : Bool} {xs : List Dt} (hi : e[i]? = some (some (Slot.own b xs))) :
    ∃ a vs, σ[i]? = some (some (V.ref a)) ∧ H a = some (.lst vs) ∧ G a = none ∧ DRs G vs xs ∧ (b = false → (i, a) ∈ B.P0) ∧ (b = true → B.H0 a = none) := by
  obtain ⟨v, e1, a, vs, q1, q⟩ := h.slot i _ hi
  subst q1
  exact ⟨a, vs, e1, q⟩
theorem SR.dat_at (h : SR κ B σ H G e) {i : Nat} {d : Dt} (hi : e[i]? = some (some (Slot.dat d))) : ∃ v, σ[i]? = some (some v) ∧ DR G v d := h.slot i _ hi
theorem SR.raw_at (h : SR κ B σ H G e) {i : Nat} {w : V} (hi : e[i]? = some (some (Slot.raw w))) : σ[i]? = some (some w) := by
  obtain ⟨v, e1, e2⟩ := h.slot i _ hi
  have e2 : v = w := e2
  rw [← e2]
  exact e1
theorem SR.gnone (h : SR κ B σ H G e) {p : Addr} (hp : H p = none) : G p = none := by
  cases q : G p with
  | none => rfl
  | some u => rw [(h.sub _ _ q).1] at hp; cases hp
/-- the heaps grow, the own lists stay -/
theorem SR.grow (h : SR κ B σ H G e) {H' G' : Hp} (x : Ex G G') (sub' : Sub G' H') (hk : ∀ a o, H a = some o → κ.keep o = true → H' a = some o) (t' : κ.T H')
    (n0' : ∀ a o, H a = some o → κ.keep o = true → G a = none → G' a = none) : SR κ B σ H' G' e := by
  refine ⟨sub', t', h.g0.trans x, fun a o h1 h2 h3 => hk a o (h.h0 a o h1 h2 h3) h3, fun a h1 h2 => by obtain ⟨o, z1, z2⟩ := h.dom a h1; exact n0' a o z1 z2 (h.n0 a h1 h2), fun a h1 => by obtain ⟨o, z1, z2⟩ := h.dom a h1; exact ⟨o, hk a o z1 z2, z2⟩, h.len, fun i s hi => ?_, h.sep⟩
  obtain ⟨v, e1, e2⟩ := h.slot i s hi
  refine ⟨v, e1, e2.ex x fun b xs a es ev => ?_⟩
  subst es
  subst ev
  obtain ⟨a', vs, q1, q2, q3, q4, q5, q6⟩ := e2
  cases q1
  exact ⟨(hk a _ q2 (κ.kd _ (.lst _))).trans q2.symm, n0' a _ q2 (κ.kd _ (.lst _)) q3⟩
/-- new data -/
theorem SR.alloc (h : SR κ B σ H G e) {p : Addr} {o : HO} (hp : H p = none) (hd : IsDat o) : SR κ B σ (upd H p o) (upd G p o) e := by
  have gp := h.gnone hp
  have kp : ∀ a u, H a = some u → upd H p o a = some u := fun a u h1 => by
    rw [upd_ne (ne_of_none h1 hp)]
    exact h1
  refine h.grow (Ex.new gp) (fun a u hu => ?_) (fun a u h1 _ => kp a u h1) (κ.tm _ _ h.t fun a u h1 _ => kp a u h1) fun a u h1 _ h2 => ?_
  · by_cases ha : a = p
    · subst ha
      rw [upd_same] at hu ⊢
      cases hu
      exact ⟨rfl, hd⟩
    · rw [upd_ne ha] at hu ⊢
      exact h.sub a u hu
  · rw [upd_ne (ne_of_none h1 hp)]
    exact h2
/-- something else that is new -/
theorem SR.other (h : SR κ B σ H G e) {p : Addr} {o : HO} (hp : H p = none) : SR κ B σ (upd H p o) G e := by
  have gp := h.gnone hp
  have kp : ∀ a u, H a = some u → upd H p o a = some u := fun a u h1 => by
    rw [upd_ne (ne_of_none h1 hp)]
    exact h1
  refine h.grow (Ex.refl G) (fun a u hu => ?_) (fun a u h1 _ => kp a u h1) (κ.tm _ _ h.t fun a u h1 _ => kp a u h1) fun a u h1 _ h2 => h2
  obtain ⟨q1, q2⟩ := h.sub a u hu
  exact ⟨kp a u q1, q2⟩
theorem set_get {α : Type} {l : List α} {i j : Nat} {x y : α} (h : (l.set i x)[j]? = some y) : (j = i ∧ y = x) ∨ (j ≠ i ∧ l[j]? = some y) := by
  by_cases e : j = i
  · subst e
    by_cases hl : j < l.length
    · rw [List.getElem?_set_self hl] at h
      exact .inl ⟨rfl, (Option.some.inj h).symm⟩
    · rw [List.getElem?_eq_none (by simpa using hl)] at h
      cases h
  · rw [List.getElem?_set_ne (Ne.symm e)] at h
    exact .inr ⟨e, h⟩
/-- a slot forgotten -/
theorem SR.drop (h : SR κ B σ H G e) (i : Nat) (x : Option V) : SR κ B (σ.set i x) H G (e.set i none) := by
  refine ⟨h.sub, h.t, h.g0, h.h0, h.n0, h.dom, by simp [h.len], fun j s hj => ?_, fun j k b c xs ys a hjk hj hk h1 h2 => ?_⟩
  · rcases set_get hj with ⟨_, z⟩ | ⟨ne, hj⟩
    · cases z
    · rw [List.getElem?_set_ne (Ne.symm ne)]
      exact h.slot j s hj
  · rcases set_get hj with ⟨_, z⟩ | ⟨ne, hj⟩
    · cases z
    · rcases set_get hk with ⟨_, z⟩ | ⟨ne', hk⟩
      · cases z
      · rw [List.getElem?_set_ne (Ne.symm ne)] at h1
        rw [List.getElem?_set_ne (Ne.symm ne')] at h2
        exact h.sep j k b c xs ys a hjk hj hk h1 h2
/-- data stored at a name -/
theorem SR.set (h : SR κ B σ H G e) {i : Nat} {v : V} {d : Dt} (hd : DR G v d) : SR κ B (σ.set i (some v)) H G (e.set i (some (.dat d))) := by
  refine ⟨h.sub, h.t, h.g0, h.h0, h.n0, h.dom, by simp [h.len], fun j s hj => ?_, fun j k b c xs ys a hjk hj hk h1 h2 => ?_⟩
  · rcases set_get hj with ⟨rfl, z⟩ | ⟨ne, hj⟩
    · cases z
      have hl : j < σ.length := by
        have := (List.getElem?_eq_some_iff.mp hj).1
        rw [List.length_set] at this
        rw [← h.len]
        exact this
      exact ⟨v, by rw [List.getElem?_set_self hl], hd⟩
    · rw [List.getElem?_set_ne (Ne.symm ne)]
      exact h.slot j s hj
  · rcases set_get hj with ⟨_, z⟩ | ⟨ne, hj⟩
    · cases z
    · rcases set_get hk with ⟨_, z⟩ | ⟨ne', hk⟩
      · cases z
      · rw [List.getElem?_set_ne (Ne.symm ne)] at h1
        rw [List.getElem?_set_ne (Ne.symm ne')] at h2
        exact h.sep j k b c xs ys a hjk hj hk h1 h2
theorem SR.setRaw (h : SR κ B σ H G e) {i : Nat} {v : V} : SR κ B (σ.set i (some v)) H G (e.set i (some (.raw v))) := by
  refine ⟨h.sub, h.t, h.g0, h.h0, h.n0, h.dom, by simp [h.len], fun j s hj => ?_, fun j k b c xs ys a hjk hj hk h1 h2 => ?_⟩
  · rcases set_get hj with ⟨rfl, z⟩ | ⟨ne, hj⟩
    · cases z
      have hl : j < σ.length := by
        have := (List.getElem?_eq_some_iff.mp hj).1
        rw [List.length_set] at this
        rw [← h.len]
        exact this
      exact ⟨v, by rw [List.getElem?_set_self hl], rfl⟩
    · rw [List.getElem?_set_ne (Ne.symm ne)]
      exact h.slot j s hj
  · rcases set_get hj with ⟨_, z⟩ | ⟨ne, hj⟩
    · cases z
    · rcases set_get hk with ⟨_, z⟩ | ⟨ne', hk⟩
      · cases z
      · rw [List.getElem?_set_ne (Ne.symm ne)] at h1
        rw [List.getElem?_set_ne (Ne.symm ne')] at h2
        exact h.sep j k b c xs ys a hjk hj hk h1 h2
/-- a new list at a name that owns it -/
theorem SR.setOwn (h : SR κ B σ H G e) {i : Nat} {p : Addr} {vs : List V} {xs : List Dt} (hp : H p = some (.lst vs)) (gp : G p = none) (h0 : B.H0 p = none) (hd : DRs G vs xs) (new : ∀ (j : Nat) b ys, e[j]? = some (some (Slot.own b ys)) → σ[j]? ≠ some (some (V.ref p))) :
    SR κ B (σ.set i (some (.ref p))) H G (e.set i (some (.own true xs))) := by
  refine ⟨h.sub, h.t, h.g0, h.h0, h.n0, h.dom, by simp [h.len], fun j s hj => ?_, fun j k b c zs ys a hjk hj hk h1 h2 => ?_⟩
  · rcases set_get hj with ⟨rfl, z⟩ | ⟨ne, hj⟩
    · cases z
      have hl : j < σ.length := by
        have := (List.getElem?_eq_some_iff.mp hj).1
        rw [List.length_set] at this
        rw [← h.len]
        exact this
      exact ⟨.ref p, by rw [List.getElem?_set_self hl], p, vs, rfl, hp, gp, hd, (fun z => nomatch z), fun _ => h0⟩
    · rw [List.getElem?_set_ne (Ne.symm ne)]
      exact h.slot j s hj
  · rcases set_get hj with ⟨e1, z⟩ | ⟨ne, hj2⟩
    · subst e1
      rcases set_get h1 with ⟨_, z1⟩ | ⟨ne1, _⟩
      · have z2 : V.ref a = V.ref p := Option.some.inj z1
        rw [List.getElem?_set_ne hjk] at h2
        rcases set_get hk with ⟨z3, _⟩ | ⟨_, hk⟩
        · exact hjk z3.symm
        · rw [z2] at h2
          exact new k c ys hk h2
      · exact absurd rfl ne1
    · rw [List.getElem?_set_ne (Ne.symm ne)] at h1
      rcases set_get hk with ⟨e2, z⟩ | ⟨ne', hk⟩
      · subst e2
        rcases set_get h2 with ⟨_, z1⟩ | ⟨ne1, _⟩
        · have z2 : V.ref a = V.ref p := Option.some.inj z1
          rw [z2] at h1
          exact new j b zs hj2 h1
        · exact absurd rfl ne1
      · rw [List.getElem?_set_ne (Ne.symm ne')] at h2
        exact h.sep j k b c zs ys a hjk hj2 hk h1 h2
/-- an own list written -/
theorem SR.write (h : SR κ B σ H G e) {i : Nat} {a : Addr} {b : Bool} {xs ys : List Dt} {ws : List V} (hi : e[i]? = some (some (Slot.own b xs))) (ha : σ[i]? = some (some (V.ref a))) (hd : DRs G ws ys) :
    SR κ B σ (upd H a (.lst ws)) G (e.set i (some (.own b ys))) := by
  obtain ⟨a', vs, q0, q2, q3, q4, q5, q6⟩ := h.own_at hi
  rw [ha] at q0
  cases q0
  refine ⟨fun c u hu => ?_, κ.tm _ _ h.t fun c u h1 h2 => ?_, h.g0, fun c u h1 h2 h3 => ?_, h.n0, fun c h1 => ?_, by simp [h.len], fun j s hj => ?_, fun j k b' c zs ys' a' hjk hj hk h1 h2 => ?_⟩
  · have ne : c ≠ a := fun z => by rw [z, q3] at hu; cases hu
    rw [upd_ne ne]
    exact h.sub c u hu
  · have ne : c ≠ a := fun z => by rw [z, q2] at h1; cases h1; exact h2 _ rfl
    rw [upd_ne ne]
    exact h1
  · have ne : c ≠ a := fun z => by
      cases b with
      | false => exact h2 _ (q5 rfl) z.symm
      | true => rw [z, q6 rfl] at h1; cases h1
    rw [upd_ne ne]
    exact h.h0 c u h1 h2 h3
  · by_cases ne : c = a
    · rw [ne, upd_same]
      exact ⟨_, rfl, κ.kd _ (.lst _)⟩
    · rw [upd_ne ne]
      exact h.dom c h1
  · rcases set_get hj with ⟨rfl, z⟩ | ⟨ne, hj⟩
    · cases z
      exact ⟨.ref a, ha, a, ws, rfl, upd_same, q3, hd, q5, q6⟩
    · obtain ⟨v, e1, e2⟩ := h.slot j s hj
      refine ⟨v, e1, e2.ex (Ex.refl G) fun b' zs c es ev => ?_⟩
      subst es
      subst ev
      obtain ⟨a', vs', z1, z2, z3, _⟩ := e2
      cases z1
      have nc : c ≠ a := fun z => by
        subst z
        exact h.sep j i b' b zs xs c ne hj hi e1 ha
      rw [upd_ne nc]
      exact ⟨rfl, z3⟩
  · have own' : ∀ {j : Nat} {b' : Bool} {zs : List Dt}, (e.set i (some (Slot.own b ys)))[j]? = some (some (.own b' zs)) → ∃ b'' zs', e[j]? = some (some (.own b'' zs')) := fun {j b' zs} hj => by
      rcases set_get hj with ⟨rfl, z⟩ | ⟨ne, hj⟩
      · exact ⟨b, xs, hi⟩
      · exact ⟨b', zs, hj⟩
    obtain ⟨b1, z1, hj⟩ := own' hj
    obtain ⟨b2, z2, hk⟩ := own' hk
    exact h.sep j k b1 b2 z1 z2 a' hjk hj hk h1 h2
/-- an own list becomes data -/
theorem SR.freeze (h : SR κ B σ H G e) {i : Nat} {xs : List Dt} (hi : e[i]? = some (some (Slot.own true xs))) :
    ∃ a vs, σ[i]? = some (some (V.ref a)) ∧ G a = none ∧ Ex G (upd G a (.lst vs)) ∧ SR κ B σ H (upd G a (.lst vs)) (e.set i (some (.dat (.list xs)))) ∧ DR (upd G a (.lst vs)) (.ref a) (.list xs) := by
  obtain ⟨a, vs, ha, q2, q3, q4, q5, q6⟩ := h.own_at hi
  have x : Ex G (upd G a (.lst vs)) := Ex.new q3
  have hdp : DR (upd G a (.lst vs)) (.ref a) (.list xs) := .lst upd_same (DRs.ex x q4)
  refine ⟨a, vs, ha, q3, x, ⟨fun c u hu => ?_, h.t, h.g0.trans x, h.h0, fun c h1 h2 => ?_, h.dom, by simp [h.len], fun j s hj => ?_, fun j k b' c zs ys' a' hjk hj hk h1 h2 => ?_⟩, hdp⟩
  · by_cases ne : c = a
    · subst ne
      rw [upd_same] at hu
      cases hu
      exact ⟨q2, .lst _⟩
    · rw [upd_ne ne] at hu
      exact h.sub c u hu
  · have ne : c ≠ a := fun z => h1 (by rw [z]; exact q6 rfl)
    rw [upd_ne ne]
    exact h.n0 c h1 h2
  · rcases set_get hj with ⟨rfl, z⟩ | ⟨ne, hj⟩
    · cases z
      exact ⟨.ref a, ha, hdp⟩
    · obtain ⟨v, e1, e2⟩ := h.slot j s hj
      refine ⟨v, e1, e2.ex x fun b' zs c es ev => ?_⟩
      subst es
      subst ev
      obtain ⟨a', vs', z1, z2, z3, _⟩ := e2
      cases z1
      have nc : c ≠ a := fun z => by
        subst z
        exact h.sep j i b' true zs xs c ne hj hi e1 ha
      rw [upd_ne nc]
      exact ⟨rfl, z3⟩
  · rcases set_get hj with ⟨_, z⟩ | ⟨ne, hj⟩
    · cases z
    · rcases set_get hk with ⟨_, z⟩ | ⟨ne', hk⟩
      · cases z
      · exact h.sep j k b' c zs ys' a' hjk hj hk h1 h2
end
end DL
namespace DL
open PySem L2
theorem PE.imp {X : Cx} {e : Expr} {t t' : TE} (h : PE X e t) (k : ∀ σ H Q, t' σ H Q → t σ H Q) : PE X e t' := ⟨fun pins s σ H Q I q => h.run pins s σ H Q I (k _ _ _ q)⟩
theorem PT.imp {X : Cx} {e : Expr} {t t' : TT} (h : PT X e t) (k : ∀ σ H Q, t' σ H Q → t σ H Q) : PT X e t' := ⟨fun pins s σ H Q I q => h.run pins s σ H Q I (k _ _ _ q)⟩
theorem PW.imp {X : Cx} {e : Expr} {t t' : TT} (h : PW X e t) (k : ∀ σ H Q, t' σ H Q → t σ H Q) : PW X e t' := ⟨fun wh pins s σ H Q I q => h.run wh pins s σ H Q I (k _ _ _ q)⟩
theorem PA.imp {X : Cx} {e : List Expr} {t t' : TA} (h : PA X e t) (k : ∀ σ H Q, t' σ H Q → t σ H Q) : PA X e t' := ⟨fun pos pins s σ H Q I q => h.run pos pins s σ H Q I (k _ _ _ q)⟩
theorem PS.imp {X : Cx} {e : Stmt} {t t' : TS} (h : PS X e t) (k : ∀ D σ H, t' D σ H → t D σ H) : PS X e t' := ⟨fun pins s σ H D I q => h.run pins s σ H D I (k _ _ _ q)⟩
theorem PSs.imp {X : Cx} {e : List Stmt} {t t' : TS} (h : PSs X e t) (k : ∀ D σ H, t' D σ H → t D σ H) : PSs X e t' := ⟨fun pins s σ H D I q => h.run pins s σ H D I (k _ _ _ q)⟩

/-- what is wanted of an outcome -/
def wpR {α : Type} (X : Cx) (κ : Kd) (B : Fr) (W : WX) (σ : L2.St) (G : Hp) (r : R α) (k : α → Hp → Hp → En → Prop) : Prop := match r with
  | .ok a e' => ∀ H' G', SR κ B σ H' G' e' → Ex G G' → k a H' G' e'
  | .exc c e' => ∀ H' G' C, X.mg c = some (.ref C) → SR κ B σ H' G' e' → Ex G G' → W (.ref C) none σ H'
  | .bad => False
section
variable {X : Cx} {κ : Kd} {W : WX} {σ : L2.St} {H G G1 : Hp} {α β : Type}
theorem wpR.base {r : R α} {k : α → Hp → Hp → En → Prop} (h : wpR X κ B W σ G r k) (x : Ex G G1) : wpR X κ B W σ G1 r k := by
  cases r with
  | ok a e => exact fun H' G' s y => h H' G' s (x.trans y)
  | exc c e => exact fun H' G' C m s y => h H' G' C m s (x.trans y)
  | bad => exact h
theorem wpR.mono {r : R α} {k k' : α → Hp → Hp → En → Prop} (h : wpR X κ B W σ G r k) (m : ∀ a H' G' e', SR κ B σ H' G' e' → Ex G G' → k a H' G' e' → k' a H' G' e') : wpR X κ B W σ G r k' := by
  cases r with
  | ok a e => exact fun H' G' s y => m _ _ _ _ s y (h H' G' s y)
  | exc c e => exact h
  | bad => exact h
theorem wpR.of_bind {r : R α} {f : α → En → R β} {k : β → Hp → Hp → En → Prop} (h : wpR X κ B W σ G (r.bind f) k) : wpR X κ B W σ G r (fun a _ G1 e1 => wpR X κ B W σ G1 (f a e1) k) := by
  cases r with
  | ok a e => exact fun H' G' s y => wpR.base h y
  | exc c e => exact h
  | bad => exact h
end
def kD (Q : VK) : Dt → Hp → Hp → En → Prop := fun d H' G' _ => ∀ v, DR G' v d → Q v H'
def kA (Q : List V → Hp → Prop) : List Dt → Hp → Hp → En → Prop := fun ds H' G' _ => ∀ vs, DRs G' vs ds → Q vs H'
def kT (Q : Bool → Hp → Prop) : Bool → Hp → Hp → En → Prop := fun b H' _ _ => Q b H'
def tD (X : Cx) (κ : Kd) (W : WX) (f : En → R Dt) : TE := fun σ H Q => ∃ (B : Fr) (G : Hp) (e : En), SR κ B σ H G e ∧ wpR X κ B W σ G (f e) (kD Q)
def tDA (X : Cx) (κ : Kd) (W : WX) (f : En → R (List Dt)) : TA := fun σ H Q => ∃ (B : Fr) (G : Hp) (e : En), SR κ B σ H G e ∧ wpR X κ B W σ G (f e) (kA Q)
def tDT (X : Cx) (κ : Kd) (W : WX) (f : En → R Bool) : TT := fun σ H Q => ∃ (B : Fr) (G : Hp) (e : En), SR κ B σ H G e ∧ wpR X κ B W σ G (f e) (kT Q)
structure DE (X : Cx) (κ : Kd) (W : WX) (e : Expr) (f : En → R Dt) : Prop where
  pe : PE X e (tD X κ W f)
structure DA (X : Cx) (κ : Kd) (W : WX) (es : List Expr) (f : En → R (List Dt)) : Prop where
  pa : PA X es (tDA X κ W f)
structure DT (X : Cx) (κ : Kd) (W : WX) (e : Expr) (f : En → R Bool) : Prop where
  pt : PT X e (tDT X κ W f)
structure DW (X : Cx) (κ : Kd) (W : WX) (e : Expr) (f : En → R Bool) : Prop where
  pw : PW X e (tDT X κ W f)

/-! ### readings by values -/
def ret1 {α : Type} (o : Option α) (e : En) : R α := match o with
  | some a => .ok a e
  | none => .bad
def RD1 (κ : Kd) (r : V → Hp → VK → Prop) (g : Dt → Option Dt) : Prop :=
  ∀ (B : Fr) σ H G e x dx d Q, SR κ B σ H G e → DR G x dx → g dx = some d → (∀ v H' G', SR κ B σ H' G' e → Ex G G' → DR G' v d → Q v H') → r x H Q
def RD2 (κ : Kd) (r : R2) (g : Dt → Dt → Option Dt) : Prop :=
  ∀ (B : Fr) σ H G e x y dx dy d Q, SR κ B σ H G e → DR G x dx → DR G y dy → g dx dy = some d → (∀ v H' G', SR κ B σ H' G' e → Ex G G' → DR G' v d → Q v H') → r x y H Q
def RDA (κ : Kd) (r : List V → Hp → VK → Prop) (g : List Dt → Option Dt) : Prop :=
  ∀ (B : Fr) σ H G e xs dxs d Q, SR κ B σ H G e → DRs G xs dxs → g dxs = some d → (∀ v H' G', SR κ B σ H' G' e → Ex G G' → DR G' v d → Q v H') → r xs H Q
def f1 (g : Dt → Option Dt) (fa : En → R Dt) : En → R Dt := fun e => (fa e).bind fun a e1 => ret1 (g a) e1
def f2 (g : Dt → Dt → Option Dt) (fa fb : En → R Dt) : En → R Dt := fun e => (fa e).bind fun a e1 => (fb e1).bind fun b e2 => ret1 (g a b) e2
def fA (g : List Dt → Option Dt) (fa : En → R (List Dt)) : En → R Dt := fun e => (fa e).bind fun a e1 => ret1 (g a) e1
section
variable {X : Cx} {κ : Kd} {W : WX} {e : Expr} {fa fb fc : En → R Dt}
theorem wp_ret1 {σ : L2.St} {H G : Hp} {en : En} {o : Option Dt} {Q : VK} (h : wpR X κ B W σ G (ret1 o en) (kD Q)) (S : SR κ B σ H G en) : ∃ d, o = some d ∧ ∀ v H' G', SR κ B σ H' G' en → Ex G G' → DR G' v d → Q v H' := by
  cases o with
  | none => exact h.elim
  | some d => exact ⟨d, rfl, fun v H' G' s x p => h H' G' s x v p⟩
theorem de_f1 {r : V → Hp → VK → Prop} {g : Dt → Option Dt} (h : PE X e (tUn r (tD X κ W fa))) (hg : RD1 κ r g) : DE X κ W e (f1 g fa) := by
  refine ⟨PE.imp h fun σ H Q q => ?_⟩
  obtain ⟨B, G, en, S, q⟩ := q
  refine ⟨B, G, en, S, q.of_bind.mono fun a H1 G1 e1 S1 x1 q1 => fun v hv => ?_⟩
  obtain ⟨d, e2, k⟩ := wp_ret1 q1 S1
  exact hg B σ H1 G1 e1 v a d Q S1 hv e2 k
theorem de_f2 {r : R2} {g : Dt → Dt → Option Dt} (h : PE X e (tOp r (tD X κ W fa) (tD X κ W fb))) (hg : RD2 κ r g) : DE X κ W e (f2 g fa fb) := by
  refine ⟨PE.imp h fun σ H Q q => ?_⟩
  obtain ⟨B, G, en, S, q⟩ := q
  refine ⟨B, G, en, S, q.of_bind.mono fun a H1 G1 e1 S1 x1 q1 => fun v hv => ⟨B, G1, e1, S1, q1.of_bind.mono fun b H2 G2 e2 S2 x2 q2 => fun w hw => ?_⟩⟩
  obtain ⟨d, e3, k⟩ := wp_ret1 q2 S2
  exact hg B σ H2 G2 e2 v w a b d Q S2 (DR.ex x2 hv) hw e3 k
theorem de_fA {r : List V → Hp → VK → Prop} {g : List Dt → Option Dt} {fs : En → R (List Dt)} (h : PE X e (tCB r (tDA X κ W fs))) (hg : RDA κ r g) : DE X κ W e (fA g fs) := by
  refine ⟨PE.imp h fun σ H Q q => ?_⟩
  obtain ⟨B, G, en, S, q⟩ := q
  refine ⟨B, G, en, S, q.of_bind.mono fun a H1 G1 e1 S1 x1 q1 => fun v hv => ?_⟩
  obtain ⟨d, e2, k⟩ := wp_ret1 q1 S1
  exact hg B σ H1 G1 e1 v a d Q S1 hv e2 k

/-! ### names and constants -/
def fVar (i : Nat) : En → R Dt := fun e => match e[i]? with
  | some (some (.dat d)) => .ok d e
  | some (some (.own true xs)) => .ok (.list xs) (e.set i (some (.dat (.list xs))))
  | _ => .bad
def fC (d : Dt) : En → R Dt := fun e => .ok d e
theorem de_var {x : Str} {pos : Pos} (i : Nat) (h : PE X (.Name x pos) (tVar i)) : DE X κ W (.Name x pos) (fVar i) := by
  refine ⟨PE.imp h fun σ H Q q => ?_⟩
  obtain ⟨B, G, en, S, q⟩ := q
  unfold fVar at q
  split at q
  · rename_i d hd
    obtain ⟨v, e1, e2⟩ := S.dat_at hd
    exact ⟨v, e1, q H G S (Ex.refl G) v e2⟩
  · rename_i xs hd
    obtain ⟨a, vs, e1, e2, e3, S', D'⟩ := S.freeze hd
    exact ⟨_, e1, q H _ S' e3 _ D'⟩
  · exact q.elim
theorem de_c {v : V} {d : Dt} (h : PE X e (tC v)) (hd : ∀ G, DR G v d) : DE X κ W e (fC d) := by
  refine ⟨PE.imp h fun σ H Q q => ?_⟩
  obtain ⟨B, G, en, S, q⟩ := q
  exact q H G S (Ex.refl G) v (hd G)
theorem de_int {i : Int} {j pos} : DE X κ W (.Constant (.int i) j pos) (fC (.int i)) := de_c pe_int fun _ => .int i
theorem de_bl {b : Bool} {j pos} : DE X κ W (.Constant (.bool b) j pos) (fC (.bool b)) := de_c pe_bl fun _ => .bl b
theorem de_non {j pos} : DE X κ W (.Constant .none j pos) (fC .none) := de_c pe_non fun _ => .non
theorem de_str {s : Str} {j pos} : DE X κ W (.Constant (.str s) j pos) (fC (.str s)) := de_c pe_str fun _ => .str s

/-! ### argument lists, displays -/
def fNil : En → R (List Dt) := fun e => .ok [] e
def fCons (fa : En → R Dt) (fr : En → R (List Dt)) : En → R (List Dt) := fun e => (fa e).bind fun a e1 => (fr e1).bind fun r e2 => .ok (a :: r) e2
theorem da_nil : DA X κ W [] fNil := ⟨PA.imp pa_nil fun σ H Q q => by
  obtain ⟨B, G, en, S, q⟩ := q
  exact q H G S (Ex.refl G) [] .nil⟩
theorem da_cons {a : Expr} {es : List Expr} {fr : En → R (List Dt)} (h : ∀ (ta : TE) (tr : TA), PE X a ta → PA X es tr → PA X (a :: es) (tCons ta tr)) (ha : DE X κ W a fa) (hr : DA X κ W es fr) : DA X κ W (a :: es) (fCons fa fr) := by
  refine ⟨PA.imp (h _ _ ha.pe hr.pa) fun σ H Q q => ?_⟩
  obtain ⟨B, G, en, S, q⟩ := q
  refine ⟨B, G, en, S, q.of_bind.mono fun a H1 G1 e1 S1 x1 q1 => fun v hv => ⟨B, G1, e1, S1, q1.of_bind.mono fun b H2 G2 e2 S2 x2 q2 => fun w hw => ?_⟩⟩
  exact q2 H2 G2 S2 (Ex.refl G2) _ (.cons (DR.ex x2 hv) hw)
def szOk (ds : List Dt) : Bool := decide (ds.length ≤ 1000000)
theorem szOk_line {ds : List Dt} (h : szOk ds = true) : ds.length ≤ sizeLine := by
  rw [sizeLine_eq]
  have := of_decide_eq_true h
  omega
def gTup (ds : List Dt) : Option Dt := if szOk ds then some (.tuple ds) else none
def gLst (ds : List Dt) : Option Dt := if szOk ds then some (.list ds) else none
theorem ite_some {α : Type} {c : Bool} {a b : α} (h : (if c = true then some a else none) = some b) : c = true ∧ a = b := by
  cases c with
  | true => exact ⟨rfl, Option.some.inj h⟩
  | false => cases h
theorem rd_tup : RDA κ (fun xs H1 Q => xs.length ≤ sizeLine ∧ ∀ p, H1 p = none → Q (.ref p) (upd H1 p (.tup xs))) gTup := by
  intro B σ H G e xs dxs d Q S hd hg k
  obtain ⟨c, rfl⟩ := ite_some hg
  refine ⟨by rw [DRs.length hd]; exact szOk_line c, fun p hp => k _ _ _ (S.alloc hp (.tup xs)) (Ex.new (S.gnone hp)) (.tup upd_same (DRs.ex (Ex.new (S.gnone hp)) hd))⟩
theorem rd_lst : RDA κ (fun xs H1 Q => xs.length ≤ sizeLine ∧ ∀ p, H1 p = none → Q (.ref p) (upd H1 p (.lst xs))) gLst := by
  intro B σ H G e xs dxs d Q S hd hg k
  obtain ⟨c, rfl⟩ := ite_some hg
  refine ⟨by rw [DRs.length hd]; exact szOk_line c, fun p hp => k _ _ _ (S.alloc hp (.lst xs)) (Ex.new (S.gnone hp)) (.lst upd_same (DRs.ex (Ex.new (S.gnone hp)) hd))⟩
theorem de_tup {es : List Expr} {fs : En → R (List Dt)} {k : Nat} {pos : Pos} (h : DA X κ W es fs) : DE X κ W (.Tuple es k pos) (fA gTup fs) := de_fA (r := fun xs H1 Q => xs.length ≤ sizeLine ∧ ∀ p, H1 p = none → Q (.ref p) (upd H1 p (.tup xs))) (pe_tup h.pa) rd_tup
theorem de_lst {es : List Expr} {fs : En → R (List Dt)} {pos : Pos} (h : DA X κ W es fs) : DE X κ W (.List es pos) (fA gLst fs) := de_fA (r := fun xs H1 Q => xs.length ≤ sizeLine ∧ ∀ p, H1 p = none → Q (.ref p) (upd H1 p (.lst xs))) (pe_lst h.pa) rd_lst
end
end DL
namespace DL
open PySem L2
theorem OpR.or {X : Cx} {f : Value → Value → Sem Value} {r r' : R2} (h : OpR X f r) (h' : OpR X f r') : OpR X f (fun x y H Q => r x y H Q ∨ r' x y H Q) := by
  intro pins s σ H x y v u Q I rx ry q
  rcases q with q | q
  · exact h pins s σ H x y v u Q I rx ry q
  · exact h' pins s σ H x y v u Q I rx ry q
section
variable {X : Cx} {κ : Kd} {W : WX} {e a b c : Expr} {fa fb fc : En → R Dt} {pos : Pos}
def small (n : Nat) : Bool := decide (n ≤ 1000000)
theorem small_line {n : Nat} (h : small n = true) : n ≤ sizeLine := by
  rw [sizeLine_eq]
  have := of_decide_eq_true h
  omega
theorem small_le {n : Nat} (h : small n = true) : n ≤ 1000000 := of_decide_eq_true h
/-! ### + -/
def addD : Dt → Dt → Option Dt
  | .int i, .int j => some (.int (i + j))
  | .str x, .str y => if small (x.length + y.length) then some (.str (x ++ y)) else none
  | .list xs, .list ys => if small (xs.length + ys.length) then some (.list (xs ++ ys)) else none
  | .tuple xs, .tuple ys => if small (xs.length + ys.length) then some (.tuple (xs ++ ys)) else none
  | _, _ => none
def rAddA (K : PySem.W.Frag) : R2 := fun x y H Q => (rI0 fun i j => .int (i + j)) x y H Q ∨ (∃ i j, x = .str i ∧ y = .str j ∧ i.length + j.length ≤ sizeLine ∧ Q (.str (i ++ j)) H) ∨ rCat x y H Q ∨ rCatA K x y H Q
theorem op_addA : OpR X (binaryOp .Add) (rAddA X.K) := OpR.or op_add (OpR.or op_add_str (OpR.or op_cat op_catA))
theorem SR.lst {σ : L2.St} {H G : Hp} {en : En} (S : SR κ B σ H G en) {a : Addr} {xs : List V} (h : G a = some (.lst xs)) : H a = some (.lst xs) := (S.sub _ _ h).1
theorem SR.sqt {K : PySem.W.Frag} {σ : L2.St} {H G : Hp} {en : En} (S : SR κ B σ H G en) {a : Addr} {xs : List V} (h : G a = some (.tup xs)) : SqT K H a xs := .inl (.inl (S.sub _ _ h).1)
theorem SR.sql {K : PySem.W.Frag} {σ : L2.St} {H G : Hp} {en : En} (S : SR κ B σ H G en) {a : Addr} {xs : List V} (h : G a = some (.lst xs)) : SqL K H a xs := .inl (.inl (S.sub _ _ h).1)
theorem SR.newL {σ : L2.St} {H G : Hp} {en : En} (S : SR κ B σ H G en) {xs : List V} {ds : List Dt} {Q : VK} (hd : DRs G xs ds) (k : ∀ v H' G', SR κ B σ H' G' en → Ex G G' → DR G' v (.list ds) → Q v H') (p : Addr) (hp : H p = none) : Q (.ref p) (upd H p (.lst xs)) :=
  k _ _ _ (S.alloc hp (.lst xs)) (Ex.new (S.gnone hp)) (.lst upd_same (DRs.ex (Ex.new (S.gnone hp)) hd))
theorem SR.newT {σ : L2.St} {H G : Hp} {en : En} (S : SR κ B σ H G en) {xs : List V} {ds : List Dt} {Q : VK} (hd : DRs G xs ds) (k : ∀ v H' G', SR κ B σ H' G' en → Ex G G' → DR G' v (.tuple ds) → Q v H') (p : Addr) (hp : H p = none) : Q (.ref p) (upd H p (.tup xs)) :=
  k _ _ _ (S.alloc hp (.tup xs)) (Ex.new (S.gnone hp)) (.tup upd_same (DRs.ex (Ex.new (S.gnone hp)) hd))
theorem rd_add {K : PySem.W.Frag} : RD2 κ (rAddA K) addD := by
  intro B σ H G en x y dx dy d Q S hx hy hg k
  unfold addD at hg
  split at hg
  · cases hx; cases hy; cases hg
    exact .inl ⟨_, _, rfl, rfl, k _ _ _ S (Ex.refl G) (.int _)⟩
  · obtain ⟨c, rfl⟩ := ite_some hg
    cases hx; cases hy
    exact .inr (.inl ⟨_, _, rfl, rfl, small_line c, k _ _ _ S (Ex.refl G) (.str _)⟩)
  · obtain ⟨c, rfl⟩ := ite_some hg
    cases hx with
    | lst h1 h2 =>
      cases hy with
      | lst h3 h4 =>
        exact .inr (.inr (.inl ⟨_, _, _, _, rfl, rfl, S.lst h1, S.lst h3, by rw [DRs.length h2, DRs.length h4]; exact small_line c, fun p hp => S.newL (DRs.append h2 h4) k p hp⟩))
  · obtain ⟨c, rfl⟩ := ite_some hg
    cases hx with
    | tup h1 h2 =>
      cases hy with
      | tup h3 h4 =>
        refine .inr (.inr (.inr ⟨_, _, _, _, rfl, rfl, S.sqt h1, S.sqt h3, by rw [DRs.length h2, DRs.length h4]; exact small_line c, fun e0 => ?_, fun _ e0 => ?_, fun _ _ p hp => S.newT (DRs.append h2 h4) k p hp⟩))
        · subst e0; cases h2
          exact k _ _ _ S (Ex.refl G) (.tup h3 h4)
        · subst e0; cases h4
          rw [List.append_nil] at k
          exact k _ _ _ S (Ex.refl G) (.tup h1 h2)
  · cases hg
theorem de_add (ha : DE X κ W a fa) (hb : DE X κ W b fb) : DE X κ W (.BinOp a .Add b pos) (f2 addD fa fb) := de_f2 (pe_op op_addA ha.pe hb.pe) rd_add
/-! ### -, *, //, %, ** -/
def subD : Dt → Dt → Option Dt
  | .int i, .int j => some (.int (i - j))
  | _, _ => none
theorem rd_sub : RD2 κ (rI0 fun i j => .int (i - j)) subD := by
  intro B σ H G en x y dx dy d Q S hx hy hg k
  unfold subD at hg
  split at hg
  · cases hx; cases hy; cases hg
    exact ⟨_, _, rfl, rfl, k _ _ _ S (Ex.refl G) (.int _)⟩
  · cases hg
theorem de_sub (ha : DE X κ W a fa) (hb : DE X κ W b fb) : DE X κ W (.BinOp a .Sub b pos) (f2 subD fa fb) := de_f2 (pe_op op_sub ha.pe hb.pe) rd_sub
def mulD : Dt → Dt → Option Dt
  | .int i, .int j => if decide (i.natAbs < 2 ^ 64) || decide (j.natAbs < 2 ^ 64) then some (.int (i * j)) else none
  | .list xs, .int j => if decide (0 ≤ j ∧ j ≤ 1000 ∧ xs.length ≤ 1000) then some (.list (List.replicate j.toNat xs).flatten) else none
  | .tuple xs, .int j => if decide (2 ≤ j ∧ j ≤ 1000 ∧ xs.length ≤ 1000) && !xs.isEmpty then some (.tuple (List.replicate j.toNat xs).flatten) else none
  | _, _ => none
def rMulA (K : PySem.W.Frag) : R2 := fun x y H Q => (rI CMul fun i j => .int (i * j)) x y H Q ∨ rRep x y H Q ∨ rRepT K x y H Q
theorem op_mulA : OpR X (binaryOp .Mult) (rMulA X.K) := OpR.or op_mul (OpR.or op_rep op_repT)
theorem DRs.rep {G : Hp} {vs : List V} {ds : List Dt} (h : DRs G vs ds) : ∀ n : Nat, DRs G (List.replicate n vs).flatten (List.replicate n ds).flatten
  | 0 => .nil
  | n + 1 => by
    rw [List.replicate_succ, List.replicate_succ, List.flatten_cons, List.flatten_cons]
    exact DRs.append h (DRs.rep h n)
theorem natAbs_lt {i : Int} {n : Nat} (h : i.natAbs < n) : -(n : Int) < i ∧ i < n := by omega
theorem rd_mul {K : PySem.W.Frag} : RD2 κ (rMulA K) mulD := by
  intro B σ H G en x y dx dy d Q S hx hy hg k
  unfold mulD at hg
  split at hg
  · obtain ⟨c, rfl⟩ := ite_some hg
    cases hx; cases hy
    refine .inl ⟨_, _, rfl, rfl, ?_, k _ _ _ S (Ex.refl G) (.int _)⟩
    rw [Bool.or_eq_true, decide_eq_true_eq, decide_eq_true_eq] at c
    rcases c with c | c
    · exact .inl (by simpa using natAbs_lt c)
    · exact .inr (by simpa using natAbs_lt c)
  · obtain ⟨c, rfl⟩ := ite_some hg
    rw [decide_eq_true_eq] at c
    obtain ⟨c1, c2, c3⟩ := c
    cases hy
    cases hx with
    | lst h1 h2 =>
      refine .inr (.inl ⟨_, _, _, rfl, rfl, S.lst h1, by omega, by omega, ?_, fun p hp => S.newL (DRs.rep h2 _) k p hp⟩)
      rw [DRs.length h2, sizeLine_eq]
      exact Nat.le_trans (Nat.mul_le_mul c3 (show _ ≤ 1000 by omega)) (by decide)
  · obtain ⟨c, rfl⟩ := ite_some hg
    rw [Bool.and_eq_true, decide_eq_true_eq] at c
    obtain ⟨⟨c1, c2, c3⟩, c4⟩ := c
    cases hy
    cases hx with
    | tup h1 h2 =>
      refine .inr (.inr ⟨_, _, _, rfl, rfl, S.sqt h1, fun z => ?_, c1, c2, by rw [DRs.length h2]; exact c3, fun p hp => S.newT (DRs.rep h2 _) k p hp⟩)
      subst z; cases h2; cases c4
  · cases hg
theorem de_mul (ha : DE X κ W a fa) (hb : DE X κ W b fb) : DE X κ W (.BinOp a .Mult b pos) (f2 mulD fa fb) := de_f2 (pe_op op_mulA ha.pe hb.pe) rd_mul
theorem rd_intC {C : Int → Int → Prop} {g : Int → Int → Int} {h : Dt → Dt → Option Dt} (hh : ∀ x y d, h x y = some d → ∃ i j, x = .int i ∧ y = .int j ∧ C i j ∧ d = .int (g i j)) : RD2 κ (rI C fun i j => .int (g i j)) h := by
  intro B σ H G en x y dx dy d Q S hx hy hg k
  obtain ⟨i, j, rfl, rfl, c, rfl⟩ := hh _ _ _ hg
  cases hx; cases hy
  exact ⟨_, _, rfl, rfl, c, k _ _ _ S (Ex.refl G) (.int _)⟩
def divD : Dt → Dt → Option Dt
  | .int i, .int j => if decide (0 < j ∧ j < 1073741824) then some (.int (i / j)) else none
  | _, _ => none
theorem rd_div : RD2 κ (rI CDiv fun i j => .int (i / j)) divD := rd_intC fun x y d h => by
  unfold divD at h
  split at h
  · obtain ⟨c, rfl⟩ := ite_some h
    rw [decide_eq_true_eq] at c
    exact ⟨_, _, rfl, rfl, c, rfl⟩
  · cases h
theorem de_div (ha : DE X κ W a fa) (hb : DE X κ W b fb) : DE X κ W (.BinOp a .FloorDiv b pos) (f2 divD fa fb) := de_f2 (pe_op op_fdiv ha.pe hb.pe) rd_div
def modD : Dt → Dt → Option Dt
  | .int i, .int j => if decide (0 < j) then some (.int (i % j)) else none
  | _, _ => none
theorem rd_mod : RD2 κ (rI (fun _ j => 0 < j) fun i j => .int (i % j)) modD := rd_intC fun x y d h => by
  unfold modD at h
  split at h
  · obtain ⟨c, rfl⟩ := ite_some h
    exact ⟨_, _, rfl, rfl, of_decide_eq_true c, rfl⟩
  · cases h
theorem de_mod (ha : DE X κ W a fa) (hb : DE X κ W b fb) : DE X κ W (.BinOp a .Mod b pos) (f2 modD fa fb) := de_f2 (pe_op op_mod ha.pe hb.pe) rd_mod
def powD : Dt → Dt → Option Dt
  | .int i, .int j => if decide (0 ≤ j ∧ j ≤ 1000000 ∧ i.natAbs < 2 ^ 64) then some (.int (i ^ j.toNat)) else none
  | _, _ => none
theorem rd_pow : RD2 κ (rI CPow fun i j => .int (i ^ j.toNat)) powD := rd_intC fun x y d h => by
  unfold powD at h
  split at h
  · obtain ⟨c, rfl⟩ := ite_some h
    rw [decide_eq_true_eq] at c
    exact ⟨_, _, rfl, rfl, c, rfl⟩
  · cases h
theorem de_pow (ha : DE X κ W a fa) (hb : DE X κ W b fb) : DE X κ W (.BinOp a .Pow b pos) (f2 powD fa fb) := de_f2 (pe_op op_pow ha.pe hb.pe) rd_pow
def negD : Dt → Option Dt
  | .int i => some (.int (-i))
  | _ => none
theorem rd_neg : RD1 κ (rU fun i => .int (-i)) negD := by
  intro B σ H G en x dx d Q S hx hg k
  unfold negD at hg
  split at hg
  · cases hx; cases hg
    exact ⟨_, rfl, k _ _ _ S (Ex.refl G) (.int _)⟩
  · cases hg
theorem de_neg (ha : DE X κ W a fa) : DE X κ W (.UnaryOp .USub a pos) (f1 negD fa) := de_f1 (pe_un un_neg ha.pe) rd_neg
/-! ### comparisons -/
def cmpD (p : Int → Int → Bool) : Dt → Dt → Option Dt
  | .int i, .int j => some (.bool (p i j))
  | _, _ => none
theorem rd_cmp {p : Int → Int → Bool} : RD2 κ (rI0 fun i j => .bl (p i j)) (cmpD p) := by
  intro B σ H G en x y dx dy d Q S hx hy hg k
  unfold cmpD at hg
  split at hg
  · cases hx; cases hy; cases hg
    exact ⟨_, _, rfl, rfl, k _ _ _ S (Ex.refl G) (.bl _)⟩
  · cases hg
abbrev ltD := cmpD fun i j => decide (i < j)
abbrev leD := cmpD fun i j => decide (i ≤ j)
abbrev gtD := cmpD fun i j => decide (j < i)
abbrev geD := cmpD fun i j => decide (j ≤ i)
theorem de_lt (ha : DE X κ W a fa) (hb : DE X κ W b fb) : DE X κ W (.Compare a [.Lt] [b] pos) (f2 ltD fa fb) := de_f2 (pe_cmpR op_lt ha.pe hb.pe (nobehind _ (by decide) (by decide))) rd_cmp
theorem de_le (ha : DE X κ W a fa) (hb : DE X κ W b fb) : DE X κ W (.Compare a [.LtE] [b] pos) (f2 leD fa fb) := de_f2 (pe_cmpR op_le ha.pe hb.pe (nobehind _ (by decide) (by decide))) rd_cmp
theorem de_gt (ha : DE X κ W a fa) (hb : DE X κ W b fb) : DE X κ W (.Compare a [.Gt] [b] pos) (f2 gtD fa fb) := de_f2 (pe_cmpR op_gt ha.pe hb.pe (nobehind _ (by decide) (by decide))) rd_cmp
theorem de_ge (ha : DE X κ W a fa) (hb : DE X κ W b fb) : DE X κ W (.Compare a [.GtE] [b] pos) (f2 geD fa fb) := de_f2 (pe_cmpR op_ge ha.pe hb.pe (nobehind _ (by decide) (by decide))) rd_cmp
def okD (d : Dt) : Bool := SeqAt.shaped d
def eqD (x y : Dt) : Option Dt := if okD x && okD y then some (.bool (PyData.eqv x y)) else none
def neD (x y : Dt) : Option Dt := if okD x && okD y then some (.bool (!PyData.eqv x y)) else none
theorem rd_eq {K : PySem.W.Frag} : RD2 κ (rEqD K) eqD := by
  intro B σ H G en x y dx dy d Q S hx hy hg k
  obtain ⟨c, rfl⟩ := ite_some hg
  rw [Bool.and_eq_true] at c
  exact ⟨dx, dy, DR.dp S.sub hx, DR.dp S.sub hy, c.1, c.2, k _ _ _ S (Ex.refl G) (.bl _)⟩
theorem rd_ne {K : PySem.W.Frag} : RD2 κ (rNeD K) neD := by
  intro B σ H G en x y dx dy d Q S hx hy hg k
  obtain ⟨c, rfl⟩ := ite_some hg
  rw [Bool.and_eq_true] at c
  exact ⟨dx, dy, DR.dp S.sub hx, DR.dp S.sub hy, c.1, c.2, k _ _ _ S (Ex.refl G) (.bl _)⟩
theorem de_eq (hu : X.A.units + 64 < cLine) (ha : DE X κ W a fa) (hb : DE X κ W b fb) : DE X κ W (.Compare a [.Eq] [b] pos) (f2 eqD fa fb) := de_f2 (pe_cmpR (op_eqD hu) ha.pe hb.pe (nobehind _ (by decide) (by decide))) rd_eq
theorem de_ne (hu : X.A.units + 64 < cLine) (ha : DE X κ W a fa) (hb : DE X κ W b fb) : DE X κ W (.Compare a [.NotEq] [b] pos) (f2 neD fa fb) := de_f2 (pe_cmpR (op_neD hu) ha.pe hb.pe (nobehind _ (by decide) (by decide))) rd_ne
/-- is None; is True, is False -/
def isN : Dt → Bool
  | .none => true
  | _ => false
def isD (neg : Bool) : Dt → Dt → Option Dt
  | x, .none => some (.bool (neg != isN x))
  | .bool a, .bool b => some (.bool (neg != (a == b)))
  | _, _ => none
theorem dr_non {G : Hp} {v : V} {d : Dt} (h : DR G v d) : decide (v = .non) = isN d := by
  cases h <;> rfl
def rIsA : R2 := fun x y H Q => (y = .non ∧ Q (.bl (decide (x = .non))) H) ∨ rIsB x y H Q
def rNotA : R2 := fun x y H Q => (y = .non ∧ Q (.bl (!decide (x = .non))) H) ∨ rNotB x y H Q
theorem dec_bool (a b : Bool) : decide (a = b) = (a == b) := by cases a <;> cases b <;> rfl
theorem rd_is : RD2 κ rIsA (isD false) := by
  intro B σ H G en x y dx dy d Q S hx hy hg k
  unfold isD at hg
  split at hg
  · cases hg; cases hy
    refine .inl ⟨rfl, k _ _ _ S (Ex.refl G) ?_⟩
    rw [dr_non hx]
    simpa using DR.bl _
  · cases hg; cases hx; cases hy
    exact .inr ⟨_, _, rfl, rfl, k _ _ _ S (Ex.refl G) (by rw [dec_bool]; simpa using DR.bl _)⟩
  · cases hg
theorem rd_not : RD2 κ rNotA (isD true) := by
  intro B σ H G en x y dx dy d Q S hx hy hg k
  unfold isD at hg
  split at hg
  · cases hg; cases hy
    refine .inl ⟨rfl, k _ _ _ S (Ex.refl G) ?_⟩
    rw [dr_non hx]
    simpa using DR.bl _
  · cases hg; cases hx; cases hy
    exact .inr ⟨_, _, rfl, rfl, k _ _ _ S (Ex.refl G) (by rw [dec_bool]; simpa using DR.bl _)⟩
  · cases hg
theorem de_is (ha : DE X κ W a fa) (hb : DE X κ W b fb) : DE X κ W (.Compare a [.Is] [b] pos) (f2 (isD false) fa fb) := de_f2 (pe_cmpR (OpR.or op_isN op_isBl) ha.pe hb.pe (nobehind _ (by decide) (by decide))) rd_is
theorem de_isNot (ha : DE X κ W a fa) (hb : DE X κ W b fb) : DE X κ W (.Compare a [.IsNot] [b] pos) (f2 (isD true) fa fb) := de_f2 (pe_cmpR (OpR.or op_notN op_notBl) ha.pe hb.pe (nobehind _ (by decide) (by decide))) rd_not
/-! ### in -/
theorem rm_in {A : Around} {ds : List PyData} {d : PyData} (h : SeqAt.shaped d = true) (hu : A.units + 65 < cLine) : A.units + 1 + min (PyData.depthAll ds) d.depth < cLine := by
  have q : d.depth ≤ 64 := by
    have h' : (d.canLay0 && decide (d.depth ≤ 64)) = true := h
    rw [Bool.and_eq_true, decide_eq_true_eq] at h'
    exact h'.2
  omega
def inD (neg : Bool) : Dt → Dt → Option Dt
  | x, .list ys => if okD x && okD (.list ys) then some (.bool (neg != (ys.any fun z => PyData.eqv z x))) else none
  | x, .tuple ys => if okD x && okD (.tuple ys) then some (.bool (neg != (ys.any fun z => PyData.eqv z x))) else none
  | _, _ => none
def rInT (K : PySem.W.Frag) (neg : Bool) : R2 := fun x y H Q => ∃ d ds, Dp K H x d ∧ Dp K H y (.tuple ds) ∧ SeqAt.shaped d = true ∧ SeqAt.shaped (.tuple ds) = true ∧ Q (.bl (neg != ds.any fun z => PyData.eqv z d)) H
theorem op_inT (hu : X.A.units + 65 < cLine) : OpR X (compareOp .In) (rInT X.K false) := by
  intro pins s σ H x y v u Q I rx ry h
  obtain ⟨d, ds, hd, he, sd, se, q⟩ := h
  obtain ⟨as, r1⟩ := Dp.reads I d x v hd rx
  obtain ⟨bs, r2⟩ := Dp.reads I (.tuple ds) y u he ry
  have q' : Q (.bl (ds.any fun z => PyData.eqv z d)) H := by simpa using q
  exact SeqAt.in_tuple_reads r2 r1 (SeqAt.canLay_of_shaped se) (SeqAt.canLay_of_shaped sd) (rm_in sd hu) ⟨.bl _, H, I, rfl, q'⟩
theorem op_notInT (hu : X.A.units + 65 < cLine) : OpR X (compareOp .NotIn) (rInT X.K true) := by
  intro pins s σ H x y v u Q I rx ry h
  obtain ⟨d, ds, hd, he, sd, se, q⟩ := h
  obtain ⟨as, r1⟩ := Dp.reads I d x v hd rx
  obtain ⟨bs, r2⟩ := Dp.reads I (.tuple ds) y u he ry
  have q' : Q (.bl (!(ds.any fun z => PyData.eqv z d))) H := by simpa using q
  exact SeqAt.notIn_tuple_reads r2 r1 (SeqAt.canLay_of_shaped se) (SeqAt.canLay_of_shaped sd) (rm_in sd hu) ⟨.bl _, H, I, rfl, q'⟩
theorem rd_in {K : PySem.W.Frag} : RD2 κ (fun x y H Q => rInD K x y H Q ∨ rInT K false x y H Q) (inD false) := by
  intro B σ H G en x y dx dy d Q S hx hy hg k
  unfold inD at hg
  split at hg
  · obtain ⟨c, rfl⟩ := ite_some hg
    rw [Bool.and_eq_true] at c
    exact .inl ⟨_, _, DR.dp S.sub hx, DR.dp S.sub hy, c.1, c.2, k _ _ _ S (Ex.refl G) (by simpa using DR.bl _)⟩
  · obtain ⟨c, rfl⟩ := ite_some hg
    rw [Bool.and_eq_true] at c
    exact .inr ⟨_, _, DR.dp S.sub hx, DR.dp S.sub hy, c.1, c.2, k _ _ _ S (Ex.refl G) (by simpa using DR.bl _)⟩
  · cases hg
theorem rd_notIn {K : PySem.W.Frag} : RD2 κ (fun x y H Q => rNotInD K x y H Q ∨ rInT K true x y H Q) (inD true) := by
  intro B σ H G en x y dx dy d Q S hx hy hg k
  unfold inD at hg
  split at hg
  · obtain ⟨c, rfl⟩ := ite_some hg
    rw [Bool.and_eq_true] at c
    exact .inl ⟨_, _, DR.dp S.sub hx, DR.dp S.sub hy, c.1, c.2, k _ _ _ S (Ex.refl G) (by simpa using DR.bl _)⟩
  · obtain ⟨c, rfl⟩ := ite_some hg
    rw [Bool.and_eq_true] at c
    exact .inr ⟨_, _, DR.dp S.sub hx, DR.dp S.sub hy, c.1, c.2, k _ _ _ S (Ex.refl G) (by simpa using DR.bl _)⟩
  · cases hg
theorem de_in (hu : X.A.units + 65 < cLine) (ha : DE X κ W a fa) (hb : DE X κ W b fb) (hm : behindInMarks .In b = false) : DE X κ W (.Compare a [.In] [b] pos) (f2 (inD false) fa fb) := de_f2 (pe_cmpR (OpR.or (op_inD hu) (op_inT hu)) ha.pe hb.pe hm) rd_in
theorem de_notIn (hu : X.A.units + 65 < cLine) (ha : DE X κ W a fa) (hb : DE X κ W b fb) (hm : behindInMarks .NotIn b = false) : DE X κ W (.Compare a [.NotIn] [b] pos) (f2 (inD true) fa fb) := de_f2 (pe_cmpR (OpR.or (op_notInD hu) (op_notInT hu)) ha.pe hb.pe hm) rd_notIn
/-! ### a < b < c -/
def fCh (g g' : Dt → Dt → Option Dt) (fa fb fc : En → R Dt) : En → R Dt := fun e => (fa e).bind fun a e1 => (fb e1).bind fun b e2 => match g a b with
  | some (.bool true) => (fc e2).bind fun c e3 => ret1 (g' b c) e3
  | some (.bool false) => .ok (.bool false) e2
  | _ => .bad
theorem de_chain {op op' : CmpOp} {r r' : R2} {g g' : Dt → Dt → Option Dt} (ho : OpR X (compareOp op) r) (ho' : OpR X (compareOp op') r') (hg : RD2 κ r g) (hg' : RD2 κ r' g') (ha : DE X κ W a fa) (hb : DE X κ W b fb) (hc : DE X κ W c fc)
    (hm : lastMarks [op, op'] [b, c] = false) : DE X κ W (.Compare a [op, op'] [b, c] pos) (fCh g g' fa fb fc) := by
  refine ⟨PE.imp (pe_chain ho ho' ha.pe hb.pe hc.pe hm) fun σ H Q q => ?_⟩
  obtain ⟨B, G, en, S, q⟩ := q
  refine ⟨B, G, en, S, q.of_bind.mono fun a H1 G1 e1 S1 x1 q1 => fun v hv => ⟨B, G1, e1, S1, q1.of_bind.mono fun b H2 G2 e2 S2 x2 q2 => fun w hw => ?_⟩⟩
  split at q2
  · rename_i hb
    refine hg B σ H2 G2 e2 v w a b _ _ S2 (DR.ex x2 hv) hw hb fun u H3 G3 S3 x3 hu => ?_
    cases hu
    refine ⟨true, rfl, ?_⟩
    rw [if_pos rfl]
    refine ⟨B, G3, e2, S3, (q2.of_bind.base x3).mono fun c H4 G4 e4 S4 x4 q4 => fun z hz => ?_⟩
    obtain ⟨d, e5, k⟩ := wp_ret1 q4 S4
    exact hg' B σ H4 G4 e4 w z b c d Q S4 (DR.ex (x3.trans x4) hw) hz e5 k
  · rename_i hb
    refine hg B σ H2 G2 e2 v w a b _ _ S2 (DR.ex x2 hv) hw hb fun u H3 G3 S3 x3 hu => ?_
    cases hu
    refine ⟨false, rfl, ?_⟩
    rw [if_neg Bool.false_ne_true]
    exact q2 H3 G3 S3 x3 _ (.bl false)
  · exact q2.elim
theorem de_leLe (ha : DE X κ W a fa) (hb : DE X κ W b fb) (hc : DE X κ W c fc) (hm : lastMarks [.LtE, .LtE] [b, c] = false := by with_unfolding_all rfl) : DE X κ W (.Compare a [.LtE, .LtE] [b, c] pos) (fCh leD leD fa fb fc) := de_chain op_le op_le rd_cmp rd_cmp ha hb hc hm
end
end DL
namespace DL
open PySem L2
section
variable {X : Cx} {κ : Kd} {W : WX} {e a b c : Expr} {fa fb fc : En → R Dt} {pos : Pos}
/-! ### and, or, not as values -/
def fAnd (fa fb : En → R Dt) : En → R Dt := fun e => (fa e).bind fun a e1 => match a with
  | .bool true => fb e1
  | .bool false => .ok (.bool false) e1
  | _ => .bad
def fOr (fa fb : En → R Dt) : En → R Dt := fun e => (fa e).bind fun a e1 => match a with
  | .bool true => .ok (.bool true) e1
  | .bool false => fb e1
  | _ => .bad
def notD : Dt → Option Dt
  | .bool b => some (.bool (!b))
  | _ => none
theorem de_one {op} (h : DE X κ W a fa) : DE X κ W (.BoolOp op [a] pos) fa := ⟨pe_one h.pe⟩
theorem de_and {rest : List Expr} (ha : DE X κ W a fa) (hb : DE X κ W (.BoolOp .And (b :: rest) pos) fb) : DE X κ W (.BoolOp .And (a :: b :: rest) pos) (fAnd fa fb) := by
  refine ⟨PE.imp (pe_and ha.pe hb.pe) fun σ H Q q => ?_⟩
  obtain ⟨B, G, en, S, q⟩ := q
  refine ⟨B, G, en, S, q.of_bind.mono fun a H1 G1 e1 S1 x1 q1 => fun v hv => ?_⟩
  split at q1
  · cases hv
    refine ⟨true, rfl, ?_⟩
    rw [if_pos rfl]
    exact ⟨B, G1, e1, S1, q1⟩
  · cases hv
    refine ⟨false, rfl, ?_⟩
    rw [if_neg Bool.false_ne_true]
    exact q1 H1 G1 S1 (Ex.refl G1) _ (.bl false)
  · exact q1.elim
theorem de_or {rest : List Expr} (ha : DE X κ W a fa) (hb : DE X κ W (.BoolOp .Or (b :: rest) pos) fb) : DE X κ W (.BoolOp .Or (a :: b :: rest) pos) (fOr fa fb) := by
  refine ⟨PE.imp (pe_or ha.pe hb.pe) fun σ H Q q => ?_⟩
  obtain ⟨B, G, en, S, q⟩ := q
  refine ⟨B, G, en, S, q.of_bind.mono fun a H1 G1 e1 S1 x1 q1 => fun v hv => ?_⟩
  split at q1
  · cases hv
    refine ⟨true, rfl, ?_⟩
    rw [if_pos rfl]
    exact q1 H1 G1 S1 (Ex.refl G1) _ (.bl true)
  · cases hv
    refine ⟨false, rfl, ?_⟩
    rw [if_neg Bool.false_ne_true]
    exact ⟨B, G1, e1, S1, q1⟩
  · exact q1.elim
theorem de_not (ha : DE X κ W a fa) : DE X κ W (.UnaryOp .Not a pos) (f1 notD fa) := by
  refine ⟨PE.imp (pe_not ha.pe) fun σ H Q q => ?_⟩
  obtain ⟨B, G, en, S, q⟩ := q
  refine ⟨B, G, en, S, q.of_bind.mono fun a H1 G1 e1 S1 x1 q1 => fun v hv => ?_⟩
  obtain ⟨d, e2, k⟩ := wp_ret1 q1 S1
  unfold notD at e2
  split at e2
  · cases hv; cases e2
    exact ⟨_, rfl, k _ _ _ S1 (Ex.refl G1) (.bl _)⟩
  · cases e2
/-! ### tests -/
def asB : Dt → En → R Bool
  | .bool b, e => .ok b e
  | _, _ => .bad
def fB (f : En → R Dt) : En → R Bool := fun e => (f e).bind asB
theorem wp_fB {σ : L2.St} {H G : Hp} {en : En} {d : Dt} {Q : Bool → Hp → Prop} {v : V} (hv : DR G v d) (S : SR κ B σ H G en) (h : wpR X κ B W σ G (asB d en) (kT Q)) : ∃ k, v = .bl k ∧ Q k H := by
  cases hv with
  | bl b => exact ⟨b, rfl, h H G S (Ex.refl G)⟩
  | _ => exact h.elim
theorem dt_of {t : TE} (h : PT X e (tTest t)) (k : ∀ σ H Q, tD X κ W fa σ H Q → t σ H Q) : DT X κ W e (fB fa) := by
  refine ⟨PT.imp h fun σ H Q q => ?_⟩
  obtain ⟨B, G, en, S, q⟩ := q
  refine k σ H _ ⟨B, G, en, S, q.of_bind.mono fun d H1 G1 e1 S1 x1 q1 => fun v hv => ?_⟩
  exact wp_fB hv S1 q1
theorem dt_val (ha : DE X κ W a fa) (he : ∀ whole, isTrue a X.env whole = (do let v ← whole; standAt a.pos; holding [v] (truthy v)) := by intro _; rfl) : DT X κ W a (fB fa) := by
  refine ⟨PT.imp (pt_val ha.pe he) fun σ H Q q => ?_⟩
  obtain ⟨B, G, en, S, q⟩ := q
  refine ⟨B, G, en, S, q.of_bind.mono fun d H1 G1 e1 S1 x1 q1 => fun v hv => ?_⟩
  exact wp_fB hv S1 q1
theorem tOp_of {r : R2} {g : Dt → Dt → Option Dt} (hg : RD2 κ r g) : ∀ σ H Q, tD X κ W (f2 g fa fb) σ H Q → tOp r (tD X κ W fa) (tD X κ W fb) σ H Q := by
  intro σ H Q q
  obtain ⟨B, G, en, S, q⟩ := q
  refine ⟨B, G, en, S, q.of_bind.mono fun a H1 G1 e1 S1 x1 q1 => fun v hv => ⟨B, G1, e1, S1, q1.of_bind.mono fun b H2 G2 e2 S2 x2 q2 => fun w hw => ?_⟩⟩
  obtain ⟨d, e3, k⟩ := wp_ret1 q2 S2
  exact hg B σ H2 G2 e2 v w a b d Q S2 (DR.ex x2 hv) hw e3 k
theorem dt_cmp {op : CmpOp} {r : R2} {g : Dt → Dt → Option Dt} (ho : OpR X (compareOp op) r) (hg : RD2 κ r g) (ha : DE X κ W a fa) (hb : DE X κ W b fb) (hm : behindInMarks op b = false) : DT X κ W (.Compare a [op] [b] pos) (fB (f2 g fa fb)) :=
  dt_of (pt_cmpR ho ha.pe hb.pe hm) (tOp_of hg)
theorem dt_lt (ha : DE X κ W a fa) (hb : DE X κ W b fb) : DT X κ W (.Compare a [.Lt] [b] pos) (fB (f2 ltD fa fb)) := dt_cmp op_lt rd_cmp ha hb (nobehind _ (by decide) (by decide))
theorem dt_le (ha : DE X κ W a fa) (hb : DE X κ W b fb) : DT X κ W (.Compare a [.LtE] [b] pos) (fB (f2 leD fa fb)) := dt_cmp op_le rd_cmp ha hb (nobehind _ (by decide) (by decide))
theorem dt_gt (ha : DE X κ W a fa) (hb : DE X κ W b fb) : DT X κ W (.Compare a [.Gt] [b] pos) (fB (f2 gtD fa fb)) := dt_cmp op_gt rd_cmp ha hb (nobehind _ (by decide) (by decide))
theorem dt_ge (ha : DE X κ W a fa) (hb : DE X κ W b fb) : DT X κ W (.Compare a [.GtE] [b] pos) (fB (f2 geD fa fb)) := dt_cmp op_ge rd_cmp ha hb (nobehind _ (by decide) (by decide))
theorem dt_eq (hu : X.A.units + 64 < cLine) (ha : DE X κ W a fa) (hb : DE X κ W b fb) : DT X κ W (.Compare a [.Eq] [b] pos) (fB (f2 eqD fa fb)) := dt_cmp (op_eqD hu) rd_eq ha hb (nobehind _ (by decide) (by decide))
theorem dt_ne (hu : X.A.units + 64 < cLine) (ha : DE X κ W a fa) (hb : DE X κ W b fb) : DT X κ W (.Compare a [.NotEq] [b] pos) (fB (f2 neD fa fb)) := dt_cmp (op_neD hu) rd_ne ha hb (nobehind _ (by decide) (by decide))
theorem dt_is (ha : DE X κ W a fa) (hb : DE X κ W b fb) : DT X κ W (.Compare a [.Is] [b] pos) (fB (f2 (isD false) fa fb)) := dt_cmp (OpR.or op_isN op_isBl) rd_is ha hb (nobehind _ (by decide) (by decide))
theorem dt_isNot (ha : DE X κ W a fa) (hb : DE X κ W b fb) : DT X κ W (.Compare a [.IsNot] [b] pos) (fB (f2 (isD true) fa fb)) := dt_cmp (OpR.or op_notN op_notBl) rd_not ha hb (nobehind _ (by decide) (by decide))
theorem dt_in (hu : X.A.units + 65 < cLine) (ha : DE X κ W a fa) (hb : DE X κ W b fb) (hm : behindInMarks .In b = false) : DT X κ W (.Compare a [.In] [b] pos) (fB (f2 (inD false) fa fb)) := dt_cmp (OpR.or (op_inD hu) (op_inT hu)) rd_in ha hb hm
theorem dt_notIn (hu : X.A.units + 65 < cLine) (ha : DE X κ W a fa) (hb : DE X κ W b fb) (hm : behindInMarks .NotIn b = false) : DT X κ W (.Compare a [.NotIn] [b] pos) (fB (f2 (inD true) fa fb)) := dt_cmp (OpR.or (op_notInD hu) (op_notInT hu)) rd_notIn ha hb hm
theorem dt_leLe (ha : DE X κ W a fa) (hb : DE X κ W b fb) (hc : DE X κ W c fc) (hm : lastMarks [.LtE, .LtE] [b, c] = false := by with_unfolding_all rfl) : DT X κ W (.Compare a [.LtE, .LtE] [b, c] pos) (fB (fCh leD leD fa fb fc)) := by
  refine dt_of (pt_chain op_le op_le ha.pe hb.pe hc.pe hm) fun σ H Q q => ?_
  obtain ⟨B, G, en, S, q⟩ := q
  refine ⟨B, G, en, S, q.of_bind.mono fun a H1 G1 e1 S1 x1 q1 => fun v hv => ⟨B, G1, e1, S1, q1.of_bind.mono fun b H2 G2 e2 S2 x2 q2 => fun w hw => ?_⟩⟩
  split at q2
  · rename_i hb
    refine rd_cmp B σ H2 G2 e2 v w a b _ _ S2 (DR.ex x2 hv) hw hb fun u H3 G3 S3 x3 hu => ?_
    cases hu
    refine ⟨true, rfl, ?_⟩
    rw [if_pos rfl]
    refine ⟨B, G3, e2, S3, (q2.of_bind.base x3).mono fun c H4 G4 e4 S4 x4 q4 => fun z hz => ?_⟩
    obtain ⟨d, e5, k⟩ := wp_ret1 q4 S4
    exact rd_cmp B σ H4 G4 e4 w z b c d Q S4 (DR.ex (x3.trans x4) hw) hz e5 k
  · rename_i hb
    refine rd_cmp B σ H2 G2 e2 v w a b _ _ S2 (DR.ex x2 hv) hw hb fun u H3 G3 S3 x3 hu => ?_
    cases hu
    refine ⟨false, rfl, ?_⟩
    rw [if_neg Bool.false_ne_true]
    exact q2 H3 G3 S3 x3 _ (.bl false)
  · exact q2.elim
def gAnd (ft fu : En → R Bool) : En → R Bool := fun e => (ft e).bind fun c e1 => if c = true then fu e1 else .ok false e1
def gOr (ft fu : En → R Bool) : En → R Bool := fun e => (ft e).bind fun c e1 => if c = true then .ok true e1 else fu e1
def gNot (ft : En → R Bool) : En → R Bool := fun e => (ft e).bind fun c e1 => .ok (!c) e1
variable {ft fu : En → R Bool} {rest : List Expr}
theorem dw_and1 (h : DT X κ W a ft) : DW X κ W (.BoolOp .And [a] pos) ft := ⟨pw_and1 h.pt⟩
theorem dw_or1 (h : DT X κ W a ft) : DW X κ W (.BoolOp .Or [a] pos) ft := ⟨pw_or1 h.pt⟩
theorem dw_and (ha : DT X κ W a ft) (hb : DW X κ W (.BoolOp .And (b :: rest) pos) fu) : DW X κ W (.BoolOp .And (a :: b :: rest) pos) (gAnd ft fu) := by
  refine ⟨PW.imp (pw_and ha.pt hb.pw) fun σ H Q q => ?_⟩
  obtain ⟨B, G, en, S, q⟩ := q
  refine ⟨B, G, en, S, q.of_bind.mono fun c H1 G1 e1 S1 x1 q1 => ?_⟩
  cases c with
  | true => exact ⟨B, G1, e1, S1, q1⟩
  | false => exact q1 H1 G1 S1 (Ex.refl G1)
theorem dw_or (ha : DT X κ W a ft) (hb : DW X κ W (.BoolOp .Or (b :: rest) pos) fu) : DW X κ W (.BoolOp .Or (a :: b :: rest) pos) (gOr ft fu) := by
  refine ⟨PW.imp (pw_or ha.pt hb.pw) fun σ H Q q => ?_⟩
  obtain ⟨B, G, en, S, q⟩ := q
  refine ⟨B, G, en, S, q.of_bind.mono fun c H1 G1 e1 S1 x1 q1 => ?_⟩
  cases c with
  | false => exact ⟨B, G1, e1, S1, q1⟩
  | true => exact q1 H1 G1 S1 (Ex.refl G1)
theorem DW.dt (h : DW X κ W a ft) : DT X κ W a ft := ⟨h.pw.pt⟩
theorem dt_not (h : DT X κ W a ft) : DT X κ W (.UnaryOp .Not a pos) (gNot ft) := by
  refine ⟨PT.imp (pt_not h.pt) fun σ H Q q => ?_⟩
  obtain ⟨B, G, en, S, q⟩ := q
  exact ⟨B, G, en, S, q.of_bind.mono fun c H1 G1 e1 S1 x1 q1 => q1 H1 G1 S1 (Ex.refl G1)⟩
def fIf (ft : En → R Bool) (fa fb : En → R Dt) : En → R Dt := fun e => (ft e).bind fun c e1 => if c = true then fa e1 else fb e1
theorem de_ifExp (hc : DT X κ W c ft) (ha : DE X κ W a fa) (hb : DE X κ W b fb) : DE X κ W (.IfExp c a b pos) (fIf ft fa fb) := by
  refine ⟨PE.imp (pe_ifExp hc.pt ha.pe hb.pe) fun σ H Q q => ?_⟩
  obtain ⟨B, G, en, S, q⟩ := q
  refine ⟨B, G, en, S, q.of_bind.mono fun c H1 G1 e1 S1 x1 q1 => ?_⟩
  cases c with
  | true => exact ⟨B, G1, e1, S1, q1⟩
  | false => exact ⟨B, G1, e1, S1, q1⟩
/-! ### subscripts, slices -/
def ixD : Dt → Dt → Option Dt
  | .list xs, .int i => atI xs i
  | .tuple xs, .int i => atI xs i
  | .str s, .int i => if small s.length then (atI s.cps.toList i).map fun c => .str ⟨#[c]⟩ else none
  | _, _ => none
theorem ixN_len {n m : Nat} {i : Int} {j : Nat} (h : ixN n i = some j) (e : m = n) : ixN m i = some j := by rw [e]; exact h
theorem DRs.atI {G : Hp} {vs : List V} {ds : List Dt} {i : Int} {d : Dt} (h : DRs G vs ds) (e : L2.atI ds i = some d) : ∃ v, L2.atI vs i = some v ∧ DR G v d := by
  unfold L2.atI at e ⊢
  rw [DRs.length h]
  cases q : ixN ds.length i with
  | none => rw [q] at e; cases e
  | some j =>
    rw [q] at e
    exact DRs.get h e
theorem rd_ix {K : PySem.W.Frag} : RD2 κ (rIx K) ixD := by
  intro B σ H G en x y dx dy d Q S hx hy hg k
  unfold ixD at hg
  split at hg
  · cases hy
    cases hx with
    | lst h1 h2 =>
      obtain ⟨v, e1, e2⟩ := DRs.atI h2 hg
      exact .inl ⟨_, _, _, v, rfl, rfl, S.sql h1, e1, k _ _ _ S (Ex.refl G) e2⟩
  · cases hy
    cases hx with
    | tup h1 h2 =>
      obtain ⟨v, e1, e2⟩ := DRs.atI h2 hg
      exact .inr (.inl ⟨_, _, _, v, rfl, rfl, S.sqt h1, e1, k _ _ _ S (Ex.refl G) e2⟩)
  · cases hx; cases hy
    rename_i s i
    by_cases c : small s.length = true
    · rw [if_pos c] at hg
      cases q : L2.atI s.cps.toList i with
      | none => rw [q] at hg; cases hg
      | some ch =>
        rw [q] at hg
        cases hg
        exact .inr (.inr ⟨s, i, ch, rfl, rfl, small_line c, q, k _ _ _ S (Ex.refl G) (.str _)⟩)
    · rw [if_neg c] at hg; cases hg
  · cases hg
theorem de_ix (ha : DE X κ W a fa) (hb : DE X κ W b fb) (hs : PlainIx b) : DE X κ W (.Subscript a b pos) (f2 ixD fa fb) := de_f2 (pe_ix ix_seq ha.pe hb.pe hs) rd_ix
/-- reading an own list at a place, without giving it away -/
def fOwnIx (i : Nat) (fb : En → R Dt) : En → R Dt := fun e => (fb e).bind fun b e1 => match e1[i]?, b with
  | some (some (.own _ xs)), .int j => ret1 (atI xs j) e1
  | some (some (.dat d)), .int j => ret1 (ixD d (.int j)) e1
  | _, _ => .bad
end
end DL
namespace DL
open PySem L2
section
variable {X : Cx} {κ : Kd} {W : WX} {e a b c : Expr} {fa fb fc : En → R Dt} {pos : Pos}
/-! ### slices -/
structure DO (X : Cx) (κ : Kd) (W : WX) (e : Option Expr) (f : En → R (Option Int)) : Prop where
  po : PO X e (fun σ H Q => ∃ (B : Fr) (G : Hp) (en : En), SR κ B σ H G en ∧ wpR X κ B W σ G (f en) (fun o H' _ _ => Q o H'))
def fNo : En → R (Option Int) := fun e => .ok none e
def asI : Dt → En → R (Option Int)
  | .int i, e => .ok (some i) e
  | _, _ => .bad
def fPart (f : En → R Dt) : En → R (Option Int) := fun e => (f e).bind asI
theorem PO.imp {e : Option Expr} {t t' : TO} (h : PO X e t) (k : ∀ σ H Q, t' σ H Q → t σ H Q) : PO X e t' := ⟨fun pins s σ H Q I q => h.run pins s σ H Q I (k _ _ _ q)⟩
theorem do_none : DO X κ W none fNo := ⟨PO.imp po_none fun σ H Q q => by
  obtain ⟨B, G, en, S, q⟩ := q
  exact q H G S (Ex.refl G)⟩
theorem do_some (h : DE X κ W a fa) : DO X κ W (some a) (fPart fa) := ⟨PO.imp (po_some h.pe) fun σ H Q q => by
  obtain ⟨B, G, en, S, q⟩ := q
  refine ⟨B, G, en, S, q.of_bind.mono fun d H1 G1 e1 S1 x1 q1 => fun v hv => ?_⟩
  cases hv with
  | int i => exact ⟨i, rfl, q1 H1 G1 S1 (Ex.refl G1)⟩
  | _ => exact q1.elim⟩
def cutL {α : Type} (xs : List α) (lo hi : Option Int) : List α := (xs.drop (HT.sIx xs.length 0 lo)).take (HT.sIx xs.length xs.length hi - HT.sIx xs.length 0 lo)
def sliceD : Dt → Option Int → Option Int → Option Dt
  | .list xs, lo, hi => some (.list (cutL xs lo hi))
  | .tuple xs, lo, hi => some (.tuple (cutL xs lo hi))
  | .str s, lo, hi => if small s.length then some (.str (cutS s lo hi)) else none
  | _, _, _ => none
def fSl (fa : En → R Dt) (fl fh : En → R (Option Int)) : En → R Dt := fun e => (fa e).bind fun a e1 => (fl e1).bind fun l e2 => (fh e2).bind fun h e3 => ret1 (sliceD a l h) e3
theorem DRs.cut {G : Hp} {vs : List V} {ds : List Dt} (h : DRs G vs ds) (lo hi : Option Int) : DRs G (cutV vs lo hi) (cutL ds lo hi) := by
  unfold cutV cutL
  rw [DRs.length h]
  exact DRs.take _ (DRs.drop _ h)
theorem cut_whole {α : Type} {xs : List α} {lo hi : Option Int} (h : HT.sIx xs.length 0 lo = 0 ∧ HT.sIx xs.length xs.length hi = xs.length) : cutL xs lo hi = xs := by
  unfold cutL
  rw [h.1, h.2]
  simp
theorem de_slice {lo hi : Option Expr} {fl fh : En → R (Option Int)} {p2 : Pos} (ha : DE X κ W a fa) (hl : DO X κ W lo fl) (hh : DO X κ W hi fh) : DE X κ W (.Subscript a (.Slice lo hi none p2) pos) (fSl fa fl fh) := by
  refine ⟨PE.imp (pe_slice (SlR.or sl_list (SlR.or sl_tupA sl_str)) ha.pe hl.po hh.po) fun σ H Q q => ?_⟩
  obtain ⟨B, G, en, S, q⟩ := q
  refine ⟨B, G, en, S, q.of_bind.mono fun a H1 G1 e1 S1 x1 q1 => fun v hv => ⟨B, G1, e1, S1, q1.of_bind.mono fun l H2 G2 e2 S2 x2 q2 => ⟨B, G2, e2, S2, q2.of_bind.mono fun u H3 G3 e3 S3 x3 q3 => ?_⟩⟩⟩
  have hv := DR.ex (x2.trans x3) hv
  obtain ⟨d, hg, k⟩ := wp_ret1 q3 S3
  unfold sliceD at hg
  split at hg
  · cases hg
    cases hv with
    | lst h1 h2 => exact .inl ⟨_, _, rfl, S3.sql h1, fun p hp => S3.newL (DRs.cut h2 _ _) k p hp⟩
  · cases hg
    cases hv with
    | tup h1 h2 =>
      refine .inr (.inl ⟨_, _, rfl, S3.sqt h1, fun z => ?_, fun _ p hp => S3.newT (DRs.cut h2 _ _) k p hp⟩)
      rw [DRs.length h2] at z
      rw [cut_whole z] at k
      exact k _ _ _ S3 (Ex.refl G3) (.tup h1 h2)
  · obtain ⟨c, rfl⟩ := ite_some hg
    cases hv
    exact .inr (.inr ⟨_, rfl, small_line c, k _ _ _ S3 (Ex.refl G3) (.str _)⟩)
  · cases hg
/-! ### built-ins -/
theorem de_blt {x : Str} {p : Pos} {id : String} {es : List Expr} {r : List V → Hp → VK → Prop} {g : List Dt → Option Dt} {fs : En → R (List Dt)} (hc : CallR X (.builtin id) r) (hr : RDA κ r g) (hg : Gl X x) (hm : X.mg x = none) (hv : bootBuiltins x = some (.builtin id)) (ha : DA X κ W (e :: es) fs)
    (hn : x ≠ "__name__" := by decide) (hdb : (x == ("__debug__" : Str)) = false := by decide) (he : starEach (e :: es) X.env = (false, eval e X.env) :: starEach es X.env := by rfl) (hpl : (backTo pos (starEach es X.env)).any (·.1) = false := by rfl) :
    DE X κ W (.Call (.Name x p) (e :: es) [] pos) (fA g fs) := de_fA (pe_callB hc hg hm hv ha.pa hn hdb he hpl) hr
theorem de_bltT {x : Str} {p : Pos} {T : String} {es : List Expr} {r : List V → Hp → VK → Prop} {g : List Dt → Option Dt} {fs : En → R (List Dt)} (hc : CallR X (.type T) r) (hr : RDA κ r g) (hg : Gl X x) (hm : X.mg x = none) (hv : bootBuiltins x = some (.type T)) (ha : DA X κ W (e :: es) fs)
    (hn : x ≠ "__name__" := by decide) (hdb : (x == ("__debug__" : Str)) = false := by decide) (he : starEach (e :: es) X.env = (false, eval e X.env) :: starEach es X.env := by rfl) (hpl : (backTo pos (starEach es X.env)).any (·.1) = false := by rfl) :
    DE X κ W (.Call (.Name x p) (e :: es) [] pos) (fA g fs) := de_fA (pe_callTy hc hg hm hv ha.pa hn hdb he hpl) hr
def lenD : List Dt → Option Dt
  | [.list xs] => some (.int xs.length)
  | [.tuple xs] => some (.int xs.length)
  | [.str s] => if small s.length then some (.int s.length) else none
  | _ => none
theorem rd_len {K : PySem.W.Frag} : RDA κ (fun xs H Q => ∃ x n, xs = [x] ∧ LenV K x H n ∧ Q (.int n) H) lenD := by
  intro B σ H G en xs dxs d Q S hx hg k
  unfold lenD at hg
  split at hg
  · cases hg
    cases hx with
    | cons h1 h2 =>
      cases h2
      cases h1 with
      | lst h1 h2 => exact ⟨_, _, rfl, .inl ⟨_, S.sql h1, (DRs.length h2).symm⟩, k _ _ _ S (Ex.refl G) (.int _)⟩
  · cases hg
    cases hx with
    | cons h1 h2 =>
      cases h2
      cases h1 with
      | tup h1 h2 => exact ⟨_, _, rfl, .inr ⟨_, S.sqt h1, (DRs.length h2).symm⟩, k _ _ _ S (Ex.refl G) (.int _)⟩
  · obtain ⟨c, rfl⟩ := ite_some hg
    cases hx with
    | cons h1 h2 =>
      cases h2
      cases h1
      exact ⟨_, _, rfl, ⟨small_line c, rfl⟩, k _ _ _ S (Ex.refl G) (.int _)⟩
  · cases hg
def absD : List Dt → Option Dt
  | [.int i] => some (.int (if i < 0 then -i else i))
  | _ => none
theorem rd_abs : RDA κ (fun xs H Q => ∃ i, xs = [.int i] ∧ Q (.int (if i < 0 then -i else i)) H) absD := by
  intro B σ H G en xs dxs d Q S hx hg k
  unfold absD at hg
  split at hg
  · cases hg
    cases hx with
    | cons h1 h2 =>
      cases h2; cases h1
      exact ⟨_, rfl, k _ _ _ S (Ex.refl G) (.int _)⟩
  · cases hg
def intD : List Dt → Option Dt
  | [.int i] => some (.int i)
  | [.bool b] => some (.int (if b then 1 else 0))
  | _ => none
theorem rd_int : RDA κ (fun xs H Q => (∃ i, xs = [.int i] ∧ Q (.int i) H) ∨ ∃ k, xs = [.bl k] ∧ Q (.int (if k then 1 else 0)) H) intD := by
  intro B σ H G en xs dxs d Q S hx hg k
  unfold intD at hg
  split at hg
  · cases hg
    cases hx with
    | cons h1 h2 =>
      cases h2; cases h1
      exact .inl ⟨_, rfl, k _ _ _ S (Ex.refl G) (.int _)⟩
  · cases hg
    cases hx with
    | cons h1 h2 =>
      cases h2; cases h1
      exact .inr ⟨_, rfl, k _ _ _ S (Ex.refl G) (.int _)⟩
  · cases hg
def ofInts : List Dt → Option (List Int)
  | [] => some []
  | .int i :: r => (ofInts r).map (i :: ·)
  | _ => none
theorem ofInts_dr {G : Hp} : ∀ {ds : List Dt} {vs : List V} {ns : List Int}, DRs G vs ds → ofInts ds = some ns → vs = ns.map V.int ∧ ns.length = ds.length
  | [], _, _, h, e => by cases h; cases e; exact ⟨rfl, rfl⟩
  | d :: ds, _, ns, h, e => by
    cases h with
    | cons h1 h2 =>
      cases h1 with
      | int i =>
        have e' : (ofInts ds).map (i :: ·) = some ns := e
        cases q : ofInts ds with
        | none => rw [q] at e'; cases e'
        | some ms =>
          rw [q] at e'
          cases e'
          obtain ⟨e1, e2⟩ := ofInts_dr h2 q
          subst e1
          exact ⟨rfl, by simp [e2]⟩
      | _ => cases e
def maxI : Int → List Int → Int
  | m, [] => m
  | m, x :: r => maxI (if x > m then x else m) r
def minI : Int → List Int → Int
  | m, [] => m
  | m, x :: r => minI (if x < m then x else m) r
theorem maxI_ge : ∀ (r : List Int) (m : Int), m ≤ maxI m r ∧ (∀ y ∈ r, y ≤ maxI m r) ∧ (maxI m r = m ∨ maxI m r ∈ r)
  | [], m => ⟨Int.le_refl _, fun _ h => by simp at h, .inl rfl⟩
  | x :: r, m => by
    show m ≤ maxI (if x > m then x else m) r ∧ (∀ y ∈ x :: r, y ≤ maxI (if x > m then x else m) r) ∧ (maxI (if x > m then x else m) r = m ∨ maxI (if x > m then x else m) r ∈ x :: r)
    have hc : m ≤ (if x > m then x else m) ∧ x ≤ (if x > m then x else m) ∧ ((if x > m then x else m) = m ∨ (if x > m then x else m) = x) := by split <;> omega
    generalize (if x > m then x else m) = t at hc
    obtain ⟨c1, c2, c3⟩ := hc
    obtain ⟨h1, h2, h3⟩ := maxI_ge r t
    refine ⟨by omega, fun y hy => ?_, ?_⟩
    · rcases List.mem_cons.mp hy with rfl | hy
      · omega
      · exact h2 y hy
    · rcases h3 with h3 | h3
      · rw [h3]
        rcases c3 with c3 | c3
        · exact .inl c3
        · rw [c3]; exact .inr List.mem_cons_self
      · exact .inr (List.mem_cons_of_mem _ h3)
theorem minI_le : ∀ (r : List Int) (m : Int), minI m r ≤ m ∧ (∀ y ∈ r, minI m r ≤ y) ∧ (minI m r = m ∨ minI m r ∈ r)
  | [], m => ⟨Int.le_refl _, fun _ h => by simp at h, .inl rfl⟩
  | x :: r, m => by
    show minI (if x < m then x else m) r ≤ m ∧ (∀ y ∈ x :: r, minI (if x < m then x else m) r ≤ y) ∧ (minI (if x < m then x else m) r = m ∨ minI (if x < m then x else m) r ∈ x :: r)
    have hc : (if x < m then x else m) ≤ m ∧ (if x < m then x else m) ≤ x ∧ ((if x < m then x else m) = m ∨ (if x < m then x else m) = x) := by split <;> omega
    generalize (if x < m then x else m) = t at hc
    obtain ⟨c1, c2, c3⟩ := hc
    obtain ⟨h1, h2, h3⟩ := minI_le r t
    refine ⟨by omega, fun y hy => ?_, ?_⟩
    · rcases List.mem_cons.mp hy with rfl | hy
      · omega
      · exact h2 y hy
    · rcases h3 with h3 | h3
      · rw [h3]
        rcases c3 with c3 | c3
        · exact .inl c3
        · rw [c3]; exact .inr List.mem_cons_self
      · exact .inr (List.mem_cons_of_mem _ h3)
/-- max, min of two ints, of a list of ints -/
def maxD : List Dt → Option Dt
  | [.int i, .int j] => some (.int (if j > i then j else i))
  | [.list ds] => match ofInts ds with
    | some (n :: ns) => some (.int (maxI n ns))
    | _ => none
  | _ => none
def minD : List Dt → Option Dt
  | [.int i, .int j] => some (.int (if j < i then j else i))
  | [.list ds] => match ofInts ds with
    | some (n :: ns) => some (.int (minI n ns))
    | _ => none
  | _ => none
theorem CallR.or {f : Value} {r r' : List V → Hp → VK → Prop} (h : CallR X f r) (h' : CallR X f r') : CallR X f (fun xs H Q => r xs H Q ∨ r' xs H Q) := by
  intro pins s σ H xs us Q I rs q
  rcases q with q | q
  · exact h pins s σ H xs us Q I rs q
  · exact h' pins s σ H xs us Q I rs q
theorem rd_max {K : PySem.W.Frag} : RDA κ (fun xs H Q => (∃ i j, xs = [.int i, .int j] ∧ Q (.int (if j > i then j else i)) H) ∨ rMax K xs H Q) maxD := by
  intro B σ H G en xs dxs d Q S hx hg k
  unfold maxD at hg
  split at hg
  · cases hg
    cases hx with
    | cons h1 h2 =>
      cases h2 with
      | cons h3 h4 =>
        cases h4; cases h1; cases h3
        exact .inl ⟨_, _, rfl, k _ _ _ S (Ex.refl G) (.int _)⟩
  · cases hx with
    | cons h1 h2 =>
      cases h2
      cases h1 with
      | lst h1 h2 =>
        split at hg
        · rename_i n ns hi
          cases hg
          obtain ⟨e1, e2⟩ := ofInts_dr h2 hi
          subst e1
          refine .inr ⟨_, _, rfl, S.sql h1, by simp, fun m hm hle => ?_⟩
          obtain ⟨z1, z2, z3⟩ := maxI_ge ns n
          have em : m = maxI n ns := by
            apply Int.le_antisymm
            · rcases List.mem_cons.mp hm with rfl | hm
              · exact z1
              · exact z2 m hm
            · rcases z3 with z3 | z3
              · rw [z3]; exact hle n List.mem_cons_self
              · exact hle _ (List.mem_cons_of_mem _ z3)
          rw [em]
          exact k _ _ _ S (Ex.refl G) (.int _)
        · cases hg
  · cases hg
theorem rd_min {K : PySem.W.Frag} : RDA κ (fun xs H Q => (∃ i j, xs = [.int i, .int j] ∧ Q (.int (if j < i then j else i)) H) ∨ rMin K xs H Q) minD := by
  intro B σ H G en xs dxs d Q S hx hg k
  unfold minD at hg
  split at hg
  · cases hg
    cases hx with
    | cons h1 h2 =>
      cases h2 with
      | cons h3 h4 =>
        cases h4; cases h1; cases h3
        exact .inl ⟨_, _, rfl, k _ _ _ S (Ex.refl G) (.int _)⟩
  · cases hx with
    | cons h1 h2 =>
      cases h2
      cases h1 with
      | lst h1 h2 =>
        split at hg
        · rename_i n ns hi
          cases hg
          obtain ⟨e1, e2⟩ := ofInts_dr h2 hi
          subst e1
          refine .inr ⟨_, _, rfl, S.sql h1, by simp, fun m hm hle => ?_⟩
          obtain ⟨z1, z2, z3⟩ := minI_le ns n
          have em : m = minI n ns := by
            apply Int.le_antisymm
            · rcases z3 with z3 | z3
              · rw [z3]; exact hle n List.mem_cons_self
              · exact hle _ (List.mem_cons_of_mem _ z3)
            · rcases List.mem_cons.mp hm with rfl | hm
              · exact z1
              · exact z2 m hm
          rw [em]
          exact k _ _ _ S (Ex.refl G) (.int _)
        · cases hg
  · cases hg
/-- list(..), tuple(..) of a list or a tuple -/
def listD : List Dt → Option Dt
  | [.list xs] => some (.list xs)
  | [.tuple xs] => some (.list xs)
  | _ => none
def tupleD : List Dt → Option Dt
  | [.list xs] => some (.tuple xs)
  | [.tuple xs] => some (.tuple xs)
  | _ => none
theorem rd_list {K : PySem.W.Frag} : RDA κ (fun xs H Q => ∃ p ys, xs = [.ref p] ∧ (SqL K H p ys ∨ SqT K H p ys) ∧ ∀ l, H l = none → Q (.ref l) (upd H l (.lst ys))) listD := by
  intro B σ H G en xs dxs d Q S hx hg k
  unfold listD at hg
  split at hg
  · cases hg
    cases hx with
    | cons h1 h2 =>
      cases h2
      cases h1 with
      | lst h1 h2 => exact ⟨_, _, rfl, .inl (S.sql h1), fun p hp => S.newL h2 k p hp⟩
  · cases hg
    cases hx with
    | cons h1 h2 =>
      cases h2
      cases h1 with
      | tup h1 h2 => exact ⟨_, _, rfl, .inr (S.sqt h1), fun p hp => S.newL h2 k p hp⟩
  · cases hg
theorem rd_tuple {K : PySem.W.Frag} : RDA κ (fun xs H Q => ∃ p ys, xs = [.ref p] ∧ ((SqL K H p ys ∧ ∀ l, H l = none → Q (.ref l) (upd H l (.tup ys))) ∨ (SqT K H p ys ∧ Q (.ref p) H))) tupleD := by
  intro B σ H G en xs dxs d Q S hx hg k
  unfold tupleD at hg
  split at hg
  · cases hg
    cases hx with
    | cons h1 h2 =>
      cases h2
      cases h1 with
      | lst h1 h2 => exact ⟨_, _, rfl, .inl ⟨S.sql h1, fun p hp => S.newT h2 k p hp⟩⟩
  · cases hg
    cases hx with
    | cons h1 h2 =>
      cases h2
      cases h1 with
      | tup h1 h2 => exact ⟨_, _, rfl, .inr ⟨S.sqt h1, k _ _ _ S (Ex.refl G) (.tup h1 h2)⟩⟩
  · cases hg
def sumD : List Dt → Option Dt
  | [.list xs] => (ofInts xs).map fun ns => .int ns.sum
  | _ => none
theorem rd_sum {K : PySem.W.Frag} : RDA κ (rSum K) sumD := by
  intro B σ H G en xs dxs d Q S hx hg k
  unfold sumD at hg
  split at hg
  · rename_i ys
    cases q : ofInts ys with
    | none => rw [q] at hg; cases hg
    | some ns =>
      rw [q] at hg
      cases hg
      cases hx with
      | cons h1 h2 =>
        cases h2
        cases h1 with
        | lst h1 h2 =>
          obtain ⟨e1, e2⟩ := ofInts_dr h2 q
          subst e1
          exact ⟨_, _, rfl, S.sql h1, k _ _ _ S (Ex.refl G) (.int _)⟩
  · cases hg
/-- str of an int -/
def strD : List Dt → Option Dt
  | [.int i] => if decide (i.natAbs.log2 < 1920) then some (.str (toString i)) else none
  | _ => none
theorem rd_str : RDA κ (fun xs H Q => ∃ i, xs = [.int i] ∧ i.natAbs.log2 < 1920 ∧ Q (.str (toString i)) H) strD := by
  intro B σ H G en xs dxs d Q S hx hg k
  unfold strD at hg
  split at hg
  · obtain ⟨c, rfl⟩ := ite_some hg
    cases hx with
    | cons h1 h2 =>
      cases h2; cases h1
      exact ⟨_, rfl, of_decide_eq_true c, k _ _ _ S (Ex.refl G) (.str _)⟩
  · cases hg
/-! ### isinstance(x, T) -/
def tyD : Dt → String
  | .none => "NoneType"
  | .bool _ => "bool"
  | .int _ => "int"
  | .str _ => "str"
  | .list _ => "list"
  | .tuple _ => "tuple"
  | .dict _ => "dict"
def isTy (T : String) (d : Dt) : Bool := match T, d with
  | "int", .int _ => true
  | "int", .bool _ => true
  | "bool", .bool _ => true
  | "str", .str _ => true
  | "list", .list _ => true
  | "tuple", .tuple _ => true
  | _, _ => false
theorem dr_ty {K : PySem.W.Frag} {σ : L2.St} {H G : Hp} {en : En} (S : SR κ B σ H G en) {v : V} {d : Dt} (h : DR G v d) : TyX K H v (.type (tyD d)) := by
  cases h with
  | non => exact .base .non
  | bl b => exact .base (.bl b)
  | int i => exact .base (.int i)
  | str s => exact .base (.str s)
  | lst h1 h2 => exact .base (.lst (S.lst h1))
  | tup h1 h2 => exact .base (.tup (S.sub _ _ h1).1)
def isiD (T : String) (d : Dt) : Option Dt := (kitB (tyD d) T).map .bool
theorem de_isi {T : String} {p p1 : Pos} {x : Str} (hg : Gl X "isinstance") (hm : X.mg "isinstance" = none) (hgT : Gl X x) (hmT : X.mg x = none) (hv : bootBuiltins x = some (.type T)) (ha : DE X κ W a fa) (hn : x ≠ "__name__" := by decide) (hdb : (x == ("__debug__" : Str)) = false := by decide)
    (hs : starEach [.Name x p1] X.env = [(false, eval (.Name x p1) X.env)] := by rfl) (he : starEach (a :: [.Name x p1]) X.env = (false, eval a X.env) :: starEach [.Name x p1] X.env := by rfl) (hpl : (backTo pos (starEach [.Name x p1] X.env)).any (·.1) = false := by rfl) :
    DE X κ W (.Call (.Name "isinstance" p) [a, .Name x p1] [] pos) (f1 (isiD T) fa) := by
  refine ⟨PE.imp (pe_callB call_isi hg hm (by decide +kernel) (pa_cons ha.pe (pa_cons (pe_bltn (v := .ty T) hgT hmT hv rfl hn hdb) pa_nil hs) he) (by decide) (by decide) he hpl) fun σ H Q q => ?_⟩
  obtain ⟨B, G, en, S, q⟩ := q
  refine ⟨B, G, en, S, q.of_bind.mono fun a H1 G1 e1 S1 x1 q1 => fun v hv => ?_⟩
  obtain ⟨d, e2, k⟩ := wp_ret1 q1 S1
  unfold isiD at e2
  cases z : kitB (tyD a) T with
  | none => rw [z] at e2; cases e2
  | some r =>
    rw [z] at e2
    cases e2
    exact ⟨v, _, .type (tyD a), .type T, r, rfl, .ty T, dr_ty S1 hv, kit_ty z, k _ _ _ S1 (Ex.refl G1) (.bl _)⟩
end
end DL
namespace DL
open PySem L2
def wpS (X : Cx) (κ : Kd) (B : Fr) (W : WX) (G : Hp) (r : SO) (D : Ends) : Prop := match r with
  | .nx e' => ∀ σ' H' G', SR κ B σ' H' G' e' → Ex G G' → D.nx σ' H'
  | .bk e' => ∀ σ' H' G', SR κ B σ' H' G' e' → Ex G G' → D.bk σ' H'
  | .ct e' => ∀ σ' H' G', SR κ B σ' H' G' e' → Ex G G' → D.ct σ' H'
  | .rt d e' => ∀ v σ' H' G', SR κ B σ' H' G' e' → Ex G G' → DR G' v d → D.rt v H'
  | .exc c e' => ∀ σ' H' G' C, X.mg c = some (.ref C) → SR κ B σ' H' G' e' → Ex G G' → W (.ref C) none σ' H'
  | .bad => False
def tDS (X : Cx) (κ : Kd) (W : WX) (f : En → SO) : TS := fun D σ H => ∃ (B : Fr) (G : Hp) (e : En), SR κ B σ H G e ∧ wpS X κ B W G (f e) D
structure DS (X : Cx) (κ : Kd) (W : WX) (st : Stmt) (f : En → SO) : Prop where
  ps : PS X st (tDS X κ W f)
structure DSs (X : Cx) (κ : Kd) (W : WX) (st : List Stmt) (f : En → SO) : Prop where
  pss : PSs X st (tDS X κ W f)
section
variable {X : Cx} {κ : Kd} {W : WX} {σ : L2.St} {H G G1 : Hp} {α : Type}
theorem wpS.base {r : SO} {D : Ends} (h : wpS X κ B W G r D) (x : Ex G G1) : wpS X κ B W G1 r D := by
  cases r with
  | nx e => exact fun σ' H' G' s y => h σ' H' G' s (x.trans y)
  | bk e => exact fun σ' H' G' s y => h σ' H' G' s (x.trans y)
  | ct e => exact fun σ' H' G' s y => h σ' H' G' s (x.trans y)
  | rt d e => exact fun v σ' H' G' s y => h v σ' H' G' s (x.trans y)
  | exc c e => exact fun σ' H' G' C m s y => h σ' H' G' C m s (x.trans y)
  | bad => exact h
/-- an expression's outcome goes on into a statement's -/
def RS {α : Type} (r : R α) (f : α → En → SO) : SO := match r with
  | .ok a e => f a e
  | .exc c e => .exc c e
  | .bad => .bad
/-- σ stays while an expression is read -/
theorem wpR.of_RS {r : R α} {f : α → En → SO} {D : Ends} (h : wpS X κ B W G (RS r f) D) : wpR X κ B W σ G r (fun a _ G1 e1 => wpS X κ B W G1 (f a e1) D) := by
  cases r with
  | ok a e => exact fun H' G' s y => wpS.base h y
  | exc c e => exact fun H' G' C m s y => h σ H' G' C m s y
  | bad => exact h
end
/-! ### targets -/
structure DG (X : Cx) (κ : Kd) (tg : Expr) (g : Dt → En → Option En) : Prop where
  pg : PG X tg (fun v σ H Q => ∃ (B : Fr) (G : Hp) (e : En) (d : Dt) (e' : En), SR κ B σ H G e ∧ DR G v d ∧ g d e = some e' ∧ ∀ σ' H' G', SR κ B σ' H' G' e' → Ex G G' → Q σ' H')
structure DGs (X : Cx) (κ : Kd) (ts : List Expr) (g : List Dt → En → Option En) : Prop where
  pgs : PGs X ts (fun vs σ H Q => ∃ (B : Fr) (G : Hp) (e : En) (ds : List Dt) (e' : En), SR κ B σ H G e ∧ DRs G vs ds ∧ g ds e = some e' ∧ ∀ σ' H' G', SR κ B σ' H' G' e' → Ex G G' → Q σ' H')
def gN (i : Nat) : Dt → En → Option En := fun d e => some (e.set i (some (.dat d)))
def gT (n : Nat) (g : List Dt → En → Option En) : Dt → En → Option En
  | .tuple ds, e => if ds.length = n then g ds e else none
  | _, _ => none
def gsNil : List Dt → En → Option En := fun _ e => some e
def gsCons (g : Dt → En → Option En) (r : List Dt → En → Option En) : List Dt → En → Option En
  | d :: ds, e => match g d e with
    | some e1 => r ds e1
    | none => none
  | [], _ => none
theorem PG.imp {X : Cx} {tg : Expr} {t t' : TG} (h : PG X tg t) (k : ∀ v σ H Q, t' v σ H Q → t v σ H Q) : PG X tg t' := ⟨fun pins s σ H v u Q I r q => h.run pins s σ H v u Q I r (k _ _ _ _ q)⟩
theorem PGs.imp {X : Cx} {tg : List Expr} {t t' : TGs} (h : PGs X tg t) (k : ∀ v σ H Q, t' v σ H Q → t v σ H Q) : PGs X tg t' := ⟨fun pins s σ H v u Q I r q => h.run pins s σ H v u Q I r (k _ _ _ _ q)⟩
section
variable {X : Cx} {κ : Kd} {W : WX} {e a b c : Expr} {fa fb fc : En → R Dt} {pos : Pos} {st : Stmt} {rest : List Stmt} {f g : En → SO} {ft : En → R Bool}
theorem dg_name {x : Str} (i : Nat) (h : PG X (.Name x pos) (gName i)) : DG X κ (.Name x pos) (gN i) := ⟨PG.imp h fun v σ H Q q => by
  obtain ⟨B, G, en, d, e', S, hd, hg, k⟩ := q
  cases hg
  exact k _ _ _ (S.set hd) (Ex.refl G)⟩
theorem dgs_nil : DGs X κ [] gsNil := ⟨by
  refine ⟨fun pins s σ H vs us Q I r h => ?_⟩
  obtain ⟨B, G, en, ds, e', S, hd, hg, k⟩ := h
  cases hg
  show wpAny _ _ (assignInOrder [] us) _ _ _
  cases r with
  | nil => exact PyProof.Rows.assignInOrder_nil ⟨σ, H, I, k _ _ _ S (Ex.refl G)⟩
  | cons r1 r2 => exact PyProof.Rows.assignInOrder_nil ⟨σ, H, I, k _ _ _ S (Ex.refl G)⟩⟩
theorem dgs_cons {t : Expr} {ts : List Expr} {g : Dt → En → Option En} {r : List Dt → En → Option En} (h1 : DG X κ t g) (h2 : DGs X κ ts r)
    (hs : (assignEach (t :: ts) X.env).map (·.2) = assign t X.env :: (assignEach ts X.env).map (·.2) := by rfl) : DGs X κ (t :: ts) (gsCons g r) := ⟨by
  refine PGs.imp (pgs_cons h1.pg h2.pgs hs) fun vs σ H Q q => ?_
  obtain ⟨B, G, en, ds, e', S, hd, hg, k⟩ := q
  cases hd with
  | nil => cases hg
  | cons d1 d2 =>
    rename_i v vs d ds
    have hg : (match g d en with | some e1 => r ds e1 | none => none) = some e' := hg
    refine ⟨v, vs, rfl, ?_⟩
    cases q : g d en with
    | none => rw [q] at hg; cases hg
    | some e1 =>
      rw [q] at hg
      exact ⟨B, G, en, d, e1, S, d1, q, fun σ1 H1 G1 S1 x1 => ⟨B, G1, e1, ds, e', S1, DRs.ex x1 d2, hg, fun σ2 H2 G2 S2 x2 => k σ2 H2 G2 S2 (x1.trans x2)⟩⟩⟩
theorem dg_tup {ts : List Expr} {k : Nat} {g : List Dt → En → Option En} {n : Nat} (hc : X.calm = true) (h : DGs X κ ts g) (hn : (assignEach ts X.env).length = n := by rfl) (hst : (assignEach ts X.env).findIdx? (·.1) = none := by rfl) : DG X κ (.Tuple ts k pos) (gT n g) := ⟨by
  refine PG.imp (pg_tup hc h.pgs hn hst) fun v σ H Q q => ?_
  obtain ⟨B, G, en, d, e', S, hd, hg, k⟩ := q
  cases hd with
  | tup h1 h2 =>
    rename_i ds
    have hg : (if ds.length = n then g ds en else none) = some e' := hg
    by_cases hl : ds.length = n
    · rw [if_pos hl] at hg
      exact ⟨_, _, rfl, S.sqt h1, (DRs.length h2).trans hl, B, G, en, ds, e', S, h2, hg, k⟩
    · rw [if_neg hl] at hg; cases hg
  | _ => cases hg⟩
/-! ### statements -/
def sNx : En → SO := fun e => .nx e
def sSeq (f g : En → SO) : En → SO := fun e => match f e with
  | .nx e1 => g e1
  | o => o
def ofOpt (o : Option En) : SO := match o with
  | some e => .nx e
  | none => .bad
def sAsg (fa : En → R Dt) (g : Dt → En → Option En) : En → SO := fun e => RS (fa e) fun d e1 => ofOpt (g d e1)
def sRet (fa : En → R Dt) : En → SO := fun e => RS (fa e) fun d e1 => .rt d e1
def sExp (fa : En → R Dt) : En → SO := fun e => RS (fa e) fun _ e1 => .nx e1
def sIf (ft : En → R Bool) (f g : En → SO) : En → SO := fun e => RS (ft e) fun c e1 => if c = true then f e1 else g e1
def sExc (c : Str) : En → SO := fun e => .exc c e
theorem dss_nil : DSs X κ W [] sNx := ⟨PSs.imp pss_nil fun D σ H q => by
  obtain ⟨B, G, en, S, q⟩ := q
  exact q σ H G S (Ex.refl G)⟩
theorem dss_cons (h1 : DS X κ W st f) (h2 : DSs X κ W rest g) : DSs X κ W (st :: rest) (sSeq f g) := ⟨PSs.imp (pss_cons h1.ps h2.pss) fun D σ H q => by
  obtain ⟨B, G, en, S, q⟩ := q
  refine ⟨B, G, en, S, ?_⟩
  unfold sSeq at q
  cases z : f en with
  | nx e1 =>
    rw [z] at q
    exact fun σ' H' G' S' x => ⟨B, G', e1, S', wpS.base q x⟩
  | _ => rw [z] at q; exact q⟩
theorem dss_one (h1 : DS X κ W st f) : DSs X κ W [st] f := ⟨pss_one h1.ps⟩
theorem ds_pass : DS X κ W (.Pass pos) sNx := ⟨PS.imp ps_pass fun D σ H q => by
  obtain ⟨B, G, en, S, q⟩ := q
  exact q σ H G S (Ex.refl G)⟩
theorem ds_doc {x : Str} {j : Nat} {p : Pos} : DS X κ W (.Expr (.Constant (.str x) j p) pos) sNx := ⟨PS.imp ps_doc fun D σ H q => by
  obtain ⟨B, G, en, S, q⟩ := q
  exact q σ H G S (Ex.refl G)⟩
theorem ds_ret (ha : DE X κ W a fa) : DS X κ W (.Return (some a) pos) (sRet fa) := ⟨PS.imp (ps_ret ha.pe) fun D σ H q => by
  obtain ⟨B, G, en, S, q⟩ := q
  exact ⟨B, G, en, S, (wpR.of_RS q).mono fun d H1 G1 e1 S1 x1 q1 v hv => q1 v σ H1 G1 S1 (Ex.refl G1) hv⟩⟩
theorem ds_exp (ha : DE X κ W a fa) (hs : swapsWith a none pos.line X.env = pure false := by rfl) : DS X κ W (.Expr a pos) (sExp fa) := ⟨PS.imp (ps_expr ha.pe hs) fun D σ H q => by
  obtain ⟨B, G, en, S, q⟩ := q
  exact ⟨B, G, en, S, (wpR.of_RS q).mono fun d H1 G1 e1 S1 x1 q1 v hv => q1 σ H1 G1 S1 (Ex.refl G1)⟩⟩
theorem ds_if {s1 s2 : List Stmt} (hc : DT X κ W c ft) (h1 : DSs X κ W s1 f) (h2 : DSs X κ W s2 g) : DS X κ W (.If c s1 s2 pos) (sIf ft f g) := ⟨PS.imp (ps_if hc.pt h1.pss h2.pss) fun D σ H q => by
  obtain ⟨B, G, en, S, q⟩ := q
  refine ⟨B, G, en, S, (wpR.of_RS q).mono fun c H1 G1 e1 S1 x1 q1 => ?_⟩
  cases c with
  | true => exact ⟨B, G1, e1, S1, q1⟩
  | false => exact ⟨B, G1, e1, S1, q1⟩⟩
theorem asg_imp {tgt : Dt → En → Option En} {D : Ends} {σ : L2.St} {H : Hp} (q : tDS X κ W (sAsg fa tgt) D σ H) :
    tD X κ W fa σ H fun v H1 => ∃ (B : Fr) (G : Hp) (e : En) (d : Dt) (e' : En), SR κ B σ H1 G e ∧ DR G v d ∧ tgt d e = some e' ∧ ∀ σ' H' G', SR κ B σ' H' G' e' → Ex G G' → D.nx σ' H' := by
  obtain ⟨B, G, en, S, q⟩ := q
  refine ⟨B, G, en, S, (wpR.of_RS q).mono fun d H1 G1 e1 S1 x1 q1 v hv => ?_⟩
  cases z : tgt d e1 with
  | none => rw [z] at q1; exact q1.elim
  | some e' =>
    rw [z] at q1
    exact ⟨B, G1, e1, d, e', S1, hv, z, q1⟩
theorem ds_asg {tg : Expr} {tgt : Dt → En → Option En} (ha : DE X κ W a fa) (hg : DG X κ tg tgt) (hs : swapsWithSole [tg] a pos.line X.env = pure false := by rfl) (hw : swappedStores [tg] a X.env = pure none := by rfl)
    (h1 : (assignEach [tg] X.env).map (·.2) = [assign tg X.env] := by rfl) : DS X κ W (.Assign [tg] a pos) (sAsg fa tgt) := ⟨PS.imp (ps_asg ha.pe hg.pg hs hw h1) fun D σ H q => asg_imp q⟩
theorem ds_set {x : Str} {p : Pos} (i : Nat) (h : ∀ {te : TE}, PE X a te → PS X (.Assign [.Name x p] a pos) (tAsg te (gName i))) (ha : DE X κ W a fa) : DS X κ W (.Assign [.Name x p] a pos) (sAsg fa (gN i)) := ⟨PS.imp (h ha.pe) fun D σ H q => by
  obtain ⟨B, G, en, S, q⟩ := q
  refine ⟨B, G, en, S, (wpR.of_RS q).mono fun d H1 G1 e1 S1 x1 q1 v hv => ?_⟩
  exact q1 _ H1 G1 (S1.set hv) (Ex.refl G1)⟩
def sPar2 (i j : Nat) (fs : En → R (List Dt)) : En → SO := fun e => RS (fs e) fun ds e1 => match ds with
  | [d1, d2] => .nx ((e1.set i (some (.dat d1))).set j (some (.dat d2)))
  | _ => .bad
def sPar3 (i j l : Nat) (fs : En → R (List Dt)) : En → SO := fun e => RS (fs e) fun ds e1 => match ds with
  | [d1, d2, d3] => .nx (((e1.set i (some (.dat d1))).set j (some (.dat d2))).set l (some (.dat d3)))
  | _ => .bad
theorem ds_par2 {i j : Nat} {fs : En → R (List Dt)} (h : ∀ {ta : TA}, PA X [a, b] ta → PS X st (tPar i j ta)) (ha : DA X κ W [a, b] fs) : DS X κ W st (sPar2 i j fs) := ⟨PS.imp (h ha.pa) fun D σ H q => by
  obtain ⟨B, G, en, S, q⟩ := q
  refine ⟨B, G, en, S, (wpR.of_RS q).mono fun ds H1 G1 e1 S1 x1 q1 vs hv => ?_⟩
  split at q1
  · cases hv with
    | cons h1 h2 =>
      cases h2 with
      | cons h3 h4 =>
        cases h4
        exact ⟨_, _, rfl, q1 _ H1 G1 ((S1.set h1).set h3) (Ex.refl G1)⟩
  · exact q1.elim⟩
theorem ds_par3 {i j l : Nat} {fs : En → R (List Dt)} (h : ∀ {ta : TA}, PA X [a, b, c] ta → PS X st (tPar3 i j l ta)) (ha : DA X κ W [a, b, c] fs) : DS X κ W st (sPar3 i j l fs) := ⟨PS.imp (h ha.pa) fun D σ H q => by
  obtain ⟨B, G, en, S, q⟩ := q
  refine ⟨B, G, en, S, (wpR.of_RS q).mono fun ds H1 G1 e1 S1 x1 q1 vs hv => ?_⟩
  split at q1
  · cases hv with
    | cons h1 h2 =>
      cases h2 with
      | cons h3 h4 =>
        cases h4 with
        | cons h5 h6 =>
          cases h6
          exact ⟨_, _, _, rfl, q1 _ H1 G1 (((S1.set h1).set h3).set h5) (Ex.refl G1)⟩
  · exact q1.elim⟩
end
end DL
namespace DL
open PySem L2
/-! ### what is walked -/
/-- an iterator over known data -/
def Gives (κ : Kd) (B : Fr) (J : It) (G0 : Hp) (ds : List Dt) : Prop :=
  ∀ σ H G e, SR κ B σ H G e → Ex G0 G → ∀ i : Nat, (∀ d, ds[i]? = some d → J.go i H ∧ ∀ x H', J.yld i H x H' → ∃ G', SR κ B σ H' G' e ∧ Ex G G' ∧ DR G' x d ∧ (∀ a o, H a = some o → H' a = some o) ∧ ∀ a, H a ≠ none → G a = none → G' a = none) ∧ (ds.length ≤ i → J.stop i H)
/-- the same for every frame that begins behind G0 -/
def GivesA (κ : Kd) (J : It) (G0 : Hp) (ds : List Dt) : Prop := ∀ B, Gives κ B J G0 ds
structure DI (X : Cx) (κ : Kd) (W : WX) (tg iter : Expr) (f : En → R (List Dt)) : Prop where
  pi : PI X tg iter (fun σ H Rr => ∃ (B : Fr) (G : Hp) (e : En), SR κ B σ H G e ∧ wpR X κ B W σ G (f e) (fun ds H' G' _ => ∀ J, GivesA κ J G' ds → Rr J H'))
theorem PI.imp {X : Cx} {tg iter : Expr} {t t' : TI} (h : PI X tg iter t) (k : ∀ σ H Q, t' σ H Q → t σ H Q) : PI X tg iter t' := ⟨fun pins s σ H R I q => h.run pins s σ H R I (k _ _ _ q)⟩
/-- over a list or a tuple -/
theorem pi_any {X : Cx} {tg l : Expr} {tl : TE} (hl : PE X l tl) : PI X tg l (fun σ H R => tl σ H fun x H1 => ∃ a, x = .ref a ∧ (((∃ xs, SqL X.K H1 a xs) ∧ R (Itl X.K a) H1) ∨ ((∃ xs, SqT X.K H1 a xs) ∧ R (Itt X.K a) H1))) := by
  refine ⟨fun pins s σ H R I h => ?_⟩
  refine thn (hl.run pins s σ H _ I h) fun v s1 ⟨x, H1, I1, r1, q1⟩ => ?_
  obtain ⟨a, e, q1⟩ := q1
  subst e
  cases r1
  rcases q1 with ⟨⟨xs, hq⟩, q⟩ | ⟨⟨xs, hq⟩, q⟩
  · obtain ⟨its, rv, p, hz⟩ := I1.list hq
    refine wpAny_pyIter_list p.isList ?_
    refine ⟨s1.heap.objs.size, [s1.heap.objs.size], _, _, H1, rfl, I1.kept (t' := s1.toks) fun b o e => Heap.get?_push_of_some _ e, turn_list a _, ⟨_, Heap.get?_push_size _ rfl, rfl, rfl⟩, fun b hb => ?_, q⟩
    have e : b = s1.heap.objs.size := by simpa using hb
    subst e
    exact I1.fpOk (Nat.le_refl _) (I1.hok.fresh (Nat.le_refl _))
  · obtain ⟨its, rv, p, hz⟩ := I1.tuple hq
    refine wpAny_pyIter_tuple (show s1.heap.IsTuple a its.toArray from p) ?_
    refine ⟨s1.heap.objs.size, [s1.heap.objs.size], _, _, H1, rfl, I1.kept (t' := s1.toks) fun b o e => Heap.get?_push_of_some _ e, turn_tuple a _, ⟨_, Heap.get?_push_size _ rfl, rfl, rfl⟩, fun b hb => ?_, q⟩
    have e : b = s1.heap.objs.size := by simpa using hb
    subst e
    exact I1.fpOk (Nat.le_refl _) (I1.hok.fresh (Nat.le_refl _))
def asSeq : Dt → En → R (List Dt)
  | .list ds, e => .ok ds e
  | .tuple ds, e => .ok ds e
  | _, _ => .bad
def fSeq (fa : En → R Dt) : En → R (List Dt) := fun e => (fa e).bind asSeq
theorem gives_l {κ : Kd} {K : PySem.W.Frag} {G0 : Hp} {a : Addr} {vs : List V} {ds : List Dt} (h : G0 a = some (.lst vs)) (hd : DRs G0 vs ds) : GivesA κ (Itl K a) G0 ds := by
  intro B σ H G e S x i
  have hq : SqL K H a vs := S.sql (x _ _ h)
  refine ⟨fun d hi => ?_, fun hi => ⟨vs, hq, by rw [DRs.length hd]; exact hi⟩⟩
  obtain ⟨v, e1, e2⟩ := DRs.get hd hi
  refine ⟨⟨vs, v, hq, e1⟩, fun y H' hy => ?_⟩
  obtain ⟨rfl, hy⟩ := hy
  have e3 := hy vs hq
  rw [e1] at e3
  cases e3
  exact ⟨G, S, Ex.refl G, DR.ex x e2, fun _ _ q => q, fun _ _ q => q⟩
theorem gives_t {κ : Kd} {K : PySem.W.Frag} {G0 : Hp} {a : Addr} {vs : List V} {ds : List Dt} (h : G0 a = some (.tup vs)) (hd : DRs G0 vs ds) : GivesA κ (Itt K a) G0 ds := by
  intro B σ H G e S x i
  have hq : SqT K H a vs := S.sqt (x _ _ h)
  refine ⟨fun d hi => ?_, fun hi => ⟨vs, hq, by rw [DRs.length hd]; exact hi⟩⟩
  obtain ⟨v, e1, e2⟩ := DRs.get hd hi
  refine ⟨⟨vs, v, hq, e1⟩, fun y H' hy => ?_⟩
  obtain ⟨rfl, hy⟩ := hy
  have e3 := hy vs hq
  rw [e1] at e3
  cases e3
  exact ⟨G, S, Ex.refl G, DR.ex x e2, fun _ _ q => q, fun _ _ q => q⟩
def intsD (lo : Int) (n : Nat) : List Dt := (List.range n).map fun (i : Nat) => PyData.int (lo + (i : Int))
theorem intsD_get {lo : Int} {n i : Nat} {d : Dt} (h : (intsD lo n)[i]? = some d) : i < n ∧ d = .int (lo + (i : Int)) := by
  unfold intsD at h
  rw [List.getElem?_map] at h
  by_cases hi : i < n
  · rw [List.getElem?_range hi] at h
    exact ⟨hi, (Option.some.inj h).symm⟩
  · rw [List.getElem?_eq_none (by simpa using hi)] at h
    cases h
theorem gives_r {κ : Kd} {G0 : Hp} {lo : Int} {n : Nat} : GivesA κ (Itr lo n) G0 (intsD lo n) := by
  intro B σ H G e S x i
  refine ⟨fun d hi => ?_, fun hi => show n ≤ i by simpa [intsD] using hi⟩
  obtain ⟨h1, rfl⟩ := intsD_get hi
  refine ⟨h1, fun y H' hy => ?_⟩
  obtain ⟨rfl, rfl⟩ := hy
  exact ⟨G, S, Ex.refl G, .int _, fun _ _ q => q, fun _ _ q => q⟩
section
variable {X : Cx} {κ : Kd} {W : WX} {e a b c tg : Expr} {fa fb fc : En → R Dt} {pos : Pos}
theorem di_seq (ha : DE X κ W a fa) : DI X κ W tg a (fSeq fa) := ⟨PI.imp (pi_any ha.pe) fun σ H Q q => by
  obtain ⟨B, G, en, S, q⟩ := q
  refine ⟨B, G, en, S, q.of_bind.mono fun d H1 G1 e1 S1 x1 q1 v hv => ?_⟩
  cases hv with
  | lst h1 h2 => exact ⟨_, rfl, .inl ⟨⟨_, S1.sql h1⟩, q1 H1 G1 S1 (Ex.refl G1) _ (gives_l h1 h2)⟩⟩
  | tup h1 h2 => exact ⟨_, rfl, .inr ⟨⟨_, S1.sqt h1⟩, q1 H1 G1 S1 (Ex.refl G1) _ (gives_t h1 h2)⟩⟩
  | _ => exact q1.elim⟩
/-- -(2 ^ 62) ≤ i < 2 ^ 62, so that the kernel stops at an open number (no subtraction from a great literal) -/
def fits (i : Int) : Bool := match i with
  | .ofNat n => Nat.ble (n + 1) 4611686018427387904
  | .negSucc n => Nat.ble (n + 1) 4611686018427387904
def asR1 : List Dt → En → R (List Dt)
  | [.int j], e => if fits j then .ok (intsD 0 j.toNat) e else .bad
  | _, _ => .bad
def asR2 : List Dt → En → R (List Dt)
  | [.int i, .int j], e => if fits i && fits j then .ok (intsD i (j - i).toNat) e else .bad
  | _, _ => .bad
def fRange1 (fs : En → R (List Dt)) : En → R (List Dt) := fun e => (fs e).bind asR1
def fRange2 (fs : En → R (List Dt)) : En → R (List Dt) := fun e => (fs e).bind asR2
theorem fits_of {i : Int} (h : fits i = true) : -(2 ^ 62) ≤ i ∧ i < 2 ^ 62 := by
  unfold fits at h
  split at h
  · have h := Nat.le_of_ble_eq_true h

    simp only [Int.ofNat_eq_natCast]
    omega
  · have h := Nat.le_of_ble_eq_true h
    simp only [Int.negSucc_eq]
    omega
theorem fits_in {i : Int} (h : -(2 ^ 62) ≤ i ∧ i < 2 ^ 62) : fits i = true := by
  unfold fits
  split
  · simp only [Int.ofNat_eq_natCast] at h
    exact Nat.ble_eq_true_of_le (by omega)
  · simp only [Int.negSucc_eq] at h
    exact Nat.ble_eq_true_of_le (by omega)
theorem di_range1 {p : Pos} {fs : En → R (List Dt)} (hg : Gl X "range") (hm : X.mg "range" = none) (ha : DA X κ W [a] fs) (hs : starEach [a] X.env = [(false, eval a X.env)] := by rfl) : DI X κ W tg (.Call (.Name "range" p) [a] [] pos) (fRange1 fs) := ⟨PI.imp (pi_range1 hg hm ha.pa hs) fun σ H Q q => by
  obtain ⟨B, G, en, S, q⟩ := q
  refine ⟨B, G, en, S, q.of_bind.mono fun ds H1 G1 e1 S1 x1 q1 vs hv => ?_⟩
  unfold asR1 at q1
  split at q1
  · split at q1
    · rename_i c
      cases hv with
      | cons h1 h2 =>
        cases h2; cases h1
        exact ⟨_, rfl, (fits_of c).1, (fits_of c).2, q1 H1 G1 S1 (Ex.refl G1) _ gives_r⟩
    · exact q1.elim
  · exact q1.elim⟩
theorem di_range2 {p : Pos} {fs : En → R (List Dt)} (hg : Gl X "range") (hm : X.mg "range" = none) (ha : DA X κ W [a, b] fs) (hs : starEach [a, b] X.env = [(false, eval a X.env), (false, eval b X.env)] := by rfl) (hs2 : starEach [b] X.env = [(false, eval b X.env)] := by rfl) :
    DI X κ W tg (.Call (.Name "range" p) [a, b] [] pos) (fRange2 fs) := ⟨PI.imp (pi_range2 hg hm ha.pa hs hs2) fun σ H Q q => by
  obtain ⟨B, G, en, S, q⟩ := q
  refine ⟨B, G, en, S, q.of_bind.mono fun ds H1 G1 e1 S1 x1 q1 vs hv => ?_⟩
  unfold asR2 at q1
  split at q1
  · split at q1
    · rename_i c
      rw [Bool.and_eq_true] at c
      cases hv with
      | cons h1 h2 =>
        cases h2 with
        | cons h3 h4 =>
          cases h4; cases h1; cases h3
          exact ⟨_, _, rfl, ⟨(fits_of c.1).1, (fits_of c.1).2, (fits_of c.2).1, (fits_of c.2).2⟩, q1 H1 G1 S1 (Ex.refl G1) _ gives_r⟩
    · exact q1.elim
  · exact q1.elim⟩
/-! ### for, while -/
def loopS (g : Dt → En → Option En) (f : En → SO) : List Dt → En → SO
  | [], e => .nx e
  | d :: ds, e => match g d e with
    | none => .bad
    | some e1 => match f e1 with
      | .nx e2 => loopS g f ds e2
      | .ct e2 => loopS g f ds e2
      | .bk e2 => .nx e2
      | o => o
theorem loopS_cons {g : Dt → En → Option En} {f : En → SO} {d : Dt} {ds : List Dt} {e e1 : En} (z : g d e = some e1) : loopS g f (d :: ds) e = (match f e1 with
      | .nx e2 => loopS g f ds e2
      | .ct e2 => loopS g f ds e2
      | .bk e2 => .nx e2
      | o => o) := by
  show (match g d e with | none => SO.bad | some e1 => _) = _
  rw [z]
theorem loopS_none {g : Dt → En → Option En} {f : En → SO} {d : Dt} {ds : List Dt} {e : En} (z : g d e = none) : loopS g f (d :: ds) e = .bad := by
  show (match g d e with | none => SO.bad | some e1 => _) = _
  rw [z]
def sFor (fi : En → R (List Dt)) (g : Dt → En → Option En) (f : En → SO) : En → SO := fun e => RS (fi e) fun ds e1 => loopS g f ds e1
theorem ds_for {iter : Expr} {body : List Stmt} {fi : En → R (List Dt)} {g : Dt → En → Option En} {f : En → SO} (hp : PassesOwn (model X.prog X.w) X.A X.env X.xe) (hc : X.calm = true) (hi : DI X κ W tg iter fi) (hg : DG X κ tg g) (hb : DSs X κ W body f)
    (hs : ∀ x, foldedSetIterable iter X.env x = pure x := by intro _; rfl) : DS X κ W (.For tg iter body [] pos) (sFor fi g f) := ⟨PS.imp (ps_for hp hc hi.pi hg.pg hb.pss hs) fun D σ H q => by
  obtain ⟨B, G, en, S, q⟩ := q
  refine ⟨B, G, en, S, (wpR.of_RS q).mono fun ds H1 G1 e1 S1 x1 q1 J hJ => ?_⟩
  refine ⟨fun i m σ H => m = ds.length - i ∧ i ≤ ds.length ∧ ∃ G e, SR κ B σ H G e ∧ Ex G1 G ∧ wpS X κ B W G (loopS g f (ds.drop i) e) D, ⟨ds.length, by simp, Nat.zero_le _, G1, e1, S1, Ex.refl G1, q1⟩, ?_⟩
  rintro i m σ H ⟨rfl, hi, G2, e2, S2, x2, q2⟩
  by_cases hlt : i < ds.length
  · have hget : ds[i]? = some ds[i] := List.getElem?_eq_getElem hlt
    obtain ⟨go, yl⟩ := (hJ B σ H G2 e2 S2 x2 i).1 _ hget
    have hdrop : ds.drop i = ds[i] :: ds.drop (i + 1) := List.drop_eq_getElem_cons hlt
    rw [hdrop] at q2
    refine .inr ⟨go, fun σ' H' => ∃ G e, SR κ B σ' H' G e ∧ Ex G1 G ∧ wpS X κ B W G (loopS g f (ds.drop (i + 1)) e) D, fun σ' H' hN => ⟨ds.length - (i + 1), by omega, rfl, hlt, hN⟩, fun x H' hy => ?_⟩
    obtain ⟨G3, S3, x3, d3, _, _⟩ := yl x H' hy
    cases z : g ds[i] e2 with
    | none =>
      rw [loopS_none z] at q2
      exact q2.elim
    | some e3 =>
      refine ⟨B, G3, e2, ds[i], e3, S3, d3, z, fun σ4 H4 G4 S4 x4 => ?_⟩
      refine ⟨B, G4, e3, S4, ?_⟩
      have x24 : Ex G2 G4 := x3.trans x4
      rw [loopS_cons z] at q2
      cases y : f e3 with
      | nx e5 =>
        rw [y] at q2
        exact fun σ' H' G' S' x' => ⟨G', e5, S', x2.trans (x24.trans x'), wpS.base q2 (x24.trans x')⟩
      | ct e5 =>
        rw [y] at q2
        exact fun σ' H' G' S' x' => ⟨G', e5, S', x2.trans (x24.trans x'), wpS.base q2 (x24.trans x')⟩
      | bk e5 =>
        rw [y] at q2
        exact fun σ' H' G' S' x' => q2 σ' H' G' S' (x24.trans x')
      | rt d e5 =>
        rw [y] at q2
        exact fun v σ' H' G' S' x' => q2 v σ' H' G' S' (x24.trans x')
      | exc c e5 =>
        rw [y] at q2
        exact fun σ' H' G' C mC S' x' => q2 σ' H' G' C mC S' (x24.trans x')
      | bad =>
        rw [y] at q2
        exact q2.elim
  · have e : i = ds.length := by omega
    subst e
    rw [List.drop_length] at q2
    exact .inl ⟨(hJ B σ H G2 e2 S2 x2 ds.length).2 (Nat.le_refl _), q2 σ H G2 S2 (Ex.refl G2)⟩⟩
def whileS (ft : En → R Bool) (f : En → SO) : Nat → En → SO
  | 0, _ => .bad
  | n + 1, e => RS (ft e) fun c e1 => if c = true then (match f e1 with
      | .nx e2 => whileS ft f n e2
      | .ct e2 => whileS ft f n e2
      | .bk e2 => .nx e2
      | o => o) else .nx e1
theorem ds_while {body : List Stmt} {ft : En → R Bool} {f : En → SO} (n : Nat) (hp : PassesOwn (model X.prog X.w) X.A X.env X.xe) (hc : DT X κ W c ft) (hb : DSs X κ W body f) : DS X κ W (.While c body [] pos) (whileS ft f n) := ⟨PS.imp (ps_while hp hc.pt hb.pss) fun D σ H q => by
  obtain ⟨B, G, en, S, q⟩ := q
  refine ⟨fun m σ H => ∃ G' e, SR κ B σ H G' e ∧ Ex G G' ∧ wpS X κ B W G' (whileS ft f m e) D, ⟨n, G, en, S, Ex.refl G, q⟩, ?_⟩
  rintro m σ H ⟨G2, e2, S2, x2, q2⟩
  cases m with
  | zero => exact q2.elim
  | succ m =>
    refine ⟨B, G2, e2, S2, (wpR.of_RS q2).mono fun c H3 G3 e3 S3 x3 q3 => ?_⟩
    show if c = true then _ else _
    cases c with
    | false =>
      rw [if_neg Bool.false_ne_true] at q3 ⊢
      exact q3 σ H3 G3 S3 (Ex.refl G3)
    | true =>
      rw [if_pos rfl] at q3 ⊢
      refine ⟨fun σ' H' => ∃ G' e, SR κ B σ' H' G' e ∧ Ex G G' ∧ wpS X κ B W G' (whileS ft f m e) D, fun σ' H' hN => ⟨m, Nat.lt_succ_self m, hN⟩, B, G3, e3, S3, ?_⟩
      cases y : f e3 with
      | nx e5 =>
        rw [y] at q3
        exact fun σ' H' G' S' x' => ⟨G', e5, S', x2.trans (x3.trans x'), wpS.base q3 x'⟩
      | ct e5 =>
        rw [y] at q3
        exact fun σ' H' G' S' x' => ⟨G', e5, S', x2.trans (x3.trans x'), wpS.base q3 x'⟩
      | bk e5 =>
        rw [y] at q3
        exact fun σ' H' G' S' x' => q3 σ' H' G' S' x'
      | rt d e5 => rw [y] at q3; exact q3
      | exc c e5 => rw [y] at q3; exact q3
      | bad => rw [y] at q3; exact q3.elim⟩
end
end DL
namespace DL
open PySem L2
/-! ### comprehensions -/
def markS : Option Slot → Option Slot
  | some (.own _ xs) => some (.own false xs)
  | s => s
def mark (e : En) : En := e.map markS
def unmarkS : Option Slot → Option Slot → Option Slot
  | some (.own b _), some (.own false xs) => some (.own b xs)
  | _, some (.dat d) => some (.dat d)
  | _, some (.raw v) => some (.raw v)
  | _, _ => none
def unmark (e0 e1 : En) : En := List.zipWith unmarkS e0 e1
def wipeE (e : En) : List Nat → En
  | [] => e
  | v :: vs => (wipeE e vs).set v none
def keepS (e : En) (v : Nat) : Option Slot := match e[v]? with
  | some (some (.dat d)) => some (.dat d)
  | some (some (.raw w)) => some (.raw w)
  | _ => none
def merge (e e' : En) : List Nat → En
  | [] => e'
  | v :: vs => (merge e (e'.set v none) vs).set v (keepS e v)
def lcS (g : Dt → En → Option En) (ft : En → R Bool) (fe : En → R Dt) (vs : List Nat) : List Dt → En → R (List Dt)
  | [], e => .ok [] e
  | d :: ds, e => match g d (mark e) with
    | none => .bad
    | some e1 => match ft e1 with
      | .ok true e2 => (match fe e2 with
        | .ok y e3 => (match lcS g ft fe vs ds (wipeE (unmark e e3) vs) with
          | .ok r e4 => .ok (y :: r) e4
          | _ => .bad)
        | _ => .bad)
      | .ok false e2 => lcS g ft fe vs ds (wipeE (unmark e e2) vs)
      | _ => .bad
def fLc (fi : En → R (List Dt)) (g : Dt → En → Option En) (ft : En → R Bool) (fe : En → R Dt) (vs : List Nat) : En → R Dt := fun e => (fi e).bind fun ds e1 => match lcS g ft fe vs ds (wipeE e1 vs) with
  | .ok r ef => if small r.length then .ok (.list r) (merge e1 ef vs) else .bad
  | _ => .bad
section
variable {κ : Kd} {B : Fr} {σ : L2.St} {H G : Hp} {e : En}
theorem SR.wiped (h : SR κ B σ H G e) : ∀ vs : List Nat, SR κ B (wipe σ vs) H G (wipeE e vs)
  | [] => h
  | v :: vs => by
    unfold wipe wipeE
    exact SR.drop (SR.wiped h vs) v none
theorem SR.put (h : SR κ B σ H G e) {i : Nat} {v : V} {d : Dt} (hi : σ[i]? = some (some v)) (hd : DR G v d) : SR κ B σ H G (e.set i (some (.dat d))) := by
  have q := h.set (i := i) hd
  have e1 : σ.set i (some v) = σ := by
    apply List.ext_getElem?
    intro j
    by_cases c : j = i
    · subst c
      rw [hi, List.getElem?_set_self (List.getElem?_eq_some_iff.mp hi).1]
    · rw [List.getElem?_set_ne (Ne.symm c)]
  rw [e1] at q
  exact q
theorem SR.putRaw (h : SR κ B σ H G e) {i : Nat} {v : V} (hi : σ[i]? = some (some v)) : SR κ B σ H G (e.set i (some (.raw v))) := by
  have q := h.setRaw (i := i) (v := v)
  have e1 : σ.set i (some v) = σ := by
    apply List.ext_getElem?
    intro j
    by_cases c : j = i
    · subst c
      rw [hi, List.getElem?_set_self (List.getElem?_eq_some_iff.mp hi).1]
    · rw [List.getElem?_set_ne (Ne.symm c)]
  rw [e1] at q
  exact q
/-- forgetting a slot in the abstract state alone -/
theorem SR.forget (h : SR κ B σ H G e) (i : Nat) : SR κ B σ H G (e.set i none) := by
  refine ⟨h.sub, h.t, h.g0, h.h0, h.n0, h.dom, by simp [h.len], fun j s hj => ?_, fun j k b c xs ys a hjk hj hk h1 h2 => ?_⟩
  · rcases set_get hj with ⟨_, z⟩ | ⟨ne, hj⟩
    · cases z
    · exact h.slot j s hj
  · rcases set_get hj with ⟨_, z⟩ | ⟨ne, hj⟩
    · cases z
    · rcases set_get hk with ⟨_, z⟩ | ⟨ne', hk⟩
      · cases z
      · exact h.sep j k b c xs ys a hjk hj hk h1 h2
/-- more is known of the slots than the abstract state says -/
theorem SR.more {x : Option V} {i : Nat} (h : SR κ B (σ.set i none) H G e) : SR κ B σ H G (e.set i none) := by
  have hl : e.length = σ.length := by have := h.len; simpa using this
  refine ⟨h.sub, h.t, h.g0, h.h0, h.n0, h.dom, by simp [hl], fun j s hj => ?_, fun j k b c xs ys a hjk hj hk h1 h2 => ?_⟩
  · rcases set_get hj with ⟨_, z⟩ | ⟨ne, hj⟩
    · cases z
    · obtain ⟨v, e1, e2⟩ := h.slot j s hj
      rw [List.getElem?_set_ne (Ne.symm ne)] at e1
      exact ⟨v, e1, e2⟩
  · rcases set_get hj with ⟨_, z⟩ | ⟨ne, hj⟩
    · cases z
    · rcases set_get hk with ⟨_, z⟩ | ⟨ne', hk⟩
      · cases z
      · refine h.sep j k b c xs ys a hjk hj hk ?_ ?_
        · rw [List.getElem?_set_ne (Ne.symm ne)]; exact h1
        · rw [List.getElem?_set_ne (Ne.symm ne')]; exact h2
theorem SR.merged {e0 : En} {G0 : Hp} (h0 : ∀ i s, keepS e0 i = some s → ∃ v, σ[i]? = some (some v) ∧ (∀ d, s = .dat d → DR G0 v d) ∧ (∀ w, s = .raw w → v = w)) (x : Ex G0 G) : ∀ (vs : List Nat) (e : En), SR κ B (wipe σ vs) H G e → SR κ B σ H G (merge e0 e vs)
  | [], e, h => h
  | v :: vs, e, h => by
    have h' : SR κ B ((wipe σ vs).set v none) H G e := h
    have q := SR.merged h0 x vs _ (SR.more (x := none) h')
    show SR κ B σ H G ((merge e0 (e.set v none) vs).set v (keepS e0 v))
    cases z : keepS e0 v with
    | none => exact q.forget v
    | some s =>
      obtain ⟨w, e1, e2, e3⟩ := h0 v s z
      cases s with
      | dat d => exact q.put e1 (DR.ex x (e2 d rfl))
      | raw u =>
        have e4 := e3 u rfl
        subst e4
        exact q.putRaw e1
      | own b xs =>
        unfold keepS at z
        split at z <;> cases z
theorem SR.kept (h : SR κ B σ H G e) : ∀ i s, keepS e i = some s → ∃ v, σ[i]? = some (some v) ∧ (∀ d, s = .dat d → DR G v d) ∧ (∀ w, s = .raw w → v = w) := by
  intro i s hs
  unfold keepS at hs
  split at hs
  · rename_i d hd
    cases hs
    obtain ⟨v, e1, e2⟩ := h.dat_at hd
    exact ⟨v, e1, (fun d' z => by cases z; exact e2), fun w z => by cases z⟩
  · rename_i w hw
    cases hs
    exact ⟨w, h.raw_at hw, (fun d z => by cases z), fun w' z => by cases z; rfl⟩
  · cases hs
/-- the own lists' places -/
def ownAt (i : Nat) : Option (Option Slot) → Option (Option V) → Option (Nat × Addr)
  | some (some (Slot.own _ _)), some (some (V.ref a)) => some (i, a)
  | _, _ => none
def ownP (e : En) (σ : L2.St) : List (Nat × Addr) := (List.range e.length).filterMap fun i => ownAt i e[i]? σ[i]?
theorem ownP_mem {i : Nat} {a : Addr} : (i, a) ∈ ownP e σ ↔ (∃ b xs, e[i]? = some (some (.own b xs))) ∧ σ[i]? = some (some (.ref a)) := by
  unfold ownP
  rw [List.mem_filterMap]
  constructor
  · rintro ⟨j, hj, h⟩
    unfold ownAt at h
    split at h
    · rename_i b xs a' h1 h2
      cases h
      exact ⟨⟨b, xs, h1⟩, h2⟩
    · cases h
  · rintro ⟨⟨b, xs, h1⟩, h2⟩
    refine ⟨i, List.mem_range.mpr (List.getElem?_eq_some_iff.mp h1).1, ?_⟩
    rw [h1, h2]
    rfl
theorem mark_get {i : Nat} : (mark e)[i]? = (e[i]?).map markS := by unfold mark; rw [List.getElem?_map]
theorem mark_own {i : Nat} {b : Bool} {xs : List Dt} (h : (mark e)[i]? = some (some (.own b xs))) : b = false ∧ ∃ b', e[i]? = some (some (.own b' xs)) := by
  rw [mark_get] at h
  cases z : e[i]? with
  | none => rw [z] at h; cases h
  | some s =>
    rw [z] at h
    have h : markS s = some (.own b xs) := Option.some.inj h
    unfold markS at h
    split at h
    · cases h
      exact ⟨rfl, _, rfl⟩
    · rename_i s' hn
      subst h
      exact (hn b xs rfl).elim
theorem mark_other {i : Nat} {s : Slot} (h : (mark e)[i]? = some (some s)) (hn : ∀ b xs, s ≠ .own b xs) : e[i]? = some (some s) := by
  rw [mark_get] at h
  cases z : e[i]? with
  | none => rw [z] at h; cases h
  | some s' =>
    rw [z] at h
    have h : markS s' = some s := Option.some.inj h
    unfold markS at h
    split at h
    · cases h
      exact absurd rfl (hn _ _)
    · rw [h]
theorem SR.marked (h : SR κ B σ H G e) : SR κ ⟨G, filt κ H, ownP e σ⟩ σ H G (mark e) := by
  refine ⟨h.sub, h.t, Ex.refl G, fun a o h1 _ _ => (filt_some h1).1, fun a _ h2 => h2, fun a h1 => filt_ne h1, by unfold mark; rw [List.length_map]; exact h.len, fun i s hi => ?_, fun i j b c xs ys a hij hi hj h1 h2 => ?_⟩
  · cases s with
    | own b xs =>
      obtain ⟨rfl, b', hb⟩ := mark_own hi
      obtain ⟨a, vs, q0, q2, q3, q4, q5, q6⟩ := h.own_at hb
      exact ⟨_, q0, a, vs, rfl, q2, q3, q4, fun _ => ownP_mem.mpr ⟨⟨_, _, hb⟩, q0⟩, fun z => nomatch z⟩
    | dat d =>
      obtain ⟨v, e1, e2⟩ := h.dat_at (mark_other hi fun _ _ z => nomatch z)
      exact ⟨v, e1, e2⟩
    | raw w => exact ⟨w, h.raw_at (mark_other hi fun _ _ z => nomatch z), rfl⟩
  · obtain ⟨_, b1, e1⟩ := mark_own hi
    obtain ⟨_, b2, e2⟩ := mark_own hj
    exact h.sep i j b1 b2 xs ys a hij e1 e2 h1 h2
theorem unmark_get {e0 e1 : En} {i : Nat} {s : Slot} (h : (unmark e0 e1)[i]? = some (some s)) : (∃ b ys xs, s = .own b xs ∧ e0[i]? = some (some (.own b ys)) ∧ e1[i]? = some (some (.own false xs))) ∨ (e1[i]? = some (some s) ∧ ∀ b xs, s ≠ .own b xs) := by
  unfold unmark at h
  rw [List.getElem?_zipWith] at h
  split at h
  · rename_i s0 s1 h0 h1
    have h : unmarkS s0 s1 = some s := Option.some.inj h
    unfold unmarkS at h
    split at h
    · cases h
      exact .inl ⟨_, _, _, rfl, h0, h1⟩
    · cases h
      exact .inr ⟨h1, fun _ _ z => nomatch z⟩
    · cases h
      exact .inr ⟨h1, fun _ _ z => nomatch z⟩
    · cases h
  · cases h
/-- back from a turn's frame -/
theorem SR.unmarked {σ2 : L2.St} {H2 G2 : Hp} {e2 : En} (hl : σ2.length = σ.length) (h : SR κ B σ H G e) (h2 : SR κ ⟨G, filt κ H, ownP e σ⟩ σ2 H2 G2 e2) : SR κ B σ2 H2 G2 (unmark e e2) := by
  have notP : ∀ a o, B.H0 a = some o → (∀ p ∈ B.P0, p.2 ≠ a) → ∀ p ∈ ownP e σ, p.2 ≠ a := fun a o h1 h3 p hp z => by
    obtain ⟨i, a'⟩ := p
    obtain ⟨⟨b, xs, hb⟩, ha⟩ := ownP_mem.mp hp
    obtain ⟨a2, vs, q0, q2, q3, q4, q5, q6⟩ := h.own_at hb
    rw [ha] at q0
    cases q0
    have z : a' = a := z
    subst z
    cases b with
    | false => exact h3 _ (q5 rfl) rfl
    | true => rw [q6 rfl] at h1; cases h1
  have dm : ∀ a, B.H0 a ≠ none → filt κ H a ≠ none := fun a h1 z => by
    obtain ⟨o, z1, z2⟩ := h.dom a h1
    rw [filt_of z1 z2] at z
    cases z
  refine ⟨h2.sub, h2.t, h.g0.trans h2.g0, fun a o h1 h3 h4 => h2.h0 a o (filt_of (h.h0 a o h1 h3 h4) h4) (notP a o h1 h3) h4, fun a h1 h3 => h2.n0 a (dm a h1) (h.n0 a h1 h3), fun a h1 => h2.dom a (dm a h1), ?_, fun i s hi => ?_, fun i j b c xs ys a hij hi hj h1 h3 => ?_⟩
  · unfold unmark
    rw [List.length_zipWith, h.len, h2.len, hl, Nat.min_self]
  · rcases unmark_get hi with ⟨b, ys, xs, rfl, e0, e1⟩ | ⟨e1, hn⟩
    · obtain ⟨a, vs, q0, q2, q3, q4, q5, q6⟩ := h2.own_at e1
      obtain ⟨_, ha⟩ := ownP_mem.mp (q5 rfl)
      obtain ⟨a', vs', z0, z2, z3, z4, z5, z6⟩ := h.own_at e0
      rw [ha] at z0
      cases z0
      exact ⟨_, q0, a, vs, rfl, q2, q3, q4, z5, z6⟩
    · cases s with
      | own b xs => exact absurd rfl (hn b xs)
      | dat d =>
        obtain ⟨v, z1, z2⟩ := h2.dat_at e1
        exact ⟨v, z1, z2⟩
      | raw w => exact ⟨w, h2.raw_at e1, rfl⟩
  · have f : ∀ {i : Nat} {b : Bool} {xs : List Dt}, (unmark e e2)[i]? = some (some (.own b xs)) → e2[i]? = some (some (.own false xs)) := fun {i b xs} hi => by
      rcases unmark_get hi with ⟨b, ys, xs, z, e0, e1⟩ | ⟨e1, hn⟩
      · cases z; exact e1
      · exact absurd rfl (hn b xs)
    exact h2.sep i j false false xs ys a hij (f hi) (f hj) h1 h3
/-- another object of ours is written -/
theorem SR.bump (h : SR κ B σ H G e) {D : Addr} {o' : List V} (hD : H D = some (.lst o')) (gD : G D = none) (h0 : B.H0 D = none) (new : ∀ (j : Nat) b ys, e[j]? = some (some (Slot.own b ys)) → σ[j]? ≠ some (some (V.ref D))) {vs : List V} : SR κ B σ (upd H D (.lst vs)) G e := by
  refine ⟨fun c u hu => ?_, κ.tm _ _ h.t fun c u h1 h2 => ?_, h.g0, fun c u h1 h2 h3 => ?_, h.n0, fun c h1 => ?_, h.len, fun j s hj => ?_, h.sep⟩
  · have ne : c ≠ D := fun z => by rw [z, gD] at hu; cases hu
    rw [upd_ne ne]
    exact h.sub c u hu
  · have ne : c ≠ D := fun z => by rw [z, hD] at h1; cases h1; exact h2 _ rfl
    rw [upd_ne ne]
    exact h1
  · have ne : c ≠ D := fun z => by rw [z, h0] at h1; cases h1
    rw [upd_ne ne]
    exact h.h0 c u h1 h2 h3
  · by_cases ne : c = D
    · rw [ne, upd_same]
      exact ⟨_, rfl, κ.kd _ (.lst _)⟩
    · rw [upd_ne ne]
      exact h.dom c h1
  · obtain ⟨v, e1, e2⟩ := h.slot j s hj
    refine ⟨v, e1, e2.ex (Ex.refl G) fun b' zs c es ev => ?_⟩
    subst es
    subst ev
    obtain ⟨a', vs', z1, z2, z3, _⟩ := e2
    cases z1
    have nc : c ≠ D := fun z => by
      subst z
      exact new j b' zs hj e1
    rw [upd_ne nc]
    exact ⟨rfl, z3⟩
/-- a new list of ours becomes data -/
theorem SR.settle (h : SR κ B σ H G e) {D : Addr} {vs : List V} (hD : H D = some (.lst vs)) (gD : G D = none) (h0 : B.H0 D = none) (new : ∀ (j : Nat) b ys, e[j]? = some (some (Slot.own b ys)) → σ[j]? ≠ some (some (V.ref D))) : SR κ B σ H (upd G D (.lst vs)) e := by
  have x : Ex G (upd G D (.lst vs)) := Ex.new gD
  refine ⟨fun c u hu => ?_, h.t, h.g0.trans x, h.h0, fun c h1 h2 => ?_, h.dom, h.len, fun j s hj => ?_, h.sep⟩
  · by_cases ne : c = D
    · subst ne
      rw [upd_same] at hu
      cases hu
      exact ⟨hD, .lst _⟩
    · rw [upd_ne ne] at hu
      exact h.sub c u hu
  · have ne : c ≠ D := fun z => h1 (by rw [z]; exact h0)
    rw [upd_ne ne]
    exact h.n0 c h1 h2
  · obtain ⟨v, e1, e2⟩ := h.slot j s hj
    refine ⟨v, e1, e2.ex x fun b' zs c es ev => ?_⟩
    subst es
    subst ev
    obtain ⟨a', vs', z1, z2, z3, _⟩ := e2
    cases z1
    have nc : c ≠ D := fun z => by
      subst z
      exact new j b' zs hj e1
    rw [upd_ne nc]
    exact ⟨rfl, z3⟩
end
end DL
namespace DL
open PySem L2
/-- a comprehension's target: only the slots vs are stored -/
def tGv (κ : Kd) (vs : List Nat) (g : Dt → En → Option En) : TG := fun v σ H Q => ∃ (B : Fr) (G : Hp) (e : En) (d : Dt) (e' : En), SR κ B σ H G e ∧ DR G v d ∧ g d e = some e' ∧ ∀ σ' H' G', SR κ B σ' H' G' e' → Ex G G' → (∀ a o, H a = some o → H' a = some o) → σ'.length = σ.length → (∀ i, i ∉ vs → σ'[i]? = σ[i]?) → Q σ' H'
def tGvs (κ : Kd) (vs : List Nat) (g : List Dt → En → Option En) : TGs := fun v σ H Q => ∃ (B : Fr) (G : Hp) (e : En) (d : List Dt) (e' : En), SR κ B σ H G e ∧ DRs G v d ∧ g d e = some e' ∧ ∀ σ' H' G', SR κ B σ' H' G' e' → Ex G G' → (∀ a o, H a = some o → H' a = some o) → σ'.length = σ.length → (∀ i, i ∉ vs → σ'[i]? = σ[i]?) → Q σ' H'
structure DV (X : Cx) (κ : Kd) (vs : List Nat) (tg : Expr) (g : Dt → En → Option En) : Prop where
  pg : PG X tg (tGv κ vs g)
structure DVs (X : Cx) (κ : Kd) (vs : List Nat) (ts : List Expr) (g : List Dt → En → Option En) : Prop where
  pgs : PGs X ts (tGvs κ vs g)
section
variable {X : Cx} {κ : Kd} {vs : List Nat} {pos : Pos}
theorem dv_name {x : Str} (i : Nat) (h : PG X (.Name x pos) (gName i)) (hi : i ∈ vs := by simp) : DV X κ vs (.Name x pos) (gN i) := ⟨PG.imp h fun v σ H Q q => by
  obtain ⟨B, G, en, d, e', S, hd, hg, k⟩ := q
  cases hg
  exact k _ _ _ (S.set hd) (Ex.refl G) (fun _ _ z => z) (by simp) fun j hj => List.getElem?_set_ne (fun z => by subst z; exact hj hi)⟩
theorem dvs_nil : DVs X κ vs [] gsNil := ⟨by
  refine ⟨fun pins s σ H us ws Q I r h => ?_⟩
  obtain ⟨B, G, en, ds, e', S, hd, hg, k⟩ := h
  cases hg
  show wpAny _ _ (assignInOrder [] ws) _ _ _
  cases r with
  | nil => exact PyProof.Rows.assignInOrder_nil ⟨σ, H, I, k _ _ _ S (Ex.refl G) (fun _ _ z => z) rfl fun _ _ => rfl⟩
  | cons r1 r2 => exact PyProof.Rows.assignInOrder_nil ⟨σ, H, I, k _ _ _ S (Ex.refl G) (fun _ _ z => z) rfl fun _ _ => rfl⟩⟩
theorem dvs_cons {t : Expr} {ts : List Expr} {g : Dt → En → Option En} {r : List Dt → En → Option En} (h1 : DV X κ vs t g) (h2 : DVs X κ vs ts r)
    (hs : (assignEach (t :: ts) X.env).map (·.2) = assign t X.env :: (assignEach ts X.env).map (·.2) := by rfl) : DVs X κ vs (t :: ts) (gsCons g r) := ⟨by
  refine PGs.imp (pgs_cons h1.pg h2.pgs hs) fun us σ H Q q => ?_
  obtain ⟨B, G, en, ds, e', S, hd, hg, k⟩ := q
  cases hd with
  | nil => cases hg
  | cons d1 d2 =>
    rename_i v us d ds
    have hg : (match g d en with | some e1 => r ds e1 | none => none) = some e' := hg
    refine ⟨v, us, rfl, ?_⟩
    cases q : g d en with
    | none => rw [q] at hg; cases hg
    | some e1 =>
      rw [q] at hg
      exact ⟨B, G, en, d, e1, S, d1, q, fun σ1 H1 G1 S1 x1 y1 l1 m1 => ⟨B, G1, e1, ds, e', S1, DRs.ex x1 d2, hg, fun σ2 H2 G2 S2 x2 y2 l2 m2 => k σ2 H2 G2 S2 (x1.trans x2) (fun a o z => y2 a o (y1 a o z)) (l2.trans l1) fun i hi => (m2 i hi).trans (m1 i hi)⟩⟩⟩
theorem dv_tup {ts : List Expr} {k : Nat} {g : List Dt → En → Option En} {n : Nat} (hc : X.calm = true) (h : DVs X κ vs ts g) (hn : (assignEach ts X.env).length = n := by rfl) (hst : (assignEach ts X.env).findIdx? (·.1) = none := by rfl) : DV X κ vs (.Tuple ts k pos) (gT n g) := ⟨by
  refine PG.imp (pg_tup hc h.pgs hn hst) fun v σ H Q q => ?_
  obtain ⟨B, G, en, d, e', S, hd, hg, k⟩ := q
  cases hd with
  | tup h1 h2 =>
    rename_i ds
    have hg : (if ds.length = n then g ds en else none) = some e' := hg
    by_cases hl : ds.length = n
    · rw [if_pos hl] at hg
      exact ⟨_, _, rfl, S.sqt h1, (DRs.length h2).trans hl, B, G, en, ds, e', S, h2, hg, k⟩
    · rw [if_neg hl] at hg; cases hg
  | _ => cases hg⟩
end
/-- a clause's tests -/
structure DTs (X : Cx) (κ : Kd) (W : WX) (ifs : List Expr) (f : En → R Bool) : Prop where
  pt : PTs X ifs (tDT X κ W f)
def fYes : En → R Bool := fun e => .ok true e
theorem PTs.imp {X : Cx} {e : List Expr} {t t' : TT} (h : PTs X e t) (k : ∀ σ H Q, t' σ H Q → t σ H Q) : PTs X e t' := ⟨fun pins s σ H Q I q => h.run pins s σ H Q I (k _ _ _ q)⟩
section
variable {X : Cx} {κ : Kd} {W : WX} {c : Expr} {ft : En → R Bool}
theorem dts_nil : DTs X κ W [] fYes := ⟨PTs.imp pts_nil fun σ H Q q => by
  obtain ⟨B, G, en, S, q⟩ := q
  exact q H G S (Ex.refl G)⟩
theorem dts_one (h : DT X κ W c ft) : DTs X κ W [c] ft := ⟨pts_one h.pt⟩
end
abbrev W0 : WX := fun _ _ _ _ => False
theorem wipe_get {σ : L2.St} {i : Nat} : ∀ {vs : List Nat}, i ∉ vs → (wipe σ vs)[i]? = σ[i]?
  | [], _ => rfl
  | v :: vs, h => by
    unfold wipe
    rw [List.getElem?_set_ne (fun z => by subst z; exact h List.mem_cons_self), wipe_get fun z => h (List.mem_cons_of_mem _ z)]
theorem wipe_at {σ : L2.St} {i : Nat} : ∀ {vs : List Nat}, i ∈ vs → i < σ.length → (wipe σ vs)[i]? = some none
  | v :: vs, h, hl => by
    unfold wipe
    by_cases e : v = i
    · subst e
      rw [List.getElem?_set_self (by rw [wipe_length]; exact hl)]
    · rw [List.getElem?_set_ne e]
      rcases List.mem_cons.mp h with z | z
      · exact absurd z.symm e
      · exact wipe_at z hl
theorem wipe_eq {σ σ2 : L2.St} {vs : List Nat} (hl : σ2.length = σ.length) (h : ∀ i, i ∉ vs → σ2[i]? = (wipe σ vs)[i]?) : wipe σ2 vs = wipe σ vs := by
  apply List.ext_getElem?
  intro i
  by_cases hi : i ∈ vs
  · by_cases hb : i < σ.length
    · rw [wipe_at hi hb, wipe_at hi (by rw [hl]; exact hb)]
    · rw [List.getElem?_eq_none (by rw [wipe_length]; omega), List.getElem?_eq_none (by rw [wipe_length]; omega)]
  · rw [wipe_get hi, h i hi]
section
variable {X : Cx} {κ : Kd} {W : WX}
theorem lcS_none {g : Dt → En → Option En} {ft : En → R Bool} {fe : En → R Dt} {vs : List Nat} {d : Dt} {ds : List Dt} {e : En} (z : g d (mark e) = none) : lcS g ft fe vs (d :: ds) e = .bad := by
  show (match g d (mark e) with | none => R.bad | some e1 => _) = _
  rw [z]
theorem lcS_cons {g : Dt → En → Option En} {ft : En → R Bool} {fe : En → R Dt} {vs : List Nat} {d : Dt} {ds : List Dt} {e e1 : En} (z : g d (mark e) = some e1) : lcS g ft fe vs (d :: ds) e = (match ft e1 with
      | .ok true e2 => (match fe e2 with
        | .ok y e3 => (match lcS g ft fe vs ds (wipeE (unmark e e3) vs) with
          | .ok r e4 => .ok (y :: r) e4
          | _ => .bad)
        | _ => .bad)
      | .ok false e2 => lcS g ft fe vs ds (wipeE (unmark e e2) vs)
      | _ => .bad) := by
  show (match g d (mark e) with | none => R.bad | some e1 => _) = _
  rw [z] <;> rfl
theorem wipeE_get {i : Nat} {s : Slot} : ∀ {vs : List Nat} {e : En}, (wipeE e vs)[i]? = some (some s) → e[i]? = some (some s)
  | [], _, h => h
  | v :: vs, e, h => by
    unfold wipeE at h
    rcases set_get h with ⟨_, z⟩ | ⟨_, z⟩
    · cases z
    · exact wipeE_get z
/-- what a turn of a comprehension begins with -/
structure LcAt (κ : Kd) (B : Fr) (σ : L2.St) (vs : List Nat) (D : Addr) (G1 : Hp) (H G : Hp) (e : En) (acc : List V) (ys : List Dt) : Prop where
  sr : SR κ B (wipe σ vs) H G e
  ex : Ex G1 G
  dl : H D = some (.lst acc)
  gd : G D = none
  h0 : B.H0 D = none
  new : ∀ (j : Nat) b zs, e[j]? = some (some (Slot.own b zs)) → (wipe σ vs)[j]? ≠ some (some (V.ref D))
  ac : DRs G acc ys
theorem lc_imp {vs : List Nat} {fi : En → R (List Dt)} {g : Dt → En → Option En} {ft : En → R Bool} {fe : En → R Dt} {σ : L2.St} {H : Hp} {Q : VK} (q : tD X κ W (fLc fi g ft fe vs) σ H Q) :
    tLc (fun σ H Rr => ∃ (B : Fr) (G : Hp) (e : En), SR κ B σ H G e ∧ wpR X κ B W σ G (fi e) (fun ds H' G' _ => ∀ J, GivesA κ J G' ds → Rr J H')) (tGv κ vs g) (tDT X κ W0 ft) (tD X κ W0 fe) vs σ H Q := by
  obtain ⟨B, G, en, S, q⟩ := q
  refine ⟨B, G, en, S, q.of_bind.mono fun ds H1 G1 e1 S1 x1 q1 J hJ D hD => ?_⟩
  split at q1
  · rename_i r ef hres
    split at q1
    · rename_i hsm
      have h0D : B.H0 D = none := by
        cases z : B.H0 D with
        | none => rfl
        | some u =>
          obtain ⟨o, w1, _⟩ := S1.dom D (by rw [z]; exact fun w => nomatch w)
          rw [hD] at w1
          cases w1
      refine ⟨fun i m H => m = ds.length - i ∧ i ≤ ds.length ∧ ∃ G e acc ys rest, LcAt κ B σ vs D G1 H G e acc ys ∧ lcS g ft fe vs (ds.drop i) e = .ok rest ef ∧ ys ++ rest = r, ⟨ds.length, by simp, Nat.zero_le _, G1, wipeE e1 vs, [], [], r, ⟨(S1.other hD).wiped vs, Ex.refl G1, upd_same, S1.gnone hD, h0D, fun j b zs hj hz => ?_, .nil⟩, hres, rfl⟩, ?_⟩
      · obtain ⟨a, us, q0, q2, _⟩ := (S1.wiped vs).own_at hj
        rw [hz] at q0
        cases q0
        rw [hD] at q2
        cases q2
      · rintro i m H2 ⟨rfl, hi2, G2, e2, acc, ys, rest, L, hl, hr⟩
        by_cases hlt : i < ds.length
        · have hget : ds[i]? = some ds[i] := List.getElem?_eq_getElem hlt
          obtain ⟨go, yl⟩ := (hJ B (wipe σ vs) H2 G2 e2 L.sr L.ex i).1 _ hget
          have hdrop : ds.drop i = ds[i] :: ds.drop (i + 1) := List.drop_eq_getElem_cons hlt
          rw [hdrop] at hl
          refine .inr ⟨go, fun H' => ∃ G e acc ys rest, LcAt κ B σ vs D G1 H' G e acc ys ∧ lcS g ft fe vs (ds.drop (i + 1)) e = .ok rest ef ∧ ys ++ rest = r, fun H' hN => ⟨ds.length - (i + 1), by omega, rfl, hlt, hN⟩, fun x H3 hy => ?_⟩
          obtain ⟨G3, S3, x3, d3, k3, n3⟩ := yl x H3 hy
          have hD3 : H3 D = some (.lst acc) := k3 _ _ L.dl
          have gD3 : G3 D = none := n3 D (by rw [L.dl]; exact fun w => nomatch w) L.gd
          cases z : g ds[i] (mark e2) with
          | none => rw [lcS_none z] at hl; cases hl
          | some e3 =>
            rw [lcS_cons z] at hl
            refine ⟨⟨G3, filt κ H3, ownP e2 (wipe σ vs)⟩, G3, mark e2, ds[i], e3, S3.marked, d3, z, fun σ4 H4 G4 S4 x4 k4 l4 m4 => ?_⟩
            have ew : wipe σ4 vs = wipe σ vs := wipe_eq (by rw [l4, wipe_length]) m4
            refine ⟨ew, ⟨G3, filt κ H3, ownP e2 (wipe σ vs)⟩, G4, e3, S4, ?_⟩
            have notD : ∀ p ∈ ownP e2 (wipe σ vs), p.2 ≠ D := fun p hp zz => by
              obtain ⟨j, a'⟩ := p
              obtain ⟨⟨b, xs, hb⟩, ha⟩ := ownP_mem.mp hp
              have zz : a' = D := zz
              subst zz
              exact L.new j b xs hb ha
            -- behind a turn
            have fin : ∀ {H5 G5 : Hp} {e5 : En}, SR κ ⟨G3, filt κ H3, ownP e2 (wipe σ vs)⟩ σ4 H5 G5 e5 → H5 D = some (.lst acc) ∧ G5 D = none ∧ Ex G1 G5 ∧ SR κ B (wipe σ vs) H5 G5 (wipeE (unmark e2 e5) vs) ∧ (∀ (j : Nat) b zs, (wipeE (unmark e2 e5) vs)[j]? = some (some (Slot.own b zs)) → (wipe σ vs)[j]? ≠ some (some (V.ref D))) := fun {H5 G5 e5} S5 => by
              refine ⟨S5.h0 D _ (filt_of hD3 (κ.kd _ (.lst _))) notD (κ.kd _ (.lst _)), S5.n0 D (by show filt κ H3 D ≠ none; rw [filt_of hD3 (κ.kd _ (.lst _))]; exact fun w => nomatch w) gD3, L.ex.trans (x3.trans S5.g0), ?_, fun j b zs hj => ?_⟩
              · rw [← ew]
                exact (SR.unmarked l4 S3 S5).wiped vs
              · rcases unmark_get (wipeE_get hj) with ⟨b', ys', xs', zz, e0, _⟩ | ⟨_, hn⟩
                · exact L.new j b' ys' e0
                · exact absurd rfl (hn _ _)
            cases y : ft e3 with
            | bad => rw [y] at hl; cases hl
            | exc c e5 => rw [y] at hl; cases hl
            | ok c e5 =>
              rw [y] at hl
              intro H5 G5 S5 x5
              cases c with
              | false =>
                dsimp only [kT]
                rw [if_neg Bool.false_ne_true]
                obtain ⟨f1, f2, f3, f4, f5⟩ := fin S5
                exact ⟨G5, _, acc, ys, rest, ⟨f4, f3, f1, f2, h0D, f5, DRs.ex (x3.trans S5.g0) L.ac⟩, hl, hr⟩
              | true =>
                dsimp only [kT]
                rw [if_pos rfl]
                refine ⟨⟨G3, filt κ H3, ownP e2 (wipe σ vs)⟩, G5, e5, S5, ?_⟩
                cases y2 : fe e5 with
                | bad => simp only [y2] at hl; cases hl
                | exc c e6 => simp only [y2] at hl; cases hl
                | ok yd e6 =>
                  simp only [y2] at hl
                  intro H6 G6 S6 x6 v hv
                  obtain ⟨f1, f2, f3, f4, f5⟩ := fin S6
                  cases y3 : lcS g ft fe vs (ds.drop (i + 1)) (wipeE (unmark e2 e6) vs) with
                  | bad => simp only [y3] at hl; cases hl
                  | exc c e7 => simp only [y3] at hl; cases hl
                  | ok r7 e7 =>
                    simp only [y3] at hl
                    cases hl
                    refine ⟨acc, f1, ?_, G6, _, acc ++ [v], ys ++ [yd], r7, ⟨f4.bump f1 f2 h0D f5, f3, upd_same, f2, h0D, f5, DRs.append (DRs.ex (x3.trans S6.g0) L.ac) (.cons hv .nil)⟩, y3, by rw [← hr]; simp⟩
                    have hlen := small_le hsm
                    rw [← hr] at hlen
                    rw [DRs.length L.ac, sizeLine_eq]
                    simp at hlen
                    omega
        · have e : i = ds.length := by omega
          subst e
          rw [List.drop_length] at hl
          have hl : (R.ok [] e2 : R (List Dt)) = R.ok rest ef := hl
          injection hl with z1 z2
          subst z1
          subst z2
          have hr' : ys = r := by simpa using hr
          subst hr'
          refine .inl ⟨(hJ B (wipe σ vs) H2 G2 e2 L.sr L.ex ds.length).2 (Nat.le_refl _), ?_⟩
          have xs : Ex G2 (upd G2 D (.lst acc)) := Ex.new L.gd
          have T := L.sr.settle L.dl L.gd L.h0 L.new
          exact q1 H2 _ (SR.merged (S1.kept) (L.ex.trans xs) vs _ T) (L.ex.trans xs) _ (.lst upd_same (DRs.ex xs L.ac))
    · exact q1.elim
  · exact q1.elim

theorem de_lc {elt tg iter : Expr} {ifs : List Expr} {scope : Scope} {own : List (Str × Nat)} {pos : Pos} {fi : En → R (List Dt)} {g : Dt → En → Option En} {ft : En → R Bool} {fe : En → R Dt} (hc : X.calm = true) (hN : X.N.Nodup) (hi : DI X κ W tg iter fi) (ok : BlkOk X.N X.env.scope scope own)
    (hg : ∀ (s : Shared) (H : Hp) (C : Addr) (cl : List (Str × Addr)) (fp : List Addr), DV (X.blk s H scope (PySem.compEnvC scope cl C X.env) fp) κ (own.map (·.2)) tg g) (ht : ∀ (s : Shared) (H : Hp) (C : Addr) (cl : List (Str × Addr)) (fp : List Addr), DTs (X.blk s H scope (PySem.compEnvC scope cl C X.env) fp) κ W0 ifs ft)
    (he : ∀ (s : Shared) (H : Hp) (C : Addr) (cl : List (Str × Addr)) (fp : List Addr), DE (X.blk s H scope (PySem.compEnvC scope cl C X.env) fp) κ W0 elt fe) (hs : ∀ x, foldedSetIterable iter X.env x = pure x := by intro _; rfl) :
    DE X κ W (.ListComp elt [⟨tg, iter, ifs, 0⟩] scope pos) (fLc fi g ft fe (own.map (·.2))) :=
  ⟨PE.imp (pe_lc (g := tGv κ (own.map (·.2)) g) (tt := tDT X κ W0 ft) (te := tD X κ W0 fe) hc hN hi.pi ok (fun s H C cl fp => (hg s H C cl fp).pg) (fun s H C cl fp => (ht s H C cl fp).pt) (fun s H C cl fp => (he s H C cl fp).pe) hs) fun σ H Q q => lc_imp q⟩
/-- name = [..] on one line, the name a local -/
theorem ds_setLc {i : Nat} {y : Str} {py : Pos} {elt tg iter : Expr} {ifs : List Expr} {scope : Scope} {own : List (Str × Nat)} {pos spos : Pos} {fi : En → R (List Dt)} {g : Dt → En → Option En} {ft : En → R Bool} {fe : En → R Dt} (hc : X.calm = true) (hN : X.N.Nodup) (hy : X.N[i]? = some y) (hyl : X.env.scope.names.lookup y = some .local)
    (hsw : swapsWith (.ListComp elt [⟨tg, iter, ifs, 0⟩] scope pos) (some (.Name y py)) spos.line X.env = pure true) (hi : DI X κ W tg iter fi) (ok : BlkOk X.N X.env.scope scope own)
    (hg : ∀ (s : Shared) (H : Hp) (C : Addr) (cl : List (Str × Addr)) (fp : List Addr), DV (X.blk s H scope (PySem.compEnvC scope cl C X.env) fp) κ (own.map (·.2)) tg g) (ht : ∀ (s : Shared) (H : Hp) (C : Addr) (cl : List (Str × Addr)) (fp : List Addr), DTs (X.blk s H scope (PySem.compEnvC scope cl C X.env) fp) κ W0 ifs ft)
    (he : ∀ (s : Shared) (H : Hp) (C : Addr) (cl : List (Str × Addr)) (fp : List Addr), DE (X.blk s H scope (PySem.compEnvC scope cl C X.env) fp) κ W0 elt fe) (hs : ∀ x, foldedSetIterable iter X.env x = pure x := by intro _; rfl) :
    DS X κ W (.Assign [.Name y py] (.ListComp elt [⟨tg, iter, ifs, 0⟩] scope pos) spos) (sAsg (fLc fi g ft fe (own.map (·.2))) (gN i)) :=
  ⟨PS.imp (ps_setLc (g := tGv κ (own.map (·.2)) g) (tt := tDT X κ W0 ft) (te := tD X κ W0 fe) hc hN hy hyl hsw hi.pi ok (fun s H C cl fp => (hg s H C cl fp).pg) (fun s H C cl fp => (ht s H C cl fp).pt) (fun s H C cl fp => (he s H C cl fp).pe) hs) fun D σ H q => by
    refine lc_imp (Q := fun x H1 => gName i x σ H1 D.nx) ?_
    obtain ⟨B, G, en, S, q⟩ := q
    exact ⟨B, G, en, S, (wpR.of_RS q).mono fun d H1 G1 e1 S1 x1 q1 v hv => q1 _ H1 G1 (S1.set hv) (Ex.refl G1)⟩⟩
end
end DL
namespace DL
open PySem L2
/-! ### what a def is worth -/
inductive FO where
  | ok (d : Dt) (s : List Slot)
  | exc (c : Str) (s : List Slot)
  | bad
abbrev Fn := List Slot → FO
def ASl (H G : Hp) (v : V) : Slot → Prop
  | .dat d => DR G v d
  | .own _ xs => ∃ a ws, v = .ref a ∧ H a = some (.lst ws) ∧ G a = none ∧ DRs G ws xs
  | .raw w => v = w
structure AR (H G : Hp) (vs : List V) (as : List Slot) : Prop where
  len : vs.length = as.length
  at_ : ∀ (i : Nat) s, as[i]? = some s → ∃ v, vs[i]? = some v ∧ ASl H G v s
  sep : ∀ (i j : Nat) b c xs ys a, i ≠ j → as[i]? = some (Slot.own b xs) → as[j]? = some (Slot.own c ys) → vs[i]? = some (V.ref a) → vs[j]? ≠ some (V.ref a)
def NotOwn (as : List Slot) (vs : List V) (a : Addr) : Prop := ∀ (i : Nat) b xs, as[i]? = some (Slot.own b xs) → vs[i]? ≠ some (V.ref a)
structure Aft (κ : Kd) (as : List Slot) (vs : List V) (H G H' G' : Hp) : Prop where
  sub : Sub G' H'
  t : κ.T H'
  gx : Ex G G'
  hk : ∀ a o, H a = some o → NotOwn as vs a → κ.keep o = true → H' a = some o
  nn : ∀ a o, H a = some o → κ.keep o = true → G a = none → G' a = none
  dom : ∀ a o, H a = some o → κ.keep o = true → ∃ u, H' a = some u ∧ κ.keep u = true
def postF (κ : Kd) (mg : Str → Option Value) (H G : Hp) (vs : List V) (as : List Slot) (Q : VK) (E : XK) : FO → Prop
  | .ok d as' => ∀ v H' G', Aft κ as vs H G H' G' → AR H' G' vs as' → DR G' v d → Q v H'
  | .exc c as' => ∀ H' G' C, mg c = some (.ref C) → Aft κ as vs H G H' G' → AR H' G' vs as' → E (.ref C) none H'
  | .bad => False
def spF (κ : Kd) (mg : Str → Option Value) (n : Nat) (F : Fn) : Sp := fun vs H Q E => ∃ G as, Sub G H ∧ κ.T H ∧ as.length = n ∧ AR H G vs as ∧ postF κ mg H G vs as Q E (F as)
/-- from the arguments to the names' slots, and back -/
def initE (n : Nat) (as : List Slot) : En := as.map some ++ List.replicate (n - as.length) none
def outs : List Slot → En → Option (List Slot)
  | [], _ => some []
  | .own _ _ :: as, some (.own false xs) :: e => (outs as e).map (.own false xs :: ·)
  | .own _ _ :: _, _ => none
  | s :: as, _ :: e => (outs as e).map (s :: ·)
  | _ :: _, [] => none
def fin (as : List Slot) (e : En) (k : List Slot → FO) : FO := match outs as e with
  | some as' => k as'
  | none => .bad
def runF (n : Nat) (f : En → SO) : Fn := fun as => match f (initE n as) with
  | .nx e => fin as e (.ok .none)
  | .rt d e => fin as e (.ok d)
  | .exc c e => fin as e (.exc c)
  | _ => .bad
theorem outs_get : ∀ {as as' : List Slot} {e : En}, outs as e = some as' → as'.length = as.length ∧ ∀ (i : Nat) s, as'[i]? = some s → (∃ b xs ys, as[i]? = some (Slot.own b xs) ∧ s = .own false ys ∧ e[i]? = some (some (.own false ys))) ∨ (as[i]? = some s ∧ ∀ b xs, s ≠ .own b xs)
  | [], as', e, h => by
    cases h
    exact ⟨rfl, fun i s hi => by simp at hi⟩
  | s0 :: as, as', e, h => by
    have key : ∃ s1 o e1 as1, e = o :: e1 ∧ outs as e1 = some as1 ∧ as' = s1 :: as1 ∧ ((∃ b xs ys, s0 = .own b xs ∧ s1 = .own false ys ∧ o = some (.own false ys)) ∨ (s1 = s0 ∧ ∀ b xs, s0 ≠ .own b xs)) := by
      cases s0 with
      | own b xs =>
        cases e with
        | nil => cases h
        | cons o e1 =>
          cases o with
          | none => cases h
          | some so =>
            cases so with
            | own b' ys =>
              cases b' with
              | true => cases h
              | false =>
                have h : (outs as e1).map (Slot.own false ys :: ·) = some as' := h
                cases q : outs as e1 with
                | none => rw [q] at h; cases h
                | some as1 =>
                  rw [q] at h
                  exact ⟨_, _, e1, as1, rfl, q, (Option.some.inj h).symm, .inl ⟨b, xs, ys, rfl, rfl, rfl⟩⟩
            | dat d => cases h
            | raw w => cases h
      | dat d =>
        cases e with
        | nil => cases h
        | cons o e1 =>
          have h : (outs as e1).map (Slot.dat d :: ·) = some as' := h
          cases q : outs as e1 with
          | none => rw [q] at h; cases h
          | some as1 =>
            rw [q] at h
            exact ⟨_, _, e1, as1, rfl, q, (Option.some.inj h).symm, .inr ⟨rfl, fun _ _ z => nomatch z⟩⟩
      | raw w =>
        cases e with
        | nil => cases h
        | cons o e1 =>
          have h : (outs as e1).map (Slot.raw w :: ·) = some as' := h
          cases q : outs as e1 with
          | none => rw [q] at h; cases h
          | some as1 =>
            rw [q] at h
            exact ⟨_, _, e1, as1, rfl, q, (Option.some.inj h).symm, .inr ⟨rfl, fun _ _ z => nomatch z⟩⟩
    obtain ⟨s1, o, e1, as1, rfl, q, rfl, hc⟩ := key
    obtain ⟨l, g⟩ := outs_get q
    refine ⟨by simp [l], fun i s hi => ?_⟩
    cases i with
    | zero =>
      have hi : s1 = s := Option.some.inj hi
      subst hi
      rcases hc with ⟨b, xs, ys, rfl, rfl, rfl⟩ | ⟨rfl, hn⟩
      · exact .inl ⟨b, xs, ys, rfl, rfl, rfl⟩
      · exact .inr ⟨rfl, hn⟩
    | succ i => exact g i s (by simpa using hi)
theorem initE_get {n : Nat} {as : List Slot} {i : Nat} {s : Slot} (h : (initE n as)[i]? = some (some s)) : as[i]? = some s := by
  unfold initE at h
  by_cases hi : i < as.length
  · rw [List.getElem?_append_left (by simpa using hi), List.getElem?_map] at h
    cases q : as[i]? with
    | none => rw [q] at h; cases h
    | some t =>
      rw [q] at h
      exact congrArg some (Option.some.inj (Option.some.inj h))
  · rw [List.getElem?_append_right (by simpa using hi), List.getElem?_replicate] at h
    split at h <;> cases h
theorem initE_of {n : Nat} {as : List Slot} {i : Nat} {s : Slot} (h : as[i]? = some s) : (initE n as)[i]? = some (some s) := by
  have hi : i < as.length := (List.getElem?_eq_some_iff.mp h).1
  unfold initE
  rw [List.getElem?_append_left (by simpa using hi), List.getElem?_map, h]
  rfl
theorem start_get {N : List Str} {vs : List V} {i : Nat} {v : V} (h : vs[i]? = some v) : (L2.start N vs)[i]? = some (some v) := by
  have hi : i < vs.length := (List.getElem?_eq_some_iff.mp h).1
  unfold L2.start
  rw [List.getElem?_append_left (by simpa using hi), List.getElem?_map, h]
  rfl
section
variable {κ : Kd} {H G : Hp} {vs : List V} {as : List Slot} {N : List Str}
/-- the state at a def's entry -/
theorem SR.entry (hs : Sub G H) (ht : κ.T H) (ha : AR H G vs as) (hf : ∀ (i : Nat) b xs, as[i]? = some (Slot.own b xs) → b = false) (hN : as.length ≤ N.length) : SR κ ⟨G, filt κ H, ownP (initE N.length as) (L2.start N vs)⟩ (L2.start N vs) H G (initE N.length as) := by
  refine ⟨hs, ht, Ex.refl G, fun a o h1 _ _ => (filt_some h1).1, fun a _ h2 => h2, fun a h1 => filt_ne h1, ?_, fun i s hi => ?_, fun i j b c xs ys a hij hi hj h1 h2 => ?_⟩
  · unfold initE L2.start
    rw [List.length_append, List.length_append, List.length_map, List.length_map, List.length_replicate, List.length_replicate, ha.len]
  · have e1 := initE_get hi
    obtain ⟨v, e2, e3⟩ := ha.at_ i s e1
    refine ⟨v, start_get e2, ?_⟩
    cases s with
    | dat d => exact e3
    | raw w => exact e3
    | own b xs =>
      obtain ⟨a, ws, rfl, q1, q2, q3⟩ := e3
      have eb := hf i b xs e1
      subst eb
      exact ⟨a, ws, rfl, q1, q2, q3, fun _ => ownP_mem.mpr ⟨⟨_, _, hi⟩, start_get e2⟩, fun z => nomatch z⟩
  · have e1 := initE_get hi
    have e2 := initE_get hj
    obtain ⟨v, q1, _⟩ := ha.at_ i _ e1
    obtain ⟨w, q2, _⟩ := ha.at_ j _ e2
    have z1 := start_get (N := N) q1
    have z2 := start_get (N := N) q2
    rw [h1] at z1
    rw [h2] at z2
    cases z1
    cases z2
    exact ha.sep i j b c xs ys a hij e1 e2 q1 q2
/-- at its end -/
theorem SR.exit {σ' : L2.St} {H' G' : Hp} {e' : En} {as' : List Slot} (ha : AR H G vs as) (h : SR κ ⟨G, filt κ H, ownP (initE N.length as) (L2.start N vs)⟩ σ' H' G' e') (ho : outs as e' = some as') : Aft κ as vs H G H' G' ∧ AR H' G' vs as' := by
  have own_of : ∀ {i : Nat} {a : Addr}, (i, a) ∈ ownP (initE N.length as) (L2.start N vs) → (∃ b xs, as[i]? = some (Slot.own b xs)) ∧ vs[i]? = some (V.ref a) := fun {i a} hp => by
    obtain ⟨⟨b, xs, hb⟩, ha'⟩ := ownP_mem.mp hp
    have e1 := initE_get hb
    obtain ⟨v, q1, _⟩ := ha.at_ i _ e1
    have z1 := start_get (N := N) q1
    rw [ha'] at z1
    cases z1
    exact ⟨⟨b, xs, e1⟩, q1⟩
  refine ⟨⟨h.sub, h.t, h.g0, fun a o h1 h2 h3 => h.h0 a o (filt_of h1 h3) (fun p hp z => ?_) h3, fun a o h1 h2 h3 => h.n0 a (by show filt κ H a ≠ none; rw [filt_of h1 h2]; exact fun w => nomatch w) h3, fun a o h1 h2 => h.dom a (by show filt κ H a ≠ none; rw [filt_of h1 h2]; exact fun w => nomatch w)⟩, ?_⟩
  · obtain ⟨i, a'⟩ := p
    obtain ⟨⟨b, xs, q1⟩, q2⟩ := own_of hp
    have z : a' = a := z
    subst z
    exact h2 i b xs q1 q2
  · obtain ⟨l, g⟩ := outs_get ho
    refine ⟨by rw [l]; exact ha.len, fun i s hi => ?_, fun i j b c xs ys a hij hi hj h1 h2 => ?_⟩
    · rcases g i s hi with ⟨b, xs, ys, q1, rfl, q3⟩ | ⟨q1, hn⟩
      · obtain ⟨a, ws, z0, z2, z3, z4, z5, z6⟩ := h.own_at q3
        obtain ⟨_, z7⟩ := own_of (z5 rfl)
        exact ⟨_, z7, a, ws, rfl, z2, z3, z4⟩
      · obtain ⟨v, e2, e3⟩ := ha.at_ i s q1
        refine ⟨v, e2, ?_⟩
        cases s with
        | dat d => exact DR.ex h.g0 e3
        | raw w => exact e3
        | own b xs => exact absurd rfl (hn b xs)
    · have f : ∀ {i : Nat} {b : Bool} {xs : List Dt}, as'[i]? = some (Slot.own b xs) → ∃ b' ys, as[i]? = some (Slot.own b' ys) := fun {i b xs} hi => by
        rcases g i _ hi with ⟨b', xs', ys, q1, _⟩ | ⟨_, hn⟩
        · exact ⟨b', xs', q1⟩
        · exact absurd rfl (hn b xs)
      obtain ⟨b1, x1, q1⟩ := f hi
      obtain ⟨b2, x2, q2⟩ := f hj
      exact ha.sep i j b1 b2 x1 x2 a hij q1 q2 h1 h2
end
theorem okN {P : Program} {w : World} {K : PySem.W.Frag} {mg : Str → Option Value} {base : Heap} {x qual : Str} {st : Stmt} {f : Addr} {fd : FuncData} {N ps : List Str} {k : Nat} {sp : Sp} (F : Fun K x qual st f fd) (S : FnScope N ps (defScope st)) (len : ∀ vs H Q E, sp vs H Q E → vs.length = ps.length)
    (hbody : ∀ (cdv : Value) (A : Around) (outer : List Env) (s : Shared) (H : Hp) (vs : List V) (Q : VK) (E : XK), Room k (A.deeper (PyProof.Rows.envOfC qual (defScope st) s.heap.objs.size f cdv)) → sp vs H Q E →
      ∃ t, PSs (cxOf (L2N.CX P w) P w K mg base N qual (defScope st) f cdv A outer s H E) (defBody st) t ∧ t { nx := fun _ H' => Q .non H', rt := Q } (L2.start N vs) H) : FnOk P w K mg base (L2N.CX P w) (k + 1) f fd ps sp := by
  obtain ⟨oc, od, kV, doc, pm, an, cdv, ct, osl, rfl, lk, hcd⟩ := F.ex
  exact fn_of lk hcd S len fun A outer s H vs Q E hr hsp => hbody cdv A outer s H vs Q E hr hsp
theorem takes_fn {P : Program} {w : World} {K : PySem.W.Frag} {mg : Str → Option Value} {base : Heap} {N : List Str} {qual : Str} {scope : Scope} {f : Addr} {cdv : Value} {A : Around} {outer : List Env} {s : Shared} {H : Hp} {E : XK} :
    L2N.Takes (cxOf (L2N.CX P w) P w K mg base N qual scope f cdv A outer s H E) (fun cls d _ H => E cls d H) := L2N.takes_of rfl rfl rfl rfl
def noTrue : Slot → Bool
  | .own true _ => false
  | _ => true
def defF (n : Nat) (f : En → SO) : Fn := fun as => if as.all noTrue = true then runF n f as else .bad
def flagsOk (as : List Slot) : Prop := ∀ (i : Nat) b xs, as[i]? = some (Slot.own b xs) → b = false
/-- THE RULE: a def of the text, by its body as a function on data -/
theorem fn_dl {P : Program} {w : World} {K : PySem.W.Frag} {mg : Str → Option Value} {base : Heap} {κ : Kd} {x qual : Str} {st : Stmt} {f : Addr} {fd : FuncData} {N ps : List Str} {k : Nat} {F : En → SO} (Fu : Fun K x qual st f fd) (Sc : FnScope N ps (defScope st))
    (hbody : ∀ (cdv : Value) (A : Around) (outer : List Env) (s : Shared) (H : Hp) (E : XK), Room k (A.deeper (PyProof.Rows.envOfC qual (defScope st) s.heap.objs.size f cdv)) →
      DSs (cxOf (L2N.CX P w) P w K mg base N qual (defScope st) f cdv A outer s H E) κ (fun cls d _ H => E cls d H) (defBody st) F)
    (hn : ps.length ≤ N.length) : FnOk P w K mg base (L2N.CX P w) (k + 1) f fd ps (spF κ mg ps.length (defF N.length F)) := by
  refine okN Fu Sc (fun vs H Q E h => ?_) (fun cdv A outer s H vs Q E hr h => ?_)
  · obtain ⟨G, as, _, _, hl, ha, _⟩ := h
    rw [ha.len, hl]
  · obtain ⟨G, as, hs, ht, hl, ha, q⟩ := h
    unfold defF at q
    split at q
    · rename_i hfl
      have hf : flagsOk as := fun i b xs hi => by
        have hm := List.all_eq_true.mp hfl _ (List.mem_of_getElem? hi)
        cases b with
        | false => rfl
        | true => cases hm
      refine ⟨_, (hbody cdv A outer s H E hr).pss, ?_⟩
      have S0 := SR.entry (N := N) hs ht ha hf (by omega)
      refine ⟨_, G, initE N.length as, S0, ?_⟩
      unfold runF at q
      split at q
      · rename_i e1 he
        rw [he]
        unfold DL.fin at q
        split at q
        · rename_i as' ho
          intro σ' H' G' S' x'
          obtain ⟨a1, a2⟩ := SR.exit ha S' ho
          exact q .non H' G' a1 a2 .non
        · exact q.elim
      · rename_i d e1 he
        rw [he]
        unfold DL.fin at q
        split at q
        · rename_i as' ho
          intro v σ' H' G' S' x' hv
          obtain ⟨a1, a2⟩ := SR.exit ha S' ho
          exact q v H' G' a1 a2 hv
        · exact q.elim
      · rename_i c e1 he
        rw [he]
        unfold DL.fin at q
        split at q
        · rename_i as' ho
          intro σ' H' G' C mC S' x'
          obtain ⟨a1, a2⟩ := SR.exit ha S' ho
          exact q H' G' C mC a1 a2
        · exact q.elim
      · exact q.elim
    · exact q.elim
end DL
namespace DL
open PySem L2
/-! ### arguments of a call: data, or a value as it stands -/
def SlA (G : Hp) (v : V) : Slot → Prop
  | .dat d => DR G v d
  | .raw w => v = w
  | .own _ _ => False
inductive SlAs (G : Hp) : List V → List Slot → Prop
  | nil : SlAs G [] []
  | cons {v : V} {vs : List V} {s : Slot} {ss : List Slot} : SlA G v s → SlAs G vs ss → SlAs G (v :: vs) (s :: ss)
theorem SlA.ex {G G' : Hp} (x : Ex G G') {v : V} {s : Slot} (h : SlA G v s) : SlA G' v s := by
  cases s with
  | dat d => exact DR.ex x h
  | raw w => exact h
  | own b xs => exact h
theorem SlAs.ex {G G' : Hp} (x : Ex G G') : ∀ {vs : List V} {ss : List Slot}, SlAs G vs ss → SlAs G' vs ss
  | _, _, .nil => .nil
  | _, _, .cons a b => .cons (a.ex x) (SlAs.ex x b)
theorem SlAs.length {G : Hp} : ∀ {vs : List V} {ss : List Slot}, SlAs G vs ss → vs.length = ss.length
  | _, _, .nil => rfl
  | _, _, .cons _ b => by simp [SlAs.length b]
theorem SlAs.get {G : Hp} : ∀ {vs : List V} {ss : List Slot} {i : Nat} {s : Slot}, SlAs G vs ss → ss[i]? = some s → ∃ v, vs[i]? = some v ∧ SlA G v s
  | _, _, _, _, .nil, h => by simp at h
  | _, _, 0, _, .cons a _, h => by simp at h; subst h; exact ⟨_, rfl, a⟩
  | _, _, i + 1, _, .cons _ b, h => by
    obtain ⟨v, e1, e2⟩ := SlAs.get (i := i) b (by simpa using h)
    exact ⟨v, by simpa using e1, e2⟩
def tAS (X : Cx) (κ : Kd) (W : WX) (f : En → R (List Slot)) : TA := fun σ H Q => ∃ (B : Fr) (G : Hp) (e : En), SR κ B σ H G e ∧ wpR X κ B W σ G (f e) (fun ss H' G' _ => ∀ vs, SlAs G' vs ss → Q vs H')
structure AS (X : Cx) (κ : Kd) (W : WX) (es : List Expr) (f : En → R (List Slot)) : Prop where
  pa : PA X es (tAS X κ W f)
def aNil : En → R (List Slot) := fun e => .ok [] e
def aCons (fa : En → R Dt) (fr : En → R (List Slot)) : En → R (List Slot) := fun e => (fa e).bind fun a e1 => (fr e1).bind fun r e2 => .ok (.dat a :: r) e2
/-- a name whose value is handed on as it is -/
def aRaw (i : Nat) (fr : En → R (List Slot)) : En → R (List Slot) := fun e => match e[i]? with
  | some (some (.raw w)) => (fr e).bind fun r e2 => .ok (.raw w :: r) e2
  | _ => .bad
def aVal (w : V) (fr : En → R (List Slot)) : En → R (List Slot) := fun e => (fr e).bind fun r e2 => .ok (.raw w :: r) e2
section
variable {X : Cx} {κ : Kd} {W : WX} {e a b c tg : Expr} {es : List Expr} {fa fb fc : En → R Dt} {fr : En → R (List Slot)} {pos : Pos}
theorem as_nil : AS X κ W [] aNil := ⟨PA.imp pa_nil fun σ H Q q => by
  obtain ⟨B, G, en, S, q⟩ := q
  exact q H G S (Ex.refl G) [] .nil⟩
theorem as_cons (ha : DE X κ W a fa) (hr : AS X κ W es fr) (hs : starEach (a :: es) X.env = (false, eval a X.env) :: starEach es X.env := by rfl) : AS X κ W (a :: es) (aCons fa fr) := by
  refine ⟨PA.imp (pa_cons ha.pe hr.pa hs) fun σ H Q q => ?_⟩
  obtain ⟨B, G, en, S, q⟩ := q
  refine ⟨B, G, en, S, q.of_bind.mono fun a H1 G1 e1 S1 x1 q1 => fun v hv => ⟨B, G1, e1, S1, q1.of_bind.mono fun b H2 G2 e2 S2 x2 q2 => fun w hw => ?_⟩⟩
  exact q2 H2 G2 S2 (Ex.refl G2) _ (.cons (DR.ex x2 hv) hw)
theorem as_raw {x : Str} {p : Pos} (i : Nat) (h : PE X (.Name x p) (tVar i)) (hr : AS X κ W es fr) (hs : starEach (.Name x p :: es) X.env = (false, eval (.Name x p) X.env) :: starEach es X.env := by rfl) : AS X κ W (.Name x p :: es) (aRaw i fr) := by
  refine ⟨PA.imp (pa_cons h hr.pa hs) fun σ H Q q => ?_⟩
  obtain ⟨B, G, en, S, q⟩ := q
  unfold aRaw at q
  split at q
  · rename_i w hw
    exact ⟨w, S.raw_at hw, B, G, en, S, q.of_bind.mono fun b H2 G2 e2 S2 x2 q2 => fun us hu => q2 H2 G2 S2 (Ex.refl G2) _ (.cons rfl hu)⟩
  · exact q.elim
theorem as_val {w : V} (h : PE X a (tC w)) (hr : AS X κ W es fr) (hs : starEach (a :: es) X.env = (false, eval a X.env) :: starEach es X.env := by rfl) : AS X κ W (a :: es) (aVal w fr) := by
  refine ⟨PA.imp (pa_cons h hr.pa hs) fun σ H Q q => ?_⟩
  obtain ⟨B, G, en, S, q⟩ := q
  exact ⟨B, G, en, S, q.of_bind.mono fun b H2 G2 e2 S2 x2 q2 => fun us hu => q2 H2 G2 S2 (Ex.refl G2) _ (.cons rfl hu)⟩
/-! ### calls -/
def Le (κ' κ : Kd) : Prop := κ' = kd0 ∨ κ' = κ
theorem SR.call {κ' : Kd} {B : Fr} {σ : L2.St} {H G : Hp} {en : En} (S : SR κ B σ H G en) (hl : Le κ' κ) {vs : List V} {ss : List Slot} {H' G' : Hp} (A : Aft κ' ss vs H G H' G') (hn : ∀ a, NotOwn ss vs a) : SR κ B σ H' G' en := by
  have ht : ∀ a o, H a = some o → (∀ xs, o ≠ .lst xs) → κ' = kd0 → H' a = some o := fun a o h1 h2 h3 => by
    subst h3
    exact A.hk a o h1 (hn a) rfl
  refine S.grow A.gx A.sub (fun a o h1 h2 => ?_) ?_ fun a o h1 h2 h3 => ?_
  · rcases hl with h3 | h3
    · subst h3; exact A.hk a o h1 (hn a) rfl
    · subst h3; exact A.hk a o h1 (hn a) h2
  · rcases hl with h3 | h3
    · exact κ.tm _ _ S.t fun a o h1 h2 => ht a o h1 h2 h3
    · subst h3; exact A.t
  · rcases hl with h4 | h4
    · subst h4; exact A.nn a o h1 rfl h3
    · subst h4; exact A.nn a o h1 h2 h3
theorem SlAs.notOwn {G : Hp} {vs : List V} {ss : List Slot} (h : SlAs G vs ss) (a : Addr) : NotOwn ss vs a := fun i b xs hi => by
  obtain ⟨v, _, e2⟩ := h.get hi
  exact e2.elim
theorem SlAs.ar {H G : Hp} {vs : List V} {ss : List Slot} (h : SlAs G vs ss) : AR H G vs ss := by
  refine ⟨h.length, fun i s hi => ?_, fun i j b c xs ys a hij hi _ _ => ?_⟩
  · obtain ⟨v, e1, e2⟩ := h.get hi
    refine ⟨v, e1, ?_⟩
    cases s with
    | dat d => exact e2
    | raw w => exact e2
    | own b xs => exact e2.elim
  · obtain ⟨v, _, e2⟩ := h.get hi
    exact e2.elim
def ofFO (r : FO) (e : En) : R Dt := match r with
  | .ok d _ => .ok d e
  | .exc c _ => .exc c e
  | .bad => .bad
def callD (n : Nat) (F : Fn) (fs : En → R (List Slot)) : En → R Dt := fun e => (fs e).bind fun ss e1 => if ss.length = n then ofFO (F ss) e1 else .bad
theorem de_call {κ' : Kd} {k n : Nat} {f : Addr} {fd : FuncData} {ps : List Str} {F : Fn} {x : Str} {p : Pos} {fs : En → R (List Slot)} (Fk : FnOk X.prog X.w X.K X.mg X.base (L2N.CX X.prog X.w) k f fd ps (spF κ' X.mg n F)) (hl : Le κ' κ) (tk : L2N.Takes X W) (hr : Room k X.A) (hg : Gl X x) (hm : X.mg x = some (.ref f)) (hk : PySem.W.keepIn X.K (.ref f) = true)
    (hb : Binds X.K fd ps []) (ha : AS X κ W (e :: es) fs) (hdb : (x == ("__debug__" : Str)) = false := by decide) (he : starEach (e :: es) X.env = (false, eval e X.env) :: starEach es X.env := by rfl) (hpl : (backTo pos (starEach es X.env)).any (·.1) = false := by rfl) :
    DE X κ W (.Call (.Name x p) (e :: es) [] pos) (callD n F fs) := by
  refine ⟨PE.imp (pe_callS Fk hr hg hm hk hb (fun σ => L2N.passAt tk σ) ha.pa hdb he hpl) fun σ H Q q => ?_⟩
  obtain ⟨B, G, en, S, q⟩ := q
  refine ⟨B, G, en, S, q.of_bind.mono fun ss H1 G1 e1 S1 x1 q1 vs hv => ?_⟩
  split at q1
  · rename_i hn
    have T' : κ'.T H1 := by
      rcases hl with h | h
      · subst h; trivial
      · subst h; exact S1.t
    refine ⟨G1, ss, S1.sub, T', hn, hv.ar, ?_⟩
    cases z : F ss with
    | ok d as' =>
      rw [z] at q1
      intro v H' G' A _ hd
      exact q1 H' G' (S1.call hl A hv.notOwn) A.gx v hd
    | exc c as' =>
      rw [z] at q1
      intro H' G' C mC A _
      exact q1 H' G' C mC (S1.call hl A hv.notOwn) A.gx
    | bad => rw [z] at q1; exact q1.elim
  · exact q1.elim
/-- f(), nothing given -/
theorem de_call0 {κ' : Kd} {k : Nat} {f : Addr} {fd : FuncData} {F : Fn} {x : Str} {p : Pos} (Fk : FnOk X.prog X.w X.K X.mg X.base (L2N.CX X.prog X.w) k f fd [] (spF κ' X.mg 0 F)) (hl : Le κ' κ) (tk : L2N.Takes X W) (hr : Room k X.A) (hg : Gl X x) (hm : X.mg x = some (.ref f)) (hk : PySem.W.keepIn X.K (.ref f) = true)
    (hb : Binds X.K fd [] []) (hdb : (x == ("__debug__" : Str)) = false := by decide) : DE X κ W (.Call (.Name x p) [] [] pos) (callD 0 F aNil) := by
  refine ⟨⟨fun pins s σ H Q I h => ?_⟩⟩
  refine wpAny_Call_Name_kw (ld_glob I hg hm ?_ hdb)
  refine PySem.W.callWith_K0 I.kIn hk (run_fnS (E := WE W) (us := []) (vs := []) Fk hr hb (L2N.passAt tk σ) I .nil ?_)
  obtain ⟨B, G, en, S, q⟩ := h
  have T' : κ'.T H := by
    rcases hl with h | h
    · subst h; trivial
    · subst h; exact S.t
  have hv : SlAs G [] [] := .nil
  refine ⟨G, [], S.sub, T', rfl, hv.ar, ?_⟩
  have q : wpR X κ B W σ G (ofFO (F []) en) (kD Q) := q
  cases z : F [] with
  | ok d as' =>
    rw [z] at q
    intro v H' G' A _ hd
    exact q H' G' (S.call hl A hv.notOwn) A.gx v hd
  | exc c as' =>
    rw [z] at q
    intro H' G' C mC A _
    exact q H' G' C mC (S.call hl A hv.notOwn) A.gx
  | bad => rw [z] at q; exact q.elim
/-- the first argument an own list, that the def may change -/
def backV (i : Nat) (b : Bool) (e : En) : FO → R Dt
  | .ok d (.own _ xs :: _) => .ok d (e.set i (some (.own b xs)))
  | .exc c (.own _ xs :: _) => .exc c (e.set i (some (.own b xs)))
  | _ => .bad
def isOwn : Option (Option Slot) → Bool
  | some (some (.own _ _)) => true
  | _ => false
def callV (n i : Nat) (F : Fn) (fs : En → R (List Slot)) : En → R Dt := fun e => if isOwn e[i]? = true then (fs e).bind fun ss e1 => (match e1[i]? with
  | some (some (.own b xs)) => if ss.length + 1 = n then backV i b e1 (F (.own false xs :: ss)) else .bad
  | _ => .bad) else .bad
theorem SR.callO {κ' : Kd} {B : Fr} {σ : L2.St} {H G : Hp} {en : En} (S : SR κ B σ H G en) (hl : Le κ' κ) {i : Nat} {b : Bool} {xs ys : List Dt} {a : Addr} {vs : List V} {ss : List Slot} {H' G' : Hp} (hi : en[i]? = some (some (Slot.own b xs))) (ha : σ[i]? = some (some (V.ref a)))
    (A : Aft κ' ss vs H G H' G') (hn : ∀ c, c ≠ a → NotOwn ss vs c) {ws : List V} (h1 : H' a = some (.lst ws)) (h2 : G' a = none) (h3 : DRs G' ws ys) : SR κ B σ H' G' (en.set i (some (.own b ys))) := by
  obtain ⟨a', us, q0, q2, q3, q4, q5, q6⟩ := S.own_at hi
  rw [ha] at q0
  cases q0
  have hk : ∀ c o, H c = some o → c ≠ a → κ.keep o = true → H' c = some o := fun c o z1 z2 z3 => by
    rcases hl with h | h
    · subst h; exact A.hk c o z1 (hn c z2) rfl
    · subst h; exact A.hk c o z1 (hn c z2) z3
  have nn' : ∀ c o, H c = some o → κ.keep o = true → G c = none → G' c = none := fun c o z1 z2 z3 => by
    rcases hl with h | h
    · subst h; exact A.nn c o z1 rfl z3
    · subst h; exact A.nn c o z1 z2 z3
  refine ⟨A.sub, ?_, S.g0.trans A.gx, fun c o z1 z2 z3 => ?_, fun c z1 z2 => by obtain ⟨o, y1, y2⟩ := S.dom c z1; exact nn' c o y1 y2 (S.n0 c z1 z2), fun c z1 => ?_, by simp [S.len], fun j s hj => ?_, fun j k b' c zs ys' a' hjk hj hk h1 h2 => ?_⟩
  · rcases hl with h | h
    · refine κ.tm _ _ S.t fun c o z1 z2 => ?_
      have ne : c ≠ a := fun z => by rw [z, q2] at z1; cases z1; exact z2 _ rfl
      subst h
      exact A.hk c o z1 (hn c ne) rfl
    · subst h; exact A.t
  · refine hk c o (S.h0 c o z1 z2 z3) (fun z => ?_) z3
    subst z
    cases b with
    | false => exact z2 _ (q5 rfl) rfl
    | true => rw [q6 rfl] at z1; cases z1
  · obtain ⟨o, y1, y2⟩ := S.dom c z1
    by_cases ne : c = a
    · subst ne
      exact ⟨_, h1, κ.kd _ (.lst _)⟩
    · exact ⟨o, hk c o y1 ne y2, y2⟩
  · rcases set_get hj with ⟨rfl, z⟩ | ⟨ne, hj⟩
    · cases z
      exact ⟨.ref a, ha, a, ws, rfl, h1, h2, h3, q5, q6⟩
    · obtain ⟨v, e1, e2⟩ := S.slot j s hj
      refine ⟨v, e1, e2.ex A.gx fun b' zs c es ev => ?_⟩
      subst es
      subst ev
      obtain ⟨a', vs', z1, z2, z3, _⟩ := e2
      cases z1
      have nc : c ≠ a := fun z => by
        subst z
        exact S.sep j i b' b zs xs c ne hj hi e1 ha
      exact ⟨(hk c _ z2 nc (κ.kd _ (.lst _))).trans z2.symm, nn' c _ z2 (κ.kd _ (.lst _)) z3⟩
  · have own' : ∀ {j : Nat} {b' : Bool} {zs : List Dt}, (en.set i (some (Slot.own b ys)))[j]? = some (some (.own b' zs)) → ∃ b'' zs', en[j]? = some (some (.own b'' zs')) := fun {j b' zs} hj => by
      rcases set_get hj with ⟨rfl, z⟩ | ⟨ne, hj⟩
      · exact ⟨b, xs, hi⟩
      · exact ⟨b', zs, hj⟩
    obtain ⟨b1, z1, hj⟩ := own' hj
    obtain ⟨b2, z2, hk⟩ := own' hk
    exact S.sep j k b1 b2 z1 z2 a' hjk hj hk h1 h2
theorem de_callV {κ' : Kd} {k n i : Nat} {f : Addr} {fd : FuncData} {ps : List Str} {F : Fn} {x y : Str} {p p1 : Pos} {fs : En → R (List Slot)} (Fk : FnOk X.prog X.w X.K X.mg X.base (L2N.CX X.prog X.w) k f fd ps (spF κ' X.mg n F)) (hl : Le κ' κ) (tk : L2N.Takes X W) (hr : Room k X.A) (hg : Gl X x) (hm : X.mg x = some (.ref f)) (hk : PySem.W.keepIn X.K (.ref f) = true)
    (hb : Binds X.K fd ps []) (hy : PE X (.Name y p1) (tVar i)) (ha : AS X κ W es fs) (hdb : (x == ("__debug__" : Str)) = false := by decide) (he : starEach (.Name y p1 :: es) X.env = (false, eval (.Name y p1) X.env) :: starEach es X.env := by rfl) (hpl : (backTo pos (starEach es X.env)).any (·.1) = false := by rfl) :
    DE X κ W (.Call (.Name x p) (.Name y p1 :: es) [] pos) (callV n i F fs) := by
  refine ⟨PE.imp (pe_callS Fk hr hg hm hk hb (fun σ => L2N.passAt tk σ) (pa_cons hy ha.pa he) hdb he hpl) fun σ H Q q => ?_⟩
  obtain ⟨B, G, en, S, q⟩ := q
  -- the own list's address is the slot's
  unfold callV at q
  split at q
  case isFalse => exact q.elim
  rename_i ho
  have q := q.of_bind
  have key : ∀ (a : Addr), σ[i]? = some (some (V.ref a)) → tAS X κ W fs σ H (fun vs H2 => spF κ' X.mg n F (V.ref a :: vs) H2 Q (WE W σ)) := fun a haσ => by
    refine ⟨B, G, en, S, q.mono fun ss H1 G1 e1 S1 x1 q1 vs hv => ?_⟩
    split at q1
    · rename_i b xs hi
      split at q1
      · rename_i hn
        obtain ⟨a', us, q0, z2, z3, z4, z5, z6⟩ := S1.own_at hi
        rw [haσ] at q0
        cases q0
        have T' : κ'.T H1 := by
          rcases hl with h | h
          · subst h; trivial
          · subst h; exact S1.t
        have nO : ∀ c, c ≠ a → NotOwn (Slot.own false xs :: ss) (V.ref a :: vs) c := fun c hc j b' ys hj hz => by
          cases j with
          | zero =>
            have hz : V.ref a = V.ref c := Option.some.inj hz
            cases hz
            exact hc rfl
          | succ j => exact hv.notOwn c j b' ys (by simpa using hj) (by simpa using hz)
        have hAR : AR H1 G1 (V.ref a :: vs) (Slot.own false xs :: ss) := by
          refine ⟨by simp [hv.length], fun j s hj => ?_, fun j l b' c' xs' ys' a2 hjl hj hl' hz1 hz2 => ?_⟩
          · cases j with
            | zero =>
              have hj : Slot.own false xs = s := Option.some.inj hj
              subst hj
              exact ⟨_, rfl, a, us, rfl, z2, z3, z4⟩
            | succ j =>
              obtain ⟨v, w1, w2⟩ := hv.ar (H := H1).at_ j s (by simpa using hj)
              exact ⟨v, by simpa using w1, w2⟩
          · cases j with
            | succ j =>
              obtain ⟨v, _, w2⟩ := hv.get (i := j) (by simpa using hj)
              exact w2.elim
            | zero =>
              cases l with
              | zero => exact hjl rfl
              | succ l =>
                obtain ⟨v, _, w2⟩ := hv.get (i := l) (by simpa using hl')
                exact w2.elim
        refine ⟨G1, _, S1.sub, T', by simpa using hn, hAR, ?_⟩
        have fin : ∀ {H' G' : Hp} {b' : Bool} {ys : List Dt} {rest : List Slot}, Aft κ' (Slot.own false xs :: ss) (V.ref a :: vs) H1 G1 H' G' → AR H' G' (V.ref a :: vs) (Slot.own b' ys :: rest) → SR κ B σ H' G' (e1.set i (some (.own b ys))) := fun {H' G' b' ys rest} A R' => by
          obtain ⟨v, w1, w2⟩ := R'.at_ 0 _ rfl
          have w1 : V.ref a = v := Option.some.inj w1
          subst w1
          obtain ⟨a3, ws, r0, r1, r2, r3⟩ := w2
          cases r0
          exact S1.callO hl hi haσ A nO r1 r2 r3
        unfold backV at q1
        split at q1
        · rename_i d b' ys rest hF
          rw [hF]
          intro v H' G' A R' hd
          exact q1 H' G' (fin A R') A.gx v hd
        · rename_i c b' ys rest hF
          rw [hF]
          intro H' G' C mC A R'
          exact q1 H' G' C mC (fin A R') A.gx
        · exact q1.elim
      · exact q1.elim
    · exact q1.elim
  unfold isOwn at ho
  split at ho
  · rename_i b xs hi
    obtain ⟨a, us, q0, _⟩ := S.own_at hi
    exact ⟨_, q0, key a q0⟩
  · cases ho
/-! ### raise -/
theorem ds_raise {C : Addr} {bmB : List Value} {Bn newId initId : String} {x m : Str} {j : Nat} {p p2 pos2 : Pos} (hc : X.calm = true) (tk : L2N.Takes X W) (Ef : PySem.ExcBaseFacts Bn newId initId bmB) (q : PySem.W.excIn X.K C bmB newId = true) (gC : X.mg x = some (.ref C)) (kC : PySem.W.keepIn X.K (.ref C) = true) (r : Raises X (.ref C)) (hg : Gl X x)
    (hdb : (x == ("__debug__" : Str)) = false := by decide) : DS X κ W (.Raise (some (.Call (.Name x p) [.Constant (.str m) j p2] [] pos)) none pos2) (sExc x) := ⟨PS.imp (L2N.ps_raise hc tk (L2N.pmk_own Ef q gC kC r hg hdb)) fun D σ H q => by
  obtain ⟨B, G, en, S, q⟩ := q
  exact q σ H G C gC S (Ex.refl G)⟩
/-! ### own lists -/
/-- x = [..] -/
def sOwn (i : Nat) (fs : En → R (List Dt)) : En → SO := fun e => RS (fs e) fun ds e1 => if small ds.length then .nx (e1.set i (some (.own true ds))) else .bad
theorem SR.fresh {B : Fr} {σ : L2.St} {H G : Hp} {en : En} (S : SR κ B σ H G en) {i : Nat} {p : Addr} {vs : List V} {ds : List Dt} (hp : H p = none) (hd : DRs G vs ds) : SR κ B (σ.set i (some (.ref p))) (upd H p (.lst vs)) G (en.set i (some (.own true ds))) := by
  refine (S.other hp).setOwn upd_same (S.gnone hp) ?_ hd fun j b ys hj hz => ?_
  · cases z : B.H0 p with
    | none => rfl
    | some u =>
      obtain ⟨o, w1, _⟩ := S.dom p (by rw [z]; exact fun w => nomatch w)
      rw [hp] at w1
      cases w1
  · obtain ⟨a, us, q0, q2, _⟩ := S.own_at hj
    rw [hz] at q0
    cases q0
    rw [hp] at q2
    cases q2
theorem ds_own {x : Str} {p p1 : Pos} (i : Nat) {fs : En → R (List Dt)} (h : ∀ {te : TE}, PE X (.List es p1) te → PS X (.Assign [.Name x p] (.List es p1) pos) (tAsg te (gName i))) (ha : DA X κ W es fs) : DS X κ W (.Assign [.Name x p] (.List es p1) pos) (sOwn i fs) := ⟨PS.imp (h (pe_lst ha.pa)) fun D σ H q => by
  obtain ⟨B, G, en, S, q⟩ := q
  refine ⟨B, G, en, S, (wpR.of_RS q).mono fun ds H1 G1 e1 S1 x1 q1 vs hv => ?_⟩
  split at q1
  · rename_i hs
    exact ⟨by rw [DRs.length hv]; exact small_line hs, fun p hp => q1 _ _ G1 (S1.fresh hp hv) (Ex.refl G1)⟩
  · exact q1.elim⟩
/-- x.append(e) -/
def sApp (i : Nat) (fa : En → R Dt) : En → SO := fun e => if isOwn e[i]? = true then RS (fa e) fun d e1 => (match e1[i]? with
  | some (some (.own b xs)) => if small xs.length then .nx (e1.set i (some (.own b (xs ++ [d])))) else .bad
  | _ => .bad) else .bad
theorem small_lt {n : Nat} (h : small n = true) : n < sizeLine := by
  rw [sizeLine_eq]
  have := of_decide_eq_true h
  omega
theorem own_of {B : Fr} {σ : L2.St} {H G : Hp} {en : En} (S : SR κ B σ H G en) {i : Nat} (ho : isOwn en[i]? = true) : ∃ a vs, σ[i]? = some (some (V.ref a)) ∧ H a = some (.lst vs) := by
  unfold isOwn at ho
  split at ho
  · rename_i b xs hi
    obtain ⟨a, us, q0, q2, _⟩ := S.own_at hi
    exact ⟨a, us, q0, q2⟩
  · cases ho
theorem ds_app {x : Str} {p apos cpos : Pos} (i : Nat) (hx : PE X (.Name x p) (tVar i)) (ha : DE X κ W a fa) (hs : swapsWith (.Call (.Attribute (.Name x p) "append" apos) [a] [] cpos) none pos.line X.env = pure false := by rfl)
    (hbase : attributeBase (.Name x p) "append" X.env (eval (.Name x p) X.env) = eval (.Name x p) X.env := by rfl)
    (hfew : ((backTo cpos (starEach (a :: []) X.env)).all (fun x => !x.1) && (backToKw cpos (keywordEach [] X.env)).all (fun x => x.1.isSome)
      && decide ((a :: []).length + ([] : List Keyword).length + (if ([] : List Keyword).isEmpty then 0 else 1) < 30)) = true := by rfl)
    (hline : (apos.endLine == cpos.line) = true := by rfl) (hst : starEach (a :: []) X.env = (false, eval a X.env) :: starEach [] X.env := by rfl) :
    DS X κ W (.Expr (.Call (.Attribute (.Name x p) "append" apos) [a] [] cpos) pos) (sApp i fa) := ⟨PS.imp (ps_expr (pe_bm PySem.F.plainAttrs_list PySem.F.slot_list_append PySem.F.type_list_append mt_append hx (pa_cons ha.pe pa_nil hst) hbase hfew hline hst rfl) hs) fun D σ H q => by
  obtain ⟨B, G, en, S, q⟩ := q
  unfold sApp at q
  split at q
  case isFalse => exact q.elim
  rename_i ho
  obtain ⟨a0, us, q0, q2⟩ := own_of S ho
  refine ⟨_, q0, .inl ⟨rfl, us, .inl (.inl q2)⟩, B, G, en, S, (wpR.of_RS q).mono fun d H1 G1 e1 S1 x1 q1 v hv => ?_⟩
  split at q1
  · rename_i b xs hi
    split at q1
    · rename_i hsm
      obtain ⟨a1, ws, z0, z2, z3, z4, z5, z6⟩ := S1.own_at hi
      rw [q0] at z0
      cases z0
      refine ⟨_, ws, v, rfl, rfl, z2, by rw [DRs.length z4]; exact small_lt hsm, ?_⟩
      exact q1 _ _ G1 (S1.write hi q0 (DRs.append z4 (.cons hv .nil))) (Ex.refl G1)
    · exact q1.elim
  · exact q1.elim⟩
/-- x[j] read -/
def fOwn (i : Nat) (fb : En → R Dt) : En → R Dt := fun e => if isOwn e[i]? = true then (fb e).bind fun j e1 => (match e1[i]?, j with
  | some (some (.own _ xs)), .int j => ret1 (atI xs j) e1
  | _, _ => .bad) else .bad
theorem de_ownIx {x : Str} {p : Pos} (i : Nat) (hx : PE X (.Name x p) (tVar i)) (hb : DE X κ W b fb) (hs : PlainIx b) : DE X κ W (.Subscript (.Name x p) b pos) (fOwn i fb) := ⟨PE.imp (pe_ix ix_list hx hb.pe hs) fun σ H Q q => by
  obtain ⟨B, G, en, S, q⟩ := q
  unfold fOwn at q
  split at q
  case isFalse => exact q.elim
  rename_i ho
  obtain ⟨a0, us, q0, q2⟩ := own_of S ho
  refine ⟨_, q0, B, G, en, S, q.of_bind.mono fun j H1 G1 e1 S1 x1 q1 v hv => ?_⟩
  split at q1
  · rename_i b xs j hi
    obtain ⟨a1, ws, z0, z2, z3, z4, z5, z6⟩ := S1.own_at hi
    rw [q0] at z0
    cases z0
    cases hv
    obtain ⟨d, e2, k⟩ := wp_ret1 q1 S1
    obtain ⟨w, w1, w2⟩ := DRs.atI z4 e2
    exact ⟨_, ws, j, w, rfl, rfl, .inl (.inl z2), w1, k _ _ _ S1 (Ex.refl G1) w2⟩
  · exact q1.elim⟩
/-- x[j] = e -/
def sSetIx (i : Nat) (fa fb : En → R Dt) : En → SO := fun e => RS (fa e) fun d e1 => if isOwn e1[i]? = true then RS (fb e1) fun j e2 => (match e2[i]?, j with
  | some (some (.own b xs)), .int j => (match ixN xs.length j with
    | some k => .nx (e2.set i (some (.own b (xs.set k d))))
    | none => .bad)
  | _, _ => .bad) else .bad
theorem ds_setIx {x : Str} {p tp : Pos} (i : Nat) (hx : PE X (.Name x p) (tVar i)) (ha : DE X κ W a fa) (hb : DE X κ W b fb) (hs : swapsWithSole [.Subscript (.Name x p) b tp] a pos.line X.env = pure false := by rfl) (hw : swappedStores [.Subscript (.Name x p) b tp] a X.env = pure none := by rfl)
    (h1 : (assignEach [.Subscript (.Name x p) b tp] X.env).map (·.2) = [assign (.Subscript (.Name x p) b tp) X.env] := by rfl)
    (hsub : ∀ v, assign (.Subscript (.Name x p) b tp) X.env v = (do
      let ov ← holding [v] (eval (.Name x p) X.env)
      let iv ← holding [v, ov] (eval b X.env)
      standAt tp
      holding [v, ov, iv] (setItem ov iv v)
      release [v, ov, iv] []) := by intro _; rfl) : DS X κ W (.Assign [.Subscript (.Name x p) b tp] a pos) (sSetIx i fa fb) := ⟨PS.imp (ps_asg ha.pe (pg_sub hx hb.pe set_list hsub) hs hw h1) fun D σ H q => by
  obtain ⟨B, G, en, S, q⟩ := q
  refine ⟨B, G, en, S, (wpR.of_RS q).mono fun d H1 G1 e1 S1 x1 q1 v hv => ?_⟩
  split at q1
  case isFalse => exact q1.elim
  rename_i ho
  obtain ⟨a0, us, q0, q2⟩ := own_of S1 ho
  refine ⟨_, q0, B, G1, e1, S1, (wpR.of_RS q1).mono fun j H2 G2 e2 S2 x2 q2 w hw => ?_⟩
  split at q2
  · rename_i b xs j hi
    split at q2
    · rename_i k hk
      obtain ⟨a1, ws, z0, z2, z3, z4, z5, z6⟩ := S2.own_at hi
      rw [q0] at z0
      cases z0
      cases hw
      refine ⟨_, ws, j, k, rfl, rfl, z2, by rw [DRs.length z4]; exact hk, ?_⟩
      exact q2 _ _ G2 (S2.write hi q0 (DRs.set (DR.ex x2 hv) k z4)) (Ex.refl G2)
    · exact q2.elim
  · exact q2.elim⟩
end
end DL
namespace DL
open PySem L2
theorem room5 {k : Nat} {A : Around} (r : Room k A) : A.units + 65 < cLine := by have := r.un; omega
section
variable {X : Cx} {κ : Kd} {W : WX}
theorem de_glob {x : Str} {i : Int} {pos : Pos} (hg : Gl X x) (hm : ∃ t, X.mg x = some (.int i t)) (hd : (x == ("__debug__" : Str)) = false := by decide) : DE X κ W (.Name x pos) (fC (.int i)) := by
  obtain ⟨t, hm⟩ := hm
  exact de_c (pe_glob (v := .int i) hg hm ⟨t, rfl⟩ hd) fun _ => .int i
end
end DL
/-! walks that end while an exception is handled -/
namespace HX
open PySem HotX PyProof.Rows
section
variable {prog : Program} {w : World} {A : Around} {E : Value → Shared → Prop} {s : Shared}
/-- a StopIteration made and raised -/
theorem stop_hot {α : Type} {x1 : Addr} {Q : α → Shared → Prop} (hot : HotAt A x1 s.heap)
    (hE : ∀ h' e, (∀ b o, s.heap.get? b = some o → h'.get? b = some o) → (∃ o, h'.get? e = some o ∧ o.cls = .type "StopIteration") → E (.ref e) { s with heap := h' }) :
    wpAny (model prog w) A (newExc (.type "StopIteration") [] >>= fun x => (raiseNew x : Sem α)) Q E s := by
  obtain ⟨hh, o1, vs1, h1, d1, c1⟩ := hot
  refine wpAny_bind ?_
  simp only [newExc, newTuple]
  refine wpAny_bind (wpAny_newObj_type ?_ (by size_fits))
  refine wpAny_bind (m := firstArgMember _ _) (wpAny_of_eq (a := Value.none) (by first | rfl | (simp only [firstArgMember]; rfl)) ?_)
  refine wpAny_newObj_type ?_ (by size_fits)
  refine raiseNew_hot ⟨hh, o1, vs1, Heap.get?_push_of_some _ (Heap.get?_push_of_some _ h1), d1, c1⟩ (Nat.ne_of_lt (Heap.lt_size (Heap.get?_push_of_some _ h1))) (Heap.get?_push_size _ rfl) rfl (by first | (simp; done) | (simp; omega)) ?_
  refine hE _ _ (fun b o e => ?_) ⟨_, Heap.get?_update_self _ (Heap.get?_push_size _ rfl) rfl, rfl⟩
  rw [Heap.get?_update_other _ _ (Nat.ne_of_gt (Heap.lt_size (Heap.get?_push_of_some _ e)))]
  exact Heap.get?_push_of_some _ (Heap.get?_push_of_some _ e)
/-- what stands but for the one record -/
theorem hot_but {A : Around} {x1 it : Addr} {h h' : Heap} (hot : HotAt A x1 h) (ne : x1 ≠ it) (k : ∀ b o, b ≠ it → h.get? b = some o → h'.get? b = some o) : HotAt A x1 h' := by
  obtain ⟨hh, o1, vs1, h1, d1, c1⟩ := hot
  exact ⟨hh, o1, vs1, k _ _ ne h1, d1, c1⟩
theorem next_list_stop {it l x1 : Addr} {i : Nat} {items : Array Value} {Q : Value → Shared → Prop} (hot : HotAt A x1 s.heap) (ne : x1 ≠ it)
    (hit : s.heap.IsListIter it l i) (hl : s.heap.IsList l items) (hx : items[i]? = none)
    (hE : ∀ h' e, Heap.ExtBut it s.heap h' → (∃ o, h'.get? e = some o ∧ o.cls = .type "StopIteration") → E (.ref e) { s with heap := h' }) :
    wpAny (model prog w) A (Builtin.SmallTypes.nextOf (.ref it)) Q E s := by
  obtain ⟨o, ho, hc, hd⟩ := id hit
  obtain ⟨ol, hol, _, nl, hdl⟩ := hl
  unfold Builtin.SmallTypes.nextOf
  refine wpAny_bind (wpAny_callSpecial?_slot (name := Str.ofString "__next__") hit.typeIs slot_listiter_next (wpAny_call_entry slot_listiter_next hit.typeIs entry_listiter_next ?_ (args_listiter_next _)))
  show wpAny _ _ (field (.ref it) 0 >>= _) _ _ s
  refine wpAny_bind (wpAny_field ho hd (x := .ref l) rfl ?_)
  show wpAny _ _ (if (Value.ref l == Value.none) = true then _ else _) _ _ s
  rw [if_neg (show ¬ ((Value.ref l == Value.none) = true) from Bool.false_ne_true)]
  show wpAny _ _ (field (.ref it) 1 >>= _) _ _ s
  refine wpAny_bind (wpAny_field ho hd (x := .int i 0) rfl ?_)
  show wpAny _ _ (seqItems? (.ref l) >>= _) _ _ s
  refine wpAny_bind (wpAny_seqItems hol hdl ?_)
  simp only [Int.toNat_natCast, hx]
  refine wpAny_bind (wpAny_rule (wpAny_bind (wpAny_setField ho hd (by simp) ?_)))
  show wpAny _ _ (newExc (.type "StopIteration") [] >>= fun x => raiseNew x) _ _ _
  refine (stop_hot (hot_but (show HotAt A.in1 x1 s.heap from hot) ne fun b o hb e => ?_) fun h' e k he => hE h' e (fun b o hb q => ?_) he)
  · rw [Heap.get?_update_other _ _ (Ne.symm hb)]
    exact e
  · refine k b o ?_
    show (s.heap.update it _).get? b = some o
    rw [Heap.get?_update_other _ _ (Ne.symm hb)]
    exact q

theorem zip_stop {z TI TO i1 i2 l1 l2 x1 : Addr} {k1 k2 : Nat} {xs ys : Array Value} {a b : Value} {Q : Fin → Shared → Prop} (hot : HotAt A x1 s.heap) (nz : x1 ≠ z) (nO : x1 ≠ TO) (n1 : x1 ≠ i1) (n2 : x1 ≠ i2) (D : ZipApart z TI TO i1 i2 l1 l2)
    (hz : IsZip s.heap z TI TO .none) (hTI : IsPair s.heap TI (.ref i1) (.ref i2)) (hTO : IsPair s.heap TO a b)
    (h1 : s.heap.IsListIter i1 l1 k1) (h2 : s.heap.IsListIter i2 l2 k2) (hl1 : s.heap.IsList l1 xs) (hl2 : s.heap.IsList l2 ys) (hend : xs[k1]? = none ∨ ys[k2]? = none)
    (hE : ∀ h' e, (∀ c o, c ≠ z → c ≠ TO → c ≠ i1 → c ≠ i2 → s.heap.get? c = some o → h'.get? c = some o) → (∃ o, h'.get? e = some o ∧ o.cls = .type "StopIteration") → E (.ref e) { s with heap := h' }) :
    wpAny (model prog w) A (Builtin.«zip.__next__» ⟨[.ref z], []⟩) Q E s := by
  show wpAny _ _ (field (.ref z) 2 >>= _) _ _ _
  refine wpAny_bind (wpAny_field hz rfl (x := .bool false) rfl ?_)
  show wpAny _ _ (field (.ref z) 3 >>= _) _ _ _
  refine wpAny_bind (wpAny_field hz rfl (x := .ref TI) rfl ?_)
  refine wpAny_bind (wpAny_seqItems hTI rfl ?_)
  show wpAny _ _ (Builtin.SmallTypes.ownedTupleIsFree (.ref z) >>= _) _ _ _
  refine wpAny_bind ?_
  unfold Builtin.SmallTypes.ownedTupleIsFree
  refine wpAny_bind (wpAny_field hz rfl (x := .none) rfl (wpAny_pure ?_))
  simp only [if_true]
  refine wpAny_bind (wpAny_rule ?_)
  refine wpAny_bind (wpAny_field hz rfl (x := .ref TO) rfl ?_)
  refine wpAny_bind (wpAny_setField_rec hz (by simp) fun g1 hz1 hs1 => ?_)
  replace hz1 : IsZip g1 z TI TO .ellipsis := hz1
  have hot1 : HotAt A x1 g1 := hot_but hot nz fun c o hc q => hs1.extBut _ _ hc q
  refine wpAny_bind ?_
  simp only [List.zipIdx_cons, List.zipIdx_nil, List.forIn_cons, List.forIn_nil]
  refine wpAny_bind (wpAny_bind (wpAny_onRaise ?_))
  show wpAny _ _ (Builtin.SmallTypes.nextOf (.ref i1) >>= _) _ _ _
  cases hx : xs[k1]? with
  | none =>
    refine wpAny_bind (next_list_stop hot1 n1 (h1.extBut hs1.extBut D.i1z) (hl1.extBut hs1.extBut D.l1z) hx fun g2 e hs2 he => ?_)
    obtain ⟨oe, hoe, hce⟩ := he
    have hz2 : IsZip g2 z TI TO .ellipsis := hs2 _ _ D.i1z.symm hz1
    have hez : e ≠ z := fun q => by subst q; rw [hz2] at hoe; cases hoe; simp at hce
    exact wpAny_setField_rec hz2 (by simp) fun g3 _ hs3 => hE g3 e (fun c o c1 _ c3 _ q => hs3.extBut _ _ c1 (hs2 _ _ c3 (hs1.extBut _ _ c1 q))) ⟨oe, hs3.extBut _ _ hez hoe, hce⟩
  | some x =>
    have hy : ys[k2]? = none := by
      rcases hend with h | h
      · rw [hx] at h; cases h
      · exact h
    refine wpAny_bind (wpAny_nextOf_list_item (h1.extBut hs1.extBut D.i1z) (hl1.extBut hs1.extBut D.l1z) hx fun g2 h12 hs2 => wpAny_pure ?_)
    have hTO2 : IsPair g2 TO a b := hs2.extBut _ _ D.TOi1 (hs1.extBut _ _ D.TOz hTO)
    refine wpAny_bind (wpAny_seqItems hTO2 rfl ?_)
    refine wpAny_bind (wpAny_updateSeq_pair hTO2 fun g3 hTO3 hs3 => ?_)
    refine wpAny_bind (wpAny_letGo (wpAny_pure ?_))
    refine wpAny_bind (wpAny_bind (wpAny_onRaise ?_))
    show wpAny _ _ (Builtin.SmallTypes.nextOf (.ref i2) >>= _) _ _ _
    have hot3 : HotAt A x1 g3 := hot_but (hot_but hot1 n1 fun c o hc q => hs2.extBut _ _ hc q) nO fun c o hc q => hs3.extBut _ _ hc q
    refine wpAny_bind (next_list_stop hot3 n2 (((h2.extBut hs1.extBut D.i2z).extBut hs2.extBut D.i12.symm).extBut hs3.extBut D.TOi2.symm)
      (((hl2.extBut hs1.extBut D.l2z).extBut hs2.extBut D.l2i1).extBut hs3.extBut D.l2TO) hy fun g4 e hs4 he => ?_)
    obtain ⟨oe, hoe, hce⟩ := he
    have hz4 : IsZip g4 z TI TO .ellipsis := hs4 _ _ D.i2z.symm (hs3.extBut _ _ D.TOz.symm (hs2.extBut _ _ D.i1z.symm hz1))
    have hez : e ≠ z := fun q => by subst q; rw [hz4] at hoe; cases hoe; simp at hce
    exact wpAny_setField_rec hz4 (by simp) fun g5 _ hs5 => hE g5 e (fun c o c1 c2 c3 c4 q => hs5.extBut _ _ c1 (hs4 _ _ c4 (hs3.extBut _ _ c2 (hs2.extBut _ _ c3 (hs1.extBut _ _ c1 q))))) ⟨oe, hs5.extBut _ _ hez hoe, hce⟩
theorem pyNext_zip_stop {z TI TO i1 i2 l1 l2 x1 : Addr} {k1 k2 : Nat} {xs ys : Array Value} {a b : Value} {Q : Option Value → Shared → Prop} (hot : HotAt A x1 s.heap) (nz : x1 ≠ z) (nO : x1 ≠ TO) (n1 : x1 ≠ i1) (n2 : x1 ≠ i2) (D : ZipApart z TI TO i1 i2 l1 l2)
    (hz : IsZip s.heap z TI TO .none) (hTI : IsPair s.heap TI (.ref i1) (.ref i2)) (hTO : IsPair s.heap TO a b)
    (h1 : s.heap.IsListIter i1 l1 k1) (h2 : s.heap.IsListIter i2 l2 k2) (hl1 : s.heap.IsList l1 xs) (hl2 : s.heap.IsList l2 ys) (hend : xs[k1]? = none ∨ ys[k2]? = none)
    (hQ : ∀ h', (∀ c o, c ≠ z → c ≠ TO → c ≠ i1 → c ≠ i2 → s.heap.get? c = some o → h'.get? c = some o) → Q none { s with heap := h' }) : wpAny (model prog w) A (pyNext (.ref z)) Q E s := by
  have hT : s.TypeIs (.ref z) "zip" := ⟨_, hz, rfl⟩
  unfold pyNext
  refine wpAny_bind (wpAny_attempt (wpAny_callSpecial?_slot (name := Str.ofString "__next__") hT F.slot_zip_next
    (wpAny_call_entry F.slot_zip_next hT F.entry_zip_next (zip_stop (A := A.in1) hot nz nO n1 n2 D hz hTI hTO h1 h2 hl1 hl2 hend fun h' e hk he => ?_) (F.args_zip_next_1 _))))
  obtain ⟨o, ho, hc⟩ := he
  exact wpAny_bind (wpAny_isInstance (T := "StopIteration") (b := true) ⟨o, ho, hc⟩ isSubtype_stop (wpAny_pure (hQ _ hk)))
/-- a tuple's walk ends -/
theorem tup_stop {it t x1 : Addr} {i : Nat} {items : Array Value} {Q : Option Value → Shared → Prop} (hot : HotAt A x1 s.heap) (ne : x1 ≠ it)
    (hit : IsTupIter s.heap it t i) (ht : IsTup s.heap t items) (hx : items[i]? = none)
    (hQ : ∀ h', Heap.ExtBut it s.heap h' → Q none { s with heap := h' }) : wpAny (model prog w) A (pyNext (.ref it)) Q E s := by
  obtain ⟨o, ho, hc, hd⟩ := id hit
  obtain ⟨ol, hol, _, nl, hdl⟩ := ht
  unfold pyNext
  refine wpAny_bind (wpAny_attempt (wpAny_callSpecial?_slot (name := Str.ofString "__next__") hit.typeIs slot_tupleiter_next
    (wpAny_call_entry slot_tupleiter_next hit.typeIs entry_tupleiter_next ?_ (args_tupleiter_next _))))
  show wpAny _ _ (field (.ref it) 0 >>= _) _ _ s
  refine wpAny_bind (wpAny_field ho hd (x := .ref t) rfl ?_)
  show wpAny _ _ (if (Value.ref t == Value.none) = true then _ else _) _ _ s
  rw [if_neg (show ¬ ((Value.ref t == Value.none) = true) from Bool.false_ne_true)]
  show wpAny _ _ (field (.ref it) 1 >>= _) _ _ s
  refine wpAny_bind (wpAny_field ho hd (x := .int i 0) rfl ?_)
  show wpAny _ _ (seqItems? (.ref t) >>= _) _ _ s
  refine wpAny_bind (wpAny_seqItems hol hdl ?_)
  simp only [Int.toNat_natCast, hx]
  refine wpAny_bind (wpAny_rule (wpAny_bind (wpAny_setField ho hd (by simp) ?_)))
  show wpAny _ _ (newExc (.type "StopIteration") [] >>= fun x => raiseNew x) _ _ _
  refine stop_hot (hot_but (show HotAt A.in1 x1 s.heap from hot) ne fun b o hb e => ?_) fun h' e k he => ?_
  · rw [Heap.get?_update_other _ _ (Ne.symm hb)]
    exact e
  · obtain ⟨oe, hoe, hce⟩ := he
    refine wpAny_bind (wpAny_isInstance (T := "StopIteration") (b := true) ⟨oe, hoe, hce⟩ isSubtype_stop (wpAny_pure (hQ _ fun b o hb q => k b o ?_)))
    show (s.heap.update it _).get? b = some o
    rw [Heap.get?_update_other _ _ (Ne.symm hb)]
    exact q
/-- a tuple is taken apart -/
theorem tup_apart {env : Env} {elts : List Expr} {kk : Nat} {pos : Pos} {t x1 : Addr} {items : Array Value} {Q : Unit → Shared → Prop} (hot : HotAt A x1 s.heap) (ht : IsTup s.heap t items)
    (hn : (assignEach elts env).length = items.size) (hstar : (assignEach elts env).findIdx? (·.1) = none)
    (h : ∀ h', Heap.ExtBut s.heap.objs.size s.heap h' → wpAny (model prog w) A (assignInOrder ((assignEach elts env).map (·.2)) items.toList) Q E { s with heap := h' }) :
    wpAny (model prog w) A (assign (.Tuple elts kk pos) env (.ref t)) Q E s := by
  have hlt : t ≠ s.heap.objs.size := by
    obtain ⟨o, ho, _⟩ := ht
    exact Nat.ne_of_lt (Heap.lt_size ho)
  have hx1 : x1 ≠ s.heap.objs.size := by
    obtain ⟨_, o, _, ho, _⟩ := hot
    exact Nat.ne_of_lt (Heap.lt_size ho)
  rw [assign_Tuple]
  refine wpAny_bind (wpAny_standAt ?_)
  unfold unpack
  rw [hn, hstar]
  refine wpAny_bind (wpAny_holding ?_)
  unfold unpackItems
  refine wpAny_bind ?_
  unfold notIterableAtAll
  refine wpAny_bind (wpAny_specialOf ht.typeIs slot_tuple_iter.lookup (wpAny_pure ?_))
  simp only [Bool.false_eq_true, if_false]
  refine wpAny_bind (wpAny_holding (iter_tuple ht ?_))
  refine wpAny_bind (wpAny_holding (draw_tuple hlt items.size 0 _ _ ⟨_, Heap.get?_push_size _ rfl, rfl, rfl⟩ (ht.push _) (by omega) fun g1 hit1 hs1 => ?_))
  have hall : List.take items.size (List.drop 0 items.toList) = items.toList := by
    rw [List.drop_zero]
    exact List.take_of_length_le (by simp)
  rw [hall, if_neg (by simp)]
  have hot1 : HotAt A x1 g1 := by
    obtain ⟨hh, o1, vs1, z1, d1, c1⟩ := hot
    exact ⟨hh, o1, vs1, hs1.extBut _ _ hx1 (Heap.get?_push_of_some _ z1), d1, c1⟩
  refine wpAny_bind (wpAny_holding (tup_stop hot1 hx1 hit1 ((ht.push _).extBut hs1.extBut hlt) (by simp) fun g2 he2 => ?_))
  simp only [Option.isSome_none, Bool.false_eq_true, if_false]
  exact wpAny_pure (h g2 fun b o hb e => he2 b o hb (hs1.extBut b o hb (Heap.get?_push_of_some _ e)))
end
end HX
namespace HX
open PySem L2 L2H HotX
/-- zip of two lists, walked while an exception is handled -/
theorem turn_zipH {P : Program} {w : World} {K : PySem.W.Frag} {elts : List Expr} {kk : Nat} {tpos : Pos} {a b z TI TO i1 i2 : Addr} (D : ZipApart z TI TO i1 i2 a b) :
    TurnH P w K (.Tuple elts kk tpos) (Itz K a b) [z, TI, TO, i1, i2] z (fun i h => IsZip h z TI TO .none ∧ IsPair h TI (.ref i1) (.ref i2) ∧ (∃ x y, IsPair h TO x y) ∧ h.IsListIter i1 a i ∧ h.IsListIter i2 b i) := by
  have T := turn_zip (P := P) (w := w) (K := K) (elts := elts) (kk := kk) (tpos := tpos) D
  refine ⟨T.mem, T.obj, T.keep, ?_, ?_, T.self⟩
  · intro X hP hw hK hc i pins s σ H E I hf st hg
    subst hP hw hK
    obtain ⟨hz, hTI, ⟨x0, y0, hTO⟩, h1, h2⟩ := st
    obtain ⟨xs, ys, x, y, hqx, hqy, hx, hy⟩ := hg
    obtain ⟨its, rv, p, _⟩ := I.list hqx
    obtain ⟨its2, rv2, p2, _⟩ := I.list hqy
    obtain ⟨u, hu, ru⟩ := rv.get hx
    obtain ⟨u2, hu2, ru2⟩ := rv2.get hy
    have hzl : z < s.heap.objs.size := Heap.lt_size hz
    refine wpAny_pyNext_zip_item D hz hTI hTO h1 h2 p.isList p2.isList (x := u) (y := u2) (by simpa using hu) (by simpa using hu2) fun g z' TO' h1' h2' hT hsz hk => ?_
    refine ⟨_, rfl, wpAny_letOwnedTupleGo_zip (s := { s with heap := g }) z' fun g2 z2 sb => ?_⟩
    have hT2 : g2.get? s.heap.objs.size = some { cls := .type "tuple", data := .seq #[u, u2] } := (sb.2 _ (Nat.ne_of_gt hzl)).trans hT
    have new : ObjOk X.prog X.w (upd H s.heap.objs.size (.tup [x, y])) g2 s.heap.objs.size (.tup [x, y]) :=
      ⟨by show 2 ≤ sizeLine; decide, [u, u2], .cons ru (.cons ru2 .nil), ⟨_, hT2, rfl, _, rfl⟩⟩
    have I1 : Inv X pins σ (upd H s.heap.objs.size (.tup [x, y])) { s with heap := g2 } :=
      I.turnedNew (t' := s.toks) (ch := [z, TI, TO, i1, i2]) (fun c o hb q => (sb.2 c (fun q' => hb (by simp [q']))).trans (hk c o (fun q' => hb (by simp [q'])) (fun q' => hb (by simp [q'])) (fun q' => hb (by simp [q'])) (fun q' => hb (by simp [q'])) q)) hf (Nat.le_refl _) new
    refine ⟨.ref s.heap.objs.size, _, I1, rfl, ⟨_, x, y, rfl, I.hok.fresh (Nat.le_refl _), rfl, fun l hl => by rw [I.list_inj hl hqx]; exact hx, fun l hl => by rw [I.list_inj hl hqy]; exact hy⟩, ⟨z2, ?_, ⟨u, u2, ?_⟩, ?_, ?_⟩, fun c hcm => ?_⟩
    · exact (sb.2 _ D.TIz).trans (hk _ _ D.TIz D.TITO D.TIi1 D.TIi2 hTI)
    · exact (sb.2 _ D.TOz).trans TO'
    · exact h1'.at fun o q => (sb.2 _ D.i1z).trans q
    · exact h2'.at fun o q => (sb.2 _ D.i2z).trans q
    · have hlt : c < s.heap.objs.size := by
        have e' : c = z ∨ c = TI ∨ c = TO ∨ c = i1 ∨ c = i2 := by simpa using hcm
        rcases e' with q | q | q | q | q
        · rw [q]; exact hzl
        · rw [q]; exact Heap.lt_size hTI
        · rw [q]; exact Heap.lt_size hTO
        · rw [q]; obtain ⟨_, e1, _⟩ := h1; exact Heap.lt_size e1
        · rw [q]; obtain ⟨_, e2, _⟩ := h2; exact Heap.lt_size e2
      rw [upd_ne (Nat.ne_of_lt hlt)]
      exact (hf c hcm).1
  · intro X hP hw hK hc i pins s σ H E I hf st hg
    subst hP hw hK
    obtain ⟨hz, hTI, ⟨x0, y0, hTO⟩, h1, h2⟩ := st
    obtain ⟨xs, ys, hqx, hqy, hend⟩ := hg
    obtain ⟨its, rv, p, _⟩ := I.list hqx
    obtain ⟨its2, rv2, p2, _⟩ := I.list hqy
    have l1 := rv.length
    have l2 := rv2.length
    have he : its.toArray[i]? = none ∨ its2.toArray[i]? = none := by
      rcases hend with q | q
      · exact .inl (by simp; omega)
      · exact .inr (by simp; omega)
    obtain ⟨pp, ⟨hh, v1, e1, c1⟩, hp⟩ := hc
    have hot : HotAt X.A pp.1 s.heap := ⟨hh, pp.2, v1, (I.pin pp (List.mem_append_left _ hp)).1, e1, c1⟩
    have np : ∀ c ∈ [z, TI, TO, i1, i2], pp.1 ≠ c := fun c hcm => (hf c hcm).2.2.2.2.2 pp (List.mem_append_left _ hp)
    exact pyNext_zip_stop hot (np z (by simp)) (np TO (by simp)) (np i1 (by simp)) (np i2 (by simp)) D hz hTI hTO h1 h2 p.isList p2.isList he fun g hk => ⟨rfl, I.turnedL (t' := s.toks) (ch := [z, TI, TO, i1, i2]) (fun c o hb q =>
      hk c o (fun q' => hb (by simp [q'])) (fun q' => hb (by simp [q'])) (fun q' => hb (by simp [q'])) (fun q' => hb (by simp [q'])) q) hf⟩
theorem pi_zipH {X : Cx} {e e2 : Expr} {ta : TA} {p pos tpos : Pos} {elts : List Expr} {kk : Nat} (hg : Gl X "zip") (hm : X.mg "zip" = none) (ha : PA X [e, e2] ta)
    (hs : starEach [e, e2] X.env = (false, eval e X.env) :: starEach [e2] X.env := by rfl) (hpl : (backTo pos (starEach [e2] X.env)).any (·.1) = false := by rfl) :
    PIH X (.Tuple elts kk tpos) (.Call (.Name "zip" p) [e, e2] [] pos) (iZip X.K ta) := by
  refine ⟨fun pins s σ H R I h => ?_⟩
  refine PyProof.Rows.Call_ (ld_blt I hg hm PyProof.Rows.boot_zip (PyProof.Rows.callWith_type1 (thn (ha.run pos pins s σ H _ I h) fun us s1 ⟨vs, H1, I1, r1, q1⟩ => ?_) hs hpl))
  obtain ⟨a, b, xs, ys, ex, hqx, hqy, q⟩ := q1
  subst ex
  obtain ⟨u1, u2, rfl, ra, rb⟩ := Vals.two r1
  cases ra
  cases rb
  obtain ⟨its, rv, p1, _⟩ := I1.list hqx
  obtain ⟨its2, rv2, p2, _⟩ := I1.list hqy
  refine call_zip_2 p1.isList p2.isList fun g hz hTI hTO h1 h2 hsz hk => wpAny_pyIter_zip hz ?_
  have I2 : Inv X pins σ H1 { s1 with heap := g } := I1.kept (t' := s1.toks) hk
  refine ⟨s1.heap.objs.size + 4, [s1.heap.objs.size + 4, s1.heap.objs.size + 2, s1.heap.objs.size + 3, s1.heap.objs.size, s1.heap.objs.size + 1], _, _, H1, rfl, I2, turn_zipH (PySem.W.ktu_apart s1.heap.objs.size a b p1.lt p2.lt), ⟨hz, hTI, ⟨_, _, hTO⟩, h1, h2⟩, fun c hcm => ?_, q⟩
  have hle : s1.heap.objs.size ≤ c := by
    have e' : c = s1.heap.objs.size + 4 ∨ c = s1.heap.objs.size + 2 ∨ c = s1.heap.objs.size + 3 ∨ c = s1.heap.objs.size ∨ c = s1.heap.objs.size + 1 := by simpa using hcm
    rcases e' with z | z | z | z | z <;> (rw [z]; first | exact Nat.le_add_right _ _ | exact Nat.le_refl _)
  exact I1.fpOk hle (I1.hok.fresh hle)
/-- (a, b, ..) = a tuple -/
theorem pg_tupH {X : Cx} {es : List Expr} {k : Nat} {t : TGs} {n : Nat} {pos : Pos} (hc : HotC X) (h : PGs X es t)
    (hn : (assignEach es X.env).length = n := by rfl) (hst : (assignEach es X.env).findIdx? (·.1) = none := by rfl) : PG X (.Tuple es k pos) (gTup X.K n t) := by
  refine ⟨fun pins s σ H v u Q I r hw => ?_⟩
  obtain ⟨a, xs, e1, hq, hl, hw⟩ := hw
  subst e1
  cases r
  obtain ⟨its, rv, ht, hz⟩ := I.tuple hq
  obtain ⟨x1, hot⟩ := hc.at I
  refine tup_apart hot ht (by simp [hn, ← hl, rv.length]) hst fun g hx => ?_
  have I1 : Inv X pins σ H { s with heap := g } := I.kept (t' := s.toks) fun b o e => hx b o (Nat.ne_of_lt (Heap.lt_size e)) e
  exact h.run pins _ σ H xs _ Q I1 (by simpa using rv) hw
/-- the block of a comprehension that runs while an exception is handled -/
abbrev blkH (X : Cx) (s : Shared) (H : Hp) (scope : Scope) (cenv : Env) (fp : List Addr) : Cx := { X.blk s H scope cenv fp with pn := X.pn, calm := false }
theorem blk_hot {X : Cx} {pins : List (Addr × Obj)} {σ σ' : L2.St} {H : Hp} {s s' : Shared} {scope : Scope} {cenv : Env} {fp : List Addr} (I : Inv X pins σ H s) (J : Inv (X.blk s H scope cenv fp) [] σ' H s') (hL : cenv.locals = s.heap.objs.size) (k : ∀ b o, s.heap.get? b = some o → s'.heap.get? b = some o) :
    Inv (blkH X s H scope cenv fp) [] σ' H s' := by
  refine ⟨⟨J.ok.mod, J.ok.kind, J.ok.glob, J.ok.blt, J.ok.above, J.ok.inj, J.ok.has, J.ok.cab, (fun z => Bool.noConfusion (show false = true from z)), J.ok.frames, J.ok.stk, J.ok.exf, J.ok.bs, J.ok.bsz, J.ok.noex, J.ok.exfs, J.ok.funs, J.ok.frf⟩,
    J.os, J.bare, J.base, J.loc, J.cell, J.free, J.freeC, fun p hp => ?_, J.hok, J.len⟩
  have hp : p ∈ X.pn := by simpa using (show p ∈ X.pn ++ [] from hp)
  obtain ⟨e, n, ne, nf, d⟩ := I.pin p (List.mem_append_left _ hp)
  refine ⟨k _ _ e, n, ?_, fun z => ?_, d⟩
  · show p.1 ≠ cenv.locals
    rw [hL]
    exact Nat.ne_of_lt (Heap.lt_size e)
  · exact (List.mem_cons.mp (I.stkSub p.1 z)).elim ne nf

section
variable {X : Cx}
theorem lc_hot {pins : List (Addr × Obj)} {s : Shared} {σ : L2.St} {H : Hp} {elt tg iter : Expr} {ifs : List Expr} {scope : Scope} {own : List (Str × Nat)} {pos pos' : Pos} {wi : TI} {g : TG} {tt : TT} {te : TE} {Q : VK}
    (hc : HotC X) (hN : X.N.Nodup) (I : Inv X pins σ H s) (hi : PIH X tg iter wi) (ok : BlkOk X.N X.env.scope scope own)
    (hg : ∀ (s : Shared) (H : Hp) (C : Addr) (cl : List (Str × Addr)) (fp : List Addr), PG (blkH X s H scope (compEnvC scope cl C X.env) fp) tg g) (ht : ∀ (s : Shared) (H : Hp) (C : Addr) (cl : List (Str × Addr)) (fp : List Addr), PTs (blkH X s H scope (compEnvC scope cl C X.env) fp) ifs tt)
    (he : ∀ (s : Shared) (H : Hp) (C : Addr) (cl : List (Str × Addr)) (fp : List Addr), PE (blkH X s H scope (compEnvC scope cl C X.env) fp) elt te) (hs : ∀ x, foldedSetIterable iter X.env x = pure x)
    (h : tLc wi g tt te (own.map (·.2)) σ H Q) :
    wpAny (model X.prog X.w) X.A (comprehension (.ListComp elt [⟨tg, iter, ifs, 0⟩] scope pos) scope X.env pos' (newList []) false (eval iter X.env) none) (EP X pins σ Q) X.xe s := by
  have hfree : ∀ y ∈ scope.names, y.2 = .free → ∃ c, X.env.cells.lookup y.1 = some c := fun y hy e => I.ok.has _ (ok.free y hy e)
  refine wpAny_comprehension_free (use := none) rfl hs (closure_ok hfree) ok.kind (fun y hy e => by rw [ok.uniq y hy, e]) (thn (hi.run pins s σ H _ I h) fun xv s1 hx => thn hx fun itv s2 h2 => ?_)
  obtain ⟨it, fp, tn, J, H2, e, I2, T, st2, f2, q⟩ := h2
  subst e
  refine wpAny_newObj_type (newEnv_comp ?_) (by show 0 ≤ sizeLine; decide)
  generalize hD : s2.heap.objs.size = D
  obtain ⟨W, ⟨m0, w0⟩, turn⟩ := q D (I2.hok.fresh (Nat.le_of_eq hD))
  generalize hs3 : ({ s2 with heap := s2.heap.push { cls := .type "list", data := .seq ([] : List Value).toArray } } : Shared) = s3
  have h3 : s3.heap = s2.heap.push { cls := .type "list", data := .seq ([] : List Value).toArray } := by rw [← hs3]
  have I3 : Inv X pins σ (upd H2 D (.lst [])) s3 := by
    rw [← hs3, ← hD]
    exact I2.laid (t' := s2.toks) (fun b o e => Heap.get?_push_of_some _ e) (Nat.le_refl _) ⟨Nat.zero_le _, [], 0, .nil, Heap.get?_push_size _ rfl⟩
  have sz : ∀ b ∈ fp, b < s2.heap.objs.size := fun b hb => by
    obtain ⟨o, e, _⟩ := T.obj _ _ st2 b hb
    exact Heap.lt_size e
  have f3 : ∀ b ∈ fp, FpOk X pins (upd H2 D (.lst [])) b ∧ b < s3.heap.objs.size := fun b hb => by
    have hlt := sz b hb
    refine ⟨⟨?_, (f2 b hb).2⟩, by rw [h3, Heap.size_push]; exact Nat.lt_succ_of_lt hlt⟩
    rw [upd_ne (by rw [← hD]; exact Nat.ne_of_lt hlt)]
    exact (f2 b hb).1
  have st3 : tn 0 s3.heap := T.keep _ _ _ st2 fun b _ o e => by rw [h3]; exact Heap.get?_push_of_some _ e
  have kp : ∀ b o, s3.heap.get? b = some o → (pushCells (s3.heap.push { cls := .type "dict", data := .dict #[] }) scope.names).get? b = some o := fun b o e => pushCells_keeps _ _ _ _ (Heap.get?_push_of_some _ e)
  have I4 := blk_hot I3 (block_start I3 ok hN f3) rfl kp
  have pg := hg s3 (upd H2 D (.lst [])) s3.heap.objs.size (cellsFrom (s3.heap.objs.size + 1) scope.names (cloFrom X.env.cells scope.names [])) fp
  have pt := ht s3 (upd H2 D (.lst [])) s3.heap.objs.size (cellsFrom (s3.heap.objs.size + 1) scope.names (cloFrom X.env.cells scope.names [])) fp
  have pe := he s3 (upd H2 D (.lst [])) s3.heap.objs.size (cellsFrom (s3.heap.objs.size + 1) scope.names (cloFrom X.env.cells scope.names [])) fp
  show codeAny _ _ (.compStart (.ListComp elt [⟨tg, iter, ifs, 0⟩] scope pos) 0 (.ref it) (.ref D) (compEnvC scope (cellsFrom (s3.heap.objs.size + 1) scope.names (cloFrom X.env.cells scope.names [])) s3.heap.objs.size X.env)) (compPost (model X.prog X.w) X.A X.xe none (EP X pins σ Q) (.ref D) s3.heap.objs.size) { s3 with heap := pushCells (s3.heap.push { cls := .type "dict", data := .dict #[] }) scope.names }
  generalize hce : compEnvC scope (cellsFrom (s3.heap.objs.size + 1) scope.names (cloFrom X.env.cells scope.names [])) s3.heap.objs.size X.env = ce at I4 pg pt pe ⊢
  have cL : ce.locals = s3.heap.objs.size := by subst hce; rfl
  generalize hH3 : upd H2 D (.lst []) = H3 at I3 I4 pg pt pe w0 f3
  generalize hs4 : ({ s3 with heap := pushCells (s3.heap.push { cls := .type "dict", data := .dict #[] }) scope.names } : Shared) = s4 at I4 ⊢
  have st4 : tn 0 s4.heap := T.keep _ _ _ st3 fun b _ o e => by rw [← hs4]; exact kp b o e
  have hcB : HotC (blkH X s3 H3 scope ce fp) := hc
  have stat : ∀ {σ' : L2.St} {H' : Hp} {s' : Shared}, Inv (blkH X s3 H3 scope ce fp) [] σ' H' s' → (∀ b ∈ fp, H' b = none) → ∀ b ∈ fp, FpOk (blkH X s3 H3 scope ce fp) [] H' b := fun {σ' H' s'} I' hn b hb =>
    ⟨hn b hb, (I'.ok.exf b hb).1, I'.ok.exfs b hb, .inl hb, fun x c e => (I'.ok.exf b hb).2 x c e, fun p hp => (f3 b hb).1.2.2.2.2.2 p (List.mem_append_left _ (by simpa using (show p ∈ X.pn ++ [] from hp)))⟩
  have loop : codeAny (model X.prog X.w) X.A (.compLoop (.ListComp elt [⟨tg, iter, ifs, 0⟩] scope pos) 0 (.ref it) (.ref D) ce) (compPost (model X.prog X.w) X.A X.xe none (EP X pins σ Q) (.ref D) s3.heap.objs.size) s4 := by
    refine compLoop_any (fun n s' => ∃ i H', Inv (blkH X s3 H3 scope ce fp) [] (wipe σ (own.map (·.2))) H' s' ∧ tn i s'.heap ∧ (∀ b ∈ fp, H' b = none) ∧ W i n H') ?_ m0 ⟨0, H3, I4, st4, fun b hb => (f3 b hb).1.1, w0⟩
    rintro n s5 ⟨i, H5, I5, st5, n5, w5⟩
    rcases turn i n H5 w5 with ⟨stop, qq⟩ | ⟨go, Nx, hNx, step⟩
    · refine thnF (T.done (blkH X s3 H3 scope ce fp) rfl rfl rfl hcB i [] s5 _ H5 (fun _ _ => False) I5 (stat I5 n5) st5 stop) fun r s6 ⟨hr, I6⟩ => ?_
      subst hr
      have I7 : Inv X pins σ H5 s6 := I3.call' (ch := fp) I6.os I6.base I6.hok I6.bare fun b hb => ⟨(f3 b hb).1.2.2.2.1, (f3 b hb).1.2.1, (f3 b hb).1.2.2.2.2.1, (f3 b hb).1.2.2.2.2.2⟩
      have nC : H5 s3.heap.objs.size = none := by
        have z : H5 ce.locals = none := I6.free
        rw [cL] at z
        exact z
      obtain ⟨m, hn, _⟩ := I6.loc
      have hn : s6.heap.Ns ce.locals m := hn
      rw [cL] at hn
      obtain ⟨f0, f1, ff, f3', f4, f5⟩ := I3.fpOk (H' := H5) (Nat.le_refl _) nC
      exact ⟨m, hn, fun g sb => ⟨.ref D, H5, I7.turned (t' := s6.toks) (fun b o hb e => (sb.2 b hb).trans e) f0 f1 f3' f4 f5, rfl, qq⟩⟩
    · refine thnF (T.item (blkH X s3 H3 scope ce fp) rfl rfl rfl hcB i [] s5 _ H5 (fun _ _ => False) I5 (stat I5 n5) st5 go) fun r s6 ⟨u, hr, h6⟩ => ?_
      subst hr
      refine thnF h6 fun _ s7 ⟨x, H7, I7, r7, y7, st7, n7⟩ => ?_
      refine thnF (pg.run _ s7 _ H7 x u _ (I7.pinned (stat I7 n7) (T.obj _ _ st7)) r7 (step x H7 y7)) fun _ s8 ⟨σ8, H8, I8, hw8, q8⟩ => ?_
      refine thnF (pt.run _ s8 σ8 H8 _ I8 q8) fun b s9 ⟨H9, I9, q9⟩ => ?_
      have fin : ∀ {s' : Shared} {H' : Hp}, Inv (blkH X s3 H3 scope ce fp) ([] ++ pinsAt fp s7.heap) σ8 H' s' → Nx H' → ∃ m, m < n ∧ ∃ i H', Inv (blkH X s3 H3 scope ce fp) [] (wipe σ (own.map (·.2))) H' s' ∧ tn i s'.heap ∧ (∀ b ∈ fp, H' b = none) ∧ W i m H' := fun {s' H'} I' nx => by
        obtain ⟨m', hm, w'⟩ := hNx H' nx
        have pin' : ∀ b ∈ fp, ∀ o, s7.heap.get? b = some o → s'.heap.get? b = some o ∧ H' b = none := fun b hb o e =>
          let z := I'.pin (b, o) (List.mem_append_right _ (List.mem_append_right _ (mem_pinsAt hb e)))
          ⟨z.1, z.2.1⟩
        refine ⟨m', hm, i + 1, H', (I'.unpinned (pins := [])).weak (by rw [← hw8, wipe_length]) (fun j v e => ?_), T.keep _ _ _ st7 fun b hb o e => (pin' b hb o e).1, fun b hb => ?_, w'⟩
        · rw [← hw8] at e
          exact (wipe_some e).1
        · obtain ⟨o, e, _⟩ := T.obj _ _ st7 b hb
          exact (pin' b hb o e).2
      cases b with
      | false =>
        simp only [Bool.false_eq_true, if_false] at q9 ⊢
        exact fin I9 q9
      | true =>
        simp only [if_true] at q9 ⊢
        refine thnF (pe.run _ s9 σ8 H9 _ I9 q9) fun z s10 ⟨yv, H10, I10, r10, acc, hD10, hz10, nx⟩ => ?_
        exact app_ok (X := blkH X s3 H3 scope ce fp) I10 hD10 hz10 r10 fun s11 I11 => fin I11 nx
  exact codeAny_compStart_list loop (T.self X.A 0 _ _ _ st4 loop)
theorem pe_lcH {elt tg iter : Expr} {ifs : List Expr} {scope : Scope} {own : List (Str × Nat)} {pos : Pos} {wi : TI} {g : TG} {tt : TT} {te : TE} (hc : HotC X) (hN : X.N.Nodup) (hi : PIH X tg iter wi) (ok : BlkOk X.N X.env.scope scope own)
    (hg : ∀ (s : Shared) (H : Hp) (C : Addr) (cl : List (Str × Addr)) (fp : List Addr), PG (blkH X s H scope (compEnvC scope cl C X.env) fp) tg g) (ht : ∀ (s : Shared) (H : Hp) (C : Addr) (cl : List (Str × Addr)) (fp : List Addr), PTs (blkH X s H scope (compEnvC scope cl C X.env) fp) ifs tt)
    (he : ∀ (s : Shared) (H : Hp) (C : Addr) (cl : List (Str × Addr)) (fp : List Addr), PE (blkH X s H scope (compEnvC scope cl C X.env) fp) elt te) (hs : ∀ x, foldedSetIterable iter X.env x = pure x := by intro _; rfl) :
    PE X (.ListComp elt [⟨tg, iter, ifs, 0⟩] scope pos) (tLc wi g tt te (own.map (·.2))) := by
  refine ⟨fun pins s σ H Q I h => ?_⟩
  rw [eval_ListComp]
  exact lc_hot hc hN I hi ok hg ht he hs h
end
end HX
namespace DL
open PySem L2 L2H HX
theorem takes0N {X : Cx} : L2N.Takes X (fun _ _ _ _ => False) := fun _ _ x => by
  obtain ⟨_, _, _, _, _, _, _, _, _, _, _, _, _, _, _, _, z⟩ := x
  exact z.elim
/-! ### zip and enumerate over lists -/
def zipD (ds es : List Dt) : List Dt := List.zipWith (fun d e => PyData.tuple [d, e]) ds es
theorem zipD_get {ds es : List Dt} {i : Nat} {d : Dt} (h : (zipD ds es)[i]? = some d) : ∃ x y, ds[i]? = some x ∧ es[i]? = some y ∧ d = .tuple [x, y] := by
  unfold zipD at h
  rw [List.getElem?_zipWith] at h
  split at h
  · rename_i x y h1 h2
    exact ⟨x, y, h1, h2, (Option.some.inj h).symm⟩
  · cases h
theorem gives_new {κ : Kd} {B : Fr} {σ : L2.St} {H G : Hp} {e : En} (S : SR κ B σ H G e) {T : Addr} {xs : List V} {ds : List Dt} (nT : H T = none) (hd : DRs G xs ds) : ∃ G', SR κ B σ (upd H T (.tup xs)) G' e ∧ Ex G G' ∧ DR G' (.ref T) (.tuple ds) ∧ (∀ a o, H a = some o → upd H T (.tup xs) a = some o) ∧ ∀ a, H a ≠ none → G a = none → G' a = none :=
  ⟨upd G T (.tup xs), S.alloc nT (.tup xs), Ex.new (S.gnone nT), .tup upd_same (DRs.ex (Ex.new (S.gnone nT)) hd), fun a o q => by
    rw [upd_ne (ne_of_none q nT)]
    exact q, fun a q1 q2 => by
    rw [upd_ne fun z => q1 (by rw [z]; exact nT)]
    exact q2⟩
theorem gives_z {κ : Kd} {K : PySem.W.Frag} {G0 : Hp} {a b : Addr} {vs ws : List V} {ds es : List Dt} (h : G0 a = some (.lst vs)) (hd : DRs G0 vs ds) (h' : G0 b = some (.lst ws)) (he : DRs G0 ws es) : GivesA κ (Itz K a b) G0 (zipD ds es) := by
  intro B σ H G e S x i
  have q1 : SqL K H a vs := S.sql (x _ _ h)
  have q2 : SqL K H b ws := S.sql (x _ _ h')
  refine ⟨fun d hi => ?_, fun hi => ⟨vs, ws, q1, q2, ?_⟩⟩
  · obtain ⟨dx, dy, g1, g2, rfl⟩ := zipD_get hi
    obtain ⟨vx, e1, r1⟩ := DRs.get hd g1
    obtain ⟨vy, e2, r2⟩ := DRs.get he g2
    refine ⟨⟨vs, ws, vx, vy, q1, q2, e1, e2⟩, fun y H' hy => ?_⟩
    obtain ⟨T, x', y', rfl, nT, rfl, k1, k2⟩ := hy
    have z1 := k1 vs q1
    have z2 := k2 ws q2
    rw [e1] at z1
    rw [e2] at z2
    cases z1
    cases z2
    exact gives_new S nT (.cons (DR.ex x r1) (.cons (DR.ex x r2) .nil))
  · unfold zipD at hi
    rw [List.length_zipWith] at hi
    rw [DRs.length hd, DRs.length he]
    omega
def enumD : Nat → List Dt → List Dt
  | _, [] => []
  | i, d :: ds => .tuple [.int i, d] :: enumD (i + 1) ds
theorem enumD_get : ∀ {ds : List Dt} {n i : Nat} {d : Dt}, (enumD n ds)[i]? = some d → ∃ x, ds[i]? = some x ∧ d = .tuple [.int ((n + i : Nat) : Int), x]
  | [], _, _, _, h => by simp [enumD] at h
  | x :: ds, n, 0, d, h => ⟨x, rfl, by simpa [enumD] using h.symm⟩
  | x :: ds, n, i + 1, d, h => by
    obtain ⟨y, h1, h2⟩ := enumD_get (ds := ds) (n := n + 1) (i := i) (d := d) (by simpa [enumD] using h)
    exact ⟨y, by simpa using h1, by rw [h2, show n + 1 + i = n + (i + 1) by omega]⟩
theorem enumD_length : ∀ {ds : List Dt} {n : Nat}, (enumD n ds).length = ds.length
  | [], _ => rfl
  | _ :: ds, n => by simp [enumD, enumD_length (ds := ds)]
theorem gives_e {κ : Kd} {K : PySem.W.Frag} {G0 : Hp} {a : Addr} {vs : List V} {ds : List Dt} (h : G0 a = some (.lst vs)) (hd : DRs G0 vs ds) : GivesA κ (Ite K a) G0 (enumD 0 ds) := by
  intro B σ H G e S x i
  have q1 : SqL K H a vs := S.sql (x _ _ h)
  refine ⟨fun d hi => ?_, fun hi => ⟨vs, q1, by rw [enumD_length] at hi; rw [DRs.length hd]; exact hi⟩⟩
  obtain ⟨dx, g1, rfl⟩ := enumD_get hi
  obtain ⟨vx, e1, r1⟩ := DRs.get hd g1
  refine ⟨⟨vs, vx, q1, e1⟩, fun y H' hy => ?_⟩
  obtain ⟨T, x', rfl, nT, rfl, k1⟩ := hy
  have z1 := k1 vs q1
  rw [e1] at z1
  cases z1
  rw [Nat.zero_add]
  exact gives_new S nT (.cons (.int _) (.cons (DR.ex x r1) .nil))
def asZip : List Dt → En → R (List Dt)
  | [.list ds, .list es], e => .ok (zipD ds es) e
  | _, _ => .bad
def fZip (fs : En → R (List Dt)) : En → R (List Dt) := fun e => (fs e).bind asZip
def asEnum : Dt → En → R (List Dt)
  | .list ds, e => .ok (enumD 0 ds) e
  | _, _ => .bad
def fEnum (fa : En → R Dt) : En → R (List Dt) := fun e => (fa e).bind asEnum
/-- walks while an exception is handled -/
structure DIH (X : Cx) (κ : Kd) (W : WX) (tg iter : Expr) (f : En → R (List Dt)) : Prop where
  pi : PIH X tg iter (fun σ H Rr => ∃ (B : Fr) (G : Hp) (e : En), SR κ B σ H G e ∧ wpR X κ B W σ G (f e) (fun ds H' G' _ => ∀ J, GivesA κ J G' ds → Rr J H'))
theorem PIH.imp {X : Cx} {tg iter : Expr} {t t' : TI} (h : PIH X tg iter t) (k : ∀ σ H Q, t' σ H Q → t σ H Q) : PIH X tg iter t' := ⟨fun pins s σ H R I q => h.run pins s σ H R I (k _ _ _ q)⟩
section
variable {X : Cx} {κ : Kd} {W : WX} {e a b c tg : Expr} {fa fb fc : En → R Dt} {pos : Pos}
theorem zip_imp {fs : En → R (List Dt)} {σ : L2.St} {H : Hp} {Q : It → Hp → Prop} (q : ∃ (B : Fr) (G : Hp) (e : En), SR κ B σ H G e ∧ wpR X κ B W σ G (fZip fs e) (fun ds H' G' _ => ∀ J, GivesA κ J G' ds → Q J H')) : iZip X.K (tDA X κ W fs) σ H Q := by
  obtain ⟨B, G, en, S, q⟩ := q
  refine ⟨B, G, en, S, q.of_bind.mono fun ds H1 G1 e1 S1 x1 q1 vs hv => ?_⟩
  unfold asZip at q1
  split at q1
  · cases hv with
    | cons h1 h2 =>
      cases h2 with
      | cons h3 h4 =>
        cases h4
        cases h1 with
        | lst g1 g2 =>
          cases h3 with
          | lst g3 g4 => exact ⟨_, _, _, _, rfl, S1.sql g1, S1.sql g3, q1 H1 G1 S1 (Ex.refl G1) _ (gives_z g1 g2 g3 g4)⟩
  · exact q1.elim
theorem di_zip {p tpos : Pos} {elts : List Expr} {kk : Nat} {fs : En → R (List Dt)} (hg : Gl X "zip") (hm : X.mg "zip" = none) (ha : DA X κ W [a, b] fs) (hs : starEach [a, b] X.env = (false, eval a X.env) :: starEach [b] X.env := by rfl) (hpl : (backTo pos (starEach [b] X.env)).any (·.1) = false := by rfl) :
    DI X κ W (.Tuple elts kk tpos) (.Call (.Name "zip" p) [a, b] [] pos) (fZip fs) := ⟨PI.imp (pi_zip hg hm ha.pa hs hpl) fun _ _ _ q => zip_imp q⟩
theorem di_zipH {p tpos : Pos} {elts : List Expr} {kk : Nat} {fs : En → R (List Dt)} (hg : Gl X "zip") (hm : X.mg "zip" = none) (ha : DA X κ W [a, b] fs) (hs : starEach [a, b] X.env = (false, eval a X.env) :: starEach [b] X.env := by rfl) (hpl : (backTo pos (starEach [b] X.env)).any (·.1) = false := by rfl) :
    DIH X κ W (.Tuple elts kk tpos) (.Call (.Name "zip" p) [a, b] [] pos) (fZip fs) := ⟨PIH.imp (pi_zipH hg hm ha.pa hs hpl) fun _ _ _ q => zip_imp q⟩
theorem di_enum {p tpos : Pos} {elts : List Expr} {kk : Nat} (hg : Gl X "enumerate") (hm : X.mg "enumerate" = none) (ha : DE X κ W a fa) (hs : starEach [a] X.env = [(false, eval a X.env)] := by rfl) :
    DI X κ W (.Tuple elts kk tpos) (.Call (.Name "enumerate" p) [a] [] pos) (fEnum fa) := ⟨PI.imp (pi_enum hg hm (pa_cons ha.pe pa_nil hs) hs) fun σ H Q q => by
  obtain ⟨B, G, en, S, q⟩ := q
  refine ⟨B, G, en, S, q.of_bind.mono fun d H1 G1 e1 S1 x1 q1 v hv => ?_⟩
  cases hv with
  | lst h1 h2 => exact ⟨_, _, rfl, S1.sql h1, q1 H1 G1 S1 (Ex.refl G1) _ (gives_e h1 h2)⟩
  | _ => exact q1.elim⟩
/-! ### a comprehension while an exception is handled -/
theorem dv_tupH {vs : List Nat} {ts : List Expr} {k : Nat} {g : List Dt → En → Option En} {n : Nat} (hc : HotC X) (h : DVs X κ vs ts g) (hn : (assignEach ts X.env).length = n := by rfl) (hst : (assignEach ts X.env).findIdx? (·.1) = none := by rfl) : DV X κ vs (.Tuple ts k pos) (gT n g) := ⟨by
  refine PG.imp (pg_tupH hc h.pgs hn hst) fun v σ H Q q => ?_
  obtain ⟨B, G, en, d, e', S, hd, hg, k⟩ := q
  cases hd with
  | tup h1 h2 =>
    rename_i ds
    have hg : (if ds.length = n then g ds en else none) = some e' := hg
    by_cases hl : ds.length = n
    · rw [if_pos hl] at hg
      exact ⟨_, _, rfl, S.sqt h1, (DRs.length h2).trans hl, B, G, en, ds, e', S, h2, hg, k⟩
    · rw [if_neg hl] at hg; cases hg
  | _ => cases hg⟩
theorem de_lcH {elt iter : Expr} {ifs : List Expr} {scope : Scope} {own : List (Str × Nat)} {fi : En → R (List Dt)} {g : Dt → En → Option En} {ft : En → R Bool} {fe : En → R Dt} (hc : HotC X) (hN : X.N.Nodup) (hi : DIH X κ W tg iter fi) (ok : BlkOk X.N X.env.scope scope own)
    (hg : ∀ (s : Shared) (H : Hp) (C : Addr) (cl : List (Str × Addr)) (fp : List Addr), DV (blkH X s H scope (PySem.compEnvC scope cl C X.env) fp) κ (own.map (·.2)) tg g) (ht : ∀ (s : Shared) (H : Hp) (C : Addr) (cl : List (Str × Addr)) (fp : List Addr), DTs (blkH X s H scope (PySem.compEnvC scope cl C X.env) fp) κ W0 ifs ft)
    (he : ∀ (s : Shared) (H : Hp) (C : Addr) (cl : List (Str × Addr)) (fp : List Addr), DE (blkH X s H scope (PySem.compEnvC scope cl C X.env) fp) κ W0 elt fe) (hs : ∀ x, foldedSetIterable iter X.env x = pure x := by intro _; rfl) :
    DE X κ W (.ListComp elt [⟨tg, iter, ifs, 0⟩] scope pos) (fLc fi g ft fe (own.map (·.2))) :=
  ⟨PE.imp (pe_lcH (g := tGv κ (own.map (·.2)) g) (tt := tDT X κ W0 ft) (te := tD X κ W0 fe) hc hN hi.pi ok (fun s H C cl fp => (hg s H C cl fp).pg) (fun s H C cl fp => (ht s H C cl fp).pt) (fun s H C cl fp => (he s H C cl fp).pe) hs) fun σ H Q q => lc_imp q⟩
/-! ### methods of a text -/
def fM1 (g : Str → Dt → Option Dt) (fa fb : En → R Dt) : En → R Dt := fun e => (fa e).bind fun a e1 => match a with
  | .str s => (fb e1).bind fun b e2 => ret1 (g s b) e2
  | _ => .bad
def fM0 (g : Str → Option Dt) (fa : En → R Dt) : En → R Dt := fun e => (fa e).bind fun a e1 => match a with
  | .str s => ret1 (g s) e1
  | _ => .bad
def RM1 (κ : Kd) (r : V → List V → Hp → VK → Prop) (g : Str → Dt → Option Dt) : Prop := ∀ (B : Fr) σ H G e s y dy d Q, SR κ B σ H G e → DR G y dy → g s dy = some d → (∀ v H' G', SR κ B σ H' G' e → Ex G G' → DR G' v d → Q v H') → r (.str s) [y] H Q
def RM0 (κ : Kd) (r : V → List V → Hp → VK → Prop) (g : Str → Option Dt) : Prop := ∀ (B : Fr) σ H G e s d Q, SR κ B σ H G e → g s = some d → (∀ v H' G', SR κ B σ H' G' e → Ex G G' → DR G' v d → Q v H') → r (.str s) [] H Q
theorem de_m1 {r : V → List V → Hp → VK → Prop} {g : Str → Dt → Option Dt} (h : PE X e (tM1 r (tD X κ W fa) (tD X κ W fb))) (hg : RM1 κ r g) : DE X κ W e (fM1 g fa fb) := by
  refine ⟨PE.imp h fun σ H Q q => ?_⟩
  obtain ⟨B, G, en, S, q⟩ := q
  refine ⟨B, G, en, S, q.of_bind.mono fun a H1 G1 e1 S1 x1 q1 => fun v hv => ?_⟩
  split at q1
  · rename_i s
    cases hv
    refine ⟨⟨s, rfl⟩, B, G1, e1, S1, q1.of_bind.mono fun b H2 G2 e2 S2 x2 q2 => fun w hw => ?_⟩
    obtain ⟨d, e3, k⟩ := wp_ret1 q2 S2
    exact hg B σ H2 G2 e2 s w b d Q S2 hw e3 k
  · exact q1.elim
theorem de_m0 {r : V → List V → Hp → VK → Prop} {g : Str → Option Dt} (h : PE X e (tM0 r (tD X κ W fa))) (hg : RM0 κ r g) : DE X κ W e (fM0 g fa) := by
  refine ⟨PE.imp h fun σ H Q q => ?_⟩
  obtain ⟨B, G, en, S, q⟩ := q
  refine ⟨B, G, en, S, q.of_bind.mono fun a H1 G1 e1 S1 x1 q1 => fun v hv => ?_⟩
  split at q1
  · rename_i s
    cases hv
    obtain ⟨d, e3, k⟩ := wp_ret1 q1 S1
    exact ⟨⟨s, rfl⟩, hg B σ H1 G1 e1 s d Q S1 e3 k⟩
  · exact q1.elim
theorem drs_strs {G : Hp} : ∀ {ys : List Str}, DRs G (ys.map V.str) (ys.map PyData.str)
  | [] => .nil
  | y :: ys => .cons (.str y) drs_strs
theorem drs_of_strs {G : Hp} : ∀ {ys : List Str} {vs : List V}, DRs G vs (ys.map PyData.str) → vs = ys.map V.str
  | [], _, h => by cases h; rfl
  | y :: ys, _, h => by
    cases h with
    | cons h1 h2 =>
      cases h1
      rw [drs_of_strs h2]
      rfl
theorem new_strs {B : Fr} {σ : L2.St} {H G : Hp} {en : En} {ys : List Str} {Q : VK} (S : SR κ B σ H G en) (k : ∀ v H' G', SR κ B σ H' G' en → Ex G G' → DR G' v (.list (ys.map PyData.str)) → Q v H') : rNewStrs ys H Q := fun p hp =>
  k _ _ _ (S.alloc hp (.lst _)) (Ex.new (S.gnone hp)) (.lst upd_same drs_strs)
def splitD (a : Str) : Dt → Option Dt
  | .str b => if !(b.length == 0) && small a.length then some (.list ((Txt.split a b).map PyData.str)) else none
  | _ => none
theorem de_split {apos : Pos} (ha : DE X κ W a fa) (hb : DE X κ W b fb) (hs : starEach [b] X.env = [(false, eval b X.env)] := by rfl) (hbase : attributeBase a "split" X.env (eval a X.env) = eval a X.env := by rfl) (hline : (apos.endLine == pos.line) = true := by rfl) :
    DE X κ W (.Call (.Attribute a "split" apos) [b] [] pos) (fM1 splitD fa fb) := de_m1 (pe_split ha.pe hb.pe hs hbase hline) fun B σ H G e s y dy d Q S hy hg k => by
  unfold splitD at hg
  split at hg
  · rename_i t
    obtain ⟨c, rfl⟩ := ite_some hg
    rw [Bool.and_eq_true] at c
    cases hy
    refine ⟨s, t, rfl, rfl, by simpa using c.1, ?_, new_strs S k⟩
    have := small_le c.2
    rw [sizeLine_eq]
    omega
  · cases hg
def strsD : List Dt → Option (List Str)
  | [] => some []
  | .str s :: ds => (strsD ds).map (s :: ·)
  | _ :: _ => none
theorem strsD_some : ∀ {ds : List Dt} {ys : List Str}, strsD ds = some ys → ds = ys.map PyData.str
  | [], ys, h => by cases h; rfl
  | d :: ds, ys, h => by
    cases d with
    | str s =>
      have h : (strsD ds).map (s :: ·) = some ys := h
      cases z : strsD ds with
      | none => rw [z] at h; cases h
      | some zs =>
        rw [z] at h
        cases h
        rw [strsD_some z]
        rfl
    | _ => cases h
def joinS (a : Str) (ds : List Dt) : Option Dt := match strsD ds with
  | some ys => if decide ((ys.map (·.length)).sum + ys.length * a.length ≤ 16777216) then some (.str (Txt.join a ys)) else none
  | none => none
def joinD (a : Str) : Dt → Option Dt
  | .list ds => joinS a ds
  | .tuple ds => joinS a ds
  | _ => none
theorem de_join {apos : Pos} (ha : DE X κ W a fa) (hb : DE X κ W b fb) (hs : starEach [b] X.env = [(false, eval b X.env)] := by rfl) (hbase : attributeBase a "join" X.env (eval a X.env) = eval a X.env := by rfl) (hline : (apos.endLine == pos.line) = true := by rfl) :
    DE X κ W (.Call (.Attribute a "join" apos) [b] [] pos) (fM1 joinD fa fb) := de_m1 (pe_join ha.pe hb.pe hs hbase hline) fun B σ H G e s y dy d Q S hy hg k => by
  have key : ∀ {ds : List Dt}, joinS s ds = some d → ∃ ys, ds = ys.map PyData.str ∧ (ys.map (·.length)).sum + ys.length * s.length ≤ 16777216 ∧ d = .str (Txt.join s ys) := fun {ds} h => by
    unfold joinS at h
    split at h
    · rename_i ys hy
      obtain ⟨c, rfl⟩ := ite_some h
      exact ⟨ys, strsD_some hy, of_decide_eq_true c, rfl⟩
    · cases h
  cases hy with
  | lst h1 h2 =>
    obtain ⟨ys, rfl, hl, rfl⟩ := key hg
    exact ⟨s, _, ys, rfl, rfl, .inl (by rw [← drs_of_strs h2]; exact S.sql h1), hl, k _ _ _ S (Ex.refl G) (.str _)⟩
  | tup h1 h2 =>
    obtain ⟨ys, rfl, hl, rfl⟩ := key hg
    exact ⟨s, _, ys, rfl, rfl, .inr (by rw [← drs_of_strs h2]; exact S.sqt h1), hl, k _ _ _ S (Ex.refl G) (.str _)⟩
  | _ => cases hg
def upperD (a : Str) : Option Dt := if decide (a.length ≤ 5592405) then some (.str (Txt.upper a)) else none
theorem de_upper {apos : Pos} (ha : DE X κ W a fa) (hbase : attributeBase a "upper" X.env (eval a X.env) = eval a X.env := by rfl) (hline : (apos.endLine == pos.line) = true := by rfl) :
    DE X κ W (.Call (.Attribute a "upper" apos) [] [] pos) (fM0 upperD fa) := de_m0 (pe_upper ha.pe hbase hline) fun B σ H G e s d Q S hg k => by
  obtain ⟨c, rfl⟩ := ite_some hg
  exact ⟨s, rfl, rfl, of_decide_eq_true c, k _ _ _ S (Ex.refl G) (.str _)⟩
end
end DL
namespace DL
open PySem PySem.Spec PyProof.Rows L2 L2H HX
abbrev CXZ : CXT := fun _ _ _ _ _ _ => False
abbrev EZ : XK := fun _ _ _ => False
/-- a def run while the exception p is handled -/
theorem runH {CX : CXT} {P : Program} {w : World} {K : PySem.W.Frag} {mg : Str → Option Value} {base : Heap} {k : Nat} {x qual : Str} {st : Stmt} {f : Addr} {fd : FuncData} {N ps : List Str} (Fu : Fun K x qual st f fd) (Sc : FnScope N ps (defScope st))
    {A : Around} {outer : List Env} {s : Shared} {H : Hp} {args : Args} {us : List Value} {vs : List V} {Q : VK} {E : XK} {p : Addr × Obj} (hr : RoomH (k + 1) A) (hpin : PinOk outer H s p) (e0 : Env0 P w K mg base A outer s H) (hb : BindsTo s fd args (ps.zip us)) (r : Vals vs us) (hl : vs.length = ps.length)
    (hbody : ∀ cdv, RoomH k (A.deeper (envOfC qual (defScope st) s.heap.objs.size f cdv)) → ∃ t, PSs (cxH CX P w K mg base N qual (defScope st) f cdv A outer s H E p) (defBody st) t ∧ t { nx := fun _ H' => Q .non H', rt := Q } (L2.start N vs) H) :
    codeAny (model P w) A (.call (.ref f) args) (CR CX outer P w H s Q E) s := by
  obtain ⟨oc, od, kV, doc, pm, an, cdv, ct, osl, rfl, lk, hcd⟩ := Fu.ex
  have up := fun b o e => (e0.bs b o e).1
  have KX : K.In s.heap := e0.mod.kin.keeps up
  have hkind : ∀ y ∈ ps.zip us, (defScope st).names.lookup y.1 = some .local ∨ ((defScope st).names.lookup y.1 = some .cell ∧ ((cellsFrom (s.heap.objs.size + 1) (defScope st).names []).lookup y.1).isSome = true) := fun ⟨n, v⟩ hy => by
    rcases Sc.par n (List.of_mem_zip hy).1 with q | q
    · exact .inl q
    · exact .inr ⟨q, PySem.W.cellsFrom_some _ _ _ (.inl q)⟩
  refine codeAny_call_function hr.depth (KX _ _ lk) rfl Sc.co Sc.gen rfl (PySem.W.codeRec_of KX hcd) (hb _ _ _ _ (wpAny_newFunctionEnv_cells Sc.kind hkind fun env he s1 x => ?_))
  subst he
  refine ⟨(e0.mod.nolimit.keeps up).keeps x.toInCall.keep, codeAny_func ?_⟩
  obtain ⟨t, ht, hq⟩ := hbody cdv (hr.deeper _)
  have I : Inv (cxH CX P w K mg base N qual (defScope st) f cdv A outer s H E p) [] (L2.start N vs) H s1 := inv_startH Sc hpin e0 hl r x
  refine wpAny_mono (ht.run [] s1 (L2.start N vs) H _ I hq) (fun fl s' hs => ?_) fun e s' hs => hs
  have ce : ∀ {σ' : L2.St} {H' : Hp} {v : V} {u : Value}, Inv (cxH CX P w K mg base N qual (defScope st) f cdv A outer s H E p) [] σ' H' s' → RelV v u → Q v H' → CE outer P w H s Q u s' := fun {σ' H' v u} J rv q =>
    ⟨v, H', J.os, J.bare, J.base, J.hok, rv, q⟩
  cases fl with
  | brk => obtain ⟨_, _, _, z⟩ := hs; exact z.elim
  | cont => obtain ⟨_, _, _, z⟩ := hs; exact z.elim
  | next => obtain ⟨σ', H', J, q⟩ := hs; exact ce (v := V.non) (u := Value.none) J rfl q
  | ret u => obtain ⟨v, σ', H', J, rv, q⟩ := hs; exact ce J rv q
/-! ### isinstance of the handled exception -/
theorem call_isH {X : Cx} {a D : Addr} {oe : Obj} (hp : (a, oe) ∈ X.pn) (C : ExcC X.K D) (hz : Zc (.ref D) none oe) (hf : ∃ vs, oe.data = .fields vs) : CallR X (.builtin "isinstance") (rIsE X.K D a) := by
  intro pins s σ H xs us Q I r h
  obtain ⟨c, cv, b, rfl, hcv, e, q⟩ := h
  obtain ⟨u1, u2, rfl, rx, rt⟩ := Vals.two r
  cases rx
  have ec := hcv _ rt
  subst ec
  obtain ⟨vs, hv⟩ := hf
  obtain ⟨hget, _⟩ := I.pin (a, oe) (List.mem_append.mpr (.inl hp))
  obtain ⟨oc, od, oda, osl⟩ := oe
  obtain ⟨h1, h2⟩ := hz
  dsimp only at h1 h2 hv
  subst h1 h2 hv
  exact PySem.W.kia_one (PySem.W.handS_kitx_exc C.hg C.hk C.hs C.hd C.ha C.hn C.ht C.hm) I.kIn ⟨hget, rfl, rfl, trivial⟩ e (fun z => nomatch z) fun tk => ⟨.bl b, H, I.kept (t' := tk) fun _ _ z => z, rfl, q⟩
def fIs (i : Nat) (a : Addr) (b : Bool) : En → R Dt := fun e => match e[i]? with
  | some (some (.raw (.ref c))) => if c = a then .ok (.bool b) e else .bad
  | _ => .bad
section
variable {X : Cx} {κ : Kd} {W : WX} {pos : Pos}
theorem de_isH {a D i : Nat} {oe : Obj} {b : Bool} {c : V} {cv : Value} {y x : Str} {p p0 p1 : Pos} (hp : (a, oe) ∈ X.pn) (C : ExcC X.K D) (hz : Zc (.ref D) none oe) (hf : ∃ vs, oe.data = .fields vs) (hg : Gl X "isinstance") (hm : X.mg "isinstance" = none) (hy : PE X (.Name y p0) (tVar i)) (hx : PE X (.Name x p1) (tC c)) (hc : ∀ u, RelV c u → u = cv) (hk : PySem.W.kitOne X.K (.ref D) cv = some b)
    (hs : starEach [.Name x p1] X.env = [(false, eval (.Name x p1) X.env)] := by rfl) (he : starEach (.Name y p0 :: [.Name x p1]) X.env = (false, eval (.Name y p0) X.env) :: starEach [.Name x p1] X.env := by rfl) (hpl : (backTo pos (starEach [.Name x p1] X.env)).any (·.1) = false := by rfl) :
    DE X κ W (.Call (.Name "isinstance" p) [.Name y p0, .Name x p1] [] pos) (fIs i a b) := by
  refine ⟨PE.imp (pe_callB (call_isH hp C hz hf) hg hm (by decide +kernel) (pa_cons hy (pa_cons hx pa_nil hs) he) (by decide) (by decide) he hpl) fun σ H Q q => ?_⟩
  obtain ⟨B, G, en, S, q⟩ := q
  unfold fIs at q
  split at q
  · rename_i c' hi
    split at q
    · rename_i e
      subst e
      exact ⟨_, S.raw_at hi, c, cv, b, rfl, hc, hk, q H G S (Ex.refl G) _ (.bl b)⟩
    · exact q.elim
  · exact q.elim
end
/-! ### the names of the classes of an error -/
structure NamesOk (P : Program) (w : World) (K : PySem.W.Frag) (mg : Str → Option Value) (base : Heap) (k : Nat) (f : Addr) (fd : FuncData) (nm : Str → Option Str) : Prop where
  run : ∀ (A : Around) (outer : List Env) (s : Shared) (H G : Hp) (args : Args) (Q : VK) (p : Addr × Obj) (c t : Str) (C : Addr), RoomH k A → Hot1 A p → PinOk outer H s p → Env0 P w K mg base A outer s H → BindsTo s fd args (((["e"] : List Str).zip [Value.ref p.1])) →
    mg c = some (.ref C) → nm c = some t → Zc (.ref C) none p.2 → (∃ vs, p.2.data = .fields vs) → Sub G H → (∀ H' G', Aft kd0 [.raw (.ref p.1)] [.ref p.1] H G H' G' → Q (.str t) H') → codeAny (model P w) A (.call (.ref f) args) (CR CXZ outer P w H s Q EZ) s
theorem names_of {P : Program} {w : World} {K : PySem.W.Frag} {mg : Str → Option Value} {base : Heap} {k : Nat} {st : Stmt} {f : Addr} {fd : FuncData} {N : List Str} {nm : Str → Option Str} (Fu : Fun K "_law_names" "_law_names" st f fd) (Sc : FnScope N ["e"] (defScope st))
    (hbody : ∀ (cdv : Value) (A : Around) (outer : List Env) (s : Shared) (H : Hp) (p : Addr × Obj) (c t : Str) (C : Addr), Hot1 A p → RoomH k (A.deeper (envOfC "_law_names" (defScope st) s.heap.objs.size f cdv)) → mg c = some (.ref C) → nm c = some t → Zc (.ref C) none p.2 → (∃ vs, p.2.data = .fields vs) →
      ∃ F, DSs (cxH CXZ P w K mg base N "_law_names" (defScope st) f cdv A outer s H EZ p) kd0 (fun _ _ _ _ => False) (defBody st) F ∧ ∃ e', F (initE N.length [.raw (.ref p.1)]) = .rt (.str t) e' ∧ outs [.raw (.ref p.1)] e' = some [.raw (.ref p.1)]) :
    NamesOk P w K mg base (k + 1) f fd nm := ⟨fun A outer s H G args Q p c t C hr hot hpin e0 hb mc nc hz hf hs q => by
  refine runH (N := N) Fu Sc hr hpin e0 hb (vs := [.ref p.1]) (.cons rfl .nil) rfl fun cdv hr' => ?_
  obtain ⟨F, hF, e', h1, h2⟩ := hbody cdv A outer s H p c t C hot hr' mc nc hz hf
  have ha : AR H G [.ref p.1] [.raw (.ref p.1)] := by
    refine ⟨rfl, fun i s hi => ?_, fun i j b c xs ys a hij hi hj _ _ => ?_⟩
    · cases i with
      | zero =>
        have hi : Slot.raw (.ref p.1) = s := Option.some.inj hi
        subst hi
        exact ⟨_, rfl, rfl⟩
      | succ i => simp at hi
    · cases i with
      | zero => cases hi
      | succ i => simp at hi
  have hn : 1 ≤ N.length := by
    have := congrArg List.length Sc.pre
    rw [List.length_take] at this
    simp at this
    omega
  refine ⟨_, hF.pss, _, G, _, SR.entry (N := N) hs trivial ha (fun i b xs hi => ?_) hn, ?_⟩
  · cases i with
    | zero => cases hi
    | succ i => simp at hi
  · rw [h1]
    intro v σ' H' G' S' x' hv
    obtain ⟨a1, a2⟩ := SR.exit ha S' h2
    cases hv
    exact q H' G' a1⟩
end DL
namespace DL
open PySem PySem.Spec PyProof.Rows L2 L2H HX LamX
/-! ### a frame with tables of code objects -/
def noTbl : HO → Bool
  | .tbl _ => false
  | _ => true
theorem noTbl_ne {o : HO} (h : noTbl o = true) (ps : Array Value) : o ≠ .tbl ps := fun z => by rw [z] at h; cases h
def KLst (K : PySem.W.Frag) (a : Addr) (xs : List V) : Prop := ∃ (o : Obj) (its : Array Value) (n : Nat), K.lookup a = some o ∧ o.cls = .type "list" ∧ o.dict = none ∧ o.data = .seq its n ∧ its.size ≤ sizeLine ∧ Vals xs its.toList
/-- where the script stands, if it is no list of ours -/
def ScrT (K : PySem.W.Frag) (H : Hp) : Option (Addr × List Int) → Prop
  | none => True
  | some (a, ns) => (∃ o, H a = some (.frz o (.lst (ns.map V.int)))) ∨ KLst K a (ns.map V.int)
theorem ScrT.sq {K : PySem.W.Frag} {H : Hp} {a : Addr} {ns : List Int} (h : ScrT K H (some (a, ns))) : SqL K H a (ns.map V.int) := by
  rcases h with h | h
  · exact .inl (.inr h)
  · exact .inr h
theorem ScrT.ext {K : PySem.W.Frag} {H H' : Hp} {sc : Option (Addr × List Int)} (h : ScrT K H sc) (k : ∀ a o xs, H a = some (.frz o (.lst xs)) → H' a = some (.frz o (.lst xs))) : ScrT K H' sc := by
  cases sc with
  | none => trivial
  | some p =>
    rcases h with ⟨o, h⟩ | h
    · exact .inl ⟨o, k _ _ _ h⟩
    · exact .inr h
def kdS (K : PySem.W.Frag) (T : List (Addr × Str)) (sc : Option (Addr × List Int)) : Kd where
  T := fun H => Tabs T H ∧ ScrT K H sc
  keep := noTbl
  kd := fun o h => by cases h <;> rfl
  tm := fun H H' t k => ⟨fun q hq => by
    obtain ⟨ps, h1, h2, h3⟩ := t.1 q hq
    refine ⟨ps, k _ _ h1 (fun xs z => nomatch z), h2, fun pos cv hc => ?_⟩
    obtain ⟨c, e1, e2⟩ := h3 pos cv hc
    exact ⟨c, e1, k _ _ e2 (fun xs z => by unfold CodeO at z; cases z)⟩, t.2.ext fun a o xs h => k _ _ h fun ys z => nomatch z⟩
/-- the frame of a lambda's body, its errors told on by L2N -/
def lamN (X : Cx) (A : Around) (outer : List Env) (s : Shared) (H : Hp) (E : XK) (scope : Scope) (f c' : Addr) : Cx :=
  (lamCx X A outer s H E scope f c').tr [] (fun e s' => wpAny (model X.prog X.w) (A.deeper (lamEnv X scope s.heap.objs.size f c')) (leaving (lamEnv X scope s.heap.objs.size f c') e) (fun _ s2 => L2N.CX X.prog X.w outer H s E e s2) (fun e2 s2 => L2N.CX X.prog X.w outer H s E e2 s2) s')
theorem takes_lam {X : Cx} {A : Around} {outer : List Env} {s : Shared} {H : Hp} {E : XK} {scope : Scope} {f c' : Addr} : L2N.Takes (lamN X A outer s H E scope f c') (fun cls d _ H => E cls d H) := L2N.takes_of rfl rfl rfl rfl
section
variable {X : Cx} {pins : List (Addr × Obj)} {σ : L2.St} {H : Hp} {s : Shared}
/-- the def that got the lambda calls it -/
theorem pe_actN {CXg : CXT} {Eg : XK} {Ng : List Str} {qg : Str} {sg : Scope} {g f c' : Addr} {cdg pm ctv : Value} {params : Arguments} {body : Expr} {scope : Scope} {k i : Nat} {a : Str} {pn : List (Addr × Obj)} {xe : Value → Shared → Prop} {W : WX} {E : XK} {tb : TE} {p1 p2 : Pos}
    (I : Inv X pins σ H s) (L : LamS X.env.scope scope) (hf : s.heap.get? f = some (PySem.W.kla_obj "<lambda>" (X.env.qual ++ "<lambda>") params body scope (cloFrom X.env.cells scope.names []) pm c' ctv)) (nf : H f = none) (nfr : f ∉ frs X.stack)
    (bind : bindArgs (PySem.W.kla_fn "<lambda>" (X.env.qual ++ "<lambda>") params body scope (cloFrom X.env.cells scope.names []) pm (.ref c') ctv) ⟨[], []⟩ = pure [])
    (tk : L2N.Takes ((cxOf CXg X.prog X.w X.K X.mg X.base Ng qg sg g cdg X.A X.stack s H Eg).tr pn xe) W) (hW : ∀ cls d σ' H', E cls d H' → W cls d σ' H') (hr : Room (k + 1) (X.A.deeper (envOfC qg sg s.heap.objs.size g cdg)))
    (hbody : ∀ (A : Around) (outer : List Env) (s : Shared) (H : Hp), Room k (A.deeper (lamEnv X scope s.heap.objs.size f c')) → PE (lamN X A outer s H E scope f c') body tb) (hN : Ng[i]? = some a) (hv : Vis sg a) (hd : (a == ("__debug__" : Str)) = false := by decide) (hcd : (a == ("__classdict__" : Str)) = false := by decide) :
    PE ((cxOf CXg X.prog X.w X.K X.mg X.base Ng qg sg g cdg X.A X.stack s H Eg).tr pn xe) (.Call (.Name a p1) [] [] p2) (fun σZ HZ Q => σZ[i]? = some (some (.ref f)) ∧ HZ c' = some (CodeO c' (X.env.qual ++ "<lambda>")) ∧ tb σ HZ Q) := by
  refine ⟨fun pinsZ sZ σZ HZ Q IZ ⟨hs, hc, ht⟩ => ?_⟩
  refine wpAny_Call_Name_kw (thn ((pe_var (pos := p1) (i := i) hN hv hd hcd).run pinsZ sZ σZ HZ (fun v H1 => v = .ref f ∧ H1 = HZ) IZ ⟨.ref f, hs, rfl, rfl⟩) fun u s1 ⟨v, H1, I1, r1, ev, eH⟩ => ?_)
  subst ev
  rw [eH] at I1
  obtain rfl : u = Value.ref f := r1
  have of1 := I1.base.keep f _ hf nf nfr fun z => nomatch (show f ∈ ([] : List Addr) from z)
  refine PySem.W.callWith_F0 ⟨_, _, _, _, of1⟩ ?_
  obtain ⟨⟨oc, vs, t, hoc, hdc, hvc⟩, _, _⟩ := I1.hok c' _ hc
  have rc : codeAny (model X.prog X.w) (X.A.deeper (envOfC qg sg s.heap.objs.size g cdg)) (.call (.ref f) ⟨[], []⟩) (CR (L2N.CX X.prog X.w) (envOfC qg sg s.heap.objs.size g cdg :: X.stack) X.prog X.w HZ s1 Q E) s1 := by
    refine PySem.W.kla_callFunE hr.depth of1 rfl L.co L.gen rfl ⟨c', oc, vs, t, rfl, hoc, hdc, hvc⟩ ?_
    rw [bind]
    refine wpAny_pure (wpAny_newFunctionEnv (fun y hy => (L.own y hy).2) (fun y hy => absurd hy (by simp)) (fun h₁ hns hsb => ⟨I1.nolimit.fresh _ hsb, ?_⟩) L.kind)
    have J := lam_start2 (f := f) (c' := c') (E := E) (tk := s1.toks + ([] : List (Str × Value)).length) I L I1.env0 hr.hd I1.base hns fun b o e => hsb.extBut b o (Nat.ne_of_lt (Heap.lt_size e)) (Heap.get?_push_of_some _ e)
    have J' : Inv (lamN X (X.A.deeper (envOfC qg sg s.heap.objs.size g cdg)) (envOfC qg sg s.heap.objs.size g cdg :: X.stack) s1 HZ E scope f c') [] σ HZ _ := J.toTry _
    exact PySem.W.kla_codeExpr (wpAny_mono ((hbody _ _ s1 HZ (hr.deeper _)).run [] _ _ HZ Q J' ht) (fun v s' ⟨w', H', J2, rv, q⟩ => ⟨w', H', J2.os, J2.bare, J2.base, J2.hok, rv, q⟩) fun e s' hq => hq)
  refine wpAny_call (codeAny_mono rc fun r s' hq => ?_)
  cases r with
  | error e => exact L2N.passes_call tk hW pinsZ σZ HZ s1 e s' I1 hq
  | ok fl =>
    cases fl with
    | ret u => exact I1.after hq
    | _ => exact False.elim hq
end
/-- what the making of a lambda in X asks -/
structure LamAt (X : Cx) (T : List (Addr × Str)) (c P : Addr) : Prop where
  tb : TabB X.base X.mg c P
  code : X.env.code = .ref c
  mem : (P, X.env.qual ++ "<lambda>") ∈ T
  one : ∀ p ∈ T, p.1 = P → p.2 = X.env.qual ++ "<lambda>"
/-- the def _law_error, that calls what it gets and tells the names of the error's classes -/
structure ErrDef (K : PySem.W.Frag) (mg : Str → Option Value) (Ng : List Str) (st : Stmt) (g : Addr) (fdg : FuncData) (CS fN : Addr) : Prop where
  F : Fun K "_law_error" "_law_error" st g fdg
  sc : FnScope Ng ["call"] (defScope st)
  n0 : Ng[0]? = some ("call" : Str)
  n1 : Ng[1]? = some ("e" : Str)
  vis : Vis (defScope st) "call"
  loc : (defScope st).names.lookup ("e" : Str) = some NameKind.local
  gS : (defScope st).names.lookup ("StairError" : Str) = some NameKind.globalImplicit
  gN : (defScope st).names.lookup ("_law_names" : Str) = some NameKind.globalImplicit
  body : ∃ (j : Nat) (p1 p2 p3 p4 p5 p6 p7 p8 p9 p10 p11 p12 : Pos), defBody st = [.Try [.Expr (.Call (.Name "call" p1) [] [] p2) p3] [.ExceptHandler (some (.Name "StairError" p4)) (some "e") [.Return (some (.Call (.Name "_law_names" p5) [.Name "e" p6] [] p7)) p8] p9] [] [] p10, .Return (some (.Constant (.str "") j p11)) p12]
  mG : mg "_law_error" = some (.ref g)
  mS : mg "StairError" = some (.ref CS)
  mN : mg "_law_names" = some (.ref fN)
  bd : Binds K fdg ["call"] []
section
variable {X : Cx}
/-- the call of _law_names in the except suite -/
theorem pe_names {a : Addr} {oe : Obj} {k i : Nat} {fN : Addr} {fdN : FuncData} {nm : Str → Option Str} {p5 p6 p7 : Pos} (hp : (a, oe) ∈ X.pn) (hot : Hot1 X.A (a, oe)) (Nk : NamesOk X.prog X.w X.K X.mg X.base k fN fdN nm) (kN : PySem.W.keepIn X.K (.ref fN) = true) (bN : Binds X.K fdN ["e"] []) (hr : RoomH k X.A) (hg : Gl X "_law_names") (hm : X.mg "_law_names" = some (.ref fN))
    (he : PE X (.Name "e" p6) (tVar i)) (hs : starEach [.Name "e" p6] X.env = [(false, eval (.Name "e" p6) X.env)] := by rfl) : PE X (.Call (.Name "_law_names" p5) [.Name "e" p6] [] p7) (fun σ H Q => σ[i]? = some (some (.ref a)) ∧ ∃ c t C G, X.mg c = some (.ref C) ∧ nm c = some t ∧ Zc (.ref C) none oe ∧ (∃ vs, oe.data = .fields vs) ∧ Sub G H ∧ ∀ H' G', Aft kd0 [.raw (.ref a)] [.ref a] H G H' G' → Q (.str t) H') := by
  refine ⟨fun pins s σ H Q I ⟨hi, c, t, C, G, mc, nc, hz, hf, hS, hq⟩ => ?_⟩
  refine wpAny_Call_Name_kw (ld_glob I hg hm ?_)
  refine PySem.W.callWith_K (h₀ := X.base) I.ok.mod.kin kN (thn ((pa_cons he pa_nil hs).run p7 pins s σ H (fun vs H1 => vs = [V.ref a] ∧ H1 = H) I ⟨_, hi, rfl, rfl⟩) fun us s1 ⟨vs, H1, I1, r, ev, eH⟩ => ⟨I1.kIn, ?_⟩) hs rfl
  subst ev
  rw [eH] at I1
  obtain ⟨u, rfl, ru⟩ := Vals.one r
  obtain rfl : u = Value.ref a := ru
  have P1 := I1.pin (a, oe) (List.mem_append_left _ hp)
  have hpin : PinOk X.stack H s1 (a, oe) := ⟨P1.1, P1.2.1, fun hm => (List.mem_cons.mp (I1.stkSub a hm)).elim P1.2.2.1 P1.2.2.2.1, P1.2.2.2.2⟩
  have b := bN s1 [.ref a] I1.kIn rfl
  rw [List.append_nil] at b
  refine wpAny_call (codeAny_mono (Nk.run X.A X.stack s1 H G ⟨[.ref a], []⟩ Q (a, oe) c t C hr hot hpin I1.env0 b mc nc hz hf hS hq) fun r s' hq => ?_)
  cases r with
  | error e => exact hq.elim
  | ok fl =>
    cases fl with
    | ret u => exact I1.after hq
    | _ => exact False.elim hq
def tLamN (T : List (Addr × Str)) (mg : Str → Option Value) (K : PySem.W.Frag) (CS : Addr) (nm : Str → Option Str) (t : XK → TE) : TE := fun σ H Q => Tabs T H ∧ ∀ H1, ExtN H H1 → Tabs T H1 → ∃ E : XK, (∀ cls d H', E cls d H' → ∃ c tx C G, d = none ∧ cls = .ref C ∧ mg c = some (.ref C) ∧ nm c = some tx ∧ PySem.W.exmOne K (.ref C) (.ref CS) = some true ∧ Sub G H' ∧ ∀ (H2 G2 : Hp) (as : List Slot) (vs : List V), (∀ a, NotOwn as vs a) → Aft kd0 as vs H' G H2 G2 → Q (.str tx) H2) ∧ t E σ H1 (fun _ H' => Q (.str "") H')
/-- _law_error(lambda: body) -/
theorem pe_lawerr {T : List (Addr × Str)} {c P g CS fN : Addr} {k kN : Nat} {Ng : List Str} {st : Stmt} {fdg fdN : FuncData} {nm : Str → Option Str} {params : Arguments} {body : Expr} {scope : Scope} {t : XK → TE} {p lpos pos : Pos}
    (hg : Gl X "_law_error") (D : ErrDef X.K X.mg Ng st g fdg CS fN) (Nk : NamesOk X.prog X.w X.K X.mg X.base kN fN fdN nm) (kpN : PySem.W.keepIn X.K (.ref fN) = true) (bN : Binds X.K fdN ["e"] [])
    (LA : LamAt X T c P) (hr : Room (k + 2) X.A) (hkN : kN ≤ k) (L : LamS X.env.scope scope) (hdef : defaultsOf params X.env = ([], []))
    (hbind : ∀ (q : Str) (cl : List (Str × Addr)) (pm cv ctv : Value), bindArgs (PySem.W.kla_fn "<lambda>" q params body scope cl pm cv ctv) ⟨[], []⟩ = pure [])
    (hbody : ∀ (A : Around) (outer : List Env) (s : Shared) (H : Hp) (E : XK) (f c' : Addr), Room k (A.deeper (lamEnv X scope s.heap.objs.size f c')) → PE (lamN X A outer s H E scope f c') body (t E)) :
    PE X (.Call (.Name "_law_error" p) [.Lambda params body scope lpos] [] pos) (tLamN T X.mg X.K CS nm t) := by
  refine ⟨fun pins s σ H Q I ⟨hT, h⟩ => ?_⟩
  refine wpAny_Call_Name_kw (ld_glob I hg D.mG ?_)
  refine PySem.W.callWith_K (h₀ := X.base) I.ok.mod.kin D.F.kp ?_ (by rfl) (by rfl)
  show wpAny _ _ (spliced ((false, eval (.Lambda params body scope lpos) X.env) :: backTo pos (starEach [] X.env))) _ _ s
  refine Calls.spliced_cons (lam_make2 I LA.tb LA.code LA.mem LA.one hT hdef (L.has I.ok) fun f c' pm' ctv H1 s' I1 eN T1 hf hfn hfr hco => ?_)
  refine Calls.spliced_nil ⟨I1.kIn, ?_⟩
  obtain ⟨E, hE, hq⟩ := h H1 eN T1
  have rc : codeAny (model X.prog X.w) X.A (.call (.ref g) ⟨[.ref f], []⟩) (CR CXZ X.stack X.prog X.w H1 s' Q EZ) s' := by
    obtain ⟨oc, od, kV, doc, pm, an, cdv, ct, osl, rfl, lk, hcd⟩ := D.F.ex
    refine run_ofS (N := Ng) (ps := ["call"]) (us := [.ref f]) (vs := [.ref f]) lk hcd D.sc hr I1.env0 (D.bd s' [.ref f] I1.kIn rfl) (.cons rfl .nil) rfl fun hr' => ?_
    obtain ⟨j, p1, p2, p3, p4, p5, p6, p7, p8, p9, p10, p11, p12, hB⟩ := D.body
    have h0 : (L2.start Ng [V.ref f])[0]? = some (some (V.ref f)) := start_get rfl
    rw [hB]
    refine ⟨_, pss_cons (L2N.ps_try_as (X := cxOf CXZ X.prog X.w X.K X.mg X.base Ng "_law_error" (defScope st) g cdv X.A X.stack s' H1 EZ) (x := "StairError") (n := "e") (c := .ref CS) (i := 1) (Wout := fun _ _ _ _ => False)
      (tb := fun W D σZ HZ => (∀ cls d σ' H', E cls d H' → W cls d σ' H') ∧ σZ[0]? = some (some (.ref f)) ∧ HZ c' = some (CodeO c' (X.env.qual ++ "<lambda>")) ∧ t E σ HZ (fun _ H' => D.nx σZ H'))
      (ts := fun a cls d D σ H => (∃ σ0 : L2.St, σ = σ0.set 1 (some (.ref a))) ∧ d = none ∧ ∃ c tx C G, cls = .ref C ∧ X.mg c = some (.ref C) ∧ nm c = some tx ∧ Sub G H ∧ ∀ H' G', Aft kd0 [.raw (.ref a)] [.ref a] H G H' G' → D.rt (.str tx) H')
      rfl rfl D.sc.nd D.n1 D.loc ⟨D.gS, by decide, .inl D.mS⟩ takes0N (fun W pn xe tk _ => ?_) (fun a oe cls d pn hz hf => ?_)) (pss_one (ps_ret pe_str)), ?_⟩
    · refine ⟨fun pz sz σz Hz Dz Iz ⟨hW, g1, g2, g3⟩ => ?_⟩
      have hp := pe_actN (i := 0) (p1 := p1) (p2 := p2) (k := k) (tb := t E) I1 L hf hfn hfr (hbind _ _ _ _ _) tk hW hr' (fun A outer s H hr2 => hbody A outer s H E f c' hr2) D.n0 D.vis
      exact (pss_one (ps_expr (pos := p3) hp)).run pz sz σz Hz Dz Iz ⟨g1, g2, g3⟩
    · refine ⟨fun pz sz σz Hz Dz Iz ⟨⟨σ0, g1⟩, g2, c, tx, C, G, g3, g4, g5, g6, g7⟩ => ?_⟩
      subst g2 g3
      have g1 : σz[1]? = some (some (.ref a)) := by
        have hl := Iz.len
        rw [g1, List.length_set] at hl
        rw [g1, List.getElem?_set_self (by rw [hl]; exact (List.getElem?_eq_some_iff.mp D.n1).1)]
      obtain ⟨vs, hv⟩ := hf
      have hot : Hot1 ((cxOf CXZ X.prog X.w X.K X.mg X.base Ng "_law_error" (defScope st) g cdv X.A X.stack s' H1 EZ).suite a ((a, oe) :: pn)).A (a, oe) := by
        have e2 : vs[2]? = some Value.none := hz.2.2 vs hv
        exact ⟨rfl, vs, hv, e2⟩
      have hr2 : RoomH kN ((cxOf CXZ X.prog X.w X.K X.mg X.base Ng "_law_error" (defScope st) g cdv X.A X.stack s' H1 EZ).suite a ((a, oe) :: pn)).A := RoomH.mono ⟨hr'.dp, hr'.un⟩ (by omega)
      have hp := pe_names (X := (cxOf CXZ X.prog X.w X.K X.mg X.base Ng "_law_error" (defScope st) g cdv X.A X.stack s' H1 EZ).suite a ((a, oe) :: pn)) (p5 := p5) (p7 := p7) (i := 1) List.mem_cons_self hot Nk kpN bN hr2 D.gN D.mN (pe_var (pos := p6) D.n1 (.inl D.loc))
      exact (pss_one (ps_ret (pos := p8) hp)).run pz sz σz Hz Dz Iz ⟨g1, c, tx, C, G, g4, g5, hz.zc, ⟨vs, hv⟩, g6, g7⟩
    · refine ⟨fun cls d σ' H' he => ?_, h0, hco, hq⟩
      obtain ⟨c, tx, C, G, rfl, rfl, e1, e2, e3, e4, e5⟩ := hE cls d H' he
      refine ⟨true, e3, fun _ a na => ⟨⟨σ', rfl⟩, rfl, c, tx, C, G, rfl, e1, e2, e4, fun H2 G2 A => e5 H2 G2 _ _ (fun a i b xs hi => ?_) A⟩, fun z => nomatch z⟩
      · cases i with
        | zero => cases hi
        | succ i => simp at hi
  refine wpAny_call (codeAny_mono rc fun r s2 hq => ?_)
  cases r with
  | error e => exact (show False from hq).elim
  | ok fl =>
    cases fl with
    | ret u => exact I1.after hq
    | _ => exact False.elim hq
def fLE (nm : Str → Option Str) (fb : En → R Dt) : En → R Dt := fun e => match fb e with
  | .ok _ e' => .ok (.str "") e'
  | .exc c e' => (match nm c with
    | some t => .ok (.str t) e'
    | none => .bad)
  | .bad => .bad
theorem de_lawerr {W : WX} {T : List (Addr × Str)} {K0 : PySem.W.Frag} {sc : Option (Addr × List Int)} {c P g CS fN : Addr} {k kN : Nat} {Ng : List Str} {st : Stmt} {fdg fdN : FuncData} {nm : Str → Option Str} {params : Arguments} {body : Expr} {scope : Scope} {fb : En → R Dt} {p lpos pos : Pos}
    (hg : Gl X "_law_error") (D : ErrDef X.K X.mg Ng st g fdg CS fN) (Nk : NamesOk X.prog X.w X.K X.mg X.base kN fN fdN nm) (kpN : PySem.W.keepIn X.K (.ref fN) = true) (bN : Binds X.K fdN ["e"] [])
    (LA : LamAt X T c P) (hr : Room (k + 2) X.A) (hkN : kN ≤ k) (hsub : ∀ c t C, nm c = some t → X.mg c = some (.ref C) → PySem.W.exmOne X.K (.ref C) (.ref CS) = some true) (L : LamS X.env.scope scope) (hdef : defaultsOf params X.env = ([], []))
    (hbind : ∀ (q : Str) (cl : List (Str × Addr)) (pm cv ctv : Value), bindArgs (PySem.W.kla_fn "<lambda>" q params body scope cl pm cv ctv) ⟨[], []⟩ = pure [])
    (hbody : ∀ (A : Around) (outer : List Env) (s : Shared) (H : Hp) (E : XK) (f c' : Addr), Room k (A.deeper (lamEnv X scope s.heap.objs.size f c')) → DE (lamN X A outer s H E scope f c') (kdS K0 T sc) (fun cls d _ H => E cls d H) body fb) :
    DE X (kdS K0 T sc) W (.Call (.Name "_law_error" p) [.Lambda params body scope lpos] [] pos) (fLE nm fb) := by
  refine ⟨PE.imp (pe_lawerr (t := fun E => tD X (kdS K0 T sc) (fun cls d _ H => E cls d H) fb) hg D Nk kpN bN LA hr hkN L hdef hbind fun A outer s H E f c' hr2 => (hbody A outer s H E f c' hr2).pe) fun σ H Q q => ?_⟩
  obtain ⟨B, G, en, S, q⟩ := q
  refine ⟨S.t.1, fun H1 eN T1 => ⟨fun cls d H' => ∃ c tx C G' e', fb en = .exc c e' ∧ nm c = some tx ∧ d = none ∧ cls = .ref C ∧ X.mg c = some (.ref C) ∧ SR (kdS K0 T sc) B σ H' G' e' ∧ Ex G G', fun cls d H' h => ?_, B, G, en, ?_, ?_⟩⟩
  · obtain ⟨c, tx, C, G', e', h1, h2, h3, h4, h5, h6, h7⟩ := h
    refine ⟨c, tx, C, G', h3, h4, h5, h2, hsub c tx C h2 h5, h6.sub, fun H2 G2 as vs hn A => ?_⟩
    unfold fLE at q
    rw [h1] at q
    dsimp only at q
    rw [h2] at q
    exact q H2 G2 (h6.call (.inl rfl) A hn) (h7.trans A.gx) _ (.str tx)
  · exact S.grow (Ex.refl G) (fun a o ha => ⟨eN a o (S.sub a o ha).1 (fun ps z => by have y := (S.sub a o ha).2; rw [z] at y; cases y), (S.sub a o ha).2⟩) (fun a o h1 h2 => eN a o h1 (noTbl_ne h2)) ⟨T1, S.t.2.ext fun a o xs h => eN _ _ h fun ps z => nomatch z⟩ fun a o h1 h2 h3 => h3
  · unfold fLE at q
    cases z : fb en with
    | ok v e' =>
      rw [z] at q
      exact fun H' G' S' x' v hv => q H' G' S' x' _ (.str _)
    | exc c e' =>
      rw [z] at q
      dsimp only at q
      cases y : nm c with
      | none => rw [y] at q; exact q.elim
      | some tx => exact fun H' G' C mC S' x' => ⟨c, tx, C, G', e', rfl, y, rfl, rfl, mC, S', x'⟩
    | bad => rw [z] at q; exact q.elim
/-! ### the script -/
def fLenS (i : Nat) (sc : Option (Addr × List Int)) : En → R Dt := fun e => match e[i]?, sc with
  | some (some (.dat (.list ds))), _ => .ok (.int ds.length) e
  | some (some (.raw (.ref b))), some (a, ns) => if b = a then .ok (.int ns.length) e else .bad
  | _, _ => .bad
def fIxS (i : Nat) (sc : Option (Addr × List Int)) (fb : En → R Dt) : En → R Dt := fun e => match e[i]?, sc with
  | some (some (.dat (.list ds))), _ => (fb e).bind fun j e1 => (match j with
    | .int j => ret1 (atI ds j) e1
    | _ => .bad)
  | some (some (.raw (.ref b))), some (a, ns) => if b = a then (fb e).bind fun j e1 => (match j with
    | .int j => ret1 (atI (ns.map PyData.int) j) e1
    | _ => .bad) else .bad
  | _, _ => .bad
def aAny (i : Nat) (fr : En → R (List Slot)) : En → R (List Slot) := fun e => match e[i]? with
  | some (some (.raw w)) => (fr e).bind fun r e2 => .ok (.raw w :: r) e2
  | some (some (.dat d)) => (fr e).bind fun r e2 => .ok (.dat d :: r) e2
  | _ => .bad
theorem atI_map {α β : Type} {f : α → β} {xs : List α} {j : Int} : atI (xs.map f) j = (atI xs j).map f := by
  unfold atI
  rw [List.length_map]
  cases ixN xs.length j with
  | none => rfl
  | some k => simp
section
variable {κ : Kd} {W : WX} {sc : Option (Addr × List Int)} {T : List (Addr × Str)} {b : Expr} {fb : En → R Dt} {pos : Pos}
theorem drs_ints {G : Hp} : ∀ {ns : List Int}, DRs G (ns.map V.int) (ns.map PyData.int)
  | [] => .nil
  | n :: ns => .cons (.int n) drs_ints
theorem as_any {es : List Expr} {fr : En → R (List Slot)} {x : Str} {p : Pos} (i : Nat) (h : PE X (.Name x p) (tVar i)) (hr : AS X κ W es fr) (hs : starEach (.Name x p :: es) X.env = (false, eval (.Name x p) X.env) :: starEach es X.env := by rfl) : AS X κ W (.Name x p :: es) (aAny i fr) := by
  refine ⟨PA.imp (pa_cons h hr.pa hs) fun σ H Q q => ?_⟩
  obtain ⟨B, G, en, S, q⟩ := q
  unfold aAny at q
  split at q
  · rename_i w hw
    refine ⟨w, S.raw_at hw, B, G, en, S, q.of_bind.mono fun ss H1 G1 e1 S1 x1 q1 vs hv => ?_⟩
    exact q1 H1 G1 S1 (Ex.refl G1) _ (.cons rfl hv)
  · rename_i d hd
    obtain ⟨v, e1, e2⟩ := S.dat_at hd
    refine ⟨v, e1, B, G, en, S, q.of_bind.mono fun ss H1 G1 e1 S1 x1 q1 vs hv => ?_⟩
    exact q1 H1 G1 S1 (Ex.refl G1) _ (.cons (DR.ex x1 e2) hv)
  · exact q.elim
theorem de_lenS {x : Str} {p p1 : Pos} (i : Nat) (hg : Gl X "len") (hm : X.mg "len" = none) (hv : bootBuiltins "len" = some (.builtin "len")) (hx : PE X (.Name x p1) (tVar i)) (he : starEach (.Name x p1 :: []) X.env = (false, eval (.Name x p1) X.env) :: starEach [] X.env := by rfl) (hpl : (backTo pos (starEach [] X.env)).any (·.1) = false := by rfl) :
    DE X (kdS X.K T sc) W (.Call (.Name "len" p) [.Name x p1] [] pos) (fLenS i sc) := ⟨PE.imp (pe_callB call_len hg hm hv (pa_cons hx pa_nil he) (by decide) (by decide) he hpl) fun σ H Q q => by
  obtain ⟨B, G, en, S, q⟩ := q
  unfold fLenS at q
  split at q
  · rename_i ds hd
    obtain ⟨v, e1, e2⟩ := S.dat_at hd
    cases e2 with
    | lst h1 h2 => exact ⟨_, e1, _, _, rfl, .inl ⟨_, S.sql h1, (DRs.length h2).symm⟩, q H G S (Ex.refl G) _ (.int _)⟩
  · rename_i b a ns hb
    split at q
    · rename_i e
      subst e
      exact ⟨_, S.raw_at hb, _, _, rfl, .inl ⟨_, S.t.2.sq, by simp⟩, q H G S (Ex.refl G) _ (.int _)⟩
    · exact q.elim
  · exact q.elim⟩
theorem de_ixS {x : Str} {p : Pos} (i : Nat) (hx : PE X (.Name x p) (tVar i)) (hb : DE X (kdS X.K T sc) W b fb) (hs : PlainIx b) : DE X (kdS X.K T sc) W (.Subscript (.Name x p) b pos) (fIxS i sc fb) := ⟨PE.imp (pe_ix ix_list hx hb.pe hs) fun σ H Q q => by
  obtain ⟨B, G, en, S, q⟩ := q
  unfold fIxS at q
  split at q
  · rename_i ds hd
    obtain ⟨v, e1, e2⟩ := S.dat_at hd
    cases e2 with
    | lst h1 h2 =>
      refine ⟨_, e1, B, G, en, S, q.of_bind.mono fun j H1 G1 e1 S1 x1 q1 w hw => ?_⟩
      split at q1
      · cases hw
        obtain ⟨d, e2, k⟩ := wp_ret1 q1 S1
        obtain ⟨u, w1, w2⟩ := DRs.atI (DRs.ex x1 h2) e2
        exact ⟨_, _, _, u, rfl, rfl, S1.sql (x1 _ _ h1), w1, k _ _ _ S1 (Ex.refl G1) w2⟩
      · exact q1.elim
  · rename_i c a ns hq
    split at q
    · rename_i e
      subst e
      refine ⟨_, S.raw_at hq, B, G, en, S, q.of_bind.mono fun j H1 G1 e1 S1 x1 q1 w hw => ?_⟩
      split at q1
      · cases hw
        obtain ⟨d, e2, k⟩ := wp_ret1 q1 S1
        obtain ⟨u, w1, w2⟩ := DRs.atI (G := G1) (drs_ints (ns := ns)) e2
        exact ⟨_, _, _, u, rfl, rfl, S1.t.2.sq, w1, k _ _ _ S1 (Ex.refl G1) w2⟩
      · exact q1.elim
    · exact q.elim
  · exact q.elim⟩
end
end
end DL
namespace BX
open PySem PySem.Calls PyProof.Rows HT
section
variable {prog : Program} {w : World} {A : Around} {E : Value → Shared → Prop} {s : Shared} {a : Int} {t : Tok} {b : Bool}
theorem g_add (a : Bool) (b : Int) (u : Tok) : Gives (Builtin.«int.__add__» ⟨[.bool a, .int b u], []⟩) (.int ((if a = true then (1 : Int) else 0) + b)) :=
  .of_wp fun M A E s Q h => by obtain ⟨hp, g, d, tk, os⟩ := s; wp_walk; exact ⟨_, rfl, h⟩
theorem g_sub (a : Bool) (b : Int) (u : Tok) : Gives (Builtin.«int.__sub__» ⟨[.bool a, .int b u], []⟩) (.int ((if a = true then (1 : Int) else 0) - b)) :=
  .of_wp fun M A E s Q h => by obtain ⟨hp, g, d, tk, os⟩ := s; wp_walk; exact ⟨_, rfl, h⟩
theorem g_neg (a : Bool) : Gives (Builtin.«int.__neg__» ⟨[.bool a], []⟩) (.int (-(if a = true then (1 : Int) else 0))) :=
  .of_wp fun M A E s Q h => by obtain ⟨hp, g, d, tk, os⟩ := s; wp_walk; exact ⟨_, rfl, h⟩
theorem sub_int_bool : isSubtype (.type "int") (.type "bool") = pure false := by kernel_rfl
theorem add_bi {Q : Value → Shared → Prop} (h : Q (.int ((if b = true then (1 : Int) else 0) + a) s.toks) { s with toks := s.toks + 1 }) : wpAny (model prog w) A (binaryOp .Add (.bool b) (.int a t)) Q E s :=
  binaryOp_left_gives (op := .Add) (T := "bool") (U := "int") (by decide) rfl (fun s' => typeIs_int s' a t) F.fills_bool_add F.fills_int_add sub_int_bool F.slot_bool_add F.slot_int_radd F.entry_int_add (F.args_int_add_2 _ _) (g_add b a t) trivial h
theorem sub_bi {Q : Value → Shared → Prop} (h : Q (.int ((if b = true then (1 : Int) else 0) - a) s.toks) { s with toks := s.toks + 1 }) : wpAny (model prog w) A (binaryOp .Sub (.bool b) (.int a t)) Q E s :=
  binaryOp_left_gives (op := .Sub) (T := "bool") (U := "int") (by decide) rfl (fun s' => typeIs_int s' a t) F.fills_bool_sub F.fills_int_sub sub_int_bool F.slot_bool_sub F.slot_int_rsub F.entry_int_sub (F.args_int_sub_2 _ _) (g_sub b a t) trivial h
theorem neg_b {Q : Value → Shared → Prop} (h : Q (.int (-(if b = true then (1 : Int) else 0)) s.toks) { s with toks := s.toks + 1 }) : wpAny (model prog w) A (unaryOp .USub (.bool b)) Q E s :=
  unaryOp_gives (op := .USub) rfl rfl F.slot_bool_neg F.entry_int_neg (F.args_int_neg_1 _) (g_neg b) h
theorem applied_rev {sl : Addr} {vs : Value} {n : Nat} {Q : Int × Int × Nat → Shared → Prop} (hs : s.heap.IsSliceOf sl .none .none vs) (ps : IsPart vs (some (-1))) (h : Q ((n : Int) - 1, -1, n) s) : wpAny (model prog w) A (Builtin.Slice.sliceApplied (.ref sl) (pure (n : Int))) Q E s := by
  obtain ⟨os, hos, hcs, hds⟩ := id hs
  unfold Builtin.Slice.sliceApplied Builtin.Slice.sliceFields
  refine wpAny_bind (wpAny_bind (wpAny_field hos hds (x := Value.none) rfl (wpAny_bind (wpAny_field hos hds (x := Value.none) rfl (wpAny_bind (wpAny_field hos hds (x := vs) rfl (wpAny_pure ?_)))))))
  refine wpAny_bind (slicePart_ ps ?_)
  show wpAny _ _ (if ((-1 : Int) == 0) = true then _ else _) _ _ s
  rw [if_neg (by decide)]
  refine wpAny_bind (slicePart_none (wpAny_bind (slicePart_none (wpAny_bind (wpAny_pure ?_)))))
  show wpAny _ _ (pure ((n : Int) - 1, (-1 : Int), Builtin.Slice.slicePlaces ((n : Int) - 1) (-1) (-1))) _ _ s
  have e : Builtin.Slice.slicePlaces ((n : Int) - 1) (-1) (-1) = n := by
    unfold Builtin.Slice.slicePlaces
    rw [if_neg (by decide)]
    have e1 : ((n : Int) - 1 - -1 - 1) / (- -1) + 1 = n := by
      rw [show (- -1 : Int) = 1 by decide, Int.ediv_one]
      omega
    rw [e1]
    split <;> omega
  rw [e]
  exact wpAny_pure h
theorem pick_rev (xs : Array Value) : ((List.range xs.size).filterMap fun (m : Nat) => xs[(((xs.size : Int) - 1) + (m : Int) * (-1)).toNat]?).toArray = xs.toList.reverse.toArray := by
  have h2 : (List.range xs.size).filterMap (fun (m : Nat) => xs[(((xs.size : Int) - 1) + (m : Int) * (-1)).toNat]?) = ((List.range xs.size).map fun k => xs.size - 1 - k).filterMap (xs[·]?) := by
    rw [List.filterMap_map]
    have key : ∀ l : List Nat, (∀ k ∈ l, k < xs.size) → l.filterMap (fun (m : Nat) => xs[(((xs.size : Int) - 1) + (m : Int) * (-1)).toNat]?) = l.filterMap ((fun x => xs[x]?) ∘ fun k => xs.size - 1 - k) := by
      intro l
      induction l with
      | nil => intro _; rfl
      | cons k l ih =>
        intro hl
        have h3 := hl k List.mem_cons_self
        have e3 : (((xs.size : Int) - 1) + (k : Int) * (-1)).toNat = xs.size - 1 - k := by omega
        rw [List.filterMap_cons, List.filterMap_cons, ih fun q hq => hl q (List.mem_cons_of_mem _ hq), e3]
        rfl
    exact key _ fun k hk => List.mem_range.mp hk
  rw [h2, PySem.W.krv_range, List.filterMap_reverse, PySem.W.krv_all]
theorem getItem_rev {t sl : Addr} {items : Array Value} {vs : Value} {Q : Value → Shared → Prop} (ht : IsTup s.heap t items) (hs : s.heap.IsSliceOf sl .none .none vs) (ps : IsPart vs (some (-1)))
    (h : Q (.ref s.heap.objs.size) { s with heap := s.heap.push { cls := .type "tuple", data := .seq items.toList.reverse.toArray } }) (hsz : items.size ≤ sizeLine) : wpAny (model prog w) A (getItem (.ref t) (.ref sl)) Q E s := by
  have hok : sizeOk (.seq items.toList.reverse.toArray) := by
    show items.toList.reverse.toArray.size ≤ sizeLine
    rw [List.size_toArray, List.length_reverse, Array.length_toList]
    exact hsz
  obtain ⟨os, hos, hcs, hds⟩ := id hs
  have hTs : s.TypeIs (.ref sl) "slice" := ⟨os, hos, hcs⟩
  unfold getItem
  try with_reducible refine wpAny_holding ?_
  first | refine wpAny_bind (wpAny_pure ?_) | skip
  refine wpAny_bind (wpAny_sequenceKey ht.typeIs (by decide) ?_)
  refine wpAny_bind (wpAny_callSpecial?_slot (name := Str.ofString "__getitem__") ht.typeIs PyProof.Rows.slot_tuple_getitem (wpAny_call_entry PyProof.Rows.slot_tuple_getitem ht.typeIs entry_tuple_getitem ?_ (args_tuple_getitem _ _)))
  show wpAny _ _ (Builtin.Tuple.tupleItemsOf (.ref t) >>= _) _ _ s
  refine wpAny_bind (tupleItemsOf_ ht (wpAny_bind (wpAny_typeOf hTs ?_)))
  rw [if_pos (by decide)]
  refine wpAny_bind (applied_rev hs ps ?_)
  have no : ¬ ((((items.size : Int) - 1) == 0 && (-1 : Int) == 1 && items.size == items.size) = true) := by
    rw [show ((-1 : Int) == 1) = false from by decide, Bool.and_false, Bool.false_and]
    exact Bool.false_ne_true
  show wpAny _ _ (if (((items.size : Int) - 1) == 0 && (-1 : Int) == 1 && items.size == items.size) = true then _ else _) _ _ s
  rw [if_neg no, pick_rev]
  first
    | exact wpAny_bind (m := Builtin.Tuple.tupleExact _) (wpAny_newObj_type (wpAny_pure ⟨_, rfl, wpAny_pure h⟩) hok)
    | exact wpAny_bind (m := Builtin.Tuple.tupleExact _) (wpAny_newObj_type (wpAny_bind (wpAny_pure (wpAny_pure ⟨_, rfl, wpAny_pure h⟩))) hok)
    | exact wpAny_bind (wpAny_bind (m := Builtin.Tuple.tupleExact _) (wpAny_newObj_type (wpAny_pure (wpAny_pure ⟨_, rfl, wpAny_pure h⟩)) hok))
    | exact wpAny_bind (wpAny_bind (m := Builtin.Tuple.tupleExact _) (wpAny_newObj_type (wpAny_pure ⟨_, rfl, wpAny_pure h⟩) hok))
end
end BX
namespace L2
open PySem PySem.Spec PyProof.Rows
section
variable {X : Cx}
def tRevT (K : PySem.W.Frag) (te : TE) : TE := fun σ H Q => te σ H fun x H1 => ∃ a xs, x = .ref a ∧ SqT K H1 a xs ∧ ∀ p, H1 p = none → Q (.ref p) (upd H1 p (.tup xs.reverse))
theorem pe_revT {e : Expr} {te : TE} {k : Nat} {p1 p2 p3 pos : Pos} (he : PE X e te) : PE X (.Subscript e (.Slice none none (some (.UnaryOp .USub (.Constant (.int 1) k p1) p2)) p3) pos) (tRevT X.K te) := by
  refine ⟨fun pins s σ H Q I h => Subscript_ (thn (he.run pins s σ H _ I h) fun v s1 ⟨x, H1, I1, r1, a, xs, ex, hx, q⟩ => ?_)⟩
  subst ex
  cases r1
  refine wpAny_Slice (thn (po_none.run pins s1 σ H1 (fun o H2 => o = none ∧ H2 = H1) I1 ⟨rfl, rfl⟩) fun vl s2 ⟨l, H2, I2, pl, el, e2⟩ => thn (po_none.run pins s2 σ H2 (fun o H3 => o = none ∧ H3 = H2) I2 ⟨rfl, rfl⟩) fun vu s3 ⟨u, H3, I3, pu, eu, e3⟩ => ?_)
  subst el e2 eu e3
  refine thn ((po_some (pe_un un_neg pe_int)).run pins s3 σ H3 (fun o H4 => o = some (-1) ∧ H4 = H3) I3 ⟨1, rfl, -1, rfl, rfl, rfl⟩) fun vs s4 ⟨o, H4, I4, ps, eo, e4⟩ => ?_
  subst eo e4
  have I5 : Inv X pins σ H4 { s4 with heap := s4.heap.push { cls := .type "slice", data := .fields #[vl, vu, vs] } } := I4.kept (t' := s4.toks) fun b ob q => Heap.get?_push_of_some _ q
  obtain ⟨its, r, ht, hz⟩ := I5.tuple hx
  have hlen := r.length
  cases pl
  cases pu
  show wpAny (model X.prog X.w) X.A (subscriptTail e (.Slice none none (some (.UnaryOp .USub (.Constant (.int 1) k p1) p2)) p3) (.ref a) (.ref s4.heap.objs.size)) (EP X pins σ Q) X.xe _
  refine tail_any (ops := [.ref a, .ref s4.heap.objs.size]) ht.typeIs PyProof.Rows.slot_tuple_getitem.lookup ?_ (by with_unfolding_all rfl)
  refine BX.getItem_rev ht (Heap.IsSliceOf.new _ .none .none vs) ps ?_ (by rw [List.size_toArray]; omega)
  refine ⟨.ref _, _, I5.laid (t' := s4.toks) (o := .tup xs.reverse) (fun b ob q => Heap.get?_push_of_some _ q) (Nat.le_refl _) ?_, rfl, q _ (I5.hok.fresh (Nat.le_refl _))⟩
  exact ⟨by rw [List.length_reverse]; exact hz, _, r.reverse, ⟨_, Heap.get?_push_size _ rfl, rfl, _, rfl⟩⟩
end
end L2
namespace DL
open PySem L2
/-! ### bools as numbers -/
def bi (b : Bool) : Int := if b = true then 1 else 0
section
variable {X : Cx} {κ : Kd} {W : WX} {e a b c tg : Expr} {fa fb fc : En → R Dt} {pos : Pos}
def addB : Dt → Dt → Option Dt
  | .bool k, .int j => some (.int (bi k + j))
  | x, y => addD x y
def subB : Dt → Dt → Option Dt
  | .bool k, .int j => some (.int (bi k - j))
  | x, y => subD x y
def negB : Dt → Option Dt
  | .bool k => some (.int (-bi k))
  | x => negD x
def strB : List Dt → Option Dt
  | [.bool k] => some (.str (if k then "True" else "False"))
  | x => strD x
theorem op_addBI : OpR X (binaryOp .Add) (fun x y H Q => ∃ k j, x = .bl k ∧ y = .int j ∧ Q (.int (bi k + j)) H) := by
  intro pins s σ H x y v u Q I rx ry h
  obtain ⟨k, j, rfl, rfl, q⟩ := h
  cases rx
  obtain ⟨t, rfl⟩ := ry
  exact BX.add_bi ⟨.int (bi k + j), H, I.tok _, ⟨_, rfl⟩, q⟩
theorem op_subBI : OpR X (binaryOp .Sub) (fun x y H Q => ∃ k j, x = .bl k ∧ y = .int j ∧ Q (.int (bi k - j)) H) := by
  intro pins s σ H x y v u Q I rx ry h
  obtain ⟨k, j, rfl, rfl, q⟩ := h
  cases rx
  obtain ⟨t, rfl⟩ := ry
  exact BX.sub_bi ⟨.int (bi k - j), H, I.tok _, ⟨_, rfl⟩, q⟩
theorem un_negB : UnR X (unaryOp .USub) (fun x H Q => (∃ k, x = .bl k ∧ Q (.int (-bi k)) H) ∨ rU (fun i => .int (-i)) x H Q) := by
  intro pins s σ H x v Q I rx h
  rcases h with ⟨k, rfl, q⟩ | h
  · cases rx
    exact BX.neg_b ⟨.int (-bi k), H, I.tok _, ⟨_, rfl⟩, q⟩
  · exact un_neg pins s σ H x v Q I rx h
theorem call_strB : CallR X (.type "str") (fun xs H Q => (∃ k, xs = [.bl k] ∧ Q (.str (if k then "True" else "False")) H) ∨ ∃ i, xs = [.int i] ∧ i.natAbs.log2 < 1920 ∧ Q (.str (toString i)) H) := by
  intro pins s σ H xs us Q I r h
  rcases h with ⟨k, rfl, q⟩ | h
  · obtain ⟨u, rfl, ru⟩ := Vals.one r
    cases ru
    exact PySem.P.str_of_bool ⟨.str _, H, I.tok _, ⟨_, rfl⟩, q⟩
  · exact call_str_int pins s σ H xs us Q I r h
theorem de_addB (ha : DE X κ W a fa) (hb : DE X κ W b fb) : DE X κ W (.BinOp a .Add b pos) (f2 addB fa fb) := de_f2 (r := fun x y H Q => (∃ k j, x = .bl k ∧ y = .int j ∧ Q (.int (bi k + j)) H) ∨ rAddA X.K x y H Q) (pe_op (OpR.or op_addBI op_addA) ha.pe hb.pe) (by
  intro B σ H G en x y dx dy d Q S hx hy hg k
  unfold addB at hg
  split at hg
  · cases hx; cases hy; cases hg
    exact .inl ⟨_, _, rfl, rfl, k _ _ _ S (Ex.refl G) (.int _)⟩
  · exact .inr (rd_add B σ H G en x y dx dy d Q S hx hy hg k))
theorem de_subB (ha : DE X κ W a fa) (hb : DE X κ W b fb) : DE X κ W (.BinOp a .Sub b pos) (f2 subB fa fb) := de_f2 (r := fun x y H Q => (∃ k j, x = .bl k ∧ y = .int j ∧ Q (.int (bi k - j)) H) ∨ rI0 (fun i j => .int (i - j)) x y H Q) (pe_op (OpR.or op_subBI op_sub) ha.pe hb.pe) (by
  intro B σ H G en x y dx dy d Q S hx hy hg k
  unfold subB at hg
  split at hg
  · cases hx; cases hy; cases hg
    exact .inl ⟨_, _, rfl, rfl, k _ _ _ S (Ex.refl G) (.int _)⟩
  · exact .inr (rd_sub B σ H G en x y dx dy d Q S hx hy hg k))
theorem de_negB (ha : DE X κ W a fa) : DE X κ W (.UnaryOp .USub a pos) (f1 negB fa) := de_f1 (pe_un un_negB ha.pe) (by
  intro B σ H G en x dx d Q S hx hg k
  unfold negB at hg
  split at hg
  · cases hx; cases hg
    exact .inl ⟨_, rfl, k _ _ _ S (Ex.refl G) (.int _)⟩
  · exact .inr (rd_neg B σ H G en x dx d Q S hx hg k))
theorem rd_strB : RDA κ (fun xs H Q => (∃ k, xs = [.bl k] ∧ Q (.str (if k then "True" else "False")) H) ∨ ∃ i, xs = [.int i] ∧ i.natAbs.log2 < 1920 ∧ Q (.str (toString i)) H) strB := by
  intro B σ H G en xs dxs d Q S hx hg k
  unfold strB at hg
  split at hg
  · cases hg
    cases hx with
    | cons h1 h2 =>
      cases h1; cases h2
      exact .inl ⟨_, rfl, k _ _ _ S (Ex.refl G) (.str _)⟩
  · exact .inr (rd_str B σ H G en xs dxs d Q S hx hg k)
def notB : Dt → Option Dt
  | .int i => some (.bool (i == 0))
  | x => notD x
theorem de_notB (ha : DE X κ W a fa) : DE X κ W (.UnaryOp .Not a pos) (f1 notB fa) := by
  refine ⟨PE.imp (pe_notT ha.pe) fun σ H Q q => ?_⟩
  obtain ⟨B, G, en, S, q⟩ := q
  refine ⟨B, G, en, S, q.of_bind.mono fun a H1 G1 e1 S1 x1 q1 => fun v hv => ?_⟩
  obtain ⟨d, e2, k⟩ := wp_ret1 q1 S1
  unfold notB at e2
  split at e2
  · rename_i i
    cases hv; cases e2
    refine ⟨_, rfl, ?_⟩
    have z : (!(i != 0)) = (i == 0) := by rw [bne, Bool.not_not]
    rw [z]
    exact k _ _ _ S1 (Ex.refl G1) (.bl _)
  · unfold notD at e2
    split at e2
    · cases hv; cases e2
      exact ⟨_, rfl, k _ _ _ S1 (Ex.refl G1) (.bl _)⟩
    · cases e2
/-! ### x[::-1] -/
def revD : Dt → Option Dt
  | .tuple ds => some (.tuple ds.reverse)
  | .list ds => some (.list ds.reverse)
  | _ => none
def revT : Dt → Option Dt
  | .tuple ds => some (.tuple ds.reverse)
  | _ => none
theorem de_revT {k : Nat} {p1 p2 p3 : Pos} (ha : DE X κ W a fa) : DE X κ W (.Subscript a (.Slice none none (some (.UnaryOp .USub (.Constant (.int 1) k p1) p2)) p3) pos) (f1 revT fa) := by
  refine ⟨PE.imp (pe_revT ha.pe) fun σ H Q q => ?_⟩
  obtain ⟨B, G, en, S, q⟩ := q
  refine ⟨B, G, en, S, q.of_bind.mono fun a H1 G1 e1 S1 x1 q1 => fun v hv => ?_⟩
  obtain ⟨d, e2, k⟩ := wp_ret1 q1 S1
  cases hv with
  | tup h1 h2 =>
    cases e2
    exact ⟨_, _, rfl, S1.sqt h1, fun p hp => S1.newT (DRs.reverse h2) k p hp⟩
  | _ => cases e2
/-! ### a def that returns a list of its own -/
def OFn := List Slot → Option (List Dt)
def spO (κ : Kd) (n : Nat) (F : List Slot → Option (List Dt)) : Sp := fun vs H Q _ => ∃ G as, Sub G H ∧ κ.T H ∧ as.length = n ∧ AR H G vs as ∧ ∃ ds, F as = some ds ∧ ∀ H' G' p ws, Aft κ as vs H G H' G' → H' p = none → DRs G' ws ds → Q (.ref p) (upd H' p (.lst ws))
def tDO (κ : Kd) (F : En → Option (List Dt × En)) : TS := fun D σ H => ∃ (B : Fr) (G : Hp) (e : En), SR κ B σ H G e ∧ ∃ ds e', F e = some (ds, e') ∧ ∀ σ' H' G' p vs, SR κ B σ' H' G' e' → Ex G G' → H' p = none → DRs G' vs ds → D.rt (.ref p) (upd H' p (.lst vs))
structure DSO (X : Cx) (κ : Kd) (st : List Stmt) (F : En → Option (List Dt × En)) : Prop where
  pss : PSs X st (tDO κ F)
def oRet (fs : En → R (List Dt)) : En → Option (List Dt × En) := fun e => match fs e with
  | .ok ds e1 => if szOk ds then some (ds, e1) else none
  | _ => none
def oSeq (f : En → SO) (F : En → Option (List Dt × En)) : En → Option (List Dt × En) := fun e => match f e with
  | .nx e1 => F e1
  | _ => none
theorem dso_ret {es : List Expr} {fs : En → R (List Dt)} {p1 : Pos} (h : DA X κ W es fs) : DSO X κ [.Return (some (.List es p1)) pos] (oRet fs) := ⟨PSs.imp (pss_one (ps_ret (pe_lst h.pa))) fun D σ H q => by
  obtain ⟨B, G, en, S, ds, e', hF, k⟩ := q
  refine ⟨B, G, en, S, ?_⟩
  unfold oRet at hF
  cases z : fs en with
  | exc c e1 => rw [z] at hF; cases hF
  | bad => rw [z] at hF; cases hF
  | ok ds1 e1 =>
    rw [z] at hF
    obtain ⟨c, hF⟩ := ite_some hF
    cases hF
    intro H' G' S' x' vs hv
    exact ⟨by rw [DRs.length hv]; exact szOk_line c, fun p hp => k σ H' G' p vs S' x' hp hv⟩⟩
theorem dso_cons {st : Stmt} {rest : List Stmt} {f : En → SO} {F : En → Option (List Dt × En)} (h : DS X κ W st f) (r : DSO X κ rest F) : DSO X κ (st :: rest) (oSeq f F) := ⟨PSs.imp (pss_cons h.ps r.pss) fun D σ H q => by
  obtain ⟨B, G, en, S, ds, e', hF, k⟩ := q
  refine ⟨B, G, en, S, ?_⟩
  unfold oSeq at hF
  cases z : f en with
  | nx e1 =>
    rw [z] at hF
    exact fun σ' H' G' S' x' => ⟨B, G', e1, S', ds, e', hF, fun σ2 H2 G2 p vs S2 x2 => k σ2 H2 G2 p vs S2 (x'.trans x2)⟩
  | _ => rw [z] at hF; cases hF⟩
def defO (n : Nat) (F : En → Option (List Dt × En)) : List Slot → Option (List Dt) := fun as => if as.all noTrue = true then (match F (initE n as) with
  | some (ds, e') => (outs as e').map fun _ => ds
  | none => none) else none
end
theorem fn_dlO {P : Program} {w : World} {K : PySem.W.Frag} {mg : Str → Option Value} {base : Heap} {κ : Kd} {x qual : Str} {st : Stmt} {f : Addr} {fd : FuncData} {N ps : List Str} {k : Nat} {F : En → Option (List Dt × En)} (Fu : Fun K x qual st f fd) (Sc : FnScope N ps (defScope st))
    (hbody : ∀ (cdv : Value) (A : Around) (outer : List Env) (s : Shared) (H : Hp) (E : XK), Room k (A.deeper (PyProof.Rows.envOfC qual (defScope st) s.heap.objs.size f cdv)) → DSO (cxOf (L2N.CX P w) P w K mg base N qual (defScope st) f cdv A outer s H E) κ (defBody st) F)
    (hn : ps.length ≤ N.length) : FnOk P w K mg base (L2N.CX P w) (k + 1) f fd ps (spO κ ps.length (defO N.length F)) := by
  refine okN Fu Sc (fun vs H Q E h => ?_) (fun cdv A outer s H vs Q E hr h => ?_)
  · obtain ⟨G, as, _, _, hl, ha, _⟩ := h
    rw [ha.len, hl]
  · obtain ⟨G, as, hs, ht, hl, ha, ds, hF, q⟩ := h
    unfold defO at hF
    split at hF
    · rename_i hfl
      have hf : flagsOk as := fun i b xs hi => by
        have hm := List.all_eq_true.mp hfl _ (List.mem_of_getElem? hi)
        cases b with
        | false => rfl
        | true => cases hm
      split at hF
      · rename_i ds1 e1 he
        cases ho : outs as e1 with
        | none => rw [ho] at hF; cases hF
        | some as' =>
          rw [ho] at hF
          cases hF
          refine ⟨_, (hbody cdv A outer s H E hr).pss, _, G, initE N.length as, SR.entry (N := N) hs ht ha hf (by omega), ds1, e1, he, fun σ' H' G' p ws S' x' hp hd => ?_⟩
          exact q H' G' p ws (SR.exit ha S' ho).1 hp hd
      · cases hF
    · cases hF
section
variable {X : Cx} {κ : Kd} {W : WX} {e : Expr} {es : List Expr} {pos : Pos}
/-- name = f(..), the list owned from now on -/
def sVat (i n : Nat) (F : List Slot → Option (List Dt)) (fs : En → R (List Slot)) : En → SO := fun e => RS (fs e) fun ss e1 => if ss.length = n then (match F ss with
  | some ds => .nx (e1.set i (some (.own true ds)))
  | none => .bad) else .bad
theorem ds_vat {κ' : Kd} {k n i : Nat} {f : Addr} {fd : FuncData} {ps : List Str} {F : List Slot → Option (List Dt)} {x y : Str} {p p1 spos : Pos} {fs : En → R (List Slot)} (Fk : FnOk X.prog X.w X.K X.mg X.base (L2N.CX X.prog X.w) k f fd ps (spO κ' n F)) (hl : Le κ' κ) (tk : L2N.Takes X W) (hr : Room k X.A) (hg : Gl X x) (hm : X.mg x = some (.ref f)) (hk : PySem.W.keepIn X.K (.ref f) = true)
    (hb : Binds X.K fd ps []) (h : ∀ {te : TE}, PE X (.Call (.Name x p) (e :: es) [] pos) te → PS X (.Assign [.Name y p1] (.Call (.Name x p) (e :: es) [] pos) spos) (tAsg te (gName i))) (ha : AS X κ W (e :: es) fs) (hdb : (x == ("__debug__" : Str)) = false := by decide) (he : starEach (e :: es) X.env = (false, eval e X.env) :: starEach es X.env := by rfl) (hpl : (backTo pos (starEach es X.env)).any (·.1) = false := by rfl) :
    DS X κ W (.Assign [.Name y p1] (.Call (.Name x p) (e :: es) [] pos) spos) (sVat i n F fs) := ⟨PS.imp (h (pe_callS Fk hr hg hm hk hb (fun σ => L2N.passAt tk σ) ha.pa hdb he hpl)) fun D σ H q => by
  obtain ⟨B, G, en, S, q⟩ := q
  refine ⟨B, G, en, S, (wpR.of_RS q).mono fun ss H1 G1 e1 S1 x1 q1 vs hv => ?_⟩
  split at q1
  · rename_i hn
    split at q1
    · rename_i ds hF
      have T' : κ'.T H1 := by
        rcases hl with h | h
        · subst h; trivial
        · subst h; exact S1.t
      refine ⟨G1, ss, S1.sub, T', hn, hv.ar, ds, hF, fun H' G' p ws A hp hd => ?_⟩
      exact q1 _ _ G' ((S1.call hl A hv.notOwn).fresh hp hd) A.gx
    · exact q1.elim
  · exact q1.elim⟩
end
/-! ### recursion by fuel -/
theorem fn_bad {P : Program} {w : World} {K : PySem.W.Frag} {mg : Str → Option Value} {base : Heap} {CX : CXT} {κ : Kd} {k : Nat} {f : Addr} {fd : FuncData} {ps : List Str} : FnOk P w K mg base CX k f fd ps (spF κ mg ps.length (fun _ => .bad)) :=
  ⟨fun vs H Q E ⟨_, _, _, _, _, _, z⟩ => z.elim, fun _ _ _ _ _ _ _ _ _ _ _ _ _ ⟨_, _, _, _, _, _, z⟩ => z.elim⟩
/-- a function that answers less -/
theorem fn_less {P : Program} {w : World} {K : PySem.W.Frag} {mg : Str → Option Value} {base : Heap} {CX : CXT} {κ : Kd} {k n : Nat} {f : Addr} {fd : FuncData} {ps : List Str} {F F' : Fn} (h : FnOk P w K mg base CX k f fd ps (spF κ mg n F)) (hF : ∀ as, F' as = F as ∨ F' as = .bad) : FnOk P w K mg base CX k f fd ps (spF κ mg n F') := h.imp fun vs H Q E ⟨G, as, h1, h2, h3, h4, h5⟩ => ⟨G, as, h1, h2, h3, h4, by
  rcases hF as with z | z
  · rw [← z]; exact h5
  · rw [z] at h5; exact h5.elim⟩
end DL
namespace DL
open PySem L2
/-- the same for a def whose code object is known -/
theorem fn_dlT {P : Program} {w : World} {K : PySem.W.Frag} {mg : Str → Option Value} {base : Heap} {κ : Kd} {x qual : Str} {st : Stmt} {f c : Addr} {fd : FuncData} {N ps : List Str} {k : Nat} {F : En → SO} (Fu : Fun K x qual st f fd) (hc : fd.code = .ref c) (Sc : FnScope N ps (defScope st))
    (hbody : ∀ (cdv : Value), cdv = .ref c → ∀ (A : Around) (outer : List Env) (s : Shared) (H : Hp) (E : XK), Room k (A.deeper (PyProof.Rows.envOfC qual (defScope st) s.heap.objs.size f cdv)) →
      DSs (cxOf (L2N.CX P w) P w K mg base N qual (defScope st) f cdv A outer s H E) κ (fun cls d _ H => E cls d H) (defBody st) F)
    (hn : ps.length ≤ N.length) : FnOk P w K mg base (L2N.CX P w) (k + 1) f fd ps (spF κ mg ps.length (defF N.length F)) := by
  obtain ⟨oc, od, kV, doc, pm, an, cdv, ct, osl, rfl, lk, hcd⟩ := Fu.ex
  have hb := hbody cdv hc
  refine fn_of lk hcd Sc (fun vs H Q E h => ?_) (fun A outer s H vs Q E hr h => ?_)
  · obtain ⟨G, as, _, _, hl, ha, _⟩ := h
    rw [ha.len, hl]
  · obtain ⟨G, as, hs, ht, hl, ha, q⟩ := h
    unfold defF at q
    split at q
    · rename_i hfl
      have hf : flagsOk as := fun i b xs hi => by
        have hm := List.all_eq_true.mp hfl _ (List.mem_of_getElem? hi)
        cases b with
        | false => rfl
        | true => cases hm
      refine ⟨_, (hb A outer s H E hr).pss, _, G, initE N.length as, SR.entry (N := N) hs ht ha hf (by omega), ?_⟩
      unfold runF at q
      split at q
      · rename_i e1 he
        rw [he]
        unfold DL.fin at q
        split at q
        · rename_i as' ho
          intro σ' H' G' S' x'
          obtain ⟨a1, a2⟩ := SR.exit ha S' ho
          exact q .non H' G' a1 a2 .non
        · exact q.elim
      · rename_i d e1 he
        rw [he]
        unfold DL.fin at q
        split at q
        · rename_i as' ho
          intro v σ' H' G' S' x' hv
          obtain ⟨a1, a2⟩ := SR.exit ha S' ho
          exact q v H' G' a1 a2 hv
        · exact q.elim
      · rename_i c e1 he
        rw [he]
        unfold DL.fin at q
        split at q
        · rename_i as' ho
          intro σ' H' G' C mC S' x'
          obtain ⟨a1, a2⟩ := SR.exit ha S' ho
          exact q H' G' C mC a1 a2
        · exact q.elim
      · exact q.elim
    · exact q.elim
end DL
namespace DL
open PySem L2
/-! ### the law's own promise -/
def Scr (sc : Option (Addr × List Int)) (s : Slot) (ns : List Int) : Prop := (s = .dat (.list (ns.map PyData.int))) ∨ ∃ a, sc = some (a, ns) ∧ s = .raw (.ref a)
def spScr (K : PySem.W.Frag) (T : List (Addr × Str)) : Sp := fun vs H Q _ => ∃ (a : Addr) (ns : List Int), vs = [.ref a] ∧ ns.length ≤ 63 ∧ LamX.Tabs T H ∧ SqL K H a (ns.map V.int) ∧ ∀ H', Q (.bl true) H'
theorem fn_script {P : Program} {w : World} {K : PySem.W.Frag} {mg : Str → Option Value} {base : Heap} {k : Nat} {f : Addr} {fd : FuncData} {x : Str} {T : List (Addr × Str)} {N : Option (Addr × List Int) → Fn} (h : ∀ sc, FnOk P w K mg base (L2N.CX P w) k f fd [x] (spF (kdS K T sc) mg 1 (N sc)))
    (hN : ∀ sc s ns, ns.length ≤ 63 → Scr sc s ns → ∃ as', N sc [s] = .ok (.bool true) as') : FnOk P w K mg base (L2N.CX P w) k f fd [x] (spScr K T) := by
  refine ⟨fun vs H Q E ⟨a, ns, e, _⟩ => by rw [e] <;> rfl, fun A outer s H args us vs Q E hr e0 hb r ⟨a, ns, e, hl, hT, hS, hq⟩ => ?_⟩
  subst e
  have one : ∀ (G : Hp) (sl : Slot), ASl H G (.ref a) sl → AR H G [.ref a] [sl] := fun G sl hs => by
    refine ⟨rfl, fun i t hi => ?_, fun i j b c xs ys d hij hi hj _ _ => ?_⟩
    · cases i with
      | zero =>
        have hi : sl = t := Option.some.inj hi
        subst hi
        exact ⟨_, rfl, hs⟩
      | succ i => simp at hi
    · cases i with
      | succ i => simp at hi
      | zero =>
        cases j with
        | zero => exact absurd rfl hij
        | succ j => simp at hj
  have fin : ∀ (sc : Option (Addr × List Int)) (G : Hp) (sl : Slot), Sub G H → ScrT K H sc → ASl H G (.ref a) sl → Scr sc sl ns → codeAny (model P w) A (.call (.ref f) args) (CR (L2N.CX P w) outer P w H s Q E) s := fun sc G sl hs hc ha hscr => by
    obtain ⟨as', e1⟩ := hN sc sl ns hl hscr
    refine (h sc).run A outer s H args us [.ref a] Q E hr e0 hb r ⟨G, [sl], hs, ⟨hT, hc⟩, rfl, one G sl ha, ?_⟩
    rw [e1]
    intro v H' G' _ _ hv
    cases hv
    exact hq H'
  have frz : ScrT K H (some (a, ns)) → codeAny (model P w) A (.call (.ref f) args) (CR (L2N.CX P w) outer P w H s Q E) s := fun hc => fin (some (a, ns)) (fun _ => none) (.raw (.ref a)) (fun _ _ z => nomatch z) hc rfl (.inr ⟨a, rfl, rfl⟩)
  rcases hS with (z | z) | z
  · refine fin none (fun b => if b = a then some (.lst (ns.map V.int)) else none) (.dat (.list (ns.map PyData.int))) (fun b o hb => ?_) trivial (.lst (if_pos rfl) drs_ints) (.inl rfl)
    have hb : (if b = a then some (HO.lst (ns.map V.int)) else none) = some o := hb
    by_cases q : b = a
    · rw [if_pos q] at hb
      cases hb
      rw [q]
      exact ⟨z, .lst _⟩
    · rw [if_neg q] at hb
      cases hb
  · exact frz (.inl z)
  · exact frz (.inr z)
theorem funOf {K : PySem.W.Frag} {x q : Str} {st : Stmt} {f : Addr} {fd : FuncData} (F : FunD K x q (defArgs st) (defBody st) (defScope st) [] [] f fd) : Fun K x q st f fd := by
  obtain ⟨oc, od, dV, kV, doc, pm, an, cdv, ct, osl, rfl, lk, hcd, hD, _⟩ := F.ex
  rcases hD with ⟨_, rfl⟩ | ⟨e, _⟩
  · exact ⟨⟨oc, od, kV, doc, pm, an, cdv, ct, osl, rfl, lk, hcd⟩, F.kp⟩
  · exact absurd rfl e
theorem code_of {K : PySem.W.Frag} {p : He.Defn} {x q : Str} {st : Stmt} {fd : FuncData} (F : Fun K x q st (He.fAd K p) fd) : fd.code = .ref (He.codeOf K p) := by
  obtain ⟨oc, od, kV, doc, pm, an, cdv, ct, osl, rfl, lk, hcd⟩ := F.ex
  obtain ⟨c, rfl⟩ := He.codeIn_ref hcd
  rw [He.codeOf_eq lk rfl] <;> rfl
end DL
namespace DL
open PySem L2
/-! ### x.pop(0) on a list of ours -/
def fPop0 (i : Nat) : En → R Dt := fun e => match e[i]? with
  | some (some (.own b (d :: xs))) => .ok d (e.set i (some (.own b xs)))
  | _ => .bad
section
variable {X : Cx} {κ : Kd} {W : WX} {e a b c tg : Expr} {es : List Expr} {fa fb fc : En → R Dt} {fr : En → R (List Slot)} {pos : Pos}
theorem de_pop0 {x : Str} {p p1 apos cpos : Pos} {k : Nat} (i : Nat) (hx : PE X (.Name x p) (tVar i))
    (hbase : attributeBase (.Name x p) "pop" X.env (eval (.Name x p) X.env) = eval (.Name x p) X.env := by rfl)
    (hfew : ((backTo cpos (starEach ((Expr.Constant (.int 0) k p1) :: []) X.env)).all (fun x => !x.1) && (backToKw cpos (keywordEach [] X.env)).all (fun x => x.1.isSome)
      && decide (((Expr.Constant (.int 0) k p1) :: []).length + ([] : List Keyword).length + (if ([] : List Keyword).isEmpty then 0 else 1) < 30)) = true := by rfl)
    (hline : (apos.endLine == cpos.line) = true := by rfl) (hst : starEach ((Expr.Constant (.int 0) k p1) :: []) X.env = (false, eval (Expr.Constant (.int 0) k p1) X.env) :: starEach [] X.env := by rfl) :
    DE X κ W (.Call (.Attribute (.Name x p) "pop" apos) [.Constant (.int 0) k p1] [] cpos) (fPop0 i) := ⟨PE.imp (pe_bm PySem.F.plainAttrs_list PySem.F.slot_list_pop PySem.F.type_list_pop mt_popAt hx (pa_cons pe_int pa_nil hst) hbase hfew hline hst rfl) fun σ H Q q => by
  obtain ⟨B, G, en, S, q⟩ := q
  unfold fPop0 at q
  split at q
  · rename_i b d xs hi
    obtain ⟨a1, ws, z0, z2, z3, z4, z5, z6⟩ := S.own_at hi
    cases z4 with
    | cons h1 h2 =>
      rename_i v vs
      refine ⟨_, z0, .inl ⟨rfl, v :: vs, .inl (.inl z2)⟩, _, v :: vs, 0, 0, v, rfl, rfl, z2, by decide, by decide, seqIndex_of (by decide) (by simp), rfl, ?_⟩
      exact q _ G (S.write hi z0 h2) (Ex.refl G) v h1
  · exact q.elim⟩
/-! ### x, y = [], list(z) -/
def sParOL (i j k : Nat) : En → SO := fun e => match e[k]? with
  | some (some (.dat (.tuple ds))) => .nx ((e.set i (some (.own true []))).set j (some (.own true ds)))
  | some (some (.dat (.list ds))) => .nx ((e.set i (some (.own true []))).set j (some (.own true ds)))
  | _ => .bad
theorem ds_parOL {x y z : Str} {px py pt pz p p1 spos : Pos} {kt k2 : Nat} {pt2 : Pos} (i j k : Nat) (h : ∀ {ta : TA}, PA X [.List [] p1, .Call (.Name "list" p) [.Name z pz] [] pos] ta → PS X (.Assign [.Tuple [.Name x px, .Name y py] kt pt] (.Tuple [.List [] p1, .Call (.Name "list" p) [.Name z pz] [] pos] k2 pt2) spos) (tPar i j ta))
    (hg : Gl X "list") (hm : X.mg "list" = none) (hz : PE X (.Name z pz) (tVar k)) (he : starEach (.Name z pz :: []) X.env = (false, eval (.Name z pz) X.env) :: starEach [] X.env := by rfl) (hpl : (backTo pos (starEach [] X.env)).any (·.1) = false := by rfl)
    (hs1 : starEach (.List [] p1 :: [.Call (.Name "list" p) [.Name z pz] [] pos]) X.env = (false, eval (.List [] p1) X.env) :: starEach [.Call (.Name "list" p) [.Name z pz] [] pos] X.env := by rfl) (hs2 : starEach (.Call (.Name "list" p) [.Name z pz] [] pos :: []) X.env = (false, eval (.Call (.Name "list" p) [.Name z pz] [] pos) X.env) :: starEach [] X.env := by rfl) :
    DS X κ W (.Assign [.Tuple [.Name x px, .Name y py] kt pt] (.Tuple [.List [] p1, .Call (.Name "list" p) [.Name z pz] [] pos] k2 pt2) spos) (sParOL i j k) := ⟨PS.imp (h (pa_cons (pe_lst pa_nil) (pa_cons (pe_callTy call_list_of hg hm (by decide +kernel) (pa_cons hz pa_nil he) (by decide) (by decide) he hpl) pa_nil hs2) hs1)) fun D σ H q => by
  obtain ⟨B, G, en, S, q⟩ := q
  unfold sParOL at q
  split at q
  · rename_i ds hd
    obtain ⟨v, e1, e2⟩ := S.dat_at hd
    cases e2 with
    | tup h1 h2 =>
      exact ⟨Nat.zero_le _, fun p1 hp1 => ⟨_, e1, _, _, rfl, .inr ((S.other hp1).sqt h1), fun p2 hp2 => ⟨_, _, rfl, q _ _ G ((S.fresh (i := i) hp1 .nil).fresh hp2 h2) (Ex.refl G)⟩⟩⟩
  · rename_i ds hd
    obtain ⟨v, e1, e2⟩ := S.dat_at hd
    cases e2 with
    | lst h1 h2 =>
      exact ⟨Nat.zero_le _, fun p1 hp1 => ⟨_, e1, _, _, rfl, .inl ((S.other hp1).sql h1), fun p2 hp2 => ⟨_, _, rfl, q _ _ G ((S.fresh (i := i) hp1 .nil).fresh hp2 h2) (Ex.refl G)⟩⟩⟩
  · exact q.elim⟩
/-! ### a call whose last argument is a list of ours -/
def tASL (X : Cx) (κ : Kd) (W : WX) (i : Nat) (f : En → R (List Slot)) : TA := fun σ H Q => ∃ (B : Fr) (G : Hp) (e : En), SR κ B σ H G e ∧ (∃ a, σ[i]? = some (some (V.ref a))) ∧ wpR X κ B W σ G (f e) (fun ss H' G' _ => ∀ vs a, SlAs G' vs ss → σ[i]? = some (some (V.ref a)) → Q (vs ++ [V.ref a]) H')
structure ASL (X : Cx) (κ : Kd) (W : WX) (i : Nat) (es : List Expr) (f : En → R (List Slot)) : Prop where
  pa : PA X es (tASL X κ W i f)
theorem asl_nil {y : Str} {p1 : Pos} (i : Nat) (hy : PE X (.Name y p1) (tVar i)) (hs : starEach [.Name y p1] X.env = [(false, eval (.Name y p1) X.env)] := by rfl) : ASL X κ W i [.Name y p1] aNil := ⟨PA.imp (pa_cons hy pa_nil hs) fun σ H Q q => by
  obtain ⟨B, G, en, S, ⟨a, ha⟩, q⟩ := q
  exact ⟨_, ha, q H G S (Ex.refl G) [] a .nil ha⟩⟩
theorem asl_cons {i : Nat} (ha : DE X κ W a fa) (hr : ASL X κ W i es fr) (hs : starEach (a :: es) X.env = (false, eval a X.env) :: starEach es X.env := by rfl) : ASL X κ W i (a :: es) (aCons fa fr) := ⟨PA.imp (pa_cons ha.pe hr.pa hs) fun σ H Q q => by
  obtain ⟨B, G, en, S, hi, q⟩ := q
  refine ⟨B, G, en, S, q.of_bind.mono fun d H1 G1 e1 S1 x1 q1 v hv => ⟨B, G1, e1, S1, hi, q1.of_bind.mono fun ss H2 G2 e2 S2 x2 q2 vs a2 hvs ha2 => ?_⟩⟩
  exact q2 H2 G2 S2 (Ex.refl G2) _ a2 (.cons (DR.ex x2 hv) hvs) ha2⟩
def lastOwn : List Slot → Option (List Dt)
  | [.own _ xs] => some xs
  | _ :: s :: ss => lastOwn (s :: ss)
  | _ => none
def backL (i : Nat) (b : Bool) (e : En) : FO → R Dt
  | .ok d ss => (match lastOwn ss with
    | some xs => .ok d (e.set i (some (.own b xs)))
    | none => .bad)
  | .exc c ss => (match lastOwn ss with
    | some xs => .exc c (e.set i (some (.own b xs)))
    | none => .bad)
  | .bad => .bad
def callL (n i : Nat) (F : Fn) (fs : En → R (List Slot)) : En → R Dt := fun e => if isOwn e[i]? = true then (fs e).bind fun ss e1 => (match e1[i]? with
  | some (some (.own b xs)) => if ss.length + 1 = n then backL i b e1 (F (ss ++ [.own false xs])) else .bad
  | _ => .bad) else .bad
theorem lastOwn_at : ∀ {ss : List Slot} {xs : List Dt}, lastOwn ss = some xs → ∃ b, ss[ss.length - 1]? = some (.own b xs) ∧ ss ≠ []
  | [.own b xs], ys, h => by cases h; exact ⟨b, rfl, by simp⟩
  | [.dat _], _, h => by cases h
  | [.raw _], _, h => by cases h
  | [], _, h => by cases h
  | s :: t :: ss, xs, h => by
    have h : lastOwn (t :: ss) = some xs := by cases s <;> exact h
    obtain ⟨b, e, _⟩ := lastOwn_at h
    exact ⟨b, by simpa using e, by simp⟩
theorem SlAs.noown {G : Hp} {vs : List V} {ss : List Slot} (h : SlAs G vs ss) {j : Nat} {b : Bool} {xs : List Dt} : ss[j]? ≠ some (.own b xs) := fun z => by
  obtain ⟨v, _, w2⟩ := h.get z
  exact w2
theorem ar_snoc {H G : Hp} {vs : List V} {ss : List Slot} (hv : SlAs G vs ss) {a : Addr} {us : List V} {xs : List Dt} (h1 : H a = some (.lst us)) (h2 : G a = none) (h3 : DRs G us xs) : AR H G (vs ++ [.ref a]) (ss ++ [.own false xs]) ∧ ∀ c, c ≠ a → NotOwn (ss ++ [Slot.own false xs]) (vs ++ [.ref a]) c := by
  have hl := hv.length
  have own_at : ∀ {j : Nat} {b : Bool} {ys : List Dt}, (ss ++ [Slot.own false xs])[j]? = some (.own b ys) → j = vs.length := fun {j b ys} hj => by
    by_cases c : j < ss.length
    · rw [List.getElem?_append_left c] at hj
      exact absurd hj hv.noown
    · rw [List.getElem?_append_right (by omega)] at hj
      have := (List.getElem?_eq_some_iff.mp hj).1
      simp at this
      omega
  refine ⟨⟨by simp [hl], fun j s hj => ?_, fun i j b c ys zs d hij hi hj _ _ => hij ((own_at hi).trans (own_at hj).symm)⟩, fun c hc j b ys hj hz => ?_⟩
  · by_cases c : j < ss.length
    · rw [List.getElem?_append_left c] at hj
      obtain ⟨v, w1, w2⟩ := hv.ar (H := H).at_ j s hj
      exact ⟨v, by rw [List.getElem?_append_left (by omega)]; exact w1, w2⟩
    · rw [List.getElem?_append_right (by omega)] at hj
      have h4 := (List.getElem?_eq_some_iff.mp hj).1
      have e : j - ss.length = 0 := by simp at h4; omega
      rw [e] at hj
      cases hj
      refine ⟨.ref a, ?_, a, us, rfl, h1, h2, h3⟩
      rw [List.getElem?_append_right (by omega), show j - vs.length = 0 by omega]
      rfl
  · have e := own_at hj
    rw [e, List.getElem?_append_right (Nat.le_refl _), Nat.sub_self] at hz
    cases hz
    exact hc rfl
theorem de_callL {κ' : Kd} {k n i : Nat} {f : Addr} {fd : FuncData} {ps : List Str} {F : Fn} {x : Str} {p : Pos} {fs : En → R (List Slot)} (Fk : FnOk X.prog X.w X.K X.mg X.base (L2N.CX X.prog X.w) k f fd ps (spF κ' X.mg n F)) (hl : Le κ' κ) (tk : L2N.Takes X W) (hr : Room k X.A) (hg : Gl X x) (hm : X.mg x = some (.ref f)) (hk : PySem.W.keepIn X.K (.ref f) = true)
    (hb : Binds X.K fd ps []) (ha : ASL X κ W i (e :: es) fs) (hdb : (x == ("__debug__" : Str)) = false := by decide) (he : starEach (e :: es) X.env = (false, eval e X.env) :: starEach es X.env := by rfl) (hpl : (backTo pos (starEach es X.env)).any (·.1) = false := by rfl) :
    DE X κ W (.Call (.Name x p) (e :: es) [] pos) (callL n i F fs) := by
  refine ⟨PE.imp (pe_callS Fk hr hg hm hk hb (fun σ => L2N.passAt tk σ) ha.pa hdb he hpl) fun σ H Q q => ?_⟩
  obtain ⟨B, G, en, S, q⟩ := q
  unfold callL at q
  split at q
  case isFalse => exact q.elim
  rename_i ho
  obtain ⟨a0, us0, haσ, _⟩ := own_of S ho
  refine ⟨B, G, en, S, ⟨a0, haσ⟩, q.of_bind.mono fun ss H1 G1 e1 S1 x1 q1 vs a hv ha1 => ?_⟩
  rw [haσ] at ha1
  cases ha1
  split at q1
  · rename_i b xs hi
    split at q1
    · rename_i hn
      obtain ⟨a', us, q0, z2, z3, z4, z5, z6⟩ := S1.own_at hi
      rw [haσ] at q0
      cases q0
      have T' : κ'.T H1 := by
        rcases hl with h | h
        · subst h; trivial
        · subst h; exact S1.t
      obtain ⟨hAR, nO⟩ := ar_snoc hv z2 z3 z4
      refine ⟨G1, _, S1.sub, T', by simpa using hn, hAR, ?_⟩
      have fin : ∀ {H' G' : Hp} {ys : List Dt} {as' : List Slot}, lastOwn as' = some ys → Aft κ' (ss ++ [Slot.own false xs]) (vs ++ [V.ref a0]) H1 G1 H' G' → AR H' G' (vs ++ [V.ref a0]) as' → SR κ B σ H' G' (e1.set i (some (.own b ys))) := fun {H' G' ys as'} hlo A R' => by
        obtain ⟨b', e2, _⟩ := lastOwn_at hlo
        have hlen := R'.len
        rw [← hlen] at e2
        obtain ⟨v, w1, w2⟩ := R'.at_ _ _ e2
        rw [show (vs ++ [V.ref a0]).length - 1 = vs.length by simp, List.getElem?_append_right (Nat.le_refl _), Nat.sub_self] at w1
        have w1 : V.ref a0 = v := Option.some.inj w1
        subst w1
        obtain ⟨a3, ws, r0, r1, r2, r3⟩ := w2
        cases r0
        exact S1.callO hl hi haσ A nO r1 r2 r3
      unfold backL at q1
      split at q1
      · rename_i d as' hF
        split at q1
        · rename_i ys hlo
          rw [hF]
          intro v H' G' A R' hd
          exact q1 H' G' (fin hlo A R') A.gx v hd
        · exact q1.elim
      · rename_i c as' hF
        split at q1
        · rename_i ys hlo
          rw [hF]
          intro H' G' C mC A R'
          exact q1 H' G' C mC (fin hlo A R') A.gx
        · exact q1.elim
      · exact q1.elim
    · exact q1.elim
  · exact q1.elim
end
end DL
namespace L2
open PySem PySem.Spec PyProof.Rows
/-! ### list.count of a text in a list of texts -/
def eqz (z : Str) (v : Value) : Bool := match v with
  | .str a _ => a == z
  | _ => false
theorem count_eqz {z : Str} : ∀ {ws : List Str} {us : List Value}, Vals (ws.map V.str) us → us.countP (eqz z) = ws.count z
  | [], us, h => by cases h; rfl
  | w :: ws, us, h => by
    cases h with
    | cons h1 h2 =>
      obtain ⟨t, rfl⟩ := h1
      rw [List.countP_cons, List.count_cons, count_eqz h2]
      rfl
theorem strs_are {ws : List Str} {us : List Value} (h : Vals (ws.map V.str) us) : ∀ y ∈ us, ∃ a t, y = .str a t := by
  induction ws generalizing us with
  | nil => cases h; intro y hy; simp at hy
  | cons w ws ih =>
    cases h with
    | cons h1 h2 =>
      intro y hy
      rcases List.mem_cons.mp hy with rfl | hy
      · obtain ⟨t, rfl⟩ := h1
        exact ⟨w, t, rfl⟩
      · exact ih h2 y hy
def rCntS (K : PySem.W.Frag) : V → List V → Hp → VK → Prop := fun x xs H Q => ∃ (p : Addr) (ws : List Str) (z : Str), x = .ref p ∧ xs = [.str z] ∧ SqL K H p (ws.map V.str) ∧ Q (.int (ws.count z : Nat)) H
theorem mt_scount {X : Cx} : MtR X "list.count" (rCntS X.K) := by
  intro pins s σ H x xs v us Q I rx rxs h
  obtain ⟨p, ws, z, rfl, rfl, hs, q⟩ := h
  cases rx
  obtain ⟨u, rfl, ru⟩ := rxs.one
  obtain ⟨t, rfl⟩ := ru
  obtain ⟨its, rv, ⟨⟨cls, dd, data, sl⟩, n, ho, hc, hdn, hd⟩, hlen⟩ := I.list hs
  simp only at hc hd
  subst hc hd
  refine call_meets PySem.F.slot_list_count ⟨_, ho, rfl⟩ PySem.F.entry_list_count (PySem.F.args_list_count_2 _ _) (SeqAt.list_countAt p its.toArray n dd sl (.str z t) (eqz z)) ⟨ho, fun y hy => ?_, ?_⟩
  · obtain ⟨a, ta, rfl⟩ := strs_are rv y (by simpa using hy)
    exact SeqAt.EqAt.str_str a ta z t
  · have ec : its.toArray.toList.countP (eqz z) = ws.count z := count_eqz rv
    rw [ec]
    exact ⟨.int (ws.count z : Nat), H, I.tok _, ⟨s.toks, rfl⟩, q⟩
end L2
namespace DL
open PySem L2
section
variable {X : Cx} {κ : Kd} {W : WX} {e a b c tg : Expr} {es : List Expr} {fa fb fc : En → R Dt} {pos : Pos}
/-- x.count(z), x a list of ours that holds texts -/
def fCntO (i : Nat) (fb : En → R Dt) : En → R Dt := fun e => if isOwn e[i]? = true then (fb e).bind fun j e1 => (match e1[i]?, j with
  | some (some (.own _ xs)), .str z => (match strsD xs with
    | some ws => .ok (.int (ws.count z : Nat)) e1
    | none => .bad)
  | _, _ => .bad) else .bad
theorem de_cntO {x : Str} {p apos cpos : Pos} (i : Nat) (hx : PE X (.Name x p) (tVar i)) (hb : DE X κ W b fb)
    (hbase : attributeBase (.Name x p) "count" X.env (eval (.Name x p) X.env) = eval (.Name x p) X.env := by rfl)
    (hfew : ((backTo cpos (starEach (b :: []) X.env)).all (fun x => !x.1) && (backToKw cpos (keywordEach [] X.env)).all (fun x => x.1.isSome)
      && decide ((b :: []).length + ([] : List Keyword).length + (if ([] : List Keyword).isEmpty then 0 else 1) < 30)) = true := by rfl)
    (hline : (apos.endLine == cpos.line) = true := by rfl) (hst : starEach (b :: []) X.env = (false, eval b X.env) :: starEach [] X.env := by rfl) :
    DE X κ W (.Call (.Attribute (.Name x p) "count" apos) [b] [] cpos) (fCntO i fb) := ⟨PE.imp (pe_bm PySem.F.plainAttrs_list PySem.F.slot_list_count PySem.F.type_list_count mt_scount hx (pa_cons hb.pe pa_nil hst) hbase hfew hline hst rfl) fun σ H Q q => by
  obtain ⟨B, G, en, S, q⟩ := q
  unfold fCntO at q
  split at q
  case isFalse => exact q.elim
  rename_i ho
  obtain ⟨a0, us, q0, q2⟩ := own_of S ho
  refine ⟨_, q0, .inl ⟨rfl, us, .inl (.inl q2)⟩, B, G, en, S, q.of_bind.mono fun d H1 G1 e1 S1 x1 q1 v hv => ?_⟩
  split at q1
  · rename_i b xs z hi
    split at q1
    · rename_i ws hw
      obtain ⟨a1, vs, z0, z2, z3, z4, z5, z6⟩ := S1.own_at hi
      rw [q0] at z0
      cases z0
      cases hv
      have e := strsD_some hw
      subst e
      refine ⟨_, ws, z, rfl, rfl, .inl (.inl (by rw [← drs_of_strs z4]; exact z2)), q1 H1 G1 S1 (Ex.refl G1) _ (.int _)⟩
    · exact q1.elim
  · exact q1.elim⟩
/-- x = a + b, two lists; the sum is ours -/
def sOwnAdd (i : Nat) (fa fb : En → R Dt) : En → SO := fun e => RS (fa e) fun x e1 => RS (fb e1) fun y e2 => (match x, y with
  | .list xs, .list ys => if small (xs.length + ys.length) then .nx (e2.set i (some (.own true (xs ++ ys)))) else .bad
  | _, _ => .bad)
theorem ds_ownAdd {x : Str} {p spos : Pos} (i : Nat) (h : ∀ {te : TE}, PE X (.BinOp a .Add b pos) te → PS X (.Assign [.Name x p] (.BinOp a .Add b pos) spos) (tAsg te (gName i))) (ha : DE X κ W a fa) (hb : DE X κ W b fb) : DS X κ W (.Assign [.Name x p] (.BinOp a .Add b pos) spos) (sOwnAdd i fa fb) := ⟨PS.imp (h (pe_op op_cat ha.pe hb.pe)) fun D σ H q => by
  obtain ⟨B, G, en, S, q⟩ := q
  refine ⟨B, G, en, S, (wpR.of_RS q).mono fun d1 H1 G1 e1 S1 x1 q1 v hv => ⟨B, G1, e1, S1, (wpR.of_RS q1).mono fun d2 H2 G2 e2 S2 x2 q2 w hw => ?_⟩⟩
  split at q2
  · rename_i xs ys
    split at q2
    · rename_i hs
      cases DR.ex x2 hv with
      | lst h1 h2 =>
        cases hw with
        | lst h3 h4 =>
          exact ⟨_, _, _, _, rfl, rfl, S2.lst h1, S2.lst h3, by rw [DRs.length h2, DRs.length h4]; exact small_line hs, fun p hp => q2 _ _ G2 (S2.fresh hp (DRs.append h2 h4)) (Ex.refl G2)⟩
    · exact q2.elim
  · exact q2.elim⟩
end
end DL
namespace BX
open PySem PySem.Spec PySem.Calls PyProof.Rows L2
/-- (..) * 1 is the tuple itself -/
theorem tuple_mul1 (l : Addr) (items : Array Value) (n : Nat) (dd : Option Addr) (sl : Array (Option Value)) (u : Tok) :
    Meets (Builtin.«tuple.__mul__» ⟨[.ref l, .int 1 u], []⟩) (fun _ R s => s.heap.get? l = some { cls := .type "tuple", dict := dd, data := .seq items n, slots := sl } ∧ R (.ok (.ret (.ref l))) s) :=
  .of_wp fun prog w A R s h => by
    obtain ⟨hp, g, d, tk, os⟩ := s
    obtain ⟨hl, h⟩ := h
    have f1 := AutoSeq1.idx_int
    wp_walk using wpAny_loadPart' hl
    repeat (first
      | (refine wpAny_ite_true (by simp) ?_; wp_walk using wpAny_loadPart' hl)
      | (refine wpAny_ite_false (by simp) ?_; wp_walk using wpAny_loadPart' hl))
    exact ⟨_, rfl, h⟩
end BX
namespace L2
open PySem PySem.Spec PyProof.Rows
def rOneT (K : PySem.W.Frag) : R2 := fun x y H Q => ∃ l xs, x = .ref l ∧ y = .int 1 ∧ SqT K H l xs ∧ Q (.ref l) H
theorem op_oneT {X : Cx} : OpR X (binaryOp .Mult) (rOneT X.K) := by
  intro pins s σ H x y v u Q I rx ry h
  obtain ⟨l, xs, rfl, rfl, hT, q⟩ := h
  cases rx
  obtain ⟨t, rfl⟩ := ry
  obtain ⟨its, r, ⟨⟨cls, dd, data, sl⟩, ho, hc, n, hd⟩, hs⟩ := I.tuple hT
  simp only at hc hd
  subst hc hd
  exact wpAny_binaryOp_repeat_ref (T := "tuple") (U := "int") (by decide) ⟨_, ho, rfl⟩ (fun s' => typeIs_int s' 1 t) noFill_tuple_mul F.fills_int_mul F.slot_int_rmul repeat_tuple F.slot_int_index.lookup
    (call_meets F.slot_int_rmul (typeIs_int s 1 t) F.entry_int_rmul (F.args_int_rmul_2 _ _) (int_rmul_tuple 1 t l its.toArray n dd sl) ⟨ho, rfl, ⟨_, ho, rfl⟩, call_meets F.slot_tuple_mul ⟨_, ho, rfl⟩ F.entry_tuple_mul (F.args_tuple_mul_2 _ _) (BX.tuple_mul1 l its.toArray n dd sl t) ⟨ho, .ref l, H, I, rfl, q⟩⟩)
end L2
namespace DL
open PySem L2
section
variable {X : Cx} {κ : Kd} {W : WX} {a b : Expr} {fa fb : En → R Dt} {pos : Pos}
/-- *, a tuple times 1 too -/
def mulT : Dt → Dt → Option Dt
  | .tuple xs, .int 1 => some (.tuple xs)
  | x, y => mulD x y
theorem de_mulT (ha : DE X κ W a fa) (hb : DE X κ W b fb) : DE X κ W (.BinOp a .Mult b pos) (f2 mulT fa fb) := de_f2 (r := fun x y H Q => rOneT X.K x y H Q ∨ rMulA X.K x y H Q) (pe_op (OpR.or op_oneT op_mulA) ha.pe hb.pe) (by
  intro B σ H G en x y dx dy d Q S hx hy hg k
  unfold mulT at hg
  split at hg
  · cases hy; cases hg
    cases hx with
    | tup h1 h2 => exact .inl ⟨_, _, rfl, rfl, S.sqt h1, k _ _ _ S (Ex.refl G) (.tup h1 h2)⟩
  · exact .inr (rd_mul B σ H G en x y dx dy d Q S hx hy hg k))
end
end DL
/-! EV: the readings as simp rules -/
namespace DL
open PySem L2
section
variable {α β : Type}
@[simp] theorem R.bind_ok {a : α} {e : En} {f : α → En → R β} : (R.ok a e).bind f = f a e := rfl
@[simp] theorem R.bind_exc {c : Str} {e : En} {f : α → En → R β} : (R.exc c e).bind f = .exc c e := rfl
@[simp] theorem R.bind_bad {f : α → En → R β} : (R.bad : R α).bind f = .bad := rfl
@[simp] theorem RS_ok {a : α} {e : En} {f : α → En → SO} : RS (R.ok a e) f = f a e := rfl
@[simp] theorem RS_exc {c : Str} {e : En} {f : α → En → SO} : RS (R.exc c e) f = .exc c e := rfl
@[simp] theorem RS_bad {f : α → En → SO} : RS (R.bad : R α) f = .bad := rfl
@[simp] theorem ret1_some {a : α} {e : En} : ret1 (some a) e = .ok a e := rfl
@[simp] theorem ret1_none {e : En} : ret1 (none : Option α) e = .bad := rfl
end
variable {e e1 : En} {fa fb fc : En → R Dt} {fs : En → R (List Dt)} {ft fu : En → R Bool} {d : Dt} {i j : Nat}
@[simp] theorem fC_ev : fC d e = .ok d e := rfl
theorem fVar_of (h : e[i]? = some (some (.dat d))) : fVar i e = .ok d e := by unfold fVar; rw [h]
theorem fVar_own {xs : List Dt} (h : e[i]? = some (some (.own true xs))) : fVar i e = .ok (.list xs) (e.set i (some (.dat (.list xs)))) := by unfold fVar; rw [h]
@[simp] theorem fV0 {r : En} : fVar 0 (some (.dat d) :: r) = .ok d (some (.dat d) :: r) := rfl
@[simp] theorem fVo0 {r : En} {xs : List Dt} : fVar 0 (some (.own true xs) :: r) = .ok (.list xs) (some (.dat (.list xs)) :: r) := rfl
def R.cons (s : Option Slot) : R Dt → R Dt
  | .ok d e => .ok d (s :: e)
  | .exc c e => .exc c (s :: e)
  | .bad => .bad
theorem fVar_succ {s : Option Slot} {r : En} : fVar (i + 1) (s :: r) = (fVar i r).cons s := by
  unfold fVar
  rw [List.getElem?_cons_succ]
  cases r[i]? with
  | none => rfl
  | some o =>
    cases o with
    | none => rfl
    | some sl =>
      cases sl with
      | dat d => rfl
      | raw w => rfl
      | own b xs => cases b <;> rfl
@[simp] theorem R.cons_ok {s : Option Slot} : (R.ok d e).cons s = .ok d (s :: e) := rfl
@[simp] theorem R.cons_bad {s : Option Slot} : (R.bad : R Dt).cons s = .bad := rfl
@[simp] theorem f1_ev {g : Dt → Option Dt} : f1 g fa e = (fa e).bind fun a e1 => ret1 (g a) e1 := rfl
@[simp] theorem f2_ev {g : Dt → Dt → Option Dt} : f2 g fa fb e = (fa e).bind fun a e1 => (fb e1).bind fun b e2 => ret1 (g a b) e2 := rfl
@[simp] theorem fA_ev {g : List Dt → Option Dt} : fA g fs e = (fs e).bind fun a e1 => ret1 (g a) e1 := rfl
@[simp] theorem fNil_ev : fNil e = .ok [] e := rfl
@[simp] theorem fCons_ev : fCons fa fs e = (fa e).bind fun a e1 => (fs e1).bind fun r e2 => .ok (a :: r) e2 := rfl
@[simp] theorem fAnd_ev : fAnd fa fb e = (fa e).bind fun a e1 => match a with
  | .bool true => fb e1
  | .bool false => .ok (.bool false) e1
  | _ => .bad := rfl
@[simp] theorem fOr_ev : fOr fa fb e = (fa e).bind fun a e1 => match a with
  | .bool true => .ok (.bool true) e1
  | .bool false => fb e1
  | _ => .bad := rfl
@[simp] theorem asB_bool {b : Bool} : asB (.bool b) e = .ok b e := rfl
@[simp] theorem fB_ev : fB fa e = (fa e).bind asB := rfl
@[simp] theorem gAnd_ev : gAnd ft fu e = (ft e).bind fun c e1 => if c = true then fu e1 else .ok false e1 := rfl
@[simp] theorem gOr_ev : gOr ft fu e = (ft e).bind fun c e1 => if c = true then .ok true e1 else fu e1 := rfl
@[simp] theorem gNot_ev : gNot ft e = (ft e).bind fun c e1 => .ok (!c) e1 := rfl
@[simp] theorem fIf_ev : fIf ft fa fb e = (ft e).bind fun c e1 => if c = true then fa e1 else fb e1 := rfl
@[simp] theorem fCh_ev {g g' : Dt → Dt → Option Dt} : fCh g g' fa fb fc e = (fa e).bind fun a e1 => (fb e1).bind fun b e2 => match g a b with
  | some (.bool true) => (fc e2).bind fun c e3 => ret1 (g' b c) e3
  | some (.bool false) => .ok (.bool false) e2
  | _ => .bad := rfl
@[simp] theorem fNo_ev : fNo e = .ok none e := rfl
@[simp] theorem asI_int {k : Int} : asI (.int k) e = .ok (some k) e := rfl
@[simp] theorem fPart_ev : fPart fa e = (fa e).bind asI := rfl
@[simp] theorem fSl_ev {fl fh : En → R (Option Int)} : fSl fa fl fh e = (fa e).bind fun a e1 => (fl e1).bind fun l e2 => (fh e2).bind fun h e3 => ret1 (sliceD a l h) e3 := rfl
@[simp] theorem asSeq_list {ds : List Dt} : asSeq (.list ds) e = .ok ds e := rfl
@[simp] theorem asSeq_tuple {ds : List Dt} : asSeq (.tuple ds) e = .ok ds e := rfl
@[simp] theorem fSeq_ev : fSeq fa e = (fa e).bind asSeq := rfl
@[simp] theorem fRange1_ev : fRange1 fs e = (fs e).bind asR1 := rfl
@[simp] theorem fRange2_ev : fRange2 fs e = (fs e).bind asR2 := rfl
/-! statements -/
section
variable {f g : En → SO} {c : Str} {xs : List Dt}
@[simp] theorem sNx_ev : sNx e = .nx e := rfl
def SO.seq (o : SO) (g : En → SO) : SO := match o with
  | .nx e => g e
  | o => o
@[simp] theorem sSeq_ev : sSeq f g e = (f e).seq g := by unfold sSeq SO.seq; cases f e <;> rfl
@[simp] theorem seq_nx : (SO.nx e).seq g = g e := rfl
@[simp] theorem seq_rt : (SO.rt d e).seq g = .rt d e := rfl
@[simp] theorem seq_bk : (SO.bk e).seq g = .bk e := rfl
@[simp] theorem seq_ct : (SO.ct e).seq g = .ct e := rfl
@[simp] theorem seq_exc : (SO.exc c e).seq g = .exc c e := rfl
@[simp] theorem seq_bad : SO.bad.seq g = .bad := rfl
@[simp] theorem ofOpt_some : ofOpt (some e) = .nx e := rfl
@[simp] theorem sAsg_ev {t : Dt → En → Option En} : sAsg fa t e = RS (fa e) fun d e1 => ofOpt (t d e1) := rfl
@[simp] theorem sRet_ev : sRet fa e = RS (fa e) fun d e1 => .rt d e1 := rfl
@[simp] theorem sExp_ev : sExp fa e = RS (fa e) fun _ e1 => .nx e1 := rfl
@[simp] theorem sIf_ev : sIf ft f g e = RS (ft e) fun c e1 => if c = true then f e1 else g e1 := rfl
@[simp] theorem sExc_ev : sExc c e = .exc c e := rfl
@[simp] theorem gN_ev : gN i d e = some (e.set i (some (.dat d))) := rfl
@[simp] theorem gsNil_ev : gsNil [] e = some e := rfl
@[simp] theorem gsCons_ev {t : Dt → En → Option En} {r : List Dt → En → Option En} {ds : List Dt} : gsCons t r (d :: ds) e = (t d e).bind (r ds) := by
  show (match t d e with
    | some e1 => r ds e1
    | none => none) = _
  cases t d e <;> rfl
theorem gT_ev {n : Nat} {t : List Dt → En → Option En} {ds : List Dt} (h : ds.length = n) : gT n t (.tuple ds) e = t ds e := if_pos h
@[simp] theorem sPar2_ev : sPar2 i j fs e = RS (fs e) fun ds e1 => match ds with
  | [d1, d2] => .nx ((e1.set i (some (.dat d1))).set j (some (.dat d2)))
  | _ => .bad := rfl
end
/-! data -/
@[simp] theorem addD_int {i j : Int} : addD (.int i) (.int j) = some (.int (i + j)) := rfl
@[simp] theorem subD_int {i j : Int} : subD (.int i) (.int j) = some (.int (i - j)) := rfl
@[simp] theorem negD_int {i : Int} : negD (.int i) = some (.int (-i)) := rfl
@[simp] theorem notD_bool {b : Bool} : notD (.bool b) = some (.bool (!b)) := rfl
@[simp] theorem cmpD_int {p : Int → Int → Bool} {i j : Int} : cmpD p (.int i) (.int j) = some (.bool (p i j)) := rfl
@[simp] theorem lenD_tuple {ds : List Dt} : lenD [.tuple ds] = some (.int ds.length) := rfl
@[simp] theorem lenD_list {ds : List Dt} : lenD [.list ds] = some (.int ds.length) := rfl
theorem divD_int {i j : Int} (h : 0 < j) (h2 : j < 1073741824) : divD (.int i) (.int j) = some (.int (i / j)) := if_pos (decide_eq_true ⟨h, h2⟩)
theorem modD_int {i j : Int} (h : 0 < j) : modD (.int i) (.int j) = some (.int (i % j)) := if_pos (decide_eq_true h)
theorem powD_int {i j : Int} (h : 0 ≤ j ∧ j ≤ 1000000 ∧ i.natAbs < 2 ^ 64) : powD (.int i) (.int j) = some (.int (i ^ j.toNat)) := if_pos (decide_eq_true h)
theorem mulD_int {i j : Int} (h : i.natAbs < 2 ^ 64 ∨ j.natAbs < 2 ^ 64) : mulD (.int i) (.int j) = some (.int (i * j)) := if_pos (by simpa using h)
@[simp] theorem intD_int {i : Int} : intD [.int i] = some (.int i) := rfl
theorem gTup_ev {ds : List Dt} (h : ds.length ≤ 1000000) : gTup ds = some (.tuple ds) := if_pos (decide_eq_true h)
theorem gLst_ev {ds : List Dt} (h : ds.length ≤ 1000000) : gLst ds = some (.list ds) := if_pos (decide_eq_true h)
/-! types -/
@[simp] theorem isi_int_none : isiD "int" .none = some (.bool false) := by rfl
@[simp] theorem isi_int_bool {b : Bool} : isiD "int" (.bool b) = some (.bool true) := by rfl
@[simp] theorem isi_int_int {i : Int} : isiD "int" (.int i) = some (.bool true) := by rfl
@[simp] theorem isi_int_str {s : Str} : isiD "int" (.str s) = some (.bool false) := by rfl
@[simp] theorem isi_int_list {s : List Dt} : isiD "int" (.list s) = some (.bool false) := by rfl
@[simp] theorem isi_int_tuple {s : List Dt} : isiD "int" (.tuple s) = some (.bool false) := by rfl
@[simp] theorem isi_bool_none : isiD "bool" .none = some (.bool false) := by rfl
@[simp] theorem isi_bool_bool {b : Bool} : isiD "bool" (.bool b) = some (.bool true) := by rfl
@[simp] theorem isi_bool_int {i : Int} : isiD "bool" (.int i) = some (.bool false) := by rfl
@[simp] theorem isi_bool_str {s : Str} : isiD "bool" (.str s) = some (.bool false) := by rfl
@[simp] theorem isi_bool_list {s : List Dt} : isiD "bool" (.list s) = some (.bool false) := by rfl
@[simp] theorem isi_bool_tuple {s : List Dt} : isiD "bool" (.tuple s) = some (.bool false) := by rfl
@[simp] theorem isi_str_none : isiD "str" .none = some (.bool false) := by rfl
@[simp] theorem isi_str_bool {b : Bool} : isiD "str" (.bool b) = some (.bool false) := by rfl
@[simp] theorem isi_str_int {i : Int} : isiD "str" (.int i) = some (.bool false) := by rfl
@[simp] theorem isi_str_str {s : Str} : isiD "str" (.str s) = some (.bool true) := by rfl
@[simp] theorem isi_str_list {s : List Dt} : isiD "str" (.list s) = some (.bool false) := by rfl
@[simp] theorem isi_str_tuple {s : List Dt} : isiD "str" (.tuple s) = some (.bool false) := by rfl
@[simp] theorem isi_tuple_none : isiD "tuple" .none = some (.bool false) := by rfl
@[simp] theorem isi_tuple_bool {b : Bool} : isiD "tuple" (.bool b) = some (.bool false) := by rfl
@[simp] theorem isi_tuple_int {i : Int} : isiD "tuple" (.int i) = some (.bool false) := by rfl
@[simp] theorem isi_tuple_str {s : Str} : isiD "tuple" (.str s) = some (.bool false) := by rfl
@[simp] theorem isi_tuple_list {s : List Dt} : isiD "tuple" (.list s) = some (.bool false) := by rfl
@[simp] theorem isi_tuple_tuple {s : List Dt} : isiD "tuple" (.tuple s) = some (.bool true) := by rfl
end DL
namespace DL
open PySem L2
@[simp] theorem isi_int_dict {l} : isiD "int" (.dict l) = some (.bool false) := by rfl
@[simp] theorem isi_bool_dict {l} : isiD "bool" (.dict l) = some (.bool false) := by rfl
@[simp] theorem isi_str_dict {l} : isiD "str" (.dict l) = some (.bool false) := by rfl
@[simp] theorem isi_tuple_dict {l} : isiD "tuple" (.dict l) = some (.bool false) := by rfl
section
variable {e e1 : En} {fa fb fc : En → R Dt} {fs : En → R (List Dt)} {fr : En → R (List Slot)} {ft fu : En → R Bool} {d : Dt} {i j n : Nat} {F : Fn}
/-! calls -/
@[simp] theorem aNil_ev : aNil e = .ok [] e := rfl
@[simp] theorem aCons_ev : aCons fa fr e = (fa e).bind fun a e1 => (fr e1).bind fun r e2 => .ok (.dat a :: r) e2 := rfl
@[simp] theorem callD_ev : callD n F fr e = (fr e).bind fun ss e1 => if ss.length = n then ofFO (F ss) e1 else .bad := rfl
@[simp] theorem ofFO_ok {s : List Slot} : ofFO (.ok d s) e = .ok d e := rfl
@[simp] theorem ofFO_exc {s : List Slot} {c : Str} : ofFO (.exc c s) e = .exc c e := rfl
@[simp] theorem ofFO_bad : ofFO .bad e = .bad := rfl
@[simp] theorem runF_ev {f : En → SO} {as : List Slot} : runF n f as = (match f (initE n as) with
  | .nx e => fin as e (.ok .none)
  | .rt d e => fin as e (.ok d)
  | .exc c e => fin as e (.exc c)
  | _ => .bad) := rfl
@[simp] theorem fin_nil {k : List Slot → FO} : fin [] e k = k [] := rfl
@[simp] theorem fin_dat {o : Option Slot} {as : List Slot} {k : List Slot → FO} : fin (.dat d :: as) (o :: e) k = fin as e (fun r => k (.dat d :: r)) := by
  unfold fin
  show (match (outs as e).map (Slot.dat d :: ·) with
    | some as' => k as'
    | none => FO.bad) = _
  cases outs as e <;> rfl
@[simp] theorem fin_raw {o : Option Slot} {v : V} {as : List Slot} {k : List Slot → FO} : fin (.raw v :: as) (o :: e) k = fin as e (fun r => k (.raw v :: r)) := by
  unfold fin
  show (match (outs as e).map (Slot.raw v :: ·) with
    | some as' => k as'
    | none => FO.bad) = _
  cases outs as e <;> rfl
@[simp] theorem fin_own {b : Bool} {xs ys : List Dt} {as : List Slot} {k : List Slot → FO} : fin (.own b xs :: as) (some (.own false ys) :: e) k = fin as e (fun r => k (.own false ys :: r)) := by
  unfold fin
  show (match (outs as e).map (Slot.own false ys :: ·) with
    | some as' => k as'
    | none => FO.bad) = _
  cases outs as e <;> rfl
@[simp] theorem initE_nil : initE n [] = List.replicate n none := rfl
@[simp] theorem initE_cons {s : Slot} {as : List Slot} : initE (n + 1) (s :: as) = some s :: initE n as := by
  unfold initE
  rw [List.map_cons, List.cons_append, List.length_cons, Nat.add_sub_add_right]
/-! own lists -/
@[simp] theorem isOwn_own {b : Bool} {xs : List Dt} : isOwn (some (some (.own b xs))) = true := rfl
/-! comprehensions -/
/-- one turn: what comes of an item, if anything -/
def Turn1 (g : Dt → En → Option En) (ft : En → R Bool) (fe : En → R Dt) (vs : List Nat) (e : En) (G : Dt → Option Dt) (d : Dt) : Prop :=
  ∃ e1, g d (mark e) = some e1 ∧ ((∃ e2, ft e1 = .ok false e2 ∧ wipeE (unmark e e2) vs = e ∧ G d = none) ∨ ∃ e2 y e3, ft e1 = .ok true e2 ∧ fe e2 = .ok y e3 ∧ wipeE (unmark e e3) vs = e ∧ G d = some y)
theorem lcS_pure {g : Dt → En → Option En} {fe : En → R Dt} {vs : List Nat} {G : Dt → Option Dt} : ∀ {ds : List Dt}, (∀ d ∈ ds, Turn1 g ft fe vs e G d) → lcS g ft fe vs ds e = .ok (ds.filterMap G) e
  | [], _ => rfl
  | d :: ds, h => by
    have ih := lcS_pure (ds := ds) fun q hq => h q (List.mem_cons_of_mem _ hq)
    obtain ⟨e1, h1, h2⟩ := h d List.mem_cons_self
    rw [lcS_cons h1]
    rcases h2 with ⟨e2, h3, h4, h5⟩ | ⟨e2, y, e3, h3, h4, h5, h6⟩
    · rw [h3]
      dsimp only
      rw [h4, ih, List.filterMap_cons, h5]
    · rw [h3]
      dsimp only
      rw [h4]
      dsimp only
      rw [h5, ih, List.filterMap_cons, h6]
theorem fLc_pure {fi : En → R (List Dt)} {g : Dt → En → Option En} {fe : En → R Dt} {vs : List Nat} {G : Dt → Option Dt} {ds : List Dt} (hi : fi e = .ok ds e1) (h : ∀ d ∈ ds, Turn1 g ft fe vs (wipeE e1 vs) G d) (hs : ds.length ≤ 1000000) : fLc fi g ft fe vs e = .ok (.list (ds.filterMap G)) (merge e1 (wipeE e1 vs) vs) := by
  unfold fLc
  rw [hi, R.bind_ok, lcS_pure h]
  exact if_pos (decide_eq_true (Nat.le_trans (List.length_filterMap_le _ _) hs))
/-- the same, all items kept -/
theorem fLc_map {fi : En → R (List Dt)} {g : Dt → En → Option En} {fe : En → R Dt} {vs : List Nat} {M : Dt → Dt} {ds : List Dt} (hi : fi e = .ok ds e1) (h : ∀ d ∈ ds, Turn1 g ft fe vs (wipeE e1 vs) (fun d => some (M d)) d) (hs : ds.length ≤ 1000000) : fLc fi g ft fe vs e = .ok (.list (ds.map M)) (merge e1 (wipeE e1 vs) vs) := by
  rw [fLc_pure hi h hs]
  have : ds.filterMap (fun d => some (M d)) = ds.map M := by
    induction ds with
    | nil => rfl
    | cons a l ih => simp
  rw [this]
end
end DL
namespace DL
open PySem L2
/-! ### values that == takes -/
def fitN (n : Nat) (d : Dt) : Bool := d.canLay0 && decide (d.depth ≤ n)
theorem okD_eq {d : Dt} : okD d = fitN 64 d := rfl
theorem fitN_mono {m n : Nat} {d : Dt} (h : fitN m d = true) (hm : m ≤ n) : fitN n d = true := by
  unfold fitN at *
  simp only [Bool.and_eq_true, decide_eq_true_eq] at *
  exact ⟨h.1, by omega⟩
@[simp] theorem fitN_int {n : Nat} {i : Int} : fitN n (.int i) = true := by simp [fitN, PyData.canLay0, PyData.depth]
@[simp] theorem fitN_bool {n : Nat} {b : Bool} : fitN n (.bool b) = true := by simp [fitN, PyData.canLay0, PyData.depth]
@[simp] theorem fitN_none {n : Nat} : fitN n .none = true := by simp [fitN, PyData.canLay0, PyData.depth]
theorem fitN_str {n : Nat} {s : Str} : fitN n (.str s) = PyData.strOk s := by simp [fitN, PyData.canLay0, PyData.depth]
theorem fitN_all {n : Nat} : ∀ {xs : List Dt}, (PyData.canLayAll0 xs && decide (PyData.depthAll xs ≤ n)) = xs.all (fitN n)
  | [] => by simp [PyData.canLayAll0, PyData.depthAll]
  | x :: xs => by
    have ih := fitN_all (n := n) (xs := xs)
    rw [List.all_cons, ← ih]
    unfold fitN
    rw [PyData.canLayAll0, PyData.depthAll]
    rw [Bool.eq_iff_iff]
    simp only [Bool.and_eq_true, decide_eq_true_eq]
    constructor
    · rintro ⟨⟨h1, h2⟩, h3⟩
      exact ⟨⟨h1, by omega⟩, h2, by omega⟩
    · rintro ⟨⟨h1, h2⟩, h3, h4⟩
      exact ⟨⟨h1, h3⟩, by omega⟩
@[simp] theorem fitN_list {n : Nat} {xs : List Dt} : fitN (n + 1) (.list xs) = xs.all (fitN n) := by
  rw [← fitN_all]
  unfold fitN
  rw [PyData.canLay0, PyData.depth]
  simp
@[simp] theorem fitN_tuple {n : Nat} {xs : List Dt} : fitN (n + 1) (.tuple xs) = xs.all (fitN n) := by
  rw [← fitN_all]
  unfold fitN
  rw [PyData.canLay0, PyData.depth]
  simp
theorem fitN0_list {xs : List Dt} : fitN 0 (.list xs) = false := by simp [fitN, PyData.depth]
theorem fitN0_tuple {xs : List Dt} : fitN 0 (.tuple xs) = false := by simp [fitN, PyData.depth]
@[simp] theorem fitN_dict {n : Nat} {l} : fitN n (.dict l) = false := by simp [fitN, PyData.canLay0]
theorem fitN_ints {n : Nat} {l : List Int} : (l.map PyData.int).all (fitN n) = true := by
  rw [List.all_eq_true]
  intro x hx
  obtain ⟨i, _, rfl⟩ := List.mem_map.mp hx
  exact fitN_int
theorem eqD_of {x y : Dt} (h1 : fitN 64 x = true) (h2 : fitN 64 y = true) : eqD x y = some (.bool (PyData.eqv x y)) := by
  unfold eqD
  rw [okD_eq, okD_eq, h1, h2] <;> rfl
theorem neD_of {x y : Dt} (h1 : fitN 64 x = true) (h2 : fitN 64 y = true) : neD x y = some (.bool (!PyData.eqv x y)) := by
  unfold neD
  rw [okD_eq, okD_eq, h1, h2] <;> rfl
/-! ### equality -/
mutual
theorem eqv_refl : ∀ {n : Nat} {d : Dt}, fitN n d = true → PyData.eqv d d = true
  | _, .none, _ => by simp [PyData.eqv]
  | _, .bool _, _ => by simp [PyData.eqv]
  | _, .int _, _ => by simp [PyData.eqv]
  | _, .str _, _ => by simp [PyData.eqv]
  | 0, .list xs, h => by rw [fitN0_list] at h; cases h
  | n + 1, .list xs, h => by
    rw [fitN_list] at h
    rw [PyData.eqv]
    exact eqvAll_refl h
  | 0, .tuple xs, h => by rw [fitN0_tuple] at h; cases h
  | n + 1, .tuple xs, h => by
    rw [fitN_tuple] at h
    rw [PyData.eqv]
    exact eqvAll_refl h
  | _, .dict _, h => by rw [fitN_dict] at h; cases h
theorem eqvAll_refl : ∀ {n : Nat} {xs : List Dt}, xs.all (fitN n) = true → PyData.eqvAll xs xs = true
  | _, [], _ => by simp [PyData.eqvAll]
  | n, x :: xs, h => by
    rw [List.all_cons, Bool.and_eq_true] at h
    rw [PyData.eqvAll, eqv_refl h.1, eqvAll_refl h.2] <;> rfl
end
@[simp] theorem eqv_int {i j : Int} : PyData.eqv (.int i) (.int j) = decide (i = j) := by
  rw [PyData.eqv]
  by_cases h : i = j <;> simp [h]
@[simp] theorem eqv_bool {i j : Bool} : PyData.eqv (.bool i) (.bool j) = (i == j) := by rw [PyData.eqv]
@[simp] theorem eqv_str {i j : Str} : PyData.eqv (.str i) (.str j) = (i == j) := by rw [PyData.eqv]
@[simp] theorem eqv_nil {xs : List Dt} : PyData.eqv (.list xs) (.list []) = xs.isEmpty := by
  rw [PyData.eqv]
  cases xs <;> simp [PyData.eqvAll]
@[simp] theorem eqv_tnil {xs : List Dt} : PyData.eqv (.tuple xs) (.tuple []) = xs.isEmpty := by
  rw [PyData.eqv]
  cases xs <;> simp [PyData.eqvAll]
@[simp] theorem eqv_list {xs ys : List Dt} : PyData.eqv (.list xs) (.list ys) = PyData.eqvAll xs ys := by rw [PyData.eqv]
@[simp] theorem eqv_tuple {xs ys : List Dt} : PyData.eqv (.tuple xs) (.tuple ys) = PyData.eqvAll xs ys := by rw [PyData.eqv]
@[simp] theorem eqvAll_nil : PyData.eqvAll [] [] = true := by rw [PyData.eqvAll]
@[simp] theorem eqvAll_cons {x y : Dt} {xs ys : List Dt} : PyData.eqvAll (x :: xs) (y :: ys) = (PyData.eqv x y && PyData.eqvAll xs ys) := by rw [PyData.eqvAll]
@[simp] theorem eqvAll_nc {x : Dt} {xs : List Dt} : PyData.eqvAll [] (x :: xs) = false := by rw [PyData.eqvAll]
@[simp] theorem eqvAll_cn {x : Dt} {xs : List Dt} : PyData.eqvAll (x :: xs) [] = false := by rw [PyData.eqvAll]
theorem eqvAll_ints : ∀ {a b : List Int}, PyData.eqvAll (a.map PyData.int) (b.map PyData.int) = decide (a = b)
  | [], [] => by simp
  | [], _ :: _ => by simp
  | _ :: _, [] => by simp
  | x :: a, y :: b => by
    rw [List.map_cons, List.map_cons, eqvAll_cons, eqvAll_ints, eqv_int]
    by_cases h : x = y <;> simp [h]
@[simp] theorem eqD_int {i j : Int} : eqD (.int i) (.int j) = some (.bool (decide (i = j))) := by rw [eqD_of fitN_int fitN_int, eqv_int]
@[simp] theorem neD_int {i j : Int} : neD (.int i) (.int j) = some (.bool (!decide (i = j))) := by rw [neD_of fitN_int fitN_int, eqv_int]
@[simp] theorem eqD_bool {i j : Bool} : eqD (.bool i) (.bool j) = some (.bool (i == j)) := by rw [eqD_of fitN_bool fitN_bool, eqv_bool]
theorem eqD_ints {a b : List Int} : eqD (.list (a.map PyData.int)) (.list (b.map PyData.int)) = some (.bool (decide (a = b))) := by rw [eqD_of (by rw [fitN_list]; exact fitN_ints) (by rw [fitN_list]; exact fitN_ints), eqv_list, eqvAll_ints]
theorem eqD_nil {xs : List Dt} (h : xs.all (fitN 63) = true) : eqD (.list xs) (.list []) = some (.bool xs.isEmpty) := by rw [eqD_of (by rw [fitN_list]; exact h) (by rw [fitN_list] <;> rfl), eqv_nil]
theorem neD_nil {xs : List Dt} (h : xs.all (fitN 63) = true) : neD (.list xs) (.list []) = some (.bool (!xs.isEmpty)) := by rw [neD_of (by rw [fitN_list]; exact h) (by rw [fitN_list] <;> rfl), eqv_nil]
theorem addD_list {xs ys : List Dt} (h : xs.length + ys.length ≤ 1000000) : addD (.list xs) (.list ys) = some (.list (xs ++ ys)) := if_pos (decide_eq_true h)
theorem addD_tuple {xs ys : List Dt} (h : xs.length + ys.length ≤ 1000000) : addD (.tuple xs) (.tuple ys) = some (.tuple (xs ++ ys)) := if_pos (decide_eq_true h)
/-! ### places -/
theorem ixN_nat {n i : Nat} (h : i < n) : ixN n (i : Int) = some i := by
  unfold ixN
  rw [if_pos (by omega), if_pos (by omega)]
  rfl
theorem ixN_last {n : Nat} (h : 0 < n) : ixN n (-1) = some (n - 1) := by
  unfold ixN
  rw [if_neg (by omega), if_pos (by omega)]
  congr 1
  omega
theorem atI_nat {α : Type} {xs : List α} {i : Nat} {x : α} (h : xs[i]? = some x) : atI xs (i : Int) = some x := by
  unfold atI
  rw [ixN_nat (List.getElem?_eq_some_iff.mp h).1]
  exact h
theorem atI_succ {α : Type} {xs : List α} {i : Nat} {x : α} (h : xs[i + 1]? = some x) : atI xs ((i : Int) + 1) = some x := by
  have := atI_nat h
  rwa [Int.natCast_add] at this
theorem atI_last {α : Type} {xs : List α} {x : α} : atI (xs ++ [x]) (-1) = some x := by
  unfold atI
  rw [ixN_last (by simp)]
  simp
@[simp] theorem atI_0 {α : Type} {x : α} {xs : List α} : atI (x :: xs) 0 = some x := atI_nat (i := 0) rfl
@[simp] theorem atI_1 {α : Type} {x y : α} {xs : List α} : atI (x :: y :: xs) 1 = some y := atI_nat (i := 1) rfl
@[simp] theorem atI_2 {α : Type} {x y z : α} {xs : List α} : atI (x :: y :: z :: xs) 2 = some z := atI_nat (i := 2) rfl
@[simp] theorem ixD_tuple {xs : List Dt} {i : Int} : ixD (.tuple xs) (.int i) = atI xs i := rfl
@[simp] theorem ixD_list {xs : List Dt} {i : Int} : ixD (.list xs) (.int i) = atI xs i := rfl
/-! ### ranges -/
theorem asR1_ev {e : En} {j : Int} (h : -(2 ^ 62) ≤ j ∧ j < 2 ^ 62) : asR1 [.int j] e = .ok (intsD 0 j.toNat) e := if_pos (fits_in h)
theorem asR2_ev {e : En} {i j : Int} (h : -(2 ^ 62) ≤ i ∧ i < 2 ^ 62) (h2 : -(2 ^ 62) ≤ j ∧ j < 2 ^ 62) : asR2 [.int i, .int j] e = .ok (intsD i (j - i).toNat) e := by
  unfold asR2
  simp only [fits_in h, fits_in h2]
  rfl
theorem intsD_eq {lo : Int} {n : Nat} : intsD lo n = ((List.range n).map fun i : Nat => (lo + (i : Int))).map PyData.int := by
  unfold intsD
  rw [List.map_map]
  rfl
theorem mem_intsD {lo : Int} {n : Nat} {d : Dt} (h : d ∈ intsD lo n) : ∃ i : Nat, i < n ∧ d = .int (lo + (i : Int)) := by
  unfold intsD at h
  obtain ⟨i, hi, rfl⟩ := List.mem_map.mp h
  exact ⟨i, List.mem_range.mp hi, rfl⟩
@[simp] theorem intsD_length {lo : Int} {n : Nat} : (intsD lo n).length = n := by simp [intsD]
end DL
namespace DL
open PySem L2
section
variable {e e1 e2 : En} {d : Dt} {s t : Option Slot} {i : Nat} {vs : List Nat}
@[simp] theorem mark_nil : mark [] = [] := rfl
@[simp] theorem mark_cons : mark (s :: e) = markS s :: mark e := rfl
@[simp] theorem markS_dat : markS (some (.dat d)) = some (.dat d) := rfl
@[simp] theorem markS_raw {v : V} : markS (some (.raw v)) = some (.raw v) := rfl
@[simp] theorem markS_own {b : Bool} {xs : List Dt} : markS (some (.own b xs)) = some (.own false xs) := rfl
@[simp] theorem markS_none : markS none = none := rfl
@[simp] theorem unmark_nil : unmark [] [] = [] := rfl
@[simp] theorem unmark_cons : unmark (s :: e) (t :: e1) = unmarkS s t :: unmark e e1 := rfl
@[simp] theorem unmarkS_dat : unmarkS s (some (.dat d)) = some (.dat d) := by
  cases s with
  | none => rfl
  | some s => cases s <;> rfl
@[simp] theorem unmarkS_raw {v : V} : unmarkS s (some (.raw v)) = some (.raw v) := by
  cases s with
  | none => rfl
  | some s => cases s <;> rfl
@[simp] theorem unmarkS_own {b : Bool} {xs ys : List Dt} : unmarkS (some (.own b xs)) (some (.own false ys)) = some (.own b ys) := rfl
@[simp] theorem unmarkS_none : unmarkS s none = none := by
  cases s with
  | none => rfl
  | some s => cases s <;> rfl
@[simp] theorem unmark_mark : unmarkS s (markS s) = s := by
  cases s with
  | none => rfl
  | some s =>
    cases s with
    | dat d => rfl
    | raw v => rfl
    | own b xs => rfl
@[simp] theorem wipe_nil : wipeE e [] = e := rfl
@[simp] theorem wipe_cons : wipeE e (i :: vs) = (wipeE e vs).set i none := rfl
@[simp] theorem merge_nil : merge e e1 [] = e1 := rfl
@[simp] theorem merge_cons : merge e e1 (i :: vs) = (merge e (e1.set i none) vs).set i (keepS e i) := rfl
@[simp] theorem keepS_z : keepS (some (.dat d) :: e) 0 = some (.dat d) := rfl
@[simp] theorem keepS_zr {v : V} : keepS (some (.raw v) :: e) 0 = some (.raw v) := rfl
@[simp] theorem keepS_zn : keepS (none :: e) 0 = none := rfl
@[simp] theorem keepS_zo {b : Bool} {xs : List Dt} : keepS (some (.own b xs) :: e) 0 = none := rfl
theorem keepS_s : keepS (s :: e) (i + 1) = keepS e i := rfl
/-- one turn of a comprehension -/
def turnR (g : Dt → En → Option En) (ft : En → R Bool) (fe : En → R Dt) (vs : List Nat) (e : En) (d : Dt) : R (Option Dt) := match g d (mark e) with
  | none => .bad
  | some e1 => (match ft e1 with
    | .ok false e2 => .ok none (wipeE (unmark e e2) vs)
    | .ok true e2 => (match fe e2 with
      | .ok y e3 => .ok (some y) (wipeE (unmark e e3) vs)
      | _ => .bad)
    | _ => .bad)
theorem turn_of {g : Dt → En → Option En} {ft : En → R Bool} {fe : En → R Dt} {G : Dt → Option Dt} (h : turnR g ft fe vs e d = .ok (G d) e) : Turn1 g ft fe vs e G d := by
  unfold turnR at h
  split at h
  · cases h
  · rename_i e1 h1
    refine ⟨e1, h1, ?_⟩
    split at h
    · rename_i e2 h2
      injection h with z1 z2
      exact .inl ⟨e2, h2, z2, z1.symm⟩
    · rename_i e2 h2
      split at h
      · rename_i y e3 h3
        injection h with z1 z2
        exact .inr ⟨e2, y, e3, h2, h3, z2, z1.symm⟩
      · cases h
    · cases h
theorem fLc_G {fi : En → R (List Dt)} {g : Dt → En → Option En} {ft : En → R Bool} {fe : En → R Dt} (G : Dt → Option Dt) (ds : List Dt) (e1 : En) (hi : fi e = .ok ds e1) (hs : ds.length ≤ 1000000) (h : ∀ d ∈ ds, turnR g ft fe vs (wipeE e1 vs) d = .ok (G d) (wipeE e1 vs)) : fLc fi g ft fe vs e = .ok (.list (ds.filterMap G)) (merge e1 (wipeE e1 vs) vs) := fLc_pure hi (fun d hd => turn_of (h d hd)) hs
theorem fLc_M {fi : En → R (List Dt)} {g : Dt → En → Option En} {ft : En → R Bool} {fe : En → R Dt} (M : Dt → Dt) (ds : List Dt) (e1 : En) (hi : fi e = .ok ds e1) (hs : ds.length ≤ 1000000) (h : ∀ d ∈ ds, turnR g ft fe vs (wipeE e1 vs) d = .ok (some (M d)) (wipeE e1 vs)) : fLc fi g ft fe vs e = .ok (.list (ds.map M)) (merge e1 (wipeE e1 vs) vs) := fLc_map hi (fun d hd => turn_of (G := fun d => some (M d)) (h d hd)) hs
@[simp] theorem fYes_ev : fYes e = .ok true e := rfl
end
theorem fIs_ev {a : Addr} {b : Bool} {r : En} : fIs 0 a b (some (.raw (.ref a)) :: r) = .ok (.bool b) (some (.raw (.ref a)) :: r) := by
  unfold fIs
  exact if_pos rfl
/-! loops -/
@[simp] theorem sFor_ev {fi : En → R (List Dt)} {g : Dt → En → Option En} {f : En → SO} {e : En} : sFor fi g f e = RS (fi e) fun ds e1 => loopS g f ds e1 := rfl
@[simp] theorem loopS_nil {g : Dt → En → Option En} {f : En → SO} {e : En} : loopS g f [] e = .nx e := rfl
theorem loopS_nx {g : Dt → En → Option En} {f : En → SO} {d : Dt} {ds : List Dt} {e e1 e2 : En} (h1 : g d e = some e1) (h2 : f e1 = .nx e2) : loopS g f (d :: ds) e = loopS g f ds e2 := by rw [loopS_cons h1, h2]
theorem loopS_rt {g : Dt → En → Option En} {f : En → SO} {d r : Dt} {ds : List Dt} {e e1 e2 : En} (h1 : g d e = some e1) (h2 : f e1 = .rt r e2) : loopS g f (d :: ds) e = .rt r e2 := by rw [loopS_cons h1, h2]
/-! pairs of numbers -/
def pr (p : Int × Int) : Dt := .tuple [.int p.1, .int p.2]
def stD (b : Int) (s : List (Int × Int)) : Dt := .tuple [.int b, .tuple (s.map pr)]
theorem fitN_pr {n : Nat} {p : Int × Int} : fitN (n + 1) (pr p) = true := by simp [pr]
theorem fitN_prs {n : Nat} {s : List (Int × Int)} : (s.map pr).all (fitN (n + 1)) = true := by
  rw [List.all_eq_true]
  intro x hx
  obtain ⟨i, _, rfl⟩ := List.mem_map.mp hx
  exact fitN_pr
theorem fitN_stD {n : Nat} {b : Int} {s : List (Int × Int)} : fitN (n + 3) (stD b s) = true := by
  simp only [stD, fitN_tuple, List.all_cons, fitN_int, List.all_nil, Bool.and_true, Bool.true_and]
  exact fitN_prs
@[simp] theorem ixD_st0 {b : Int} {s : List (Int × Int)} : ixD (stD b s) (.int 0) = some (.int b) := rfl
@[simp] theorem ixD_st1 {b : Int} {s : List (Int × Int)} : ixD (stD b s) (.int 1) = some (.tuple (s.map pr)) := rfl
@[simp] theorem ixD_pr0 {p : Int × Int} : ixD (pr p) (.int 0) = some (.int p.1) := rfl
@[simp] theorem ixD_pr1 {p : Int × Int} : ixD (pr p) (.int 1) = some (.int p.2) := rfl
@[simp] theorem gT2_pr {p : Int × Int} {t : List Dt → En → Option En} {e : En} : gT 2 t (pr p) e = t [.int p.1, .int p.2] e := rfl
end DL
namespace DL
open PySem L2
def nmS (c : Str) : Option Str := if c = "InvalidStair" then some "stair value" else if c = "InvalidCourse" then some "course value" else if c = "InvalidGiven" then some "given value" else if c = "InvalidFacts" then some "facts value" else if c = "InvalidIndex" then some "index value" else if c = "InvalidNumber" then some "number value" else if c = "NoCase" then some "case value" else if c = "Unlike" then some "unlike value" else if c = "Quarrel" then some "quarrel value" else if c = "NothingToUndo" then some "undo value" else none
theorem nmS_mem {c t : Str} (h : nmS c = some t) : c ∈ errL := by
  unfold nmS at h
  repeat
    first
    | (split at h; (rename_i e; subst e; decide))
    | cases h
def S_is_whole : En → SO := (sRet (fAnd (f1 (isiD "int") (fVar 0)) (fAnd (f1 notD (f1 (isiD "bool") (fVar 0))) (fCh leD leD (fVar 1) (fVar 0) (fVar 2)))))
abbrev N_is_whole : Fn := defF 3 (S_is_whole)
def S_is_rising : En → SO := (sRet (f2 eqD (fLc (fRange1 (fCons (f2 subD (fA lenD (fCons (fVar 0) fNil)) (fC (.int 1))) fNil)) (gN 1) (fB (f2 geD (f2 ixD (fVar 0) (fVar 1)) (f2 ixD (fVar 0) (f2 addD (fVar 1) (fC (.int 1)))))) (fVar 1) [1]) (fA gLst fNil)))
abbrev N_is_rising : Fn := defF 2 (S_is_rising)
def S_level_at : En → SO := (sSeq (sAsg (f2 ixD (fVar 0) (fC (.int 0))) (gN 2)) (sSeq (sFor (fSeq (f2 ixD (fVar 0) (fC (.int 1)))) (gT 2 (gsCons (gN 3) (gsCons (gN 4) gsNil))) (sIf (fB (f2 leD (fVar 3) (fVar 1))) (sAsg (fVar 4) (gN 2)) sNx)) (sRet (fVar 2))))
abbrev N_level_at : Fn := defF 5 (S_level_at)
def S_law_vat (sc : Option (Addr × List Int)) : En → Option (List Dt × En) := (oSeq (sAsg (f2 addD (f2 mulD (fC (.int 7919)) (fVar 1)) (fC (.int 43))) (gN 2)) (oSeq (sIf (fB (f2 ltD (fVar 1) (fLenS 0 sc))) (sAsg (fA absD (fCons (fA intD (fCons (fIxS 0 sc (fVar 1)) fNil)) fNil)) (gN 2)) sNx) (oRet (fCons (fIf (fB (f2 geD (fVar 2) (f2 powD (fC (.int 10)) (fC (.int 18))))) (fVar 2) (fC (.int 0))) (fCons (f2 addD (f2 modD (fA intD (fCons (f2 addD (f2 addD (f2 mulD (fVar 2) (fC (.int 131071))) (f2 mulD (fC (.int 8191)) (fVar 1))) (fC (.int 5))) fNil)) (fC (.int 2147483629))) (fC (.int 1))) fNil)))))
abbrev N_law_vat (sc : Option (Addr × List Int)) : List Slot → Option (List Dt) := defO 3 (S_law_vat sc)
def S_law_under : En → SO := (sSeq (sIf (fB (f2 gtD (fOwn 0 (fC (.int 0))) (fC (.int 0)))) (sSeq (sAsg (f2 modD (fA intD (fCons (fOwn 0 (fC (.int 0))) fNil)) (fVar 1)) (gN 2)) (sSeq (sSetIx 0 (f2 divD (fOwn 0 (fC (.int 0))) (fVar 1)) (fC (.int 0))) (sRet (fVar 2)))) sNx) (sSeq (sSetIx 0 (f2 modD (fA intD (fCons (f2 addD (f2 mulD (fOwn 0 (fC (.int 1))) (fC (.int 39373))) (fC (.int 101))) fNil)) (fC (.int 2147483629))) (fC (.int 1))) (sSeq (sAsg (f2 modD (fA intD (fCons (f2 mulD (fOwn 0 (fC (.int 1))) (f2 addD (f2 divD (fOwn 0 (fC (.int 1))) (fC (.int 5))) (fC (.int 9)))) fNil)) (fC (.int 2147483587))) (gN 3)) (sRet (f2 modD (fA intD (fCons (f2 divD (fVar 3) (fC (.int 32))) fNil)) (fVar 1))))))
abbrev N_law_under : Fn := defF 4 (S_law_under)
def S_law_is_whole : En → SO := (sRet (fAnd (f1 (isiD "int") (fVar 0)) (fAnd (f1 notD (f1 (isiD "bool") (fVar 0))) (fCh leD leD (fVar 1) (fVar 0) (fVar 2)))))
abbrev N_law_is_whole : Fn := defF 3 (S_law_is_whole)
def S_law_truly : En → SO := (sRet (fAnd (f1 (isiD "bool") (fVar 0)) (f2 eqD (fVar 0) (fVar 1))))
abbrev N_law_truly : Fn := defF 2 (S_law_truly)
def S_law_shown : En → SO := (sSeq (sAsg (fLc (fSeq (f2 ixD (fVar 0) (fC (.int 1)))) (gT 2 (gsCons (gN 3) (gsCons (gN 4) gsNil))) (fB (f2 leD (fVar 3) (fVar 1))) (fVar 4) [3, 4]) (gN 2)) (sRet (fIf (fB (f2 neD (fVar 2) (fA gLst fNil))) (f2 ixD (fVar 2) (f1 negD (fC (.int 1)))) (f2 ixD (fVar 0) (fC (.int 0))))))
abbrev N_law_shown : Fn := defF 5 (S_law_shown)
def S_law_names (a : Addr) (c : Str) : En → SO := (sSeq (sAsg (fA gLst (fCons (fIs 0 a (c == "InvalidStair")) (fCons (fIs 0 a (c == "InvalidCourse")) (fCons (fIs 0 a (c == "InvalidGiven")) (fCons (fIs 0 a (c == "InvalidFacts")) (fCons (fIs 0 a (c == "InvalidIndex")) (fCons (fIs 0 a (c == "InvalidNumber")) (fCons (fIs 0 a (c == "NoCase")) (fCons (fIs 0 a (c == "Unlike")) (fCons (fIs 0 a (c == "Quarrel")) (fCons (fIs 0 a (c == "NothingToUndo")) (fCons (fIs 0 a (c == "InvalidText")) (fCons (fIs 0 a (c == "TooMany")) (fCons (fIs 0 a true) fNil)))))))))))))) (gN 1)) (sSeq (sAsg (fC (.str "stair course given facts index number case unlike quarrel undo text many value")) (gN 2)) (sRet (fM1 joinD (fC (.str " ")) (fLc (fZip (fCons (fM1 splitD (fVar 2) (fC (.str " "))) (fCons (fVar 1) fNil))) (gT 2 (gsCons (gN 3) (gsCons (gN 4) gsNil))) (fB (fVar 4)) (fVar 3) [3, 4])))))
def nameE (a : Addr) (c : Str) : En := [some (.raw (.ref a)), some (.dat (.list [.bool (c == "InvalidStair"), .bool (c == "InvalidCourse"), .bool (c == "InvalidGiven"), .bool (c == "InvalidFacts"), .bool (c == "InvalidIndex"), .bool (c == "InvalidNumber"), .bool (c == "NoCase"), .bool (c == "Unlike"), .bool (c == "Quarrel"), .bool (c == "NothingToUndo"), .bool (c == "InvalidText"), .bool (c == "TooMany"), .bool true])), some (.dat (.str "stair course given facts index number case unlike quarrel undo text many value")), none, none]
theorem ev_one {c t : Str} {a : Addr} (h : S_law_names a c (initE 5 [.raw (.ref a)]) = .rt (.str t) (nameE a c)) : ∃ e1, S_law_names a c (initE 5 [.raw (.ref a)]) = .rt (.str t) e1 ∧ outs [.raw (.ref a)] e1 = some [.raw (.ref a)] := ⟨_, h, rfl⟩
theorem ev_law_names {c t : Str} (a : Addr) (h : nmS c = some t) : ∃ e1, S_law_names a c (initE 5 [.raw (.ref a)]) = .rt (.str t) e1 ∧ outs [.raw (.ref a)] e1 = some [.raw (.ref a)] := by
  unfold nmS at h
  split at h
  · rename_i e
    subst e
    cases h
    refine ev_one ?_
    simp only [S_law_names, initE_cons, initE_nil, List.replicate, sSeq_ev, sAsg_ev, fA_ev, fCons_ev, fIs_ev, R.bind_ok, fNil_ev]
    kernel_rfl
  · split at h
    · rename_i e
      subst e
      cases h
      refine ev_one ?_
      simp only [S_law_names, initE_cons, initE_nil, List.replicate, sSeq_ev, sAsg_ev, fA_ev, fCons_ev, fIs_ev, R.bind_ok, fNil_ev]
      kernel_rfl
    · split at h
      · rename_i e
        subst e
        cases h
        refine ev_one ?_
        simp only [S_law_names, initE_cons, initE_nil, List.replicate, sSeq_ev, sAsg_ev, fA_ev, fCons_ev, fIs_ev, R.bind_ok, fNil_ev]
        kernel_rfl
      · split at h
        · rename_i e
          subst e
          cases h
          refine ev_one ?_
          simp only [S_law_names, initE_cons, initE_nil, List.replicate, sSeq_ev, sAsg_ev, fA_ev, fCons_ev, fIs_ev, R.bind_ok, fNil_ev]
          kernel_rfl
        · split at h
          · rename_i e
            subst e
            cases h
            refine ev_one ?_
            simp only [S_law_names, initE_cons, initE_nil, List.replicate, sSeq_ev, sAsg_ev, fA_ev, fCons_ev, fIs_ev, R.bind_ok, fNil_ev]
            kernel_rfl
          · split at h
            · rename_i e
              subst e
              cases h
              refine ev_one ?_
              simp only [S_law_names, initE_cons, initE_nil, List.replicate, sSeq_ev, sAsg_ev, fA_ev, fCons_ev, fIs_ev, R.bind_ok, fNil_ev]
              kernel_rfl
            · split at h
              · rename_i e
                subst e
                cases h
                refine ev_one ?_
                simp only [S_law_names, initE_cons, initE_nil, List.replicate, sSeq_ev, sAsg_ev, fA_ev, fCons_ev, fIs_ev, R.bind_ok, fNil_ev]
                kernel_rfl
              · split at h
                · rename_i e
                  subst e
                  cases h
                  refine ev_one ?_
                  simp only [S_law_names, initE_cons, initE_nil, List.replicate, sSeq_ev, sAsg_ev, fA_ev, fCons_ev, fIs_ev, R.bind_ok, fNil_ev]
                  kernel_rfl
                · split at h
                  · rename_i e
                    subst e
                    cases h
                    refine ev_one ?_
                    simp only [S_law_names, initE_cons, initE_nil, List.replicate, sSeq_ev, sAsg_ev, fA_ev, fCons_ev, fIs_ev, R.bind_ok, fNil_ev]
                    kernel_rfl
                  · split at h
                    · rename_i e
                      subst e
                      cases h
                      refine ev_one ?_
                      simp only [S_law_names, initE_cons, initE_nil, List.replicate, sSeq_ev, sAsg_ev, fA_ev, fCons_ev, fIs_ev, R.bind_ok, fNil_ev]
                      kernel_rfl
                    · cases h
def S_is_pair : En → SO := (sSeq (sIf (gOr (gNot (fB (f1 (isiD "tuple") (fVar 0)))) (fB (f2 neD (fA lenD (fCons (fVar 0) fNil)) (fC (.int 2))))) (sRet (fC (.bool false))) sNx) (sRet (fAnd (callD 3 N_is_whole (aCons (f2 ixD (fVar 0) (fC (.int 0))) (aCons (f1 negD (fVar 1)) (aCons (fVar 1) aNil)))) (callD 3 N_is_whole (aCons (f2 ixD (fVar 0) (fC (.int 1))) (aCons (f1 negD (fVar 1)) (aCons (fVar 1) aNil)))))))
abbrev N_is_pair : Fn := defF 2 (S_is_pair)
def S_need_number : En → SO := (sIf (gNot (fB (callD 3 N_is_whole (aCons (fVar 0) (aCons (f1 negD (fC (.int 1000000000))) (aCons (fC (.int 1000000000)) aNil)))))) (sExc "InvalidNumber") sNx)
abbrev N_need_number : Fn := defF 1 (S_need_number)
def fuel_way_of : Nat := 40
def S_way_of : En → SO := (sSeq (sOwn 2 (fCons (fVar 1) fNil)) (sSeq (whileS (fB (f2 neD (callD 2 N_level_at (aCons (fVar 0) (aCons (fOwn 2 (f1 negD (fC (.int 1)))) aNil))) (fOwn 2 (f1 negD (fC (.int 1)))))) (sApp 2 (callD 2 N_level_at (aCons (fVar 0) (aCons (fOwn 2 (f1 negD (fC (.int 1)))) aNil)))) fuel_way_of) (sRet (fVar 2))))
abbrev N_way_of : Fn := defF 3 (S_way_of)
def S_law_some : En → SO := (sRet (f2 ixD (fVar 1) (callV 2 0 N_law_under (aCons (fA lenD (fCons (fVar 1) fNil)) aNil))))
abbrev N_law_some : Fn := defF 2 (S_law_some)
def S_law_is_stair : En → SO := (sSeq (sAsg (f2 powD (fC (.int 10)) (fC (.int 12))) (gN 1)) (sSeq (sIf (gOr (gNot (fB (f1 (isiD "tuple") (fVar 0)))) (gOr (fB (f2 neD (fA lenD (fCons (fVar 0) fNil)) (fC (.int 2)))) (gOr (gNot (fB (f1 (isiD "tuple") (f2 ixD (fVar 0) (fC (.int 1)))))) (fB (f2 gtD (fA lenD (fCons (f2 ixD (fVar 0) (fC (.int 1))) fNil)) (fC (.int 12))))))) (sRet (fC (.bool false))) sNx) (sSeq (sIf (gNot (fB (callD 3 N_law_is_whole (aCons (f2 ixD (fVar 0) (fC (.int 0))) (aCons (f1 negD (fVar 1)) (aCons (fVar 1) aNil)))))) (sRet (fC (.bool false))) sNx) (sSeq (sPar2 2 3 (fCons (fC .none) (fCons (f2 ixD (fVar 0) (fC (.int 0))) fNil))) (sSeq (sFor (fSeq (f2 ixD (fVar 0) (fC (.int 1)))) (gN 4) (sSeq (sIf (gOr (gNot (fB (f1 (isiD "tuple") (fVar 4)))) (fB (f2 neD (fA lenD (fCons (fVar 4) fNil)) (fC (.int 2))))) (sRet (fC (.bool false))) sNx) (sSeq (sIf (gOr (gNot (fB (callD 3 N_law_is_whole (aCons (f2 ixD (fVar 4) (fC (.int 0))) (aCons (f1 negD (fVar 1)) (aCons (fVar 1) aNil)))))) (gNot (fB (callD 3 N_law_is_whole (aCons (f2 ixD (fVar 4) (fC (.int 1))) (aCons (f2 addD (fVar 3) (fC (.int 1))) (aCons (fVar 1) aNil))))))) (sRet (fC (.bool false))) sNx) (sSeq (sIf (gAnd (fB (f2 (isD true) (fVar 2) (fC .none))) (fB (f2 leD (f2 ixD (fVar 4) (fC (.int 0))) (fVar 2)))) (sRet (fC (.bool false))) sNx) (sAsg (fVar 4) (gT 2 (gsCons (gN 2) (gsCons (gN 3) gsNil)))))))) (sRet (fC (.bool true))))))))
abbrev N_law_is_stair : Fn := defF 5 (S_law_is_stair)
def S_law_stair : En → SO := (sSeq (sPar3 2 3 4 (fCons (f2 subD (callV 2 0 N_law_under (aCons (fC (.int 9)) aNil)) (fC (.int 6))) (fCons (f2 subD (callV 2 0 N_law_under (aCons (fC (.int 9)) aNil)) (fC (.int 6))) (fCons (fA gTup fNil) fNil)))) (sSeq (sAsg (fVar 3) (gN 5)) (sSeq (sFor (fRange1 (fCons (callV 2 0 N_law_under (aCons (f2 addD (fVar 1) (fC (.int 1))) aNil)) fNil)) (gN 6) (sSeq (sPar2 2 3 (fCons (f2 addD (f2 addD (fVar 2) (fC (.int 1))) (callV 2 0 N_law_under (aCons (fC (.int 4)) aNil))) (fCons (f2 addD (f2 addD (fVar 3) (fC (.int 1))) (callV 2 0 N_law_under (aCons (fC (.int 4)) aNil))) fNil))) (sAsg (f2 addD (fVar 4) (fA gTup (fCons (fA gTup (fCons (fVar 2) (fCons (fVar 3) fNil))) fNil))) (gN 4)))) (sRet (fA gTup (fCons (fVar 5) (fCons (fVar 4) fNil)))))))
abbrev N_law_stair : Fn := defF 7 (S_law_stair)
def fuel_law_way : Nat := 40
def S_law_way : En → SO := (sSeq (sAsg (fA gLst (fCons (fVar 1) fNil)) (gN 2)) (sSeq (whileS (fB (f2 neD (callD 2 N_law_shown (aCons (fVar 0) (aCons (f2 ixD (fVar 2) (f1 negD (fC (.int 1)))) aNil))) (f2 ixD (fVar 2) (f1 negD (fC (.int 1)))))) (sAsg (f2 addD (fVar 2) (fA gLst (fCons (callD 2 N_law_shown (aCons (fVar 0) (aCons (f2 ixD (fVar 2) (f1 negD (fC (.int 1)))) aNil))) fNil))) (gN 2)) fuel_law_way) (sRet (fVar 2))))
abbrev N_law_way : Fn := defF 3 (S_law_way)
def S_has_stair : En → SO := (sSeq (sIf (gOr (gNot (fB (f1 (isiD "tuple") (fVar 0)))) (gOr (fB (f2 neD (fA lenD (fCons (fVar 0) fNil)) (fC (.int 2)))) (gNot (fB (callD 3 N_is_whole (aCons (f2 ixD (fVar 0) (fC (.int 0))) (aCons (f1 negD (fC (.int 1000000000000))) (aCons (fC (.int 1000000000000)) aNil)))))))) (sRet (fC (.bool false))) sNx) (sSeq (sIf (gOr (gNot (fB (f1 (isiD "tuple") (f2 ixD (fVar 0) (fC (.int 1)))))) (fB (f2 gtD (fA lenD (fCons (f2 ixD (fVar 0) (fC (.int 1))) fNil)) (fC (.int 12))))) (sRet (fC (.bool false))) sNx) (sSeq (sIf (fB (f2 neD (fLc (fSeq (f2 ixD (fVar 0) (fC (.int 1)))) (gN 3) (gNot (fB (callD 2 N_is_pair (aCons (fVar 3) (aCons (fC (.int 1000000000000)) aNil))))) (fVar 3) [3]) (fA gLst fNil))) (sRet (fC (.bool false))) sNx) (sSeq (sPar2 1 2 (fCons (fLc (fSeq (f2 ixD (fVar 0) (fC (.int 1)))) (gN 3) fYes (f2 ixD (fVar 3) (fC (.int 0))) [3]) (fCons (f2 addD (fA gLst (fCons (f2 ixD (fVar 0) (fC (.int 0))) fNil)) (fLc (fSeq (f2 ixD (fVar 0) (fC (.int 1)))) (gN 3) fYes (f2 ixD (fVar 3) (fC (.int 1))) [3])) fNil))) (sRet (fAnd (callD 1 N_is_rising (aCons (fVar 1) aNil)) (callD 1 N_is_rising (aCons (fVar 2) aNil))))))))
abbrev N_has_stair : Fn := defF 4 (S_has_stair)
def S_law_odd (F : Fn) : En → SO := (sSeq (sAsg (fA gLst (fCons (fC .none) (fCons (fC (.bool true)) (fCons (fC (.bool false)) (fCons (fC (.int 0)) (fCons (fC (.int 1)) (fCons (fC (.int 2)) (fCons (f1 negD (fC (.int 1))) (fCons (f2 powD (fC (.int 10)) (fC (.int 31))) (fCons (fC (.str "")) (fCons (fC (.str "any")) (fCons (fC (.str "put")) (fCons (fC (.str "ring")) (fCons (fA gTup fNil) (fCons (fA gLst fNil) (fCons (fA gTup (fCons (fC (.str "any")) fNil)) (fCons (fA gTup (fCons (fC (.str "put")) (fCons (fC (.int 0)) fNil))) fNil))))))))))))))))) (gN 2)) (sSeq (sAsg (f2 addD (fVar 2) (fA gLst (fCons (fA gTup (fCons (fC (.int 0)) (fCons (fA gTup (fCons (fA gTup (fCons (fC (.int 3)) (fCons (fC (.int 5)) fNil))) fNil)) fNil))) (fCons (fA gTup (fCons (fC (.int 0)) (fCons (fC (.int 1)) (fCons (fC (.int 0)) fNil)))) (fCons (fA gTup (fCons (fA gTup (fCons (fC (.str "any")) fNil)) (fCons (fA gTup (fCons (fC (.str "put")) (fCons (fC (.int 0)) fNil))) fNil))) (fCons (fA gTup (fCons (fC (.str "told")) (fCons (fC (.int 4)) fNil))) (fCons (fC (.str "split")) fNil))))))) (gN 2)) (sSeq (sIf (gOr (fB (f2 eqD (fVar 1) (fC (.int 0)))) (fB (f2 ltD (callV 2 0 N_law_under (aCons (fC (.int 9)) aNil)) (fC (.int 6))))) (sRet (callV 2 0 N_law_some (aCons (fVar 2) aNil))) sNx) (sSeq (sAsg (fLc (fRange1 (fCons (callV 2 0 N_law_under (aCons (fC (.int 4)) aNil)) fNil)) (gN 4) fYes (callV 2 0 F (aCons (f2 subD (fVar 1) (fC (.int 1))) aNil)) [4]) (gN 3)) (sRet (fIf (fB (f2 eqD (callV 2 0 N_law_under (aCons (fC (.int 3)) aNil)) (fC (.int 0)))) (fVar 3) (fA tupleD (fCons (fVar 3) fNil))))))))
def N_law_odd : Nat → Fn
  | 0 => fun _ => .bad
  | n + 1 => defF 5 (S_law_odd (N_law_odd n))
def S_is_stair : En → SO := (sRet (callD 1 N_has_stair (aCons (fVar 0) aNil)))
abbrev N_is_stair : Fn := defF 1 (S_is_stair)
def S_need_stair : En → SO := (sIf (gNot (fB (callD 1 N_has_stair (aCons (fVar 0) aNil)))) (sExc "InvalidStair") sNx)
abbrev N_need_stair : Fn := defF 1 (S_need_stair)
def S_law_bent (F : Fn) : En → SO := (sSeq (sIf (gOr (gNot (fB (f1 (isiD "tuple") (fVar 1)))) (gOr (fB (f2 eqD (fVar 1) (fA gTup fNil))) (fB (f2 eqD (callV 2 0 N_law_under (aCons (fC (.int 7)) aNil)) (fC (.int 0)))))) (sSeq (sAsg (fA gLst (fCons (callV 2 0 (N_law_odd 3) (aCons (fC (.int 1)) aNil)) (fCons (callV 2 0 (N_law_odd 3) (aCons (fC (.int 1)) aNil)) fNil))) (gN 2)) (sSeq (sIf (fB (f1 (isiD "str") (fVar 1))) (sAsg (f2 addB (fVar 2) (fA gLst (fCons (fC (.str "any")) (fCons (fC (.str "told")) (fCons (fC (.str "plus")) (fCons (fC (.str "lesser")) (fCons (fSl (fVar 1) fNo (fPart (f1 negB (fC (.int 1))))) (fCons (fM0 upperD (fVar 1)) (fCons (fC (.str "ring")) fNil))))))))) (gN 2)) (sIf (fB (f1 (isiD "int") (fVar 1))) (sAsg (f2 addB (fVar 2) (fA gLst (fCons (f2 addB (fVar 1) (fC (.int 1))) (fCons (f2 subB (fVar 1) (fC (.int 1))) (fCons (f1 notB (fVar 1)) (fCons (fA strB (fCons (fVar 1) fNil)) (fCons (f1 negB (fVar 1)) fNil))))))) (gN 2)) sNx)) (sRet (callV 2 0 N_law_some (aCons (fVar 2) aNil))))) sNx) (sSeq (sPar2 3 4 (fCons (callV 2 0 N_law_under (aCons (fA lenD (fCons (fVar 1) fNil)) aNil)) (fCons (callV 2 0 N_law_under (aCons (fC (.int 9)) aNil)) fNil))) (sSeq (sIf (fB (f2 eqD (fVar 4) (fC (.int 0)))) (sRet (f2 addB (fSl (fVar 1) fNo (fPart (fVar 3))) (fSl (fVar 1) (fPart (f2 addB (fVar 3) (fC (.int 1)))) fNo))) sNx) (sSeq (sIf (fB (f2 eqD (fVar 4) (fC (.int 1)))) (sRet (f2 addB (fSl (fVar 1) fNo (fPart (f2 addB (fVar 3) (fC (.int 1))))) (fSl (fVar 1) (fPart (fVar 3)) fNo))) sNx) (sSeq (sIf (fB (f2 eqD (fVar 4) (fC (.int 2)))) (sRet (f1 revT (fVar 1))) sNx) (sSeq (sIf (fB (f2 eqD (fVar 4) (fC (.int 3)))) (sRet (fA listD (fCons (fVar 1) fNil))) sNx) (sRet (f2 addB (f2 addB (fSl (fVar 1) fNo (fPart (fVar 3))) (fA gTup (fCons (callV 2 0 F (aCons (f2 ixD (fVar 1) (fVar 3)) aNil)) fNil))) (fSl (fVar 1) (fPart (f2 addB (fVar 3) (fC (.int 1)))) fNo)))))))))
def N_law_bent : Nat → Fn
  | 0 => fun _ => .bad
  | n + 1 => defF 5 (S_law_bent (N_law_bent n))
def S_shown : En → SO := (sSeq (sExp (callD 1 N_need_stair (aCons (fVar 0) aNil))) (sSeq (sExp (callD 1 N_need_number (aCons (fVar 1) aNil))) (sRet (callD 2 N_level_at (aCons (fVar 0) (aCons (fVar 1) aNil))))))
abbrev N_shown : Fn := defF 2 (S_shown)
def S_after : En → SO := (sSeq (sExp (callD 1 N_need_stair (aCons (fVar 0) aNil))) (sSeq (sExp (callD 1 N_need_number (aCons (fVar 1) aNil))) (sSeq (sIf (gNot (fB (callD 3 N_is_whole (aCons (fVar 2) (aCons (fC (.int 0)) (aCons (fC (.int 1000000000000000000000000000000)) aNil)))))) (sExc "InvalidNumber") sNx) (sSeq (sAsg (callD 2 N_way_of (aCons (fVar 0) (aCons (fVar 1) aNil))) (gN 3)) (sRet (fIf (fB (f2 ltD (fVar 2) (fA lenD (fCons (fVar 3) fNil)))) (f2 ixD (fVar 3) (fVar 2)) (f2 ixD (fVar 3) (f1 negD (fC (.int 1))))))))))
abbrev N_after : Fn := defF 4 (S_after)
def S_standstill : En → SO := (sSeq (sExp (callD 1 N_need_stair (aCons (fVar 0) aNil))) (sSeq (sExp (callD 1 N_need_number (aCons (fVar 1) aNil))) (sSeq (sAsg (callD 2 N_way_of (aCons (fVar 0) (aCons (fVar 1) aNil))) (gN 2)) (sRet (fA gTup (fCons (f2 ixD (fVar 2) (f1 negD (fC (.int 1)))) (fCons (f2 subD (fA lenD (fCons (fVar 2) fNil)) (fC (.int 1))) fNil)))))))
abbrev N_standstill : Fn := defF 3 (S_standstill)
def S_still : En → SO := (sSeq (sExp (callD 1 N_need_stair (aCons (fVar 0) aNil))) (sSeq (sAsg (f2 addD (fA gLst (fCons (f2 ixD (fVar 0) (fC (.int 0))) fNil)) (fLc (fSeq (f2 ixD (fVar 0) (fC (.int 1)))) (gN 2) fYes (f2 ixD (fVar 2) (fC (.int 1))) [2])) (gN 1)) (sRet (fLc (fSeq (fVar 1)) (gN 3) (fB (f2 eqD (callD 2 N_level_at (aCons (fVar 0) (aCons (fVar 3) aNil))) (fVar 3))) (fVar 3) [3]))))
abbrev N_still : Fn := defF 4 (S_still)
def S_steps_with : En → SO := (sRet (fLc (fRange1 (fCons (fA lenD (fCons (fVar 0) fNil)) fNil)) (gN 2) (fB (f2 (inD false) (f2 ixD (f2 ixD (fVar 0) (fVar 2)) (fC (.int 0))) (fVar 1))) (fVar 2) [2]))
abbrev N_steps_with : Fn := defF 3 (S_steps_with)
def S_is_step : En → SO := (sSeq (sIf (gOr (gNot (fB (f1 (isiD "tuple") (fVar 0)))) (gOr (fB (f2 eqD (fVar 0) (fA gTup fNil))) (gNot (fB (f1 (isiD "str") (f2 ixD (fVar 0) (fC (.int 0)))))))) (sRet (fC (.bool false))) sNx) (sSeq (sIf (fB (f2 eqD (f2 ixD (fVar 0) (fC (.int 0))) (fC (.str "any")))) (sRet (f2 eqD (fA lenD (fCons (fVar 0) fNil)) (fC (.int 1)))) sNx) (sSeq (sIf (fB (f2 eqD (f2 ixD (fVar 0) (fC (.int 0))) (fC (.str "told")))) (sRet (fAnd (f2 eqD (fA lenD (fCons (fVar 0) fNil)) (fC (.int 2))) (callD 3 N_is_whole (aCons (f2 ixD (fVar 0) (fC (.int 1))) (aCons (f1 negD (fC (.int 1000))) (aCons (fC (.int 1000)) aNil)))))) sNx) (sSeq (sIf (gOr (fB (f2 ltD (fA lenD (fCons (fVar 0) fNil)) (fC (.int 2)))) (gNot (fB (callD 3 N_is_whole (aCons (f2 ixD (fVar 0) (fC (.int 1))) (aCons (fC (.int 0)) (aCons (f2 subD (fVar 1) (fC (.int 1))) aNil))))))) (sRet (fC (.bool false))) sNx) (sSeq (sIf (fB (f2 eqD (f2 ixD (fVar 0) (fC (.int 0))) (fC (.str "put")))) (sRet (f2 eqD (fA lenD (fCons (fVar 0) fNil)) (fC (.int 2)))) sNx) (sSeq (sIf (fB (f2 neD (fA lenD (fCons (fVar 0) fNil)) (fC (.int 3)))) (sRet (fC (.bool false))) sNx) (sSeq (sIf (fB (f2 eqD (f2 ixD (fVar 0) (fC (.int 0))) (fC (.str "plus")))) (sRet (callD 3 N_is_whole (aCons (f2 ixD (fVar 0) (fC (.int 2))) (aCons (f1 negD (fC (.int 20))) (aCons (fC (.int 20)) aNil))))) sNx) (sSeq (sIf (gOr (fB (f2 (inD true) (f2 ixD (fVar 0) (fC (.int 0))) (fA gTup (fCons (fC (.str "greater")) (fCons (fC (.str "lesser")) fNil))))) (fB (f2 eqD (f2 ixD (fVar 0) (fC (.int 1))) (f2 ixD (fVar 0) (fC (.int 2)))))) (sRet (fC (.bool false))) sNx) (sRet (callD 3 N_is_whole (aCons (f2 ixD (fVar 0) (fC (.int 2))) (aCons (fC (.int 0)) (aCons (f2 subD (fVar 1) (fC (.int 1))) aNil)))))))))))))
abbrev N_is_step : Fn := defF 2 (S_is_step)
def S_have_given : En → SO := (sSeq (sIf (gOr (gNot (fB (f1 (isiD "tuple") (fVar 1)))) (fB (f2 neD (fA lenD (fCons (fVar 1) fNil)) (fA lenD (fCons (callD 2 N_steps_with (aCons (fVar 0) (aCons (fA gTup (fCons (fC (.str "any")) fNil)) aNil))) fNil))))) (sRet (fC (.bool false))) sNx) (sRet (f2 eqD (fLc (fSeq (fVar 1)) (gN 2) (gNot (fB (callD 3 N_is_whole (aCons (fVar 2) (aCons (f1 negD (fC (.int 1000000000000))) (aCons (fC (.int 1000000000000)) aNil)))))) (fVar 2) [2]) (fA gLst fNil))))
abbrev N_have_given : Fn := defF 3 (S_have_given)
def S_number_of : En → SO := (sSeq (sIf (fB (f2 eqD (f2 ixD (fVar 0) (fC (.int 0))) (fC (.str "put")))) (sRet (callD 2 N_level_at (aCons (fVar 1) (aCons (fOwn 2 (f2 ixD (fVar 0) (fC (.int 1)))) aNil)))) sNx) (sSeq (sIf (fB (f2 eqD (f2 ixD (fVar 0) (fC (.int 0))) (fC (.str "plus")))) (sRet (f2 addD (fOwn 2 (f2 ixD (fVar 0) (fC (.int 1)))) (f2 ixD (fVar 0) (fC (.int 2))))) sNx) (sSeq (sIf (fB (f2 eqD (f2 ixD (fVar 0) (fC (.int 0))) (fC (.str "greater")))) (sRet (fA maxD (fCons (fOwn 2 (f2 ixD (fVar 0) (fC (.int 1)))) (fCons (fOwn 2 (f2 ixD (fVar 0) (fC (.int 2)))) fNil)))) sNx) (sRet (fA minD (fCons (fOwn 2 (f2 ixD (fVar 0) (fC (.int 1)))) (fCons (fOwn 2 (f2 ixD (fVar 0) (fC (.int 2)))) fNil)))))))
abbrev N_number_of : Fn := defF 3 (S_number_of)
def S_law_is_step : En → SO := (sSeq (sIf (gOr (gNot (fB (f1 (isiD "tuple") (fVar 0)))) (gOr (fB (f2 (inD true) (fA lenD (fCons (fVar 0) fNil)) (fA gTup (fCons (fC (.int 1)) (fCons (fC (.int 2)) (fCons (fC (.int 3)) fNil)))))) (gNot (fB (f1 (isiD "str") (f2 ixD (fVar 0) (fC (.int 0)))))))) (sRet (fC (.bool false))) sNx) (sSeq (sIf (fB (f2 eqD (f2 ixD (fVar 0) (fC (.int 0))) (fC (.str "any")))) (sRet (f2 eqD (fA lenD (fCons (fVar 0) fNil)) (fC (.int 1)))) sNx) (sSeq (sIf (fB (f2 eqD (f2 ixD (fVar 0) (fC (.int 0))) (fC (.str "told")))) (sRet (fAnd (f2 eqD (fA lenD (fCons (fVar 0) fNil)) (fC (.int 2))) (callD 3 N_law_is_whole (aCons (f2 ixD (fVar 0) (fC (.int 1))) (aCons (f1 negD (fC (.int 1000))) (aCons (fC (.int 1000)) aNil)))))) sNx) (sSeq (sIf (gOr (fB (f2 (inD true) (f2 ixD (fVar 0) (fC (.int 0))) (fA gLst (fCons (fC (.str "plus")) (fCons (fC (.str "put")) (fCons (fC (.str "greater")) (fCons (fC (.str "lesser")) fNil))))))) (fB (f2 neD (fA lenD (fCons (fVar 0) fNil)) (fIf (fB (f2 eqD (f2 ixD (fVar 0) (fC (.int 0))) (fC (.str "put")))) (fC (.int 2)) (fC (.int 3)))))) (sRet (fC (.bool false))) sNx) (sSeq (sIf (gNot (fB (callD 3 N_law_is_whole (aCons (f2 ixD (fVar 0) (fC (.int 1))) (aCons (fC (.int 0)) (aCons (f2 subD (fVar 1) (fC (.int 1))) aNil)))))) (sRet (fC (.bool false))) sNx) (sSeq (sIf (fB (f2 eqD (f2 ixD (fVar 0) (fC (.int 0))) (fC (.str "plus")))) (sRet (callD 3 N_law_is_whole (aCons (f2 ixD (fVar 0) (fC (.int 2))) (aCons (f1 negD (fC (.int 20))) (aCons (fC (.int 20)) aNil))))) sNx) (sRet (fOr (f2 eqD (f2 ixD (fVar 0) (fC (.int 0))) (fC (.str "put"))) (fAnd (callD 3 N_law_is_whole (aCons (f2 ixD (fVar 0) (fC (.int 2))) (aCons (fC (.int 0)) (aCons (f2 subD (fVar 1) (fC (.int 1))) aNil)))) (f2 neD (f2 ixD (fVar 0) (fC (.int 1))) (f2 ixD (fVar 0) (fC (.int 2)))))))))))))
abbrev N_law_is_step : Fn := defF 2 (S_law_is_step)
def S_law_numbers : En → SO := (sSeq (sPar2 3 4 (fCons (fA gLst fNil) (fCons (fC (.int 0)) fNil))) (sSeq (sFor (fSeq (fVar 0)) (gN 5) (sIf (fB (f2 eqD (f2 ixD (fVar 5) (fC (.int 0))) (fC (.str "any")))) (sPar2 3 4 (fCons (f2 addD (fVar 3) (fA gLst (fCons (f2 ixD (fVar 2) (fVar 4)) fNil))) (fCons (f2 addD (fVar 4) (fC (.int 1))) fNil))) (sIf (fB (f2 eqD (f2 ixD (fVar 5) (fC (.int 0))) (fC (.str "told")))) (sAsg (f2 addD (fVar 3) (fA gLst (fCons (f2 ixD (fVar 5) (fC (.int 1))) fNil))) (gN 3)) (sIf (fB (f2 eqD (f2 ixD (fVar 5) (fC (.int 0))) (fC (.str "put")))) (sAsg (f2 addD (fVar 3) (fA gLst (fCons (callD 2 N_law_shown (aCons (fVar 1) (aCons (f2 ixD (fVar 3) (f2 ixD (fVar 5) (fC (.int 1)))) aNil))) fNil))) (gN 3)) (sIf (fB (f2 eqD (f2 ixD (fVar 5) (fC (.int 0))) (fC (.str "plus")))) (sAsg (f2 addD (fVar 3) (fA gLst (fCons (f2 addD (f2 ixD (fVar 3) (f2 ixD (fVar 5) (fC (.int 1)))) (f2 ixD (fVar 5) (fC (.int 2)))) fNil))) (gN 3)) (sSeq (sAsg (fA gLst (fCons (fA intD (fCons (f2 ixD (fVar 3) (f2 ixD (fVar 5) (fC (.int 1)))) fNil)) (fCons (fA intD (fCons (f2 ixD (fVar 3) (f2 ixD (fVar 5) (fC (.int 2)))) fNil)) fNil))) (gN 6)) (sAsg (f2 addD (fVar 3) (fA gLst (fCons (fIf (fB (f2 eqD (f2 ixD (fVar 5) (fC (.int 0))) (fC (.str "greater")))) (fA maxD (fCons (fVar 6) fNil)) (fA minD (fCons (fVar 6) fNil))) fNil))) (gN 3)))))))) (sRet (fVar 3))))
abbrev N_law_numbers : Fn := defF 7 (S_law_numbers)
def S_has_course : En → SO := (sSeq (sIf (gOr (gNot (fB (f1 (isiD "tuple") (fVar 0)))) (gNot (fB (fCh leD leD (fC (.int 1)) (fA lenD (fCons (fVar 0) fNil)) (fC (.int 8)))))) (sRet (fC (.bool false))) sNx) (sSeq (sIf (fB (f2 neD (fLc (fRange1 (fCons (fA lenD (fCons (fVar 0) fNil)) fNil)) (gN 1) (gNot (fB (callD 2 N_is_step (aCons (f2 ixD (fVar 0) (fVar 1)) (aCons (fVar 1) aNil))))) (fVar 1) [1]) (fA gLst fNil))) (sRet (fC (.bool false))) sNx) (sSeq (sIf (gOr (fB (f2 gtD (fA lenD (fCons (callD 2 N_steps_with (aCons (fVar 0) (aCons (fA gTup (fCons (fC (.str "any")) fNil)) aNil))) fNil)) (fC (.int 3)))) (fB (f2 gtD (fA lenD (fCons (callD 2 N_steps_with (aCons (fVar 0) (aCons (fA gTup (fCons (fC (.str "put")) fNil)) aNil))) fNil)) (fC (.int 3))))) (sRet (fC (.bool false))) sNx) (sRet (f2 leD (fA lenD (fCons (callD 2 N_steps_with (aCons (fVar 0) (aCons (fA gTup (fCons (fC (.str "greater")) (fCons (fC (.str "lesser")) fNil))) aNil))) fNil)) (fC (.int 2)))))))
abbrev N_has_course : Fn := defF 2 (S_has_course)
def S_need_given : En → SO := (sIf (gNot (fB (callD 2 N_have_given (aCons (fVar 0) (aCons (fVar 1) aNil))))) (sExc "InvalidGiven") sNx)
abbrev N_need_given : Fn := defF 2 (S_need_given)
def S_all_numbers : En → SO := (sSeq (sParOL 3 4 2) (sSeq (sFor (fSeq (fVar 0)) (gN 5) (sIf (fB (f2 eqD (f2 ixD (fVar 5) (fC (.int 0))) (fC (.str "any")))) (sApp 3 (fPop0 4)) (sIf (fB (f2 eqD (f2 ixD (fVar 5) (fC (.int 0))) (fC (.str "told")))) (sApp 3 (f2 ixD (fVar 5) (fC (.int 1)))) (sApp 3 (callL 3 3 N_number_of (aCons (fVar 5) (aCons (fVar 1) aNil))))))) (sRet (fVar 3))))
abbrev N_all_numbers : Fn := defF 6 (S_all_numbers)
def S_law_is_course : En → SO := (sSeq (sIf (gOr (gNot (fB (f1 (isiD "tuple") (fVar 0)))) (gNot (fB (fCh leD leD (fC (.int 1)) (fA lenD (fCons (fVar 0) fNil)) (fC (.int 8)))))) (sRet (fC (.bool false))) sNx) (sSeq (sOwn 1 fNil) (sSeq (sFor (fRange1 (fCons (fA lenD (fCons (fVar 0) fNil)) fNil)) (gN 2) (sSeq (sIf (gNot (fB (callD 2 N_law_is_step (aCons (f2 ixD (fVar 0) (fVar 2)) (aCons (fVar 2) aNil))))) (sRet (fC (.bool false))) sNx) (sApp 1 (f2 ixD (f2 ixD (fVar 0) (fVar 2)) (fC (.int 0)))))) (sSeq (sAsg (f2 addD (fCntO 1 (fC (.str "greater"))) (fCntO 1 (fC (.str "lesser")))) (gN 3)) (sRet (fAnd (f2 ltD (fCntO 1 (fC (.str "any"))) (fC (.int 4))) (fAnd (f2 ltD (fCntO 1 (fC (.str "put"))) (fC (.int 4))) (f2 ltD (fVar 3) (fC (.int 3))))))))))
abbrev N_law_is_course : Fn := defF 4 (S_law_is_course)
def S_need_course : En → SO := (sIf (gNot (fB (callD 1 N_has_course (aCons (fVar 0) aNil)))) (sExc "InvalidCourse") sNx)
abbrev N_need_course : Fn := defF 1 (S_need_course)
def S_is_course : En → SO := (sRet (callD 1 N_has_course (aCons (fVar 0) aNil)))
abbrev N_is_course : Fn := defF 1 (S_is_course)
def S_law_course : En → SO := (sSeq (sPar2 2 3 (fCons (fA gTup (fCons (fA gTup (fCons (fC (.str "any")) fNil)) fNil)) (fCons (fA gLst (fCons (fC (.str "put")) (fCons (fC (.str "put")) (fCons (fC (.str "put")) (fCons (fC (.str "plus")) (fCons (fC (.str "told")) (fCons (fC (.str "any")) (fCons (fC (.str "greater")) (fCons (fC (.str "lesser")) fNil))))))))) fNil))) (sSeq (sFor (fRange1 (fCons (f2 addD (fC (.int 1)) (callV 2 0 N_law_under (aCons (f2 subD (fVar 1) (fC (.int 1))) aNil))) fNil)) (gN 4) (sSeq (sPar2 5 6 (fCons (callV 2 0 N_law_some (aCons (fVar 3) aNil)) (fCons (fA lenD (fCons (fVar 2) fNil)) fNil))) (sSeq (sPar2 7 8 (fCons (callV 2 0 N_law_under (aCons (fVar 6) aNil)) (fCons (callV 2 0 N_law_under (aCons (fVar 6) aNil)) fNil))) (sSeq (sAsg (fA gTup (fCons (fVar 5) (fCons (fVar 7) fNil))) (gN 9)) (sSeq (sIf (fB (f2 eqD (fVar 5) (fC (.str "any")))) (sAsg (fA gTup (fCons (fC (.str "any")) fNil)) (gN 9)) sNx) (sSeq (sIf (fB (f2 eqD (fVar 5) (fC (.str "told")))) (sAsg (fA gTup (fCons (fC (.str "told")) (fCons (callV 2 0 N_law_some (aCons (fA gLst (fCons (fC (.int 0)) (fCons (fC (.int 1)) (fCons (fC (.int 4)) (fCons (f1 negD (fC (.int 3))) (fCons (fC (.int 20)) fNil)))))) aNil)) fNil))) (gN 9)) sNx) (sSeq (sIf (fB (f2 eqD (fVar 5) (fC (.str "plus")))) (sAsg (fA gTup (fCons (fC (.str "plus")) (fCons (fVar 7) (fCons (f2 subD (callV 2 0 N_law_under (aCons (fC (.int 7)) aNil)) (fC (.int 3))) fNil)))) (gN 9)) sNx) (sSeq (sIf (fB (f2 (inD false) (fVar 5) (fA gLst (fCons (fC (.str "greater")) (fCons (fC (.str "lesser")) fNil))))) (sAsg (fIf (fB (f2 neD (fVar 7) (fVar 8))) (fA gTup (fCons (fVar 5) (fCons (fVar 7) (fCons (fVar 8) fNil)))) (fA gTup (fCons (fC (.str "put")) (fCons (fVar 7) fNil)))) (gN 9)) sNx) (sIf (fB (callD 1 N_law_is_course (aCons (f2 addD (fVar 2) (fA gTup (fCons (fVar 9) fNil))) aNil))) (sAsg (f2 addD (fVar 2) (fA gTup (fCons (fVar 9) fNil))) (gN 2)) sNx))))))))) (sRet (fVar 2))))
abbrev N_law_course : Fn := defF 10 (S_law_course)
def S_are_given : En → SO := (sSeq (sExp (callD 1 N_need_course (aCons (fVar 0) aNil))) (sRet (callD 2 N_have_given (aCons (fVar 0) (aCons (fVar 1) aNil)))))
abbrev N_are_given : Fn := defF 2 (S_are_given)
def S_numbers : En → SO := (sSeq (sExp (callD 1 N_need_course (aCons (fVar 0) aNil))) (sSeq (sExp (callD 1 N_need_stair (aCons (fVar 1) aNil))) (sSeq (sExp (callD 2 N_need_given (aCons (fVar 0) (aCons (fVar 2) aNil)))) (sRet (callD 3 N_all_numbers (aCons (fVar 0) (aCons (fVar 1) (aCons (fVar 2) aNil))))))))
abbrev N_numbers : Fn := defF 3 (S_numbers)
def S_are_so : En → SO := (sRet (f2 eqD (fLc (fSeq (fVar 1)) (gN 2) (fB (f2 gtD (f2 ixD (fVar 0) (f2 ixD (fVar 2) (fC (.int 0)))) (f2 addD (f2 ixD (fVar 0) (f2 ixD (fVar 2) (fC (.int 1)))) (f2 ixD (fVar 2) (fC (.int 2)))))) (fVar 2) [2]) (fA gLst fNil)))
abbrev N_are_so : Fn := defF 3 (S_are_so)
def S_law_are_so : En → SO := (sSeq (sAsg (fLc (fSeq (fVar 1)) (gN 3) (fB (f2 gtD (f2 subD (f2 ixD (fVar 0) (f2 ixD (fVar 3) (fC (.int 0)))) (f2 ixD (fVar 0) (f2 ixD (fVar 3) (fC (.int 1))))) (f2 ixD (fVar 3) (fC (.int 2))))) (fVar 3) [3]) (gN 2)) (sRet (f2 eqD (fVar 2) (fA gLst fNil))))
abbrev N_law_are_so : Fn := defF 4 (S_law_are_so)
def S_is_fact : En → SO := (sSeq (sIf (gOr (gNot (fB (f1 (isiD "tuple") (fVar 1)))) (gOr (fB (f2 neD (fA lenD (fCons (fVar 1) fNil)) (fC (.int 3)))) (gNot (fB (callD 3 N_is_whole (aCons (f2 ixD (fVar 1) (fC (.int 2))) (aCons (f1 negD (fC (.int 50))) (aCons (fC (.int 50)) aNil)))))))) (sRet (fC (.bool false))) sNx) (sSeq (sIf (gOr (gNot (fB (callD 3 N_is_whole (aCons (f2 ixD (fVar 1) (fC (.int 0))) (aCons (fC (.int 0)) (aCons (f2 subD (fA lenD (fCons (fVar 0) fNil)) (fC (.int 1))) aNil)))))) (gNot (fB (callD 3 N_is_whole (aCons (f2 ixD (fVar 1) (fC (.int 1))) (aCons (fC (.int 0)) (aCons (f2 subD (fA lenD (fCons (fVar 0) fNil)) (fC (.int 1))) aNil))))))) (sRet (fC (.bool false))) sNx) (sRet (f2 neD (f2 ixD (fVar 1) (fC (.int 0))) (f2 ixD (fVar 1) (fC (.int 1)))))))
abbrev N_is_fact : Fn := defF 2 (S_is_fact)
def S_law_is_fact : En → SO := (sSeq (sIf (gOr (gNot (fB (f1 (isiD "tuple") (fVar 1)))) (gOr (fB (f2 neD (fA lenD (fCons (fVar 1) fNil)) (fC (.int 3)))) (gNot (fB (callD 3 N_law_is_whole (aCons (f2 ixD (fVar 1) (fC (.int 2))) (aCons (f1 negD (fC (.int 50))) (aCons (fC (.int 50)) aNil)))))))) (sRet (fC (.bool false))) sNx) (sSeq (sAsg (f2 subD (fA lenD (fCons (fVar 0) fNil)) (fC (.int 1))) (gN 2)) (sSeq (sIf (gOr (gNot (fB (callD 3 N_law_is_whole (aCons (f2 ixD (fVar 1) (fC (.int 0))) (aCons (fC (.int 0)) (aCons (fVar 2) aNil)))))) (gNot (fB (callD 3 N_law_is_whole (aCons (f2 ixD (fVar 1) (fC (.int 1))) (aCons (fC (.int 0)) (aCons (fVar 2) aNil))))))) (sRet (fC (.bool false))) sNx) (sRet (f2 neD (f2 ixD (fVar 1) (fC (.int 0))) (f2 ixD (fVar 1) (fC (.int 1))))))))
abbrev N_law_is_fact : Fn := defF 3 (S_law_is_fact)
def S_has_facts : En → SO := (sSeq (sIf (gOr (gNot (fB (f1 (isiD "tuple") (fVar 1)))) (fB (f2 gtD (fA lenD (fCons (fVar 1) fNil)) (fC (.int 5))))) (sRet (fC (.bool false))) sNx) (sRet (f2 eqD (fLc (fSeq (fVar 1)) (gN 2) (gNot (fB (callD 2 N_is_fact (aCons (fVar 0) (aCons (fVar 2) aNil))))) (fVar 2) [2]) (fA gLst fNil))))
abbrev N_has_facts : Fn := defF 3 (S_has_facts)
def S_law_is_case : En → SO := (sSeq (sIf (gOr (gNot (fB (f1 (isiD "tuple") (fVar 2)))) (gOr (fB (f2 neD (fA lenD (fCons (fVar 2) fNil)) (fC (.int 2)))) (gNot (fB (callD 1 N_law_is_stair (aCons (f2 ixD (fVar 2) (fC (.int 0))) aNil)))))) (sRet (fC (.bool false))) sNx) (sSeq (sAsg (fA lenD (fCons (fLc (fSeq (fVar 0)) (gN 4) (fB (f2 eqD (f2 ixD (fVar 4) (fC (.int 0))) (fC (.str "any")))) (fVar 4) [4]) fNil)) (gN 3)) (sSeq (sIf (gOr (gNot (fB (f1 (isiD "tuple") (f2 ixD (fVar 2) (fC (.int 1)))))) (fB (f2 neD (fA lenD (fCons (f2 ixD (fVar 2) (fC (.int 1))) fNil)) (fVar 3)))) (sRet (fC (.bool false))) sNx) (sSeq (sIf (fB (f2 neD (fLc (fSeq (f2 ixD (fVar 2) (fC (.int 1)))) (gN 5) (gNot (fB (callD 3 N_law_is_whole (aCons (fVar 5) (aCons (f1 negD (f2 powD (fC (.int 10)) (fC (.int 12)))) (aCons (f2 powD (fC (.int 10)) (fC (.int 12))) aNil)))))) (fVar 5) [5]) (fA gLst fNil))) (sRet (fC (.bool false))) sNx) (sRet (callD 2 N_law_are_so (aCons (callD 3 N_law_numbers (aCons (fVar 0) (aCons (f2 ixD (fVar 2) (fC (.int 0))) (aCons (f2 ixD (fVar 2) (fC (.int 1))) aNil)))) (aCons (fVar 1) aNil))))))))
abbrev N_law_is_case : Fn := defF 6 (S_law_is_case)
def S_law_fact : En → SO := (sSeq (sAsg (callV 2 0 N_law_under (aCons (fA lenD (fCons (fVar 1) fNil)) aNil)) (gN 2)) (sSeq (sAsg (f2 modD (f2 addD (f2 addD (fVar 2) (fC (.int 1))) (callV 2 0 N_law_under (aCons (f2 subD (fA lenD (fCons (fVar 1) fNil)) (fC (.int 1))) aNil))) (fA lenD (fCons (fVar 1) fNil))) (gN 3)) (sRet (fA gTup (fCons (fVar 2) (fCons (fVar 3) (fCons (callV 2 0 N_law_some (aCons (fA gLst (fCons (fC (.int 0)) (fCons (fC (.int 0)) (fCons (fC (.int 0)) (fCons (f1 negD (fC (.int 1))) (fCons (fC (.int 1)) (fCons (fC (.int 3)) (fCons (f1 negD (fC (.int 4))) (fCons (f2 subD (callV 2 0 N_law_under (aCons (fC (.int 101)) aNil)) (fC (.int 50))) fNil))))))))) aNil)) fNil)))))))
abbrev N_law_fact : Fn := defF 4 (S_law_fact)
def S_need_facts : En → SO := (sIf (gNot (fB (callD 2 N_has_facts (aCons (fVar 0) (aCons (fVar 1) aNil))))) (sExc "InvalidFacts") sNx)
abbrev N_need_facts : Fn := defF 2 (S_need_facts)
def S_law_facts : En → SO := (sRet (fA tupleD (fCons (fLc (fRange1 (fCons (callV 2 0 N_law_under (aCons (f2 addD (fVar 2) (fC (.int 1))) aNil)) fNil)) (gN 3) fYes (callV 2 0 N_law_fact (aCons (fVar 1) aNil)) [3]) fNil)))
abbrev N_law_facts : Fn := defF 4 (S_law_facts)
def S_are_facts : En → SO := (sSeq (sExp (callD 1 N_need_course (aCons (fVar 0) aNil))) (sRet (callD 2 N_has_facts (aCons (fVar 0) (aCons (fVar 1) aNil)))))
abbrev N_are_facts : Fn := defF 2 (S_are_facts)
def S_is_case : En → SO := (sSeq (sExp (callD 1 N_need_course (aCons (fVar 0) aNil))) (sSeq (sExp (callD 2 N_need_facts (aCons (fVar 0) (aCons (fVar 1) aNil)))) (sSeq (sIf (gOr (gNot (fB (f1 (isiD "tuple") (fVar 2)))) (fB (f2 neD (fA lenD (fCons (fVar 2) fNil)) (fC (.int 2))))) (sRet (fC (.bool false))) sNx) (sSeq (sIf (gOr (gNot (fB (callD 1 N_has_stair (aCons (f2 ixD (fVar 2) (fC (.int 0))) aNil)))) (gNot (fB (callD 2 N_have_given (aCons (fVar 0) (aCons (f2 ixD (fVar 2) (fC (.int 1))) aNil)))))) (sRet (fC (.bool false))) sNx) (sRet (callD 2 N_are_so (aCons (callD 3 N_all_numbers (aCons (fVar 0) (aCons (f2 ixD (fVar 2) (fC (.int 0))) (aCons (f2 ixD (fVar 2) (fC (.int 1))) aNil)))) (aCons (fVar 1) aNil))))))))
abbrev N_is_case : Fn := defF 3 (S_is_case)
end DL
/-! BX4: enumerate(tuple) -/
namespace PySem
theorem meets_enumerate_newB1 {v : Value} {o : Obj} {H : Heap → Prop} (B : Begins v o H) :
    Meets (Builtin.«enumerate.__new__» ⟨[.type "enumerate", v], []⟩) (fun _ R s => H s.heap ∧
      R (.ok (.ret (.ref (s.heap.push o).objs.size))) { s with heap := (s.heap.push o).push { cls := .type "enumerate", data := .fields #[.none, .bool false, .ref s.heap.objs.size, rawInt 0, .none, .none] } }) :=
  .of_wp fun prog w A R s h => by
    obtain ⟨hp, g, d, tk, os⟩ := s; obtain ⟨h1, h⟩ := h
    have hsub := sub_enumerate
    have q1 : ∀ {A' : Around} {E : Value → Shared → Prop} {Q : Value → Shared → Prop}, Q (.ref hp.objs.size) ⟨hp.push o, g, d, tk, os⟩ → wpAny (model prog w) A' (pyIter v) Q E ⟨hp, g, d, tk, os⟩ :=
      fun q => B.iter prog w _ _ ⟨hp, g, d, tk, os⟩ _ h1 q
    wp_walk using q1
    refine wpAny_stack_any fun st => wpAny_pure ?_
    split
    · rename_i c _ _ _ _ _
      cases (c == Value.type "enumerate")
      · wp_walk using q1
        exact ⟨_, rfl, h⟩
      · wp_walk using q1
        exact ⟨_, rfl, h⟩
    · wp_walk using q1
      exact ⟨_, rfl, h⟩
section
variable {prog : Program} {w : World} {A : Around} {E : Value → Shared → Prop} {s : Shared}
theorem call_enumerate_B {v : Value} {o : Obj} {H : Heap → Prop} {Q : Value → Shared → Prop} (B : Begins v o H) (h1 : H s.heap)
    (h : ∀ h', IsEnum h' (s.heap.objs.size + 1) s.heap.objs.size 0 .none → h'.get? s.heap.objs.size = some o → h'.objs.size = s.heap.objs.size + 2 →
      (∀ b o, s.heap.get? b = some o → h'.get? b = some o) → Q (.ref (s.heap.objs.size + 1)) { s with heap := h' }) :
    wpAny (model prog w) A (call (.type "enumerate") [v]) Q E s := by
  refine callType_new F.called_enumerate (by decide) (F.typeCall_enumerate_1 _) (F.newCall_enumerate_1 _) (fun obj => F.args_object_init_2 obj _) F.entry_enumerate_new
    (meets_enumerate_newB1 B) ⟨h1, ?_⟩
  have hz : (s.heap.push o).objs.size = s.heap.objs.size + 1 := Heap.size_push ..
  show _ ∧ _
  rw [hz]
  have he : IsEnum ((s.heap.push o).push { cls := .type "enumerate", data := .fields #[.none, .bool false, .ref s.heap.objs.size, rawInt 0, .none, .none] }) (s.heap.objs.size + 1) s.heap.objs.size 0 .none := by
    have := Heap.get?_push_size (s.heap.push o) (o := { cls := .type "enumerate", data := .fields #[.none, .bool false, .ref s.heap.objs.size, rawInt 0, .none, .none] }) rfl
    rw [hz] at this; exact this
  refine ⟨⟨_, he, rfl⟩, h _ he (Heap.get?_push_of_some _ (Heap.get?_push_size _ B.free)) (by rw [Heap.size_push, hz]) fun b o x => Heap.get?_push_of_some _ (Heap.get?_push_of_some _ x)⟩
theorem pyNext_enumT_end {e it t : Addr} {i : Nat} {items : Array Value} {old : Value} {k : Int} {Q : Option Value → Shared → Prop} (hh : A.in1.handled = none)
    (he : IsEnum s.heap e it k old) (hit : s.heap.IsTupleIter it t i) (ht : s.heap.IsTuple t items) (hx : items[i]? = none)
    (hQ : ∀ h', Heap.ExtBut it s.heap h' → Q none { s with heap := h' }) : wpAny (model prog w) A (pyNext (.ref e)) Q E s := by
  have hT : s.TypeIs (.ref e) "enumerate" := ⟨_, he, rfl⟩
  unfold pyNext
  refine wpAny_bind (wpAny_attempt (wpAny_callSpecial?_slot (name := Str.ofString "__next__") hT F.slot_enumerate_next
    (wpAny_call_entry F.slot_enumerate_next hT F.entry_enumerate_next ?_ (F.args_enumerate_next_1 _))))
  show wpAny _ _ (field (.ref e) 2 >>= _) _ _ _
  refine wpAny_bind (wpAny_field he rfl (x := .ref it) rfl ?_)
  refine wpAny_bind (wpAny_nextOf_tuple_end (A := A.in1) hh hit ht hx fun h' x he' hx' => ?_)
  obtain ⟨o, ho, hc⟩ := hx'
  refine wpAny_bind (wpAny_isInstance (T := "StopIteration") (b := true) ⟨o, ho, hc⟩ isSubtype_stop ?_)
  exact wpAny_pure (hQ _ he')
end
end PySem
namespace DL
open PySem PySem.Spec PyProof.Rows L2
/-- the tuple at a as it stands at each turn, each item in a new pair -/
def Itet (K : PySem.W.Frag) (a : Addr) : It :=
  ⟨fun i H => ∃ (xs : List V) (x : V), SqT K H a xs ∧ xs[i]? = some x, fun i H v H' => ∃ T x, v = .ref T ∧ H T = none ∧ H' = upd H T (.tup [.int (i : Nat), x]) ∧ ∀ xs, SqT K H a xs → xs[i]? = some x, fun i H => ∃ xs : List V, SqT K H a xs ∧ xs.length ≤ i⟩
theorem ne_cls {h : Heap} {a b : Addr} {o1 o2 : Obj} (h1 : h.get? a = some o1) (h2 : h.get? b = some o2) (hc : o1.cls ≠ o2.cls) : a ≠ b := fun e => by
  subst e
  rw [h1] at h2
  cases h2
  exact hc rfl
theorem turn_enumT {P : Program} {w : World} {K : PySem.W.Frag} {elts : List Expr} {kk : Nat} {tpos : Pos} (a e it : Addr) :
    Turn P w K (.Tuple elts kk tpos) (Itet K a) [e, it] e (fun i h => (∃ old, IsEnum h e it ((i : Nat) : Int) old) ∧ h.IsTupleIter it a i ∧ e ≠ it) where
  mem := by simp
  obj := fun i h st b hb => by
    obtain ⟨⟨old, he⟩, ⟨o, ho, hc, hd⟩, _⟩ := st
    have e' : b = e ∨ b = it := by simpa using hb
    rcases e' with z | z
    · rw [z]; exact ⟨_, he, fun v q => nomatch q⟩
    · rw [z]; exact ⟨o, ho, fun v q => by rw [hd] at q; cases q⟩
  keep := fun i h h' st k => let ⟨⟨old, he⟩, hi, hne⟩ := st; ⟨⟨old, k e (by simp) _ he⟩, hi.at fun o q => k it (by simp) o q, hne⟩
  item := by
    intro X hP hw hK hc i pins s σ H E I hf st hg
    subst hP hw hK
    obtain ⟨⟨old, he⟩, hit, hne⟩ := st
    obtain ⟨xs, x, hq, hx⟩ := hg
    obtain ⟨its, rv, p, hz⟩ := I.tuple hq
    obtain ⟨u, hu, ru⟩ := rv.get hx
    have p' : s.heap.IsTuple a its.toArray := p
    have hel : e < s.heap.objs.size := Heap.lt_size he
    have hil : it < s.heap.objs.size := by obtain ⟨_, q, _⟩ := hit; exact Heap.lt_size q
    have hat : a ≠ it := by
      obtain ⟨o1, q1, c1, _⟩ := p'
      obtain ⟨o2, q2, c2, _⟩ := hit
      exact ne_cls q1 q2 (by rw [c1, c2]; decide)
    have hea : e ≠ a := by
      obtain ⟨o1, q1, c1, _⟩ := p'
      exact ne_cls he q1 (by rw [c1]; exact fun z => by injection z with z; exact absurd z (by decide))
    have hilen : i < its.toArray.size := by
      have := (List.getElem?_eq_some_iff.mp hu).1
      simpa using this
    have D := Draws.tuple (prog := X.prog) (w := X.w) (A := X.A.in1) (I.ok.hd hc) it a hat its.toArray
    refine wpAny_pyNext_enum_itemD D he ⟨hit, p'⟩ hilen hne (by simp [hne, hea]) fun x0 h' tk hP0 ho hst' hT hsz hk => ?_
    have hx0 : x0 = u := by
      have h1 : its.toArray[i]? = some u := by simpa using hu
      rw [h1] at hP0
      exact (Option.some.inj hP0).symm
    subst hx0
    obtain ⟨hit', _⟩ := hst'
    refine ⟨_, rfl, wpAny_letOwnedTupleGo_enum (s := { s with heap := h', toks := tk + 1 }) ho fun h'' he' sb => ?_⟩
    have hT2 : h''.get? s.heap.objs.size = some { cls := .type "tuple", data := .seq #[.int i tk, x0] } := (sb.2 _ (Nat.ne_of_gt hel)).trans hT
    have new : ObjOk X.prog X.w (upd H s.heap.objs.size (.tup [.int (i : Nat), x])) h'' s.heap.objs.size (.tup [.int (i : Nat), x]) :=
      ⟨by show 2 ≤ sizeLine; decide, [.int i tk, x0], .cons ⟨_, rfl⟩ (.cons ru .nil), ⟨_, hT2, rfl, _, rfl⟩⟩
    have I1 : Inv X pins σ (upd H s.heap.objs.size (.tup [.int (i : Nat), x])) { s with heap := h'', toks := tk + 1 } :=
      I.turnedNew (ch := [e, it]) (fun b ob hb q => (sb.2 b (fun z => hb (by simp [z]))).trans (hk b ob (fun z => hb (by simp [z])) (fun z => hb (by simp [z])) q)) hf (Nat.le_refl _) new
    refine ⟨.ref s.heap.objs.size, _, I1, rfl, ⟨_, x, rfl, I.hok.fresh (Nat.le_refl _), rfl, fun ys hy => by
      rw [I.tuple_inj hy hq]
      exact hx⟩, ⟨⟨x0, ?_⟩, hit'.at fun o q => (sb.2 it (Ne.symm hne)).trans q, hne⟩, fun b hb => ?_⟩
    · have e1 : ((i + 1 : Nat) : Int) = (i : Int) + 1 := by omega
      rw [e1]; exact he'
    · have hb' : b < s.heap.objs.size := by
        have e' : b = e ∨ b = it := by simpa using hb
        rcases e' with z | z
        · rw [z]; exact hel
        · rw [z]; exact hil
      rw [upd_ne (Nat.ne_of_lt hb')]
      exact (hf b hb).1
  done := by
    intro X hP hw hK hc i pins s σ H E I hf st hg
    subst hP hw hK
    obtain ⟨⟨old, he⟩, hit, hne⟩ := st
    obtain ⟨xs, hq, hx⟩ := hg
    obtain ⟨its, rv, p, hz⟩ := I.tuple hq
    obtain ⟨f0, f1, f2, f3, f4, f5⟩ := hf it (by simp)
    have hl := rv.length
    exact pyNext_enumT_end (I.ok.hd hc) he hit (show s.heap.IsTuple a its.toArray from p) (by simp; omega) fun h' eb => ⟨rfl, I.turned (t' := s.toks) (fun b o hb q => eb b o hb q) f0 f1 f3 f4 f5⟩
  self := fun A i s Q E st h => let ⟨⟨_, he⟩, _⟩ := st; wpAny_pyIter_enum he h
def iEnumT (K : PySem.W.Frag) (ta : TA) : TI := fun σ H R => ta σ H fun vs H1 => ∃ a xs, vs = [.ref a] ∧ SqT K H1 a xs ∧ R (Itet K a) H1
theorem pi_enumT {X : Cx} {e : Expr} {ta : TA} {p pos tpos : Pos} {elts : List Expr} {kk : Nat} (hg : Gl X "enumerate") (hm : X.mg "enumerate" = none) (ha : PA X [e] ta) (hs : starEach [e] X.env = [(false, eval e X.env)] := by rfl) :
    PI X (.Tuple elts kk tpos) (.Call (.Name "enumerate" p) [e] [] pos) (iEnumT X.K ta) := by
  refine ⟨fun pins s σ H R I h => ?_⟩
  refine Call_ (ld_blt I hg hm boot_enumerate (PyProof.Rows.callWith_type1 (thn (ha.run pos pins s σ H _ I h) fun us s1 ⟨vs, H1, I1, r1, q1⟩ => ?_) hs rfl))
  obtain ⟨a, xs, ex, hq, q⟩ := q1
  subst ex
  cases r1 with
  | cons r rr =>
    cases rr
    cases r
    obtain ⟨its, rv, p', hz⟩ := I1.tuple hq
    refine call_enumerate_B (begins_tuple a its.toArray) p' fun h' he hit hsz hk => wpAny_pyIter_enum he ?_
    have I2 : Inv X pins σ H1 { s1 with heap := h' } := I1.kept (t' := s1.toks) hk
    refine ⟨s1.heap.objs.size + 1, [s1.heap.objs.size + 1, s1.heap.objs.size], _, _, H1, rfl, I2, turn_enumT a (s1.heap.objs.size + 1) s1.heap.objs.size, ⟨⟨.none, he⟩, ⟨_, hit, rfl, rfl⟩, Nat.succ_ne_self _⟩, fun b hb => ?_, q⟩
    have e' : b = s1.heap.objs.size + 1 ∨ b = s1.heap.objs.size := by simpa using hb
    have hle : s1.heap.objs.size ≤ b := by
      rcases e' with z | z
      · rw [z]; exact Nat.le_add_right _ _
      · rw [z]; exact Nat.le_refl _
    exact I1.fpOk hle (I1.hok.fresh hle)
end DL
namespace DL
open PySem L2
/-! DL20: what a proof shows not to come up; texts: str, int, in, walks; enumerate of a tuple -/
def sBad : En → SO := fun _ => .bad
def fBad : En → R Dt := fun _ => .bad
section
variable {X : Cx} {κ : Kd} {W : WX} {e a b c tg : Expr} {fa fb fc : En → R Dt} {pos : Pos} {st : Stmt}
theorem ds_bad : DS X κ W st sBad := ⟨⟨fun pins s σ H D I q => by
  obtain ⟨B, G, en, S, q⟩ := q
  exact q.elim⟩⟩
theorem de_bad : DE X κ W e fBad := ⟨⟨fun pins s σ H Q I q => by
  obtain ⟨B, G, en, S, q⟩ := q
  exact q.elim⟩⟩
/-- str of a text or of an int -/
def strT : List Dt → Option Dt
  | [.str a] => some (.str a)
  | x => strD x
theorem rd_strT : RDA κ (fun xs H Q => (∃ a, xs = [.str a] ∧ Q (.str a) H) ∨ (∃ i, xs = [.int i] ∧ i.natAbs.log2 < 1920 ∧ Q (.str (toString i)) H)) strT := by
  intro B σ H G en xs dxs d Q S hx hg k
  unfold strT at hg
  split at hg
  · cases hg
    cases hx with
    | cons h1 h2 =>
      cases h2; cases h1
      exact .inl ⟨_, rfl, k _ _ _ S (Ex.refl G) (.str _)⟩
  · exact .inr (rd_str B σ H G en xs dxs d Q S hx hg k)
/-- int of a text or of an int -/
def intT : List Dt → Option Dt
  | [.str a] => if decide (a.length ≤ 640) then (PySem.intText? a).map .int else none
  | [.int i] => some (.int i)
  | _ => none
theorem rd_intT : RDA κ (fun xs H Q => (∃ a n, xs = [.str a] ∧ PySem.intText? a = some n ∧ a.length ≤ 640 ∧ Q (.int n) H) ∨ ((∃ i, xs = [.int i] ∧ Q (.int i) H) ∨ ∃ k, xs = [.bl k] ∧ Q (.int (if k = true then 1 else 0)) H)) intT := by
  intro B σ H G en xs dxs d Q S hx hg k
  unfold intT at hg
  split at hg
  · rename_i a
    cases hx with
    | cons h1 h2 =>
      cases h2; cases h1
      split at hg
      · rename_i hc
        cases z : PySem.intText? a with
        | none => rw [z] at hg; cases hg
        | some n =>
          rw [z] at hg
          cases hg
          exact .inl ⟨_, n, rfl, z, of_decide_eq_true hc, k _ _ _ S (Ex.refl G) (.int _)⟩
      · cases hg
  · cases hg
    cases hx with
    | cons h1 h2 =>
      cases h2; cases h1
      exact .inr (.inl ⟨_, rfl, k _ _ _ S (Ex.refl G) (.int _)⟩)
  · cases hg
/-- a sign in a text -/
def inS (neg : Bool) : Dt → Dt → Option Dt
  | .str s, .str z => (match s.cps.toList with
    | [c] => some (.bool (neg != decide (c ∈ z.cps.toList)))
    | _ => none)
  | _, _ => none
theorem str_one {s : Str} {c : Nat} (h : s.cps.toList = [c]) : s = ⟨#[c]⟩ := by
  cases s with
  | mk cps =>
    have h : cps.toList = [c] := h
    congr 1
    exact Array.toList_inj.mp h
theorem rd_notInS : RD2 κ (fun x y H Q => ∃ (c : Nat) (z : Str), x = .str ⟨#[c]⟩ ∧ y = .str z ∧ Q (.bl (!decide (c ∈ z.cps.toList))) H) (inS true) := by
  intro B σ H G en x y dx dy d Q S hx hy hg k
  unfold inS at hg
  split at hg
  · rename_i s z
    split at hg
    · rename_i c hc
      cases hg; cases hx; cases hy
      refine ⟨c, z, by rw [str_one hc], rfl, k _ _ _ S (Ex.refl G) ?_⟩
      rw [show (true != decide (c ∈ z.cps.toList)) = !decide (c ∈ z.cps.toList) from by cases decide (c ∈ z.cps.toList) <;> rfl]
      exact .bl _
    · cases hg
  · cases hg
theorem rd_inS : RD2 κ (fun x y H Q => ∃ (c : Nat) (z : Str), x = .str ⟨#[c]⟩ ∧ y = .str z ∧ Q (.bl (decide (c ∈ z.cps.toList))) H) (inS false) := by
  intro B σ H G en x y dx dy d Q S hx hy hg k
  unfold inS at hg
  split at hg
  · rename_i s z
    split at hg
    · rename_i c hc
      cases hg; cases hx; cases hy
      refine ⟨c, z, by rw [str_one hc], rfl, k _ _ _ S (Ex.refl G) ?_⟩
      rw [show (false != decide (c ∈ z.cps.toList)) = decide (c ∈ z.cps.toList) from by cases decide (c ∈ z.cps.toList) <;> rfl]
      exact .bl _
    · cases hg
  · cases hg
theorem dt_notInS (ha : DE X κ W a fa) (hb : DE X κ W b fb) (hm : behindInMarks .NotIn b = false) : DT X κ W (.Compare a [.NotIn] [b] pos) (fB (f2 (inS true) fa fb)) := dt_cmp op_notIn_sign rd_notInS ha hb hm
theorem dt_inS (ha : DE X κ W a fa) (hb : DE X κ W b fb) (hm : behindInMarks .In b = false) : DT X κ W (.Compare a [.In] [b] pos) (fB (f2 (inS false) fa fb)) := dt_cmp op_in_sign rd_inS ha hb hm
/-- the signs of a text -/
def signsD (s : Str) : List Dt := s.cps.toList.map fun c => PyData.str ⟨#[c]⟩
theorem gives_s {G0 : Hp} {s : Str} : GivesA κ (Its s) G0 (signsD s) := by
  intro B σ H G e S x i
  refine ⟨fun d hi => ?_, fun hi => show s.cps.size ≤ i by simpa [signsD] using hi⟩
  unfold signsD at hi
  rw [List.getElem?_map] at hi
  cases z : s.cps.toList[i]? with
  | none => rw [z] at hi; cases hi
  | some c =>
    rw [z] at hi
    have hd : d = .str ⟨#[c]⟩ := (Option.some.inj hi).symm
    subst hd
    have z' : s.cps[i]? = some c := by simpa using z
    refine ⟨show i < s.cps.size from (by
      have := (List.getElem?_eq_some_iff.mp z).1
      simpa using this), fun y H' hy => ?_⟩
    obtain ⟨rfl, c', hc, rfl⟩ := hy
    rw [z'] at hc
    cases hc
    exact ⟨G, S, Ex.refl G, .str _, fun _ _ q => q, fun _ _ q => q⟩
def asSigns : Dt → En → R (List Dt)
  | .str s, e => .ok (signsD s) e
  | _, _ => .bad
def fSigns (fa : En → R Dt) : En → R (List Dt) := fun e => (fa e).bind asSigns
theorem di_txt (ha : DE X κ W a fa) : DI X κ W tg a (fSigns fa) := ⟨PI.imp (pi_str ha.pe) fun σ H Q q => by
  obtain ⟨B, G, en, S, q⟩ := q
  refine ⟨B, G, en, S, q.of_bind.mono fun d H1 G1 e1 S1 x1 q1 v hv => ?_⟩
  cases hv with
  | str s => exact ⟨s, rfl, q1 H1 G1 S1 (Ex.refl G1) _ gives_s⟩
  | _ => exact q1.elim⟩
/-! enumerate(tuple) -/
theorem gives_et {K : PySem.W.Frag} {G0 : Hp} {a : Addr} {vs : List V} {ds : List Dt} (h : G0 a = some (.tup vs)) (hd : DRs G0 vs ds) : GivesA κ (Itet K a) G0 (enumD 0 ds) := by
  intro B σ H G e S x i
  have q1 : SqT K H a vs := S.sqt (x _ _ h)
  refine ⟨fun d hi => ?_, fun hi => ⟨vs, q1, by rw [enumD_length] at hi; rw [DRs.length hd]; exact hi⟩⟩
  obtain ⟨dx, g1, rfl⟩ := enumD_get hi
  obtain ⟨vx, e1, r1⟩ := DRs.get hd g1
  refine ⟨⟨vs, vx, q1, e1⟩, fun y H' hy => ?_⟩
  obtain ⟨T, x', rfl, nT, rfl, k1⟩ := hy
  have z1 := k1 vs q1
  rw [e1] at z1
  cases z1
  rw [Nat.zero_add]
  exact gives_new S nT (.cons (.int _) (.cons (DR.ex x r1) .nil))
def asEnumT : Dt → En → R (List Dt)
  | .tuple ds, e => .ok (enumD 0 ds) e
  | _, _ => .bad
def fEnumT (fa : En → R Dt) : En → R (List Dt) := fun e => (fa e).bind asEnumT
theorem di_enumT {p tpos : Pos} {elts : List Expr} {kk : Nat} (hg : Gl X "enumerate") (hm : X.mg "enumerate" = none) (ha : DE X κ W a fa) (hs : starEach [a] X.env = [(false, eval a X.env)] := by rfl) :
    DI X κ W (.Tuple elts kk tpos) (.Call (.Name "enumerate" p) [a] [] pos) (fEnumT fa) := ⟨PI.imp (pi_enumT hg hm (pa_cons ha.pe pa_nil hs) hs) fun σ H Q q => by
  obtain ⟨B, G, en, S, q⟩ := q
  refine ⟨B, G, en, S, q.of_bind.mono fun d H1 G1 e1 S1 x1 q1 v hv => ?_⟩
  cases hv with
  | tup h1 h2 => exact ⟨_, _, rfl, S1.sqt h1, q1 H1 G1 S1 (Ex.refl G1) _ (gives_et h1 h2)⟩
  | _ => exact q1.elim⟩
end
end DL
namespace DL
open PySem L2
def S_step_line : En → SO := (sRet (fM1 joinD (fC (.str " ")) (fLc (fSeq (fVar 0)) (gN 1) fYes (fA strT (fCons (fVar 1) fNil)) [1])))
abbrev N_step_line : Fn := defF 2 (S_step_line)
def S_part_of : En → SO := (sSeq (sAsg (fIf (fB (f2 eqD (fSl (fVar 0) fNo (fPart (fC (.int 1)))) (fC (.str "-")))) (fSl (fVar 0) (fPart (fC (.int 1))) fNo) (fVar 0)) (gN 1)) (sSeq (sIf (gOr (gNot (fB (fCh leD leD (fC (.int 1)) (fA lenD (fCons (fVar 1) fNil)) (fC (.int 4))))) (fB (f2 neD (fLc (fSigns (fVar 1)) (gN 2) (fB (f2 (inS true) (fVar 2) (fC (.str "0123456789")))) (fVar 2) [2]) (fA gLst fNil)))) (sRet (fVar 0)) sNx) (sRet (fIf (fB (f2 eqD (fA strT (fCons (fA intT (fCons (fVar 0) fNil)) fNil)) (fVar 0))) (fA intT (fCons (fVar 0) fNil)) (fVar 0)))))
abbrev N_part_of : Fn := defF 3 (S_part_of)
def S_law_lines : En → SO := (sSeq (sOwn 1 fNil) (sSeq (sFor (fSeq (fVar 0)) (gN 2) (sSeq (sAsg (f2 ixD (fVar 2) (fC (.int 0))) (gN 3)) (sSeq (sFor (fSeq (fSl (fVar 2) (fPart (fC (.int 1))) fNo)) (gN 4) (sAsg (f2 addD (f2 addD (fVar 3) (fC (.str " "))) (fA strT (fCons (fVar 4) fNil))) (gN 3))) (sApp 1 (fVar 3))))) (sRet (fVar 1))))
abbrev N_law_lines : Fn := defF 5 (S_law_lines)
def S_text_of : En → SO := (sRet (fM1 joinD (fC (.str "\n")) (fLc (fSeq (fVar 0)) (gN 1) fYes (callD 1 N_step_line (aCons (fVar 1) aNil)) [1])))
abbrev N_text_of : Fn := defF 2 (S_text_of)
def S_step_of : En → SO := (sRet (fA tupleD (fCons (fLc (fSeq (fM1 splitD (fVar 0) (fC (.str " ")))) (gN 1) fYes (callD 1 N_part_of (aCons (fVar 1) aNil)) [1]) fNil)))
abbrev N_step_of : Fn := defF 2 (S_step_of)
def S_read_course : En → SO := (sSeq (sIf (gNot (fB (f1 (isiD "str") (fVar 0)))) sBad sNx) (sSeq (sAsg (fA tupleD (fCons (fLc (fSeq (fM1 splitD (fVar 0) (fC (.str "\n")))) (gN 4) fYes (callD 1 N_step_of (aCons (fVar 4) aNil)) [4]) fNil)) (gN 1)) (sSeq (sFor (fEnumT (fVar 1)) (gT 2 (gsCons (gN 2) (gsCons (gN 3) gsNil))) (sIf (gNot (fB (callD 2 N_is_step (aCons (fVar 3) (aCons (fVar 2) aNil))))) sBad sNx)) (sSeq (sIf (gNot (fB (callD 1 N_has_course (aCons (fVar 1) aNil)))) sBad sNx) (sRet (fVar 1))))))
abbrev N_read_course : Fn := defF 5 (S_read_course)
def S_course_text : En → SO := (sSeq (sExp (callD 1 N_need_course (aCons (fVar 0) aNil))) (sRet (callD 1 N_text_of (aCons (fVar 0) aNil))))
abbrev N_course_text : Fn := defF 1 (S_course_text)
end DL
namespace DL
open PySem L2
/-! ### functions as values: a call through a name, a loop over functions -/
def fCallX (i : Nat) (g : Addr) (n : Nat) (F : Fn) (fs : En → R (List Slot)) : En → R Dt := fun e => match e[i]? with
  | some (some (.raw (.ref b))) => if b = g then callD n F fs e else .bad
  | _ => .bad
def sForF (j : Nat) : List (Addr × (En → SO)) → En → SO
  | [], e => .nx e
  | (g, f) :: r, e => match f (e.set j (some (.raw (.ref g)))) with
    | .nx e2 => sForF j r e2
    | .ct e2 => sForF j r e2
    | .bk e2 => .nx e2
    | o => o
section
variable {X : Cx} {κ : Kd} {W : WX} {e : Expr} {es : List Expr} {pos : Pos}
/-- all are functions of the module -/
structure AV (X : Cx) (es : List Expr) (gs : List Addr) : Prop where
  pa : PA X es (fun _ H Q => Q (gs.map V.ref) H)
theorem av_nil : AV X [] [] := ⟨PA.imp pa_nil fun σ H Q q => q⟩
theorem av_cons {x : Str} {p : Pos} {g : Addr} {gs : List Addr} (hg : Gl X x) (hm : X.mg x = some (.ref g)) (hr : AV X es gs) (hs : starEach (.Name x p :: es) X.env = (false, eval (.Name x p) X.env) :: starEach es X.env := by rfl) (hd : (x == ("__debug__" : Str)) = false := by decide) : AV X (.Name x p :: es) (g :: gs) :=
  ⟨PA.imp (pa_cons (pe_glob (v := V.ref g) hg hm rfl hd) hr.pa hs) fun σ H Q q => q⟩
theorem de_callX {κ' : Kd} {k n : Nat} (i : Nat) {f : Addr} {fd : FuncData} {ps : List Str} {F : Fn} {x : Str} {p : Pos} {fs : En → R (List Slot)} (Fk : FnOk X.prog X.w X.K X.mg X.base (L2N.CX X.prog X.w) k f fd ps (spF κ' X.mg n F)) (hl : Le κ' κ) (tk : L2N.Takes X W) (hr : Room k X.A) (hv : PE X (.Name x p) (tVar i)) (hk : PySem.W.keepIn X.K (.ref f) = true)
    (hb : Binds X.K fd ps []) (ha : AS X κ W (e :: es) fs) (he : starEach (e :: es) X.env = (false, eval e X.env) :: starEach es X.env := by rfl) (hpl : (backTo pos (starEach es X.env)).any (·.1) = false := by rfl) :
    DE X κ W (.Call (.Name x p) (e :: es) [] pos) (fCallX i f n F fs) := by
  have h1 : PE X (.Call (.Name x p) (e :: es) [] pos) (fun σ H Q => σ[i]? = some (some (.ref f)) ∧ tCallS (spF κ' X.mg n F) (WE W) (tAS X κ W fs) σ H Q) := by
    refine ⟨fun pins s σ H Q I ⟨hi, h⟩ => ?_⟩
    refine wpAny_Call_Name_kw (thn (hv.run pins s σ H (fun v H1 => v = .ref f ∧ H1 = H) I ⟨.ref f, hi, rfl, rfl⟩) fun u s1 ⟨v, H1, I1, r1, ev, eH⟩ => ?_)
    subst ev
    rw [eH] at I1
    obtain rfl : u = Value.ref f := r1
    refine PySem.W.callWith_K (h₀ := X.base) I1.ok.mod.kin hk (thn (ha.pa.run pos pins s1 σ H _ I1 h) fun us s2 ⟨vs, H2, I2, r, q⟩ => ⟨I2.kIn, ?_⟩) he hpl
    exact run_fnS Fk hr hb (L2N.passAt tk σ) I2 r q
  refine ⟨PE.imp h1 fun σ H Q q => ?_⟩
  obtain ⟨B, G, en, S, q⟩ := q
  unfold fCallX at q
  split at q
  · rename_i b hb1
    split at q
    · rename_i eb
      subst eb
      refine ⟨S.raw_at hb1, B, G, en, S, ?_⟩
      refine q.of_bind.mono fun ss H1 G1 e1 S1 x1 q1 vs hv => ?_
      split at q1
      · rename_i hn
        have T' : κ'.T H1 := by
          rcases hl with h | h
          · subst h; trivial
          · subst h; exact S1.t
        refine ⟨G1, ss, S1.sub, T', hn, hv.ar, ?_⟩
        cases z : F ss with
        | ok d as' =>
          rw [z] at q1
          intro v H' G' A _ hd
          exact q1 H' G' (S1.call hl A hv.notOwn) A.gx v hd
        | exc c as' =>
          rw [z] at q1
          intro H' G' C mC A _
          exact q1 H' G' C mC (S1.call hl A hv.notOwn) A.gx
        | bad => rw [z] at q1; exact q1.elim
      · exact q1.elim
    · exact q.elim
  · exact q.elim
/-- every one of some functions makes the body mean its own -/
structure FB (X : Cx) (κ : Kd) (W : WX) (body : List Stmt) (l : List (Addr × (En → SO))) : Prop where
  all : ∀ p ∈ l, DSs X κ W body p.2
theorem fb_nil {body : List Stmt} : FB X κ W body [] := ⟨fun p h => nomatch h⟩
theorem fb_cons {body : List Stmt} {g : Addr} {f : En → SO} {l : List (Addr × (En → SO))} (h : DSs X κ W body f) (r : FB X κ W body l) : FB X κ W body ((g, f) :: l) := ⟨fun p hp => by
  rcases List.mem_cons.mp hp with rfl | hp
  · exact h
  · exact r.all p hp⟩
theorem ds_forF {x : Str} {p : Pos} {body : List Stmt} {l : List (Addr × (En → SO))} {tk : Nat} {tp : Pos} (j : Nat) (hp : PassesOwn (model X.prog X.w) X.A X.env X.xe) (hc : X.calm = true) (ha : AV X es (l.map (·.1))) (hg : PG X (.Name x p) (gName j)) (hb : FB X κ W body l) (hn : l.length ≤ 1000)
    (hs : ∀ x, foldedSetIterable (.Tuple es tk tp) X.env x = pure x := by intro _; rfl) : DS X κ W (.For (.Name x p) (.Tuple es tk tp) body [] pos) (sForF j l) := by
  have hbody : PSs X body (fun D σ H => ∃ q ∈ l, tDS X κ W q.2 D σ H) := ⟨fun pins s σ H D I h => by
    obtain ⟨q, hq, h⟩ := h
    exact (hb.all q hq).pss.run pins s σ H D I h⟩
  refine ⟨PS.imp (ps_for hp hc (pi_any (pe_tup ha.pa)) hg hbody hs) fun D σ H q => ?_⟩
  obtain ⟨B, G, en, S, q⟩ := q
  refine ⟨?_, fun a ha2 => ⟨a, rfl, .inr ?_⟩⟩
  · rw [sizeLine_eq]
    simp only [List.length_map]
    omega
  have S1 := S.alloc ha2 (.tup ((l.map (·.1)).map V.ref))
  have x1 : Ex G (upd G a (.tup ((l.map (·.1)).map V.ref))) := Ex.new (S.gnone ha2)
  have hq : ∀ {σ' : L2.St} {H' G' : Hp} {e' : En}, SR κ B σ' H' G' e' → Ex (upd G a (.tup ((l.map (·.1)).map V.ref))) G' → SqT X.K H' a ((l.map (·.1)).map V.ref) := fun S' x' => S'.sqt (x' _ _ upd_same)
  refine ⟨⟨_, hq S1 (Ex.refl _)⟩, ?_⟩
  refine for_tup (D := D) (g := gName j) (tb := fun D σ H => ∃ q, q ∈ l ∧ tDS X κ W q.2 D σ H) (xs := (l.map (·.1)).map V.ref) (fun i σ H => ∃ G' e', SR κ B σ H G' e' ∧ Ex (upd G a (.tup ((l.map (·.1)).map V.ref))) G' ∧ wpS X κ B W G' (sForF j (l.drop i) e') D) ⟨_, en, S1, Ex.refl _, wpS.base q x1⟩ (fun i σ H _ ⟨G', e', S', x', _⟩ => hq S' x') (fun i v σ2 H2 hv ⟨G', e', S', x', q'⟩ => ?_) (fun σ2 H2 ⟨G', e', S', x', q'⟩ => ?_)
  · rw [List.getElem?_map, List.getElem?_map] at hv
    cases z : l[i]? with
    | none => rw [z] at hv; cases hv
    | some gf =>
      rw [z] at hv
      obtain rfl : V.ref gf.1 = v := Option.some.inj hv
      obtain ⟨hlt, z2⟩ := List.getElem?_eq_some_iff.mp z
      have hdrop : l.drop i = gf :: l.drop (i + 1) := by rw [List.drop_eq_getElem_cons hlt, z2]
      rw [hdrop] at q'
      obtain ⟨g, f⟩ := gf
      refine ⟨(g, f), List.mem_of_getElem? z, B, G', _, S'.setRaw, ?_⟩
      have e0 : sForF j ((g, f) :: l.drop (i + 1)) e' = (match f (e'.set j (some (.raw (.ref g)))) with
        | .nx e2 => sForF j (l.drop (i + 1)) e2
        | .ct e2 => sForF j (l.drop (i + 1)) e2
        | .bk e2 => .nx e2
        | o => o) := rfl
      rw [e0] at q'
      show wpS X κ B W G' (f (e'.set j (some (.raw (.ref g))))) _
      cases y : f (e'.set j (some (.raw (.ref g)))) with
      | nx e5 =>
        rw [y] at q'
        exact fun σ' H' G'' S'' x'' => ⟨G'', e5, S'', x'.trans x'', wpS.base q' x''⟩
      | ct e5 =>
        rw [y] at q'
        exact fun σ' H' G'' S'' x'' => ⟨G'', e5, S'', x'.trans x'', wpS.base q' x''⟩
      | bk e5 =>
        rw [y] at q'
        exact fun σ' H' G'' S'' x'' => q' σ' H' G'' S'' x''
      | rt d e5 =>
        rw [y] at q'
        exact fun v σ' H' G'' S'' x'' => q' v σ' H' G'' S'' x''
      | exc c e5 =>
        rw [y] at q'
        exact fun σ' H' G'' C mC S'' x'' => q' σ' H' G'' C mC S'' x''
      | bad =>
        rw [y] at q'
        exact q'.elim
  · simp only [List.length_map, List.drop_length] at q'
    exact q' σ2 H2 G' S' (Ex.refl G')
end
end DL
namespace DL
open PySem L2
def S_need_indices : En → SO := (sSeq (sFor (fSeq (fA gTup (fCons (fVar 1) (fCons (fVar 2) fNil)))) (gN 3) (sIf (gNot (fB (callD 3 N_is_whole (aCons (fVar 3) (aCons (fC (.int 0)) (aCons (f2 subD (fA lenD (fCons (fVar 0) fNil)) (fC (.int 1))) aNil)))))) (sExc "InvalidIndex") sNx)) (sIf (fB (f2 eqD (fVar 1) (fVar 2))) (sExc "InvalidIndex") sNx))
abbrev N_need_indices : Fn := defF 4 (S_need_indices)

def S_need_fact : En → SO := (sIf (gNot (fB (callD 2 N_is_fact (aCons (fVar 0) (aCons (fVar 1) aNil))))) (sExc "InvalidFacts") sNx)
abbrev N_need_fact : Fn := defF 2 (S_need_fact)
def S_law_by (sc : Option (Addr × List Int)) (gv : Addr) (Fv : Fn) : En → SO := (sRet (fLE nmS (fCallX 0 gv 2 Fv (aCons (fVar 1) (aCons (fVar 2) aNil)))))
abbrev N_law_by (sc : Option (Addr × List Int)) (gv : Addr) (Fv : Fn) : Fn := defF 3 (S_law_by sc gv Fv)
def S_case_for : En → SO := (sSeq (sExp (callD 1 N_need_course (aCons (fVar 0) aNil))) (sSeq (sExp (callD 2 N_need_facts (aCons (fVar 0) (aCons (fVar 1) aNil)))) sBad))
abbrev N_case_for : Fn := defF 2 (S_case_for)
def S_need_all : En → SO := (sSeq (sExp (callD 1 N_need_course (aCons (fVar 0) aNil))) (sSeq (sExp (callD 2 N_need_facts (aCons (fVar 0) (aCons (fVar 1) aNil)))) (sExp (callD 2 N_need_fact (aCons (fVar 0) (aCons (fVar 2) aNil))))))
abbrev N_need_all : Fn := defF 3 (S_need_all)
def S_need_two : En → SO := (sSeq (sExp (callD 1 N_need_course (aCons (fVar 0) aNil))) (sSeq (sExp (callD 2 N_need_facts (aCons (fVar 0) (aCons (fVar 1) aNil)))) (sExp (callD 3 N_need_indices (aCons (fVar 0) (aCons (fVar 2) (aCons (fVar 3) aNil)))))))
abbrev N_need_two : Fn := defF 4 (S_need_two)
def S_need_like : En → SO := (sSeq (sExp (callD 1 N_need_course (aCons (fVar 0) aNil))) (sSeq (sExp (callD 1 N_need_course (aCons (fVar 1) aNil))) (sSeq (sIf (fB (f2 neD (fA lenD (fCons (callD 2 N_steps_with (aCons (fVar 0) (aCons (fA gTup (fCons (fC (.str "any")) fNil)) aNil))) fNil)) (fA lenD (fCons (callD 2 N_steps_with (aCons (fVar 1) (aCons (fA gTup (fCons (fC (.str "any")) fNil)) aNil))) fNil)))) (sExc "Unlike") sNx) (sIf (fB (f2 gtD (f2 addD (fA lenD (fCons (callD 2 N_steps_with (aCons (fVar 0) (aCons (fA gTup (fCons (fC (.str "put")) fNil)) aNil))) fNil)) (fA lenD (fCons (callD 2 N_steps_with (aCons (fVar 1) (aCons (fA gTup (fCons (fC (.str "put")) fNil)) aNil))) fNil))) (fC (.int 4)))) sBad sNx))))
abbrev N_need_like : Fn := defF 2 (S_need_like)
def S_needless_facts : En → SO := (sSeq (sExp (callD 1 N_need_course (aCons (fVar 0) aNil))) (sSeq (sExp (callD 2 N_need_facts (aCons (fVar 0) (aCons (fVar 1) aNil)))) sBad))
abbrev N_needless_facts : Fn := defF 3 (S_needless_facts)
def S_quarrels : En → SO := (sSeq (sExp (callD 1 N_need_course (aCons (fVar 0) aNil))) (sSeq (sExp (callD 2 N_need_facts (aCons (fVar 0) (aCons (fVar 1) aNil)))) (sSeq (sAsg (fA gLst fNil) (gN 2)) (sSeq sBad sBad))))
abbrev N_quarrels : Fn := defF 5 (S_quarrels)
def S_follows : En → SO := (sSeq (sExp (callD 3 N_need_all (aCons (fVar 0) (aCons (fVar 1) (aCons (fVar 2) aNil))))) (sSeq sBad (sSeq sBad sBad)))
abbrev N_follows : Fn := defF 3 (S_follows)
def S_breaking : En → SO := (sSeq (sExp (callD 3 N_need_all (aCons (fVar 0) (aCons (fVar 1) (aCons (fVar 2) aNil))))) sBad)
abbrev N_breaking : Fn := defF 3 (S_breaking)
def S_stretches : En → SO := (sSeq (sExp (callD 4 N_need_two (aCons (fVar 0) (aCons (fVar 1) (aCons (fVar 2) (aCons (fVar 3) aNil)))))) sBad)
abbrev N_stretches : Fn := defF 4 (S_stretches)
def S_gap_range : En → SO := (sSeq (sExp (callD 4 N_need_two (aCons (fVar 0) (aCons (fVar 1) (aCons (fVar 2) (aCons (fVar 3) aNil)))))) (sSeq sBad (sSeq (sIf (fB (f2 eqD (fVar 4) (fA gLst fNil))) (sExc "NoCase") sNx) (sRet (fA gTup (fCons (f2 ixD (f2 ixD (fVar 4) (fC (.int 0))) (fC (.int 0))) (fCons (f2 ixD (f2 ixD (fVar 4) (f1 negD (fC (.int 1)))) (fC (.int 1))) fNil)))))))
abbrev N_gap_range : Fn := defF 5 (S_gap_range)
def S_case_with : En → SO := (sSeq (sExp (callD 4 N_need_two (aCons (fVar 0) (aCons (fVar 1) (aCons (fVar 2) (aCons (fVar 3) aNil)))))) (sSeq (sExp (callD 1 N_need_number (aCons (fVar 4) aNil))) sBad))
abbrev N_case_with : Fn := defF 5 (S_case_with)
def S_alike : En → SO := (sSeq (sExp (callD 2 N_need_like (aCons (fVar 0) (aCons (fVar 1) aNil)))) sBad)
abbrev N_alike : Fn := defF 2 (S_alike)
def S_parting : En → SO := (sSeq (sExp (callD 2 N_need_like (aCons (fVar 0) (aCons (fVar 1) aNil)))) sBad)
abbrev N_parting : Fn := defF 2 (S_parting)
def S_paper_for : En → SO := (sSeq (sExp (callD 3 N_need_all (aCons (fVar 0) (aCons (fVar 1) (aCons (fVar 2) aNil))))) sBad)
abbrev N_paper_for : Fn := defF 3 (S_paper_for)
def S_is_paper : En → SO := (sSeq (sExp (callD 3 N_need_all (aCons (fVar 0) (aCons (fVar 1) (aCons (fVar 2) aNil))))) sBad)
abbrev N_is_paper : Fn := defF 4 (S_is_paper)
def S_least_lots : En → SO := (sSeq (sExp (callD 3 N_need_all (aCons (fVar 0) (aCons (fVar 1) (aCons (fVar 2) aNil))))) (sSeq (sAsg (fA gLst fNil) (gN 3)) (sSeq sBad sBad)))
abbrev N_least_lots : Fn := defF 6 (S_least_lots)
def S_law_course_calls (sc : Option (Addr × List Int)) (ad : Nat → Addr) : En → SO := (sSeq (sOwn 1 (fCons (fLE nmS (callD 1 N_course_text (aCons (fVar 0) aNil))) fNil)) (sSeq (sForF 2 [(ad 0, (sApp 1 (callD 3 (N_law_by sc (ad 0) N_are_given) (aAny 2 (aCons (fVar 0) (aCons (fC .none) aNil)))))), (ad 1, (sApp 1 (callD 3 (N_law_by sc (ad 1) N_are_facts) (aAny 2 (aCons (fVar 0) (aCons (fC .none) aNil)))))), (ad 2, (sApp 1 (callD 3 (N_law_by sc (ad 2) N_case_for) (aAny 2 (aCons (fVar 0) (aCons (fC .none) aNil)))))), (ad 3, (sApp 1 (callD 3 (N_law_by sc (ad 3) N_needless_facts) (aAny 2 (aCons (fVar 0) (aCons (fC .none) aNil)))))), (ad 4, (sApp 1 (callD 3 (N_law_by sc (ad 4) N_quarrels) (aAny 2 (aCons (fVar 0) (aCons (fC .none) aNil)))))), (ad 5, (sApp 1 (callD 3 (N_law_by sc (ad 5) N_alike) (aAny 2 (aCons (fVar 0) (aCons (fC .none) aNil)))))), (ad 6, (sApp 1 (callD 3 (N_law_by sc (ad 6) N_parting) (aAny 2 (aCons (fVar 0) (aCons (fC .none) aNil))))))]) (sSeq (sForF 2 [(ad 7, (sApp 1 (fLE nmS (fCallX 2 (ad 7) 3 N_numbers (aCons (fVar 0) (aCons (fC .none) (aCons (fC .none) aNil))))))), (ad 8, (sApp 1 (fLE nmS (fCallX 2 (ad 8) 3 N_is_case (aCons (fVar 0) (aCons (fC .none) (aCons (fC .none) aNil))))))), (ad 9, (sApp 1 (fLE nmS (fCallX 2 (ad 9) 3 N_follows (aCons (fVar 0) (aCons (fC .none) (aCons (fC .none) aNil))))))), (ad 10, (sApp 1 (fLE nmS (fCallX 2 (ad 10) 3 N_breaking (aCons (fVar 0) (aCons (fC .none) (aCons (fC .none) aNil))))))), (ad 11, (sApp 1 (fLE nmS (fCallX 2 (ad 11) 3 N_paper_for (aCons (fVar 0) (aCons (fC .none) (aCons (fC .none) aNil))))))), (ad 12, (sApp 1 (fLE nmS (fCallX 2 (ad 12) 3 N_least_lots (aCons (fVar 0) (aCons (fC .none) (aCons (fC .none) aNil)))))))]) (sSeq (sForF 2 [(ad 13, (sApp 1 (fLE nmS (fCallX 2 (ad 13) 4 N_is_paper (aCons (fVar 0) (aCons (fC .none) (aCons (fC .none) (aCons (fC .none) aNil)))))))), (ad 14, (sApp 1 (fLE nmS (fCallX 2 (ad 14) 4 N_stretches (aCons (fVar 0) (aCons (fC .none) (aCons (fC .none) (aCons (fC .none) aNil)))))))), (ad 15, (sApp 1 (fLE nmS (fCallX 2 (ad 15) 4 N_gap_range (aCons (fVar 0) (aCons (fC .none) (aCons (fC .none) (aCons (fC .none) aNil))))))))]) (sRet (f2 addD (fVar 1) (fA gLst (fCons (fLE nmS (callD 5 N_case_with (aCons (fVar 0) (aCons (fC .none) (aCons (fC .none) (aCons (fC .none) (aCons (fC .none) aNil))))))) fNil))))))))
abbrev N_law_course_calls (sc : Option (Addr × List Int)) (ad : Nat → Addr) : Fn := defF 3 (S_law_course_calls sc ad)
def S_law_facts_calls (sc : Option (Addr × List Int)) (ad : Nat → Addr) : En → SO := (sSeq (sOwn 2 fNil) (sSeq (sForF 3 [(ad 2, (sApp 2 (callD 3 (N_law_by sc (ad 2) N_case_for) (aAny 3 (aCons (fVar 0) (aCons (fVar 1) aNil)))))), (ad 3, (sApp 2 (callD 3 (N_law_by sc (ad 3) N_needless_facts) (aAny 3 (aCons (fVar 0) (aCons (fVar 1) aNil)))))), (ad 4, (sApp 2 (callD 3 (N_law_by sc (ad 4) N_quarrels) (aAny 3 (aCons (fVar 0) (aCons (fVar 1) aNil))))))]) (sSeq (sForF 3 [(ad 8, (sApp 2 (fLE nmS (fCallX 3 (ad 8) 3 N_is_case (aCons (fVar 0) (aCons (fVar 1) (aCons (fC .none) aNil))))))), (ad 9, (sApp 2 (fLE nmS (fCallX 3 (ad 9) 3 N_follows (aCons (fVar 0) (aCons (fVar 1) (aCons (fC .none) aNil))))))), (ad 10, (sApp 2 (fLE nmS (fCallX 3 (ad 10) 3 N_breaking (aCons (fVar 0) (aCons (fVar 1) (aCons (fC .none) aNil))))))), (ad 11, (sApp 2 (fLE nmS (fCallX 3 (ad 11) 3 N_paper_for (aCons (fVar 0) (aCons (fVar 1) (aCons (fC .none) aNil))))))), (ad 12, (sApp 2 (fLE nmS (fCallX 3 (ad 12) 3 N_least_lots (aCons (fVar 0) (aCons (fVar 1) (aCons (fC .none) aNil)))))))]) (sSeq (sForF 3 [(ad 13, (sApp 2 (fLE nmS (fCallX 3 (ad 13) 4 N_is_paper (aCons (fVar 0) (aCons (fVar 1) (aCons (fC .none) (aCons (fC .none) aNil)))))))), (ad 14, (sApp 2 (fLE nmS (fCallX 3 (ad 14) 4 N_stretches (aCons (fVar 0) (aCons (fVar 1) (aCons (fC .none) (aCons (fC .none) aNil)))))))), (ad 15, (sApp 2 (fLE nmS (fCallX 3 (ad 15) 4 N_gap_range (aCons (fVar 0) (aCons (fVar 1) (aCons (fC .none) (aCons (fC .none) aNil))))))))]) (sRet (f2 addD (fVar 2) (fA gLst (fCons (fLE nmS (callD 5 N_case_with (aCons (fVar 0) (aCons (fVar 1) (aCons (fC .none) (aCons (fC .none) (aCons (fC .none) aNil))))))) fNil))))))))
abbrev N_law_facts_calls (sc : Option (Addr × List Int)) (ad : Nat → Addr) : Fn := defF 4 (S_law_facts_calls sc ad)
def S_law (sc : Option (Addr × List Int)) (ad : Nat → Addr) : En → SO := (sSeq (sFor (fRange1 (fCons (fA maxD (fCons (fC (.int 5)) (fCons (fA minD (fCons (fC (.int 12)) (fCons (fLenS 0 sc) fNil))) fNil))) fNil)) (gN 1) (sSeq (sVat 2 2 (N_law_vat sc) (aAny 0 (aCons (fVar 1) aNil))) (sSeq (sAsg (fA gTup (fCons (callV 2 2 N_law_course (aCons (fC (.int 5)) aNil)) (fCons (fA gTup (fCons (fA gTup (fCons (fC (.int 0)) (fCons (fC (.int 1)) (fCons (fC (.int 0)) fNil)))) fNil)) fNil))) (gT 2 (gsCons (gN 3) (gsCons (gN 4) gsNil)))) (sSeq (sAsg (fA gLst (fCons (fC .none) (fCons (fA listD (fCons (fVar 3) fNil)) (fCons (f2 addD (fSl (fVar 3) (fPart (fC (.int 1))) fNo) (fA gTup (fCons (fA gTup (fCons (fC (.str "put")) (fCons (fC (.int 8)) fNil))) fNil))) (fCons (fA gTup (fCons (fVar 3) fNil)) (fCons (fA gTup fNil) (fCons (fC (.int 7)) fNil))))))) (gN 5)) (sSeq (sFor (fSeq (f2 addD (fVar 5) (fA gLst (fCons (callV 2 2 (N_law_bent 24) (aCons (fVar 3) aNil)) fNil)))) (gN 6) (sSeq (sOwn 7 fNil) (sSeq (sIf (gNot (fB (callD 1 N_law_is_course (aCons (fVar 6) aNil)))) (sAsg (callD 1 (N_law_course_calls sc ad) (aCons (fVar 6) aNil)) (gN 7)) sNx) (sIf (fB (f2 neD (fLc (fSeq (fVar 7)) (gN 10) (fB (f2 neD (fVar 10) (fC (.str "course value")))) (fVar 10) [10]) (fA gLst fNil))) (sRet (fC (.bool false))) sNx)))) (sSeq (sFor (fSeq (fA gLst (fCons (fC .none) (fCons (fA listD (fCons (fVar 4) fNil)) (fCons (f2 mulD (fVar 4) (fC (.int 6))) (fCons (f2 ixD (fVar 4) (fC (.int 0))) (fCons (fA gTup (fCons (fA gTup (fCons (fC (.int 0)) (fCons (fC (.int 0)) (fCons (fC (.int 0)) fNil)))) fNil)) fNil))))))) (gN 6) (sIf (fB (f2 neD (fLc (fSeq (callD 2 (N_law_facts_calls sc ad) (aCons (fVar 3) (aCons (fVar 6) aNil)))) (gN 10) (fB (f2 neD (fVar 10) (fC (.str "facts value")))) (fVar 10) [10]) (fA gLst fNil))) (sRet (fC (.bool false))) sNx)) (sSeq (sForF 8 [(ad 9, (sIf (fB (f2 neD (fLE nmS (fCallX 8 (ad 9) 3 N_follows (aCons (fVar 3) (aCons (fVar 4) (aCons (fVar 4) aNil))))) (fC (.str "facts value")))) (sRet (fC (.bool false))) sNx)), (ad 10, (sIf (fB (f2 neD (fLE nmS (fCallX 8 (ad 10) 3 N_breaking (aCons (fVar 3) (aCons (fVar 4) (aCons (fVar 4) aNil))))) (fC (.str "facts value")))) (sRet (fC (.bool false))) sNx)), (ad 11, (sIf (fB (f2 neD (fLE nmS (fCallX 8 (ad 11) 3 N_paper_for (aCons (fVar 3) (aCons (fVar 4) (aCons (fVar 4) aNil))))) (fC (.str "facts value")))) (sRet (fC (.bool false))) sNx)), (ad 12, (sIf (fB (f2 neD (fLE nmS (fCallX 8 (ad 12) 3 N_least_lots (aCons (fVar 3) (aCons (fVar 4) (aCons (fVar 4) aNil))))) (fC (.str "facts value")))) (sRet (fC (.bool false))) sNx))]) (sSeq (sOwn 7 (fCons (fLE nmS (callD 5 N_case_with (aCons (fVar 3) (aCons (fVar 4) (aCons (fC .none) (aCons (fC .none) (aCons (fC .none) aNil))))))) fNil)) (sSeq (sApp 7 (fLE nmS (callD 5 N_case_with (aCons (fVar 3) (aCons (fVar 4) (aCons (fC (.int 0)) (aCons (fC (.int 0)) (aCons (fC .none) aNil)))))))) (sSeq (sApp 7 (fLE nmS (callD 4 N_gap_range (aCons (fVar 3) (aCons (fVar 4) (aCons (fC (.int 0)) (aCons (fA lenD (fCons (fVar 3) fNil)) aNil))))))) (sIf (fB (f2 neD (fVar 7) (f2 mulD (fA gLst (fCons (fC (.str "index value")) fNil)) (fC (.int 3))))) (sRet (fC (.bool false))) sNx))))))))))) (sSeq (sAsg (fA gTup (fCons (fA gTup (fCons (fC (.str "any")) fNil)) (fCons (fA gTup (fCons (fC (.str "any")) fNil)) fNil))) (gN 9)) (sRet (fAnd (f2 eqD (callD 3 (N_law_by sc (ad 5) N_alike) (aVal (V.ref (ad 5)) (aCons (fVar 9) (aCons (fSl (fVar 9) fNo (fPart (fC (.int 1)))) aNil)))) (fC (.str "unlike value"))) (f2 eqD (callD 3 (N_law_by sc (ad 6) N_parting) (aVal (V.ref (ad 6)) (aCons (fSl (fVar 9) fNo (fPart (fC (.int 1)))) (aCons (fVar 9) aNil)))) (fC (.str "unlike value")))))))
abbrev N_law (sc : Option (Addr × List Int)) (ad : Nat → Addr) : Fn := defF 11 (S_law sc ad)
end DL
namespace DL
open PySem L2
structure Tx (K : PySem.W.Frag) (mg : Str → Option Value) where
  f_is_whole : Addr
  d_is_whole : FuncData
  F_is_whole : Fun K "is_whole" "is_whole" s_is_whole f_is_whole d_is_whole
  g_is_whole : mg "is_whole" = some (.ref f_is_whole)
  b_is_whole : Binds K d_is_whole ["value", "low", "high"] []
  f_is_rising : Addr
  d_is_rising : FuncData
  F_is_rising : Fun K "is_rising" "is_rising" s_is_rising f_is_rising d_is_rising
  g_is_rising : mg "is_rising" = some (.ref f_is_rising)
  b_is_rising : Binds K d_is_rising ["line"] []
  f_level_at : Addr
  d_level_at : FuncData
  F_level_at : Fun K "level_at" "level_at" s_level_at f_level_at d_level_at
  g_level_at : mg "level_at" = some (.ref f_level_at)
  b_level_at : Binds K d_level_at ["stair", "number"] []
  f_steps_with : Addr
  d_steps_with : FuncData
  F_steps_with : Fun K "steps_with" "steps_with" s_steps_with f_steps_with d_steps_with
  g_steps_with : mg "steps_with" = some (.ref f_steps_with)
  b_steps_with : Binds K d_steps_with ["course", "words"] []
  f_are_so : Addr
  d_are_so : FuncData
  F_are_so : Fun K "are_so" "are_so" s_are_so f_are_so d_are_so
  g_are_so : mg "are_so" = some (.ref f_are_so)
  b_are_so : Binds K d_are_so ["told", "facts"] []
  f_step_line : Addr
  d_step_line : FuncData
  F_step_line : Fun K "step_line" "step_line" s_step_line f_step_line d_step_line
  g_step_line : mg "step_line" = some (.ref f_step_line)
  b_step_line : Binds K d_step_line ["step"] []
  f_law_vat : Addr
  d_law_vat : FuncData
  F_law_vat : Fun K "_law_vat" "_law_vat" s_law_vat f_law_vat d_law_vat
  g_law_vat : mg "_law_vat" = some (.ref f_law_vat)
  b_law_vat : Binds K d_law_vat ["script", "k"] []
  f_law_under : Addr
  d_law_under : FuncData
  F_law_under : Fun K "_law_under" "_law_under" s_law_under f_law_under d_law_under
  g_law_under : mg "_law_under" = some (.ref f_law_under)
  b_law_under : Binds K d_law_under ["vat", "many"] []
  f_law_is_whole : Addr
  d_law_is_whole : FuncData
  F_law_is_whole : Fun K "_law_is_whole" "_law_is_whole" s_law_is_whole f_law_is_whole d_law_is_whole
  g_law_is_whole : mg "_law_is_whole" = some (.ref f_law_is_whole)
  b_law_is_whole : Binds K d_law_is_whole ["value", "low", "high"] []
  f_law_names : Addr
  d_law_names : FuncData
  F_law_names : Fun K "_law_names" "_law_names" s_law_names f_law_names d_law_names
  g_law_names : mg "_law_names" = some (.ref f_law_names)
  b_law_names : Binds K d_law_names ["e"] []
  f_is_pair : Addr
  d_is_pair : FuncData
  F_is_pair : Fun K "is_pair" "is_pair" s_is_pair f_is_pair d_is_pair
  g_is_pair : mg "is_pair" = some (.ref f_is_pair)
  b_is_pair : Binds K d_is_pair ["value", "most"] []
  f_need_number : Addr
  d_need_number : FuncData
  F_need_number : Fun K "need_number" "need_number" s_need_number f_need_number d_need_number
  g_need_number : mg "need_number" = some (.ref f_need_number)
  b_need_number : Binds K d_need_number ["number"] []
  f_is_step : Addr
  d_is_step : FuncData
  F_is_step : Fun K "is_step" "is_step" s_is_step f_is_step d_is_step
  g_is_step : mg "is_step" = some (.ref f_is_step)
  b_is_step : Binds K d_is_step ["value", "ahead"] []
  f_have_given : Addr
  d_have_given : FuncData
  F_have_given : Fun K "have_given" "have_given" s_have_given f_have_given d_have_given
  g_have_given : mg "have_given" = some (.ref f_have_given)
  b_have_given : Binds K d_have_given ["course", "value"] []
  f_need_indices : Addr
  d_need_indices : FuncData
  F_need_indices : Fun K "need_indices" "need_indices" s_need_indices f_need_indices d_need_indices
  g_need_indices : mg "need_indices" = some (.ref f_need_indices)
  b_need_indices : Binds K d_need_indices ["course", "one", "other"] []
  f_number_of : Addr
  d_number_of : FuncData
  F_number_of : Fun K "number_of" "number_of" s_number_of f_number_of d_number_of
  g_number_of : mg "number_of" = some (.ref f_number_of)
  b_number_of : Binds K d_number_of ["step", "stair", "ahead"] []
  f_is_fact : Addr
  d_is_fact : FuncData
  F_is_fact : Fun K "is_fact" "is_fact" s_is_fact f_is_fact d_is_fact
  g_is_fact : mg "is_fact" = some (.ref f_is_fact)
  b_is_fact : Binds K d_is_fact ["course", "value"] []
  f_text_of : Addr
  d_text_of : FuncData
  F_text_of : Fun K "text_of" "text_of" s_text_of f_text_of d_text_of
  g_text_of : mg "text_of" = some (.ref f_text_of)
  b_text_of : Binds K d_text_of ["course"] []
  f_law_some : Addr
  d_law_some : FuncData
  F_law_some : Fun K "_law_some" "_law_some" s_law_some f_law_some d_law_some
  g_law_some : mg "_law_some" = some (.ref f_law_some)
  b_law_some : Binds K d_law_some ["vat", "things"] []
  f_law_is_step : Addr
  d_law_is_step : FuncData
  F_law_is_step : Fun K "_law_is_step" "_law_is_step" s_law_is_step f_law_is_step d_law_is_step
  g_law_is_step : mg "_law_is_step" = some (.ref f_law_is_step)
  b_law_is_step : Binds K d_law_is_step ["value", "ahead"] []
  f_law_error : Addr
  d_law_error : FuncData
  F_law_error : Fun K "_law_error" "_law_error" s_law_error f_law_error d_law_error
  g_law_error : mg "_law_error" = some (.ref f_law_error)
  b_law_error : Binds K d_law_error ["call"] []
  f_has_stair : Addr
  d_has_stair : FuncData
  F_has_stair : Fun K "has_stair" "has_stair" s_has_stair f_has_stair d_has_stair
  g_has_stair : mg "has_stair" = some (.ref f_has_stair)
  b_has_stair : Binds K d_has_stair ["value"] []
  f_has_course : Addr
  d_has_course : FuncData
  F_has_course : Fun K "has_course" "has_course" s_has_course f_has_course d_has_course
  g_has_course : mg "has_course" = some (.ref f_has_course)
  b_has_course : Binds K d_has_course ["value"] []
  f_need_given : Addr
  d_need_given : FuncData
  F_need_given : Fun K "need_given" "need_given" s_need_given f_need_given d_need_given
  g_need_given : mg "need_given" = some (.ref f_need_given)
  b_need_given : Binds K d_need_given ["course", "given"] []
  f_all_numbers : Addr
  d_all_numbers : FuncData
  F_all_numbers : Fun K "all_numbers" "all_numbers" s_all_numbers f_all_numbers d_all_numbers
  g_all_numbers : mg "all_numbers" = some (.ref f_all_numbers)
  b_all_numbers : Binds K d_all_numbers ["course", "stair", "given"] []
  f_has_facts : Addr
  d_has_facts : FuncData
  F_has_facts : Fun K "has_facts" "has_facts" s_has_facts f_has_facts d_has_facts
  g_has_facts : mg "has_facts" = some (.ref f_has_facts)
  b_has_facts : Binds K d_has_facts ["course", "value"] []
  f_need_fact : Addr
  d_need_fact : FuncData
  F_need_fact : Fun K "need_fact" "need_fact" s_need_fact f_need_fact d_need_fact
  g_need_fact : mg "need_fact" = some (.ref f_need_fact)
  b_need_fact : Binds K d_need_fact ["course", "fact"] []
  f_law_is_course : Addr
  d_law_is_course : FuncData
  F_law_is_course : Fun K "_law_is_course" "_law_is_course" s_law_is_course f_law_is_course d_law_is_course
  g_law_is_course : mg "_law_is_course" = some (.ref f_law_is_course)
  b_law_is_course : Binds K d_law_is_course ["value"] []
  f_law_odd : Addr
  d_law_odd : FuncData
  F_law_odd : Fun K "_law_odd" "_law_odd" s_law_odd f_law_odd d_law_odd
  g_law_odd : mg "_law_odd" = some (.ref f_law_odd)
  b_law_odd : Binds K d_law_odd ["vat", "depth"] []
  f_law_by : Addr
  d_law_by : FuncData
  F_law_by : Fun K "_law_by" "_law_by" s_law_by f_law_by d_law_by
  g_law_by : mg "_law_by" = some (.ref f_law_by)
  b_law_by : Binds K d_law_by ["call", "one", "other"] []
  c_law_by : Addr
  p_law_by : Addr
  h_law_by : d_law_by.code = .ref c_law_by
  f_need_stair : Addr
  d_need_stair : FuncData
  F_need_stair : Fun K "need_stair" "need_stair" s_need_stair f_need_stair d_need_stair
  g_need_stair : mg "need_stair" = some (.ref f_need_stair)
  b_need_stair : Binds K d_need_stair ["stair"] []
  f_need_course : Addr
  d_need_course : FuncData
  F_need_course : Fun K "need_course" "need_course" s_need_course f_need_course d_need_course
  g_need_course : mg "need_course" = some (.ref f_need_course)
  b_need_course : Binds K d_need_course ["course"] []
  f_need_facts : Addr
  d_need_facts : FuncData
  F_need_facts : Fun K "need_facts" "need_facts" s_need_facts f_need_facts d_need_facts
  g_need_facts : mg "need_facts" = some (.ref f_need_facts)
  b_need_facts : Binds K d_need_facts ["course", "facts"] []
  f_law_course : Addr
  d_law_course : FuncData
  F_law_course : Fun K "_law_course" "_law_course" s_law_course f_law_course d_law_course
  g_law_course : mg "_law_course" = some (.ref f_law_course)
  b_law_course : Binds K d_law_course ["vat", "most"] []
  f_law_bent : Addr
  d_law_bent : FuncData
  F_law_bent : Fun K "_law_bent" "_law_bent" s_law_bent f_law_bent d_law_bent
  g_law_bent : mg "_law_bent" = some (.ref f_law_bent)
  b_law_bent : Binds K d_law_bent ["vat", "value"] []
  f_are_given : Addr
  d_are_given : FuncData
  F_are_given : Fun K "are_given" "are_given" s_are_given f_are_given d_are_given
  g_are_given : mg "are_given" = some (.ref f_are_given)
  b_are_given : Binds K d_are_given ["course", "value"] []
  f_numbers : Addr
  d_numbers : FuncData
  F_numbers : Fun K "numbers" "numbers" s_numbers f_numbers d_numbers
  g_numbers : mg "numbers" = some (.ref f_numbers)
  b_numbers : Binds K d_numbers ["course", "stair", "given"] []
  f_are_facts : Addr
  d_are_facts : FuncData
  F_are_facts : Fun K "are_facts" "are_facts" s_are_facts f_are_facts d_are_facts
  g_are_facts : mg "are_facts" = some (.ref f_are_facts)
  b_are_facts : Binds K d_are_facts ["course", "value"] []
  f_is_case : Addr
  d_is_case : FuncData
  F_is_case : Fun K "is_case" "is_case" s_is_case f_is_case d_is_case
  g_is_case : mg "is_case" = some (.ref f_is_case)
  b_is_case : Binds K d_is_case ["course", "facts", "value"] []
  f_case_for : Addr
  d_case_for : FuncData
  F_case_for : Fun K "case_for" "case_for" s_case_for f_case_for d_case_for
  g_case_for : mg "case_for" = some (.ref f_case_for)
  b_case_for : Binds K d_case_for ["course", "facts"] []
  f_need_all : Addr
  d_need_all : FuncData
  F_need_all : Fun K "need_all" "need_all" s_need_all f_need_all d_need_all
  g_need_all : mg "need_all" = some (.ref f_need_all)
  b_need_all : Binds K d_need_all ["course", "facts", "claim"] []
  f_need_two : Addr
  d_need_two : FuncData
  F_need_two : Fun K "need_two" "need_two" s_need_two f_need_two d_need_two
  g_need_two : mg "need_two" = some (.ref f_need_two)
  b_need_two : Binds K d_need_two ["course", "facts", "one", "other"] []
  f_need_like : Addr
  d_need_like : FuncData
  F_need_like : Fun K "need_like" "need_like" s_need_like f_need_like d_need_like
  g_need_like : mg "need_like" = some (.ref f_need_like)
  b_need_like : Binds K d_need_like ["one_course", "other_course"] []
  f_needless_facts : Addr
  d_needless_facts : FuncData
  F_needless_facts : Fun K "needless_facts" "needless_facts" s_needless_facts f_needless_facts d_needless_facts
  g_needless_facts : mg "needless_facts" = some (.ref f_needless_facts)
  b_needless_facts : Binds K d_needless_facts ["course", "facts"] []
  f_quarrels : Addr
  d_quarrels : FuncData
  F_quarrels : Fun K "quarrels" "quarrels" s_quarrels f_quarrels d_quarrels
  g_quarrels : mg "quarrels" = some (.ref f_quarrels)
  b_quarrels : Binds K d_quarrels ["course", "facts"] []
  f_course_text : Addr
  d_course_text : FuncData
  F_course_text : Fun K "course_text" "course_text" s_course_text f_course_text d_course_text
  g_course_text : mg "course_text" = some (.ref f_course_text)
  b_course_text : Binds K d_course_text ["course"] []
  f_follows : Addr
  d_follows : FuncData
  F_follows : Fun K "follows" "follows" s_follows f_follows d_follows
  g_follows : mg "follows" = some (.ref f_follows)
  b_follows : Binds K d_follows ["course", "facts", "claim"] []
  f_breaking : Addr
  d_breaking : FuncData
  F_breaking : Fun K "breaking" "breaking" s_breaking f_breaking d_breaking
  g_breaking : mg "breaking" = some (.ref f_breaking)
  b_breaking : Binds K d_breaking ["course", "facts", "claim"] []
  f_stretches : Addr
  d_stretches : FuncData
  F_stretches : Fun K "stretches" "stretches" s_stretches f_stretches d_stretches
  g_stretches : mg "stretches" = some (.ref f_stretches)
  b_stretches : Binds K d_stretches ["course", "facts", "one", "other"] []
  f_gap_range : Addr
  d_gap_range : FuncData
  F_gap_range : Fun K "gap_range" "gap_range" s_gap_range f_gap_range d_gap_range
  g_gap_range : mg "gap_range" = some (.ref f_gap_range)
  b_gap_range : Binds K d_gap_range ["course", "facts", "one", "other"] []
  f_case_with : Addr
  d_case_with : FuncData
  F_case_with : Fun K "case_with" "case_with" s_case_with f_case_with d_case_with
  g_case_with : mg "case_with" = some (.ref f_case_with)
  b_case_with : Binds K d_case_with ["course", "facts", "one", "other", "number"] []
  f_alike : Addr
  d_alike : FuncData
  F_alike : Fun K "alike" "alike" s_alike f_alike d_alike
  g_alike : mg "alike" = some (.ref f_alike)
  b_alike : Binds K d_alike ["one_course", "other_course"] []
  f_parting : Addr
  d_parting : FuncData
  F_parting : Fun K "parting" "parting" s_parting f_parting d_parting
  g_parting : mg "parting" = some (.ref f_parting)
  b_parting : Binds K d_parting ["one_course", "other_course"] []
  f_paper_for : Addr
  d_paper_for : FuncData
  F_paper_for : Fun K "paper_for" "paper_for" s_paper_for f_paper_for d_paper_for
  g_paper_for : mg "paper_for" = some (.ref f_paper_for)
  b_paper_for : Binds K d_paper_for ["course", "facts", "claim"] []
  f_is_paper : Addr
  d_is_paper : FuncData
  F_is_paper : Fun K "is_paper" "is_paper" s_is_paper f_is_paper d_is_paper
  g_is_paper : mg "is_paper" = some (.ref f_is_paper)
  b_is_paper : Binds K d_is_paper ["course", "facts", "claim", "value"] []
  f_least_lots : Addr
  d_least_lots : FuncData
  F_least_lots : Fun K "least_lots" "least_lots" s_least_lots f_least_lots d_least_lots
  g_least_lots : mg "least_lots" = some (.ref f_least_lots)
  b_least_lots : Binds K d_least_lots ["course", "facts", "claim"] []
  f_law_course_calls : Addr
  d_law_course_calls : FuncData
  F_law_course_calls : Fun K "_law_course_calls" "_law_course_calls" s_law_course_calls f_law_course_calls d_law_course_calls
  g_law_course_calls : mg "_law_course_calls" = some (.ref f_law_course_calls)
  b_law_course_calls : Binds K d_law_course_calls ["odd"] []
  c_law_course_calls : Addr
  p_law_course_calls : Addr
  h_law_course_calls : d_law_course_calls.code = .ref c_law_course_calls
  f_law_facts_calls : Addr
  d_law_facts_calls : FuncData
  F_law_facts_calls : Fun K "_law_facts_calls" "_law_facts_calls" s_law_facts_calls f_law_facts_calls d_law_facts_calls
  g_law_facts_calls : mg "_law_facts_calls" = some (.ref f_law_facts_calls)
  b_law_facts_calls : Binds K d_law_facts_calls ["course", "odd"] []
  c_law_facts_calls : Addr
  p_law_facts_calls : Addr
  h_law_facts_calls : d_law_facts_calls.code = .ref c_law_facts_calls
  f_law : Addr
  d_law : FuncData
  F_law : Fun K "law" "law" s_law f_law d_law
  g_law : mg "law" = some (.ref f_law)
  b_law : Binds K d_law ["script"] []
  c_law : Addr
  p_law : Addr
  h_law : d_law.code = .ref c_law
  n_ValueError : mg "ValueError" = none
  n_abs : mg "abs" = none
  n_bool : mg "bool" = none
  n_int : mg "int" = none
  n_isinstance : mg "isinstance" = none
  n_len : mg "len" = none
  n_list : mg "list" = none
  n_max : mg "max" = none
  n_min : mg "min" = none
  n_range : mg "range" = none
  n_str : mg "str" = none
  n_tuple : mg "tuple" = none
  n_zip : mg "zip" = none
  c_InvalidCourse : mg "InvalidCourse" = some (.ref (He.ga K "InvalidCourse"))
  x_InvalidCourse : PySem.W.excIn K (He.ga K "InvalidCourse") He.veBase "ValueError.__new__" = true
  k_InvalidCourse : PySem.W.keepIn K (.ref (He.ga K "InvalidCourse")) = true
  sb_InvalidCourse : PySem.W.subIn K (.ref (He.ga K "InvalidCourse")) (.type "BaseException") = some true
  ty_InvalidCourse : PySem.W.typeIn K (.ref (He.ga K "InvalidCourse")) = some (.type "type")
  c_InvalidFacts : mg "InvalidFacts" = some (.ref (He.ga K "InvalidFacts"))
  x_InvalidFacts : PySem.W.excIn K (He.ga K "InvalidFacts") He.veBase "ValueError.__new__" = true
  k_InvalidFacts : PySem.W.keepIn K (.ref (He.ga K "InvalidFacts")) = true
  sb_InvalidFacts : PySem.W.subIn K (.ref (He.ga K "InvalidFacts")) (.type "BaseException") = some true
  ty_InvalidFacts : PySem.W.typeIn K (.ref (He.ga K "InvalidFacts")) = some (.type "type")
  c_InvalidGiven : mg "InvalidGiven" = some (.ref (He.ga K "InvalidGiven"))
  x_InvalidGiven : PySem.W.excIn K (He.ga K "InvalidGiven") He.veBase "ValueError.__new__" = true
  k_InvalidGiven : PySem.W.keepIn K (.ref (He.ga K "InvalidGiven")) = true
  sb_InvalidGiven : PySem.W.subIn K (.ref (He.ga K "InvalidGiven")) (.type "BaseException") = some true
  ty_InvalidGiven : PySem.W.typeIn K (.ref (He.ga K "InvalidGiven")) = some (.type "type")
  c_InvalidIndex : mg "InvalidIndex" = some (.ref (He.ga K "InvalidIndex"))
  x_InvalidIndex : PySem.W.excIn K (He.ga K "InvalidIndex") He.veBase "ValueError.__new__" = true
  k_InvalidIndex : PySem.W.keepIn K (.ref (He.ga K "InvalidIndex")) = true
  sb_InvalidIndex : PySem.W.subIn K (.ref (He.ga K "InvalidIndex")) (.type "BaseException") = some true
  ty_InvalidIndex : PySem.W.typeIn K (.ref (He.ga K "InvalidIndex")) = some (.type "type")
  c_InvalidNumber : mg "InvalidNumber" = some (.ref (He.ga K "InvalidNumber"))
  x_InvalidNumber : PySem.W.excIn K (He.ga K "InvalidNumber") He.veBase "ValueError.__new__" = true
  k_InvalidNumber : PySem.W.keepIn K (.ref (He.ga K "InvalidNumber")) = true
  sb_InvalidNumber : PySem.W.subIn K (.ref (He.ga K "InvalidNumber")) (.type "BaseException") = some true
  ty_InvalidNumber : PySem.W.typeIn K (.ref (He.ga K "InvalidNumber")) = some (.type "type")
  c_InvalidStair : mg "InvalidStair" = some (.ref (He.ga K "InvalidStair"))
  x_InvalidStair : PySem.W.excIn K (He.ga K "InvalidStair") He.veBase "ValueError.__new__" = true
  k_InvalidStair : PySem.W.keepIn K (.ref (He.ga K "InvalidStair")) = true
  sb_InvalidStair : PySem.W.subIn K (.ref (He.ga K "InvalidStair")) (.type "BaseException") = some true
  ty_InvalidStair : PySem.W.typeIn K (.ref (He.ga K "InvalidStair")) = some (.type "type")
  c_NoCase : mg "NoCase" = some (.ref (He.ga K "NoCase"))
  x_NoCase : PySem.W.excIn K (He.ga K "NoCase") He.veBase "ValueError.__new__" = true
  k_NoCase : PySem.W.keepIn K (.ref (He.ga K "NoCase")) = true
  sb_NoCase : PySem.W.subIn K (.ref (He.ga K "NoCase")) (.type "BaseException") = some true
  ty_NoCase : PySem.W.typeIn K (.ref (He.ga K "NoCase")) = some (.type "type")
  c_Unlike : mg "Unlike" = some (.ref (He.ga K "Unlike"))
  x_Unlike : PySem.W.excIn K (He.ga K "Unlike") He.veBase "ValueError.__new__" = true
  k_Unlike : PySem.W.keepIn K (.ref (He.ga K "Unlike")) = true
  sb_Unlike : PySem.W.subIn K (.ref (He.ga K "Unlike")) (.type "BaseException") = some true
  ty_Unlike : PySem.W.typeIn K (.ref (He.ga K "Unlike")) = some (.type "type")
  v_HIGH : ∃ t, mg "HIGH" = some (.int 1000000000000 t)
  v_MOST_PUTS : ∃ t, mg "MOST_PUTS" = some (.int 4 t)
  v_MOST_STEPS : ∃ t, mg "MOST_STEPS" = some (.int 8 t)
  v_NUMBERS : ∃ t, mg "NUMBERS" = some (.int 1000000000 t)
  cd : ∀ c ∈ clsL, mg c = some (.ref (He.ga K c))
  kit : ∀ c ∈ errL, ∀ d ∈ clsL, PySem.W.kitOne K (.ref (He.ga K c)) (.ref (He.ga K d)) = some (c == d)
  cS : mg "StairError" = some (.ref (He.ga K "StairError"))
  kve : ∀ c ∈ errL, PySem.W.kitOne K (.ref (He.ga K c)) (.type "ValueError") = some true
  exC : ∀ c ∈ errL, ExcC K (He.ga K c)
  exS : ∀ c ∈ errL, PySem.W.exmOne K (.ref (He.ga K c)) (.ref (He.ga K "StairError")) = some true
  pn_law_by_law_course_calls : p_law_by ≠ p_law_course_calls
  pn_law_by_law_facts_calls : p_law_by ≠ p_law_facts_calls
  pn_law_by_law : p_law_by ≠ p_law
  pn_law_course_calls_law_facts_calls : p_law_course_calls ≠ p_law_facts_calls
  pn_law_course_calls_law : p_law_course_calls ≠ p_law
  pn_law_facts_calls_law : p_law_facts_calls ≠ p_law
def Tx.cs (T : Tx K mg) : List (Addr × Addr) := [(T.c_law_by, T.p_law_by), (T.c_law_course_calls, T.p_law_course_calls), (T.c_law_facts_calls, T.p_law_facts_calls), (T.c_law, T.p_law)]
def Tx.ad (T : Tx K mg) : Nat → Addr := fun i => [T.f_are_given, T.f_are_facts, T.f_case_for, T.f_needless_facts, T.f_quarrels, T.f_alike, T.f_parting, T.f_numbers, T.f_is_case, T.f_follows, T.f_breaking, T.f_paper_for, T.f_least_lots, T.f_is_paper, T.f_stretches, T.f_gap_range].getD i T.f_law
def lamQ (x : Str) : Str := (x ++ ".<locals>.") ++ "<lambda>"
def Tx.tabs (T : Tx K mg) : List (Addr × Str) := [(T.p_law_by, lamQ "_law_by"), (T.p_law_course_calls, lamQ "_law_course_calls"), (T.p_law_facts_calls, lamQ "_law_facts_calls"), (T.p_law, lamQ "law")]
section
variable {P : Program} {w : World} {K : PySem.W.Frag} {mg : Str → Option Value} {base : Heap}
theorem sc_is_whole : FnScope NM_is_whole ["value", "low", "high"] (defScope s_is_whole) := ⟨rfl, rfl, rfl, by decide +kernel, rfl, by decide +kernel, by decide +kernel⟩
theorem ok_is_whole (T : Tx K mg) : FnOk P w K mg base (L2N.CX P w) 1 T.f_is_whole T.d_is_whole ["value", "low", "high"] (spF kd0 mg 3 (N_is_whole)) := by
  refine fn_dl (N := NM_is_whole) T.F_is_whole sc_is_whole (fun cdv A outer s H E hr => ?_) (by decide)
  have sc0 := sc_is_whole
  have tk := takes_fn (P := P) (w := w) (K := K) (mg := mg) (base := base) (N := NM_is_whole) (qual := "is_whole") (scope := defScope s_is_whole) (f := T.f_is_whole) (cdv := cdv) (A := A) (outer := outer) (s := s) (H := H) (E := E)
  have hu := hr.units
  have hu5 := room5 hr
  exact (dss_one (ds_ret (de_and (de_isi (T := "int") rfl T.n_isinstance rfl T.n_int (by decide +kernel) (de_var 0 (pv 0))) (de_and (de_not (de_isi (T := "bool") rfl T.n_isinstance rfl T.n_bool (by decide +kernel) (de_var 0 (pv 0)))) (de_one (de_leLe (de_var 1 (pv 1)) (de_var 0 (pv 0)) (de_var 2 (pv 2))))))))
theorem sc_is_rising : FnScope NM_is_rising ["line"] (defScope s_is_rising) := ⟨rfl, rfl, rfl, by decide +kernel, rfl, by decide +kernel, by decide +kernel⟩
theorem ok_is_rising (T : Tx K mg) : FnOk P w K mg base (L2N.CX P w) 1 T.f_is_rising T.d_is_rising ["line"] (spF kd0 mg 1 (N_is_rising)) := by
  refine fn_dl (N := NM_is_rising) T.F_is_rising sc_is_rising (fun cdv A outer s H E hr => ?_) (by decide)
  have sc0 := sc_is_rising
  have tk := takes_fn (P := P) (w := w) (K := K) (mg := mg) (base := base) (N := NM_is_rising) (qual := "is_rising") (scope := defScope s_is_rising) (f := T.f_is_rising) (cdv := cdv) (A := A) (outer := outer) (s := s) (H := H) (E := E)
  have hu := hr.units
  have hu5 := room5 hr
  exact (dss_one (ds_ret (de_eq hu (de_lc (own := [("at", 1)]) rfl sc0.nd (di_range1 rfl T.n_range (da_cons (fun _ _ ha hr => pa_cons ha hr) (de_sub (de_blt call_len rd_len rfl T.n_len (by decide +kernel) (da_cons (fun _ _ ha hr => pa_cons ha hr) (de_var 0 (pv 0)) da_nil)) de_int) da_nil)) (blkOk_by (own := [("at", 1)]) (N := NM_is_rising) (sc := defScope s_is_rising) (by decide +kernel)) (fun _ _ _ _ _ => (dv_name 1 (pg_name (i := 1) sc0.nd rfl (.inl rfl)))) (fun _ _ _ _ _ => (dts_one (dt_ge (de_ix (de_var 0 (pv 0)) (de_var 1 (pv 1)) (fun _ _ => rfl)) (de_ix (de_var 0 (pv 0)) (de_add (de_var 1 (pv 1)) de_int) (fun _ _ => rfl))))) (fun _ _ _ _ _ => (de_var 1 (pv 1)))) (de_lst da_nil))))
theorem sc_level_at : FnScope NM_level_at ["stair", "number"] (defScope s_level_at) := ⟨rfl, rfl, rfl, by decide +kernel, rfl, by decide +kernel, by decide +kernel⟩
theorem ok_level_at (T : Tx K mg) : FnOk P w K mg base (L2N.CX P w) 1 T.f_level_at T.d_level_at ["stair", "number"] (spF kd0 mg 2 (N_level_at)) := by
  refine fn_dl (N := NM_level_at) T.F_level_at sc_level_at (fun cdv A outer s H E hr => ?_) (by decide)
  have sc0 := sc_level_at
  have tk := takes_fn (P := P) (w := w) (K := K) (mg := mg) (base := base) (N := NM_level_at) (qual := "level_at") (scope := defScope s_level_at) (f := T.f_level_at) (cdv := cdv) (A := A) (outer := outer) (s := s) (H := H) (E := E)
  have hu := hr.units
  have hu5 := room5 hr
  exact (dss_cons (ds_set 2 (fun h => ps_set (i := 2) sc0.nd rfl (.inl rfl) h) (de_ix (de_var 0 (pv 0)) de_int (fun _ _ => rfl))) (dss_cons (ds_for (passes_of rfl) rfl (di_seq (de_ix (de_var 0 (pv 0)) de_int (fun _ _ => rfl))) (dg_tup rfl (dgs_cons (dg_name 3 (pg_name (i := 3) sc0.nd rfl (.inl rfl))) (dgs_cons (dg_name 4 (pg_name (i := 4) sc0.nd rfl (.inl rfl))) dgs_nil))) (dss_one (ds_if (dt_le (de_var 3 (pv 3)) (de_var 1 (pv 1))) (dss_one (ds_set 2 (fun h => ps_set (i := 2) sc0.nd rfl (.inl rfl) h) (de_var 4 (pv 4)))) dss_nil))) (dss_one (ds_ret (de_var 2 (pv 2))))))
theorem sc_steps_with : FnScope NM_steps_with ["course", "words"] (defScope s_steps_with) := ⟨rfl, rfl, rfl, by decide +kernel, rfl, by decide +kernel, by decide +kernel⟩
theorem ok_steps_with (T : Tx K mg) : FnOk P w K mg base (L2N.CX P w) 1 T.f_steps_with T.d_steps_with ["course", "words"] (spF kd0 mg 2 (N_steps_with)) := by
  refine fn_dl (N := NM_steps_with) T.F_steps_with sc_steps_with (fun cdv A outer s H E hr => ?_) (by decide)
  have sc0 := sc_steps_with
  have tk := takes_fn (P := P) (w := w) (K := K) (mg := mg) (base := base) (N := NM_steps_with) (qual := "steps_with") (scope := defScope s_steps_with) (f := T.f_steps_with) (cdv := cdv) (A := A) (outer := outer) (s := s) (H := H) (E := E)
  have hu := hr.units
  have hu5 := room5 hr
  exact (dss_one (ds_ret (de_lc (own := [("at", 2)]) rfl sc0.nd (di_range1 rfl T.n_range (da_cons (fun _ _ ha hr => pa_cons ha hr) (de_blt call_len rd_len rfl T.n_len (by decide +kernel) (da_cons (fun _ _ ha hr => pa_cons ha hr) (de_var 0 (pv 0)) da_nil)) da_nil)) (blkOk_by (own := [("at", 2)]) (N := NM_steps_with) (sc := defScope s_steps_with) (by decide +kernel)) (fun _ _ _ _ _ => (dv_name 2 (pg_name (i := 2) sc0.nd rfl (.inl rfl)))) (fun _ _ _ _ _ => (dts_one (dt_in hu5 (de_ix (de_ix (de_var 0 (pv 0)) (de_var 2 (pv 2)) (fun _ _ => rfl)) de_int (fun _ _ => rfl)) (de_var 1 (pv 1)) (by with_unfolding_all rfl)))) (fun _ _ _ _ _ => (de_var 2 (pv 2))))))
theorem sc_are_so : FnScope NM_are_so ["told", "facts"] (defScope s_are_so) := ⟨rfl, rfl, rfl, by decide +kernel, rfl, by decide +kernel, by decide +kernel⟩
theorem ok_are_so (T : Tx K mg) : FnOk P w K mg base (L2N.CX P w) 1 T.f_are_so T.d_are_so ["told", "facts"] (spF kd0 mg 2 (N_are_so)) := by
  refine fn_dl (N := NM_are_so) T.F_are_so sc_are_so (fun cdv A outer s H E hr => ?_) (by decide)
  have sc0 := sc_are_so
  have tk := takes_fn (P := P) (w := w) (K := K) (mg := mg) (base := base) (N := NM_are_so) (qual := "are_so") (scope := defScope s_are_so) (f := T.f_are_so) (cdv := cdv) (A := A) (outer := outer) (s := s) (H := H) (E := E)
  have hu := hr.units
  have hu5 := room5 hr
  exact (dss_one (ds_ret (de_eq hu (de_lc (own := [("fact", 2)]) rfl sc0.nd (di_seq (de_var 1 (pv 1))) (blkOk_by (own := [("fact", 2)]) (N := NM_are_so) (sc := defScope s_are_so) (by decide +kernel)) (fun _ _ _ _ _ => (dv_name 2 (pg_name (i := 2) sc0.nd rfl (.inl rfl)))) (fun _ _ _ _ _ => (dts_one (dt_gt (de_ix (de_var 0 (pv 0)) (de_ix (de_var 2 (pv 2)) de_int (fun _ _ => rfl)) (fun _ _ => rfl)) (de_add (de_ix (de_var 0 (pv 0)) (de_ix (de_var 2 (pv 2)) de_int (fun _ _ => rfl)) (fun _ _ => rfl)) (de_ix (de_var 2 (pv 2)) de_int (fun _ _ => rfl)))))) (fun _ _ _ _ _ => (de_var 2 (pv 2)))) (de_lst da_nil))))
theorem sc_step_line : FnScope NM_step_line ["step"] (defScope s_step_line) := ⟨rfl, rfl, rfl, by decide +kernel, rfl, by decide +kernel, by decide +kernel⟩
theorem ok_step_line (T : Tx K mg) : FnOk P w K mg base (L2N.CX P w) 1 T.f_step_line T.d_step_line ["step"] (spF kd0 mg 1 (N_step_line)) := by
  refine fn_dl (N := NM_step_line) T.F_step_line sc_step_line (fun cdv A outer s H E hr => ?_) (by decide)
  have sc0 := sc_step_line
  have tk := takes_fn (P := P) (w := w) (K := K) (mg := mg) (base := base) (N := NM_step_line) (qual := "step_line") (scope := defScope s_step_line) (f := T.f_step_line) (cdv := cdv) (A := A) (outer := outer) (s := s) (H := H) (E := E)
  have hu := hr.units
  have hu5 := room5 hr
  exact (dss_one (ds_ret (de_join de_str (de_lc (own := [("part", 1)]) rfl sc0.nd (di_seq (de_var 0 (pv 0))) (blkOk_by (own := [("part", 1)]) (N := NM_step_line) (sc := defScope s_step_line) (by decide +kernel)) (fun _ _ _ _ _ => (dv_name 1 (pg_name (i := 1) sc0.nd rfl (.inl rfl)))) (fun _ _ _ _ _ => dts_nil) (fun _ _ _ _ _ => (de_bltT (CallR.or SkE.call_str_str call_str_int) rd_strT rfl T.n_str (by decide +kernel) (da_cons (fun _ _ ha hr => pa_cons ha hr) (de_var 1 (pv 1)) da_nil)))))))
theorem sc_law_vat : FnScope NM_law_vat ["script", "k"] (defScope s_law_vat) := ⟨rfl, rfl, rfl, by decide +kernel, rfl, by decide +kernel, by decide +kernel⟩
theorem ok_law_vat (T : Tx K mg) (TB : ∀ p ∈ T.cs, LamX.TabB base mg p.1 p.2) (sc : Option (Addr × List Int)) : FnOk P w K mg base (L2N.CX P w) 1 T.f_law_vat T.d_law_vat ["script", "k"] (spO (kdS K T.tabs sc) 2 (N_law_vat sc)) := by
  refine fn_dlO (N := NM_law_vat) T.F_law_vat sc_law_vat (fun cdv A outer s H E hr => ?_) (by decide)
  have sc0 := sc_law_vat
  have tk := takes_fn (P := P) (w := w) (K := K) (mg := mg) (base := base) (N := NM_law_vat) (qual := "_law_vat") (scope := defScope s_law_vat) (f := T.f_law_vat) (cdv := cdv) (A := A) (outer := outer) (s := s) (H := H) (E := E)
  have hu := hr.units
  have hu5 := room5 hr
  exact (dso_cons (W := fun cls d _ H => E cls d H) (ds_set 2 (fun h => ps_set (i := 2) sc0.nd rfl (.inl rfl) h) (de_add (de_mul de_int (de_var 1 (pv 1))) de_int)) (dso_cons (W := fun cls d _ H => E cls d H) (ds_if (dt_lt (de_var 1 (pv 1)) (de_lenS 0 rfl T.n_len (by decide +kernel) (pv 0))) (dss_one (ds_set 2 (fun h => ps_set (i := 2) sc0.nd rfl (.inl rfl) h) (de_blt call_abs rd_abs rfl T.n_abs (by decide +kernel) (da_cons (fun _ _ ha hr => pa_cons ha hr) (de_bltT call_int1 rd_int rfl T.n_int (by decide +kernel) (da_cons (fun _ _ ha hr => pa_cons ha hr) (de_ixS 0 (pv 0) (de_var 1 (pv 1)) (fun _ _ => rfl)) da_nil)) da_nil)))) dss_nil) (dso_ret (W := fun cls d _ H => E cls d H) (da_cons (fun _ _ ha hr => pa_cons ha hr) (de_ifExp (dt_ge (de_var 2 (pv 2)) (de_pow de_int de_int)) (de_var 2 (pv 2)) de_int) (da_cons (fun _ _ ha hr => pa_cons ha hr) (de_add (de_mod (de_bltT call_int1 rd_int rfl T.n_int (by decide +kernel) (da_cons (fun _ _ ha hr => pa_cons ha hr) (de_add (de_add (de_mul (de_var 2 (pv 2)) de_int) (de_mul de_int (de_var 1 (pv 1)))) de_int) da_nil)) de_int) de_int) da_nil)))))
theorem sc_law_under : FnScope NM_law_under ["vat", "many"] (defScope s_law_under) := ⟨rfl, rfl, rfl, by decide +kernel, rfl, by decide +kernel, by decide +kernel⟩
theorem ok_law_under (T : Tx K mg) : FnOk P w K mg base (L2N.CX P w) 1 T.f_law_under T.d_law_under ["vat", "many"] (spF kd0 mg 2 (N_law_under)) := by
  refine fn_dl (N := NM_law_under) T.F_law_under sc_law_under (fun cdv A outer s H E hr => ?_) (by decide)
  have sc0 := sc_law_under
  have tk := takes_fn (P := P) (w := w) (K := K) (mg := mg) (base := base) (N := NM_law_under) (qual := "_law_under") (scope := defScope s_law_under) (f := T.f_law_under) (cdv := cdv) (A := A) (outer := outer) (s := s) (H := H) (E := E)
  have hu := hr.units
  have hu5 := room5 hr
  exact (dss_cons (ds_if (dt_gt (de_ownIx 0 (pv 0) de_int (fun _ _ => rfl)) de_int) (dss_cons (ds_set 2 (fun h => ps_set (i := 2) sc0.nd rfl (.inl rfl) h) (de_mod (de_bltT call_int1 rd_int rfl T.n_int (by decide +kernel) (da_cons (fun _ _ ha hr => pa_cons ha hr) (de_ownIx 0 (pv 0) de_int (fun _ _ => rfl)) da_nil)) (de_var 1 (pv 1)))) (dss_cons (ds_setIx 0 (pv 0) (de_div (de_ownIx 0 (pv 0) de_int (fun _ _ => rfl)) (de_var 1 (pv 1))) de_int) (dss_one (ds_ret (de_var 2 (pv 2)))))) dss_nil) (dss_cons (ds_setIx 0 (pv 0) (de_mod (de_bltT call_int1 rd_int rfl T.n_int (by decide +kernel) (da_cons (fun _ _ ha hr => pa_cons ha hr) (de_add (de_mul (de_ownIx 0 (pv 0) de_int (fun _ _ => rfl)) de_int) de_int) da_nil)) de_int) de_int) (dss_cons (ds_set 3 (fun h => ps_set (i := 3) sc0.nd rfl (.inl rfl) h) (de_mod (de_bltT call_int1 rd_int rfl T.n_int (by decide +kernel) (da_cons (fun _ _ ha hr => pa_cons ha hr) (de_mul (de_ownIx 0 (pv 0) de_int (fun _ _ => rfl)) (de_add (de_div (de_ownIx 0 (pv 0) de_int (fun _ _ => rfl)) de_int) de_int)) da_nil)) de_int)) (dss_one (ds_ret (de_mod (de_bltT call_int1 rd_int rfl T.n_int (by decide +kernel) (da_cons (fun _ _ ha hr => pa_cons ha hr) (de_div (de_var 3 (pv 3)) de_int) da_nil)) (de_var 1 (pv 1))))))))
theorem sc_law_is_whole : FnScope NM_law_is_whole ["value", "low", "high"] (defScope s_law_is_whole) := ⟨rfl, rfl, rfl, by decide +kernel, rfl, by decide +kernel, by decide +kernel⟩
theorem ok_law_is_whole (T : Tx K mg) : FnOk P w K mg base (L2N.CX P w) 1 T.f_law_is_whole T.d_law_is_whole ["value", "low", "high"] (spF kd0 mg 3 (N_law_is_whole)) := by
  refine fn_dl (N := NM_law_is_whole) T.F_law_is_whole sc_law_is_whole (fun cdv A outer s H E hr => ?_) (by decide)
  have sc0 := sc_law_is_whole
  have tk := takes_fn (P := P) (w := w) (K := K) (mg := mg) (base := base) (N := NM_law_is_whole) (qual := "_law_is_whole") (scope := defScope s_law_is_whole) (f := T.f_law_is_whole) (cdv := cdv) (A := A) (outer := outer) (s := s) (H := H) (E := E)
  have hu := hr.units
  have hu5 := room5 hr
  exact (dss_one (ds_ret (de_and (de_isi (T := "int") rfl T.n_isinstance rfl T.n_int (by decide +kernel) (de_var 0 (pv 0))) (de_and (de_not (de_isi (T := "bool") rfl T.n_isinstance rfl T.n_bool (by decide +kernel) (de_var 0 (pv 0)))) (de_one (de_leLe (de_var 1 (pv 1)) (de_var 0 (pv 0)) (de_var 2 (pv 2))))))))
theorem sc_law_names : FnScope NM_law_names ["e"] (defScope s_law_names) := ⟨rfl, rfl, rfl, by decide +kernel, rfl, by decide +kernel, by decide +kernel⟩
theorem names_ok (T : Tx K mg) : NamesOk P w K mg base 1 T.f_law_names T.d_law_names nmS := by
  refine names_of (N := NM_law_names) (k := 0) T.F_law_names sc_law_names fun cdv A outer s H p c t C hot hr mc nc hz hf => ?_
  have hce := nmS_mem nc
  have eC : C = He.ga K c := by
    have z := T.cd c (List.mem_append_left [("InvalidText" : Str), "TooMany"] hce)
    rw [mc] at z
    injection z with z
    injection z
  subst eC
  have sc0 := sc_law_names
  have hh : L2H.HotC (L2H.cxH CXZ P w K mg base NM_law_names "_law_names" (defScope s_law_names) T.f_law_names cdv A outer s H EZ p) := ⟨p, ⟨hot.1, hot.2⟩, List.mem_cons_self⟩
  refine ⟨S_law_names p.1 c, ?_, ev_law_names p.1 nc⟩
  exact (dss_cons (ds_set 1 (fun h => ps_set (i := 1) sc0.nd rfl (.inl rfl) h) (de_lst (da_cons (fun _ _ ha hr => pa_cons ha hr) (de_isH (i := 0) (a := p.1) (oe := p.2) List.mem_cons_self (T.exC c hce) hz hf rfl T.n_isinstance (pv 0) (pe_glob (v := V.ref (He.ga K "InvalidStair")) rfl (T.cd "InvalidStair" (by decide)) rfl (by decide)) (fun u r => r) (T.kit c hce "InvalidStair" (by decide))) (da_cons (fun _ _ ha hr => pa_cons ha hr) (de_isH (i := 0) (a := p.1) (oe := p.2) List.mem_cons_self (T.exC c hce) hz hf rfl T.n_isinstance (pv 0) (pe_glob (v := V.ref (He.ga K "InvalidCourse")) rfl (T.cd "InvalidCourse" (by decide)) rfl (by decide)) (fun u r => r) (T.kit c hce "InvalidCourse" (by decide))) (da_cons (fun _ _ ha hr => pa_cons ha hr) (de_isH (i := 0) (a := p.1) (oe := p.2) List.mem_cons_self (T.exC c hce) hz hf rfl T.n_isinstance (pv 0) (pe_glob (v := V.ref (He.ga K "InvalidGiven")) rfl (T.cd "InvalidGiven" (by decide)) rfl (by decide)) (fun u r => r) (T.kit c hce "InvalidGiven" (by decide))) (da_cons (fun _ _ ha hr => pa_cons ha hr) (de_isH (i := 0) (a := p.1) (oe := p.2) List.mem_cons_self (T.exC c hce) hz hf rfl T.n_isinstance (pv 0) (pe_glob (v := V.ref (He.ga K "InvalidFacts")) rfl (T.cd "InvalidFacts" (by decide)) rfl (by decide)) (fun u r => r) (T.kit c hce "InvalidFacts" (by decide))) (da_cons (fun _ _ ha hr => pa_cons ha hr) (de_isH (i := 0) (a := p.1) (oe := p.2) List.mem_cons_self (T.exC c hce) hz hf rfl T.n_isinstance (pv 0) (pe_glob (v := V.ref (He.ga K "InvalidIndex")) rfl (T.cd "InvalidIndex" (by decide)) rfl (by decide)) (fun u r => r) (T.kit c hce "InvalidIndex" (by decide))) (da_cons (fun _ _ ha hr => pa_cons ha hr) (de_isH (i := 0) (a := p.1) (oe := p.2) List.mem_cons_self (T.exC c hce) hz hf rfl T.n_isinstance (pv 0) (pe_glob (v := V.ref (He.ga K "InvalidNumber")) rfl (T.cd "InvalidNumber" (by decide)) rfl (by decide)) (fun u r => r) (T.kit c hce "InvalidNumber" (by decide))) (da_cons (fun _ _ ha hr => pa_cons ha hr) (de_isH (i := 0) (a := p.1) (oe := p.2) List.mem_cons_self (T.exC c hce) hz hf rfl T.n_isinstance (pv 0) (pe_glob (v := V.ref (He.ga K "NoCase")) rfl (T.cd "NoCase" (by decide)) rfl (by decide)) (fun u r => r) (T.kit c hce "NoCase" (by decide))) (da_cons (fun _ _ ha hr => pa_cons ha hr) (de_isH (i := 0) (a := p.1) (oe := p.2) List.mem_cons_self (T.exC c hce) hz hf rfl T.n_isinstance (pv 0) (pe_glob (v := V.ref (He.ga K "Unlike")) rfl (T.cd "Unlike" (by decide)) rfl (by decide)) (fun u r => r) (T.kit c hce "Unlike" (by decide))) (da_cons (fun _ _ ha hr => pa_cons ha hr) (de_isH (i := 0) (a := p.1) (oe := p.2) List.mem_cons_self (T.exC c hce) hz hf rfl T.n_isinstance (pv 0) (pe_glob (v := V.ref (He.ga K "Quarrel")) rfl (T.cd "Quarrel" (by decide)) rfl (by decide)) (fun u r => r) (T.kit c hce "Quarrel" (by decide))) (da_cons (fun _ _ ha hr => pa_cons ha hr) (de_isH (i := 0) (a := p.1) (oe := p.2) List.mem_cons_self (T.exC c hce) hz hf rfl T.n_isinstance (pv 0) (pe_glob (v := V.ref (He.ga K "NothingToUndo")) rfl (T.cd "NothingToUndo" (by decide)) rfl (by decide)) (fun u r => r) (T.kit c hce "NothingToUndo" (by decide))) (da_cons (fun _ _ ha hr => pa_cons ha hr) (de_isH (i := 0) (a := p.1) (oe := p.2) List.mem_cons_self (T.exC c hce) hz hf rfl T.n_isinstance (pv 0) (pe_glob (v := V.ref (He.ga K "InvalidText")) rfl (T.cd "InvalidText" (by decide)) rfl (by decide)) (fun u r => r) (T.kit c hce "InvalidText" (by decide))) (da_cons (fun _ _ ha hr => pa_cons ha hr) (de_isH (i := 0) (a := p.1) (oe := p.2) List.mem_cons_self (T.exC c hce) hz hf rfl T.n_isinstance (pv 0) (pe_glob (v := V.ref (He.ga K "TooMany")) rfl (T.cd "TooMany" (by decide)) rfl (by decide)) (fun u r => r) (T.kit c hce "TooMany" (by decide))) (da_cons (fun _ _ ha hr => pa_cons ha hr) (de_isH (i := 0) (a := p.1) (oe := p.2) List.mem_cons_self (T.exC c hce) hz hf rfl T.n_isinstance (pv 0) (pe_bltn (v := V.ty "ValueError") rfl T.n_ValueError (by decide +kernel) rfl (by decide) (by decide)) (fun u r => r) (T.kve c hce)) da_nil))))))))))))))) (dss_cons (ds_set 2 (fun h => ps_set (i := 2) sc0.nd rfl (.inl rfl) h) de_str) (dss_one (ds_ret (de_join de_str (de_lcH (own := [("word", 3), ("good", 4)]) hh sc0.nd (di_zipH rfl T.n_zip (da_cons (fun _ _ ha hr => pa_cons ha hr) (de_split (de_var 2 (pv 2)) de_str) (da_cons (fun _ _ ha hr => pa_cons ha hr) (de_var 1 (pv 1)) da_nil))) (blkOk_by (own := [("word", 3), ("good", 4)]) (N := NM_law_names) (sc := defScope s_law_names) (by decide +kernel)) (fun _ _ _ _ _ => (dv_tupH hh (dvs_cons (dv_name 3 (pg_name (i := 3) sc0.nd rfl (.inl rfl))) (dvs_cons (dv_name 4 (pg_name (i := 4) sc0.nd rfl (.inl rfl))) dvs_nil)))) (fun _ _ _ _ _ => (dts_one (dt_val (de_var 4 (pv 4))))) (fun _ _ _ _ _ => (de_var 3 (pv 3)))))))))
theorem sc_is_pair : FnScope NM_is_pair ["value", "most"] (defScope s_is_pair) := ⟨rfl, rfl, rfl, by decide +kernel, rfl, by decide +kernel, by decide +kernel⟩
theorem ok_is_pair (T : Tx K mg) : FnOk P w K mg base (L2N.CX P w) 2 T.f_is_pair T.d_is_pair ["value", "most"] (spF kd0 mg 2 (N_is_pair)) := by
  refine fn_dl (N := NM_is_pair) T.F_is_pair sc_is_pair (fun cdv A outer s H E hr => ?_) (by decide)
  have sc0 := sc_is_pair
  have tk := takes_fn (P := P) (w := w) (K := K) (mg := mg) (base := base) (N := NM_is_pair) (qual := "is_pair") (scope := defScope s_is_pair) (f := T.f_is_pair) (cdv := cdv) (A := A) (outer := outer) (s := s) (H := H) (E := E)
  have hu := hr.units
  have hu5 := room5 hr
  exact (dss_cons (ds_if (DW.dt (dw_or (dt_not (dt_val (de_isi (T := "tuple") rfl T.n_isinstance rfl T.n_tuple (by decide +kernel) (de_var 0 (pv 0))))) (dw_or1 (dt_ne hu (de_blt call_len rd_len rfl T.n_len (by decide +kernel) (da_cons (fun _ _ ha hr => pa_cons ha hr) (de_var 0 (pv 0)) da_nil)) de_int)))) (dss_one (ds_ret de_bl)) dss_nil) (dss_one (ds_ret (de_and (de_call (ok_is_whole T) (.inl rfl) tk (hr.mono (by decide)) rfl T.g_is_whole T.F_is_whole.kp T.b_is_whole (as_cons (de_ix (de_var 0 (pv 0)) de_int (fun _ _ => rfl)) (as_cons (de_neg (de_var 1 (pv 1))) (as_cons (de_var 1 (pv 1)) as_nil)))) (de_one (de_call (ok_is_whole T) (.inl rfl) tk (hr.mono (by decide)) rfl T.g_is_whole T.F_is_whole.kp T.b_is_whole (as_cons (de_ix (de_var 0 (pv 0)) de_int (fun _ _ => rfl)) (as_cons (de_neg (de_var 1 (pv 1))) (as_cons (de_var 1 (pv 1)) as_nil)))))))))
theorem sc_need_number : FnScope NM_need_number ["number"] (defScope s_need_number) := ⟨rfl, rfl, rfl, by decide +kernel, rfl, by decide +kernel, by decide +kernel⟩
theorem ok_need_number (T : Tx K mg) : FnOk P w K mg base (L2N.CX P w) 2 T.f_need_number T.d_need_number ["number"] (spF kd0 mg 1 (N_need_number)) := by
  refine fn_dl (N := NM_need_number) T.F_need_number sc_need_number (fun cdv A outer s H E hr => ?_) (by decide)
  have sc0 := sc_need_number
  have tk := takes_fn (P := P) (w := w) (K := K) (mg := mg) (base := base) (N := NM_need_number) (qual := "need_number") (scope := defScope s_need_number) (f := T.f_need_number) (cdv := cdv) (A := A) (outer := outer) (s := s) (H := H) (E := E)
  have hu := hr.units
  have hu5 := room5 hr
  exact (dss_one (ds_if (dt_not (dt_val (de_call (ok_is_whole T) (.inl rfl) tk (hr.mono (by decide)) rfl T.g_is_whole T.F_is_whole.kp T.b_is_whole (as_cons (de_var 0 (pv 0)) (as_cons (de_neg (de_glob rfl T.v_NUMBERS)) (as_cons (de_glob rfl T.v_NUMBERS) as_nil)))))) (dss_one (ds_raise rfl tk PySem.F.excBase_ValueError T.x_InvalidNumber T.c_InvalidNumber T.k_InvalidNumber (raises_own T.sb_InvalidNumber T.ty_InvalidNumber) rfl)) dss_nil))
theorem sc_is_step : FnScope NM_is_step ["value", "ahead"] (defScope s_is_step) := ⟨rfl, rfl, rfl, by decide +kernel, rfl, by decide +kernel, by decide +kernel⟩
theorem ok_is_step (T : Tx K mg) : FnOk P w K mg base (L2N.CX P w) 2 T.f_is_step T.d_is_step ["value", "ahead"] (spF kd0 mg 2 (N_is_step)) := by
  refine fn_dl (N := NM_is_step) T.F_is_step sc_is_step (fun cdv A outer s H E hr => ?_) (by decide)
  have sc0 := sc_is_step
  have tk := takes_fn (P := P) (w := w) (K := K) (mg := mg) (base := base) (N := NM_is_step) (qual := "is_step") (scope := defScope s_is_step) (f := T.f_is_step) (cdv := cdv) (A := A) (outer := outer) (s := s) (H := H) (E := E)
  have hu := hr.units
  have hu5 := room5 hr
  exact (dss_cons (ds_if (DW.dt (dw_or (dt_not (dt_val (de_isi (T := "tuple") rfl T.n_isinstance rfl T.n_tuple (by decide +kernel) (de_var 0 (pv 0))))) (dw_or (dt_eq hu (de_var 0 (pv 0)) (de_tup da_nil)) (dw_or1 (dt_not (dt_val (de_isi (T := "str") rfl T.n_isinstance rfl T.n_str (by decide +kernel) (de_ix (de_var 0 (pv 0)) de_int (fun _ _ => rfl))))))))) (dss_one (ds_ret de_bl)) dss_nil) (dss_cons (ds_if (dt_eq hu (de_ix (de_var 0 (pv 0)) de_int (fun _ _ => rfl)) de_str) (dss_one (ds_ret (de_eq hu (de_blt call_len rd_len rfl T.n_len (by decide +kernel) (da_cons (fun _ _ ha hr => pa_cons ha hr) (de_var 0 (pv 0)) da_nil)) de_int))) dss_nil) (dss_cons (ds_if (dt_eq hu (de_ix (de_var 0 (pv 0)) de_int (fun _ _ => rfl)) de_str) (dss_one (ds_ret (de_and (de_eq hu (de_blt call_len rd_len rfl T.n_len (by decide +kernel) (da_cons (fun _ _ ha hr => pa_cons ha hr) (de_var 0 (pv 0)) da_nil)) de_int) (de_one (de_call (ok_is_whole T) (.inl rfl) tk (hr.mono (by decide)) rfl T.g_is_whole T.F_is_whole.kp T.b_is_whole (as_cons (de_ix (de_var 0 (pv 0)) de_int (fun _ _ => rfl)) (as_cons (de_neg de_int) (as_cons de_int as_nil)))))))) dss_nil) (dss_cons (ds_if (DW.dt (dw_or (dt_lt (de_blt call_len rd_len rfl T.n_len (by decide +kernel) (da_cons (fun _ _ ha hr => pa_cons ha hr) (de_var 0 (pv 0)) da_nil)) de_int) (dw_or1 (dt_not (dt_val (de_call (ok_is_whole T) (.inl rfl) tk (hr.mono (by decide)) rfl T.g_is_whole T.F_is_whole.kp T.b_is_whole (as_cons (de_ix (de_var 0 (pv 0)) de_int (fun _ _ => rfl)) (as_cons de_int (as_cons (de_sub (de_var 1 (pv 1)) de_int) as_nil))))))))) (dss_one (ds_ret de_bl)) dss_nil) (dss_cons (ds_if (dt_eq hu (de_ix (de_var 0 (pv 0)) de_int (fun _ _ => rfl)) de_str) (dss_one (ds_ret (de_eq hu (de_blt call_len rd_len rfl T.n_len (by decide +kernel) (da_cons (fun _ _ ha hr => pa_cons ha hr) (de_var 0 (pv 0)) da_nil)) de_int))) dss_nil) (dss_cons (ds_if (dt_ne hu (de_blt call_len rd_len rfl T.n_len (by decide +kernel) (da_cons (fun _ _ ha hr => pa_cons ha hr) (de_var 0 (pv 0)) da_nil)) de_int) (dss_one (ds_ret de_bl)) dss_nil) (dss_cons (ds_if (dt_eq hu (de_ix (de_var 0 (pv 0)) de_int (fun _ _ => rfl)) de_str) (dss_one (ds_ret (de_call (ok_is_whole T) (.inl rfl) tk (hr.mono (by decide)) rfl T.g_is_whole T.F_is_whole.kp T.b_is_whole (as_cons (de_ix (de_var 0 (pv 0)) de_int (fun _ _ => rfl)) (as_cons (de_neg de_int) (as_cons de_int as_nil)))))) dss_nil) (dss_cons (ds_if (DW.dt (dw_or (dt_notIn hu5 (de_ix (de_var 0 (pv 0)) de_int (fun _ _ => rfl)) (de_tup (da_cons (fun _ _ ha hr => pa_cons ha hr) de_str (da_cons (fun _ _ ha hr => pa_cons ha hr) de_str da_nil))) (by with_unfolding_all rfl)) (dw_or1 (dt_eq hu (de_ix (de_var 0 (pv 0)) de_int (fun _ _ => rfl)) (de_ix (de_var 0 (pv 0)) de_int (fun _ _ => rfl)))))) (dss_one (ds_ret de_bl)) dss_nil) (dss_one (ds_ret (de_call (ok_is_whole T) (.inl rfl) tk (hr.mono (by decide)) rfl T.g_is_whole T.F_is_whole.kp T.b_is_whole (as_cons (de_ix (de_var 0 (pv 0)) de_int (fun _ _ => rfl)) (as_cons de_int (as_cons (de_sub (de_var 1 (pv 1)) de_int) as_nil))))))))))))))
theorem sc_have_given : FnScope NM_have_given ["course", "value"] (defScope s_have_given) := ⟨rfl, rfl, rfl, by decide +kernel, rfl, by decide +kernel, by decide +kernel⟩
theorem ok_have_given (T : Tx K mg) : FnOk P w K mg base (L2N.CX P w) 2 T.f_have_given T.d_have_given ["course", "value"] (spF kd0 mg 2 (N_have_given)) := by
  refine fn_dl (N := NM_have_given) T.F_have_given sc_have_given (fun cdv A outer s H E hr => ?_) (by decide)
  have sc0 := sc_have_given
  have tk := takes_fn (P := P) (w := w) (K := K) (mg := mg) (base := base) (N := NM_have_given) (qual := "have_given") (scope := defScope s_have_given) (f := T.f_have_given) (cdv := cdv) (A := A) (outer := outer) (s := s) (H := H) (E := E)
  have hu := hr.units
  have hu5 := room5 hr
  exact (dss_cons (ds_if (DW.dt (dw_or (dt_not (dt_val (de_isi (T := "tuple") rfl T.n_isinstance rfl T.n_tuple (by decide +kernel) (de_var 1 (pv 1))))) (dw_or1 (dt_ne hu (de_blt call_len rd_len rfl T.n_len (by decide +kernel) (da_cons (fun _ _ ha hr => pa_cons ha hr) (de_var 1 (pv 1)) da_nil)) (de_blt call_len rd_len rfl T.n_len (by decide +kernel) (da_cons (fun _ _ ha hr => pa_cons ha hr) (de_call (ok_steps_with T) (.inl rfl) tk (hr.mono (by decide)) rfl T.g_steps_with T.F_steps_with.kp T.b_steps_with (as_cons (de_var 0 (pv 0)) (as_cons (de_tup (da_cons (fun _ _ ha hr => pa_cons ha hr) de_str da_nil)) as_nil))) da_nil)))))) (dss_one (ds_ret de_bl)) dss_nil) (dss_one (ds_ret (de_eq hu (de_lc (own := [("number", 2)]) rfl sc0.nd (di_seq (de_var 1 (pv 1))) (blkOk_by (own := [("number", 2)]) (N := NM_have_given) (sc := defScope s_have_given) (by decide +kernel)) (fun _ _ _ _ _ => (dv_name 2 (pg_name (i := 2) sc0.nd rfl (.inl rfl)))) (fun _ _ _ _ _ => (dts_one (dt_not (dt_val (de_call (ok_is_whole T) (.inl rfl) takes0N (hr.mono (by decide)) rfl T.g_is_whole T.F_is_whole.kp T.b_is_whole (as_cons (de_var 2 (pv 2)) (as_cons (de_neg (de_glob rfl T.v_HIGH)) (as_cons (de_glob rfl T.v_HIGH) as_nil)))))))) (fun _ _ _ _ _ => (de_var 2 (pv 2)))) (de_lst da_nil)))))
theorem sc_need_indices : FnScope NM_need_indices ["course", "one", "other"] (defScope s_need_indices) := ⟨rfl, rfl, rfl, by decide +kernel, rfl, by decide +kernel, by decide +kernel⟩
theorem ok_need_indices (T : Tx K mg) : FnOk P w K mg base (L2N.CX P w) 2 T.f_need_indices T.d_need_indices ["course", "one", "other"] (spF kd0 mg 3 (N_need_indices)) := by
  refine fn_dl (N := NM_need_indices) T.F_need_indices sc_need_indices (fun cdv A outer s H E hr => ?_) (by decide)
  have sc0 := sc_need_indices
  have tk := takes_fn (P := P) (w := w) (K := K) (mg := mg) (base := base) (N := NM_need_indices) (qual := "need_indices") (scope := defScope s_need_indices) (f := T.f_need_indices) (cdv := cdv) (A := A) (outer := outer) (s := s) (H := H) (E := E)
  have hu := hr.units
  have hu5 := room5 hr
  exact (dss_cons (ds_for (passes_of rfl) rfl (di_seq (de_tup (da_cons (fun _ _ ha hr => pa_cons ha hr) (de_var 1 (pv 1)) (da_cons (fun _ _ ha hr => pa_cons ha hr) (de_var 2 (pv 2)) da_nil)))) (dg_name 3 (pg_name (i := 3) sc0.nd rfl (.inl rfl))) (dss_one (ds_if (dt_not (dt_val (de_call (ok_is_whole T) (.inl rfl) tk (hr.mono (by decide)) rfl T.g_is_whole T.F_is_whole.kp T.b_is_whole (as_cons (de_var 3 (pv 3)) (as_cons de_int (as_cons (de_sub (de_blt call_len rd_len rfl T.n_len (by decide +kernel) (da_cons (fun _ _ ha hr => pa_cons ha hr) (de_var 0 (pv 0)) da_nil)) de_int) as_nil)))))) (dss_one (ds_raise rfl tk PySem.F.excBase_ValueError T.x_InvalidIndex T.c_InvalidIndex T.k_InvalidIndex (raises_own T.sb_InvalidIndex T.ty_InvalidIndex) rfl)) dss_nil))) (dss_one (ds_if (dt_eq hu (de_var 1 (pv 1)) (de_var 2 (pv 2))) (dss_one (ds_raise rfl tk PySem.F.excBase_ValueError T.x_InvalidIndex T.c_InvalidIndex T.k_InvalidIndex (raises_own T.sb_InvalidIndex T.ty_InvalidIndex) rfl)) dss_nil)))
theorem sc_number_of : FnScope NM_number_of ["step", "stair", "ahead"] (defScope s_number_of) := ⟨rfl, rfl, rfl, by decide +kernel, rfl, by decide +kernel, by decide +kernel⟩
theorem ok_number_of (T : Tx K mg) : FnOk P w K mg base (L2N.CX P w) 2 T.f_number_of T.d_number_of ["step", "stair", "ahead"] (spF kd0 mg 3 (N_number_of)) := by
  refine fn_dl (N := NM_number_of) T.F_number_of sc_number_of (fun cdv A outer s H E hr => ?_) (by decide)
  have sc0 := sc_number_of
  have tk := takes_fn (P := P) (w := w) (K := K) (mg := mg) (base := base) (N := NM_number_of) (qual := "number_of") (scope := defScope s_number_of) (f := T.f_number_of) (cdv := cdv) (A := A) (outer := outer) (s := s) (H := H) (E := E)
  have hu := hr.units
  have hu5 := room5 hr
  exact (dss_cons (ds_if (dt_eq hu (de_ix (de_var 0 (pv 0)) de_int (fun _ _ => rfl)) de_str) (dss_one (ds_ret (de_call (ok_level_at T) (.inl rfl) tk (hr.mono (by decide)) rfl T.g_level_at T.F_level_at.kp T.b_level_at (as_cons (de_var 1 (pv 1)) (as_cons (de_ownIx 2 (pv 2) (de_ix (de_var 0 (pv 0)) de_int (fun _ _ => rfl)) (fun _ _ => rfl)) as_nil))))) dss_nil) (dss_cons (ds_if (dt_eq hu (de_ix (de_var 0 (pv 0)) de_int (fun _ _ => rfl)) de_str) (dss_one (ds_ret (de_add (de_ownIx 2 (pv 2) (de_ix (de_var 0 (pv 0)) de_int (fun _ _ => rfl)) (fun _ _ => rfl)) (de_ix (de_var 0 (pv 0)) de_int (fun _ _ => rfl))))) dss_nil) (dss_cons (ds_if (dt_eq hu (de_ix (de_var 0 (pv 0)) de_int (fun _ _ => rfl)) de_str) (dss_one (ds_ret (de_blt (CallR.or (call_max2 rfl) (cr_max rfl)) rd_max rfl T.n_max (by decide +kernel) (da_cons (fun _ _ ha hr => pa_cons ha hr) (de_ownIx 2 (pv 2) (de_ix (de_var 0 (pv 0)) de_int (fun _ _ => rfl)) (fun _ _ => rfl)) (da_cons (fun _ _ ha hr => pa_cons ha hr) (de_ownIx 2 (pv 2) (de_ix (de_var 0 (pv 0)) de_int (fun _ _ => rfl)) (fun _ _ => rfl)) da_nil))))) dss_nil) (dss_one (ds_ret (de_blt (CallR.or (call_min2 rfl) (cr_min rfl)) rd_min rfl T.n_min (by decide +kernel) (da_cons (fun _ _ ha hr => pa_cons ha hr) (de_ownIx 2 (pv 2) (de_ix (de_var 0 (pv 0)) de_int (fun _ _ => rfl)) (fun _ _ => rfl)) (da_cons (fun _ _ ha hr => pa_cons ha hr) (de_ownIx 2 (pv 2) (de_ix (de_var 0 (pv 0)) de_int (fun _ _ => rfl)) (fun _ _ => rfl)) da_nil))))))))
theorem sc_is_fact : FnScope NM_is_fact ["course", "value"] (defScope s_is_fact) := ⟨rfl, rfl, rfl, by decide +kernel, rfl, by decide +kernel, by decide +kernel⟩
theorem ok_is_fact (T : Tx K mg) : FnOk P w K mg base (L2N.CX P w) 2 T.f_is_fact T.d_is_fact ["course", "value"] (spF kd0 mg 2 (N_is_fact)) := by
  refine fn_dl (N := NM_is_fact) T.F_is_fact sc_is_fact (fun cdv A outer s H E hr => ?_) (by decide)
  have sc0 := sc_is_fact
  have tk := takes_fn (P := P) (w := w) (K := K) (mg := mg) (base := base) (N := NM_is_fact) (qual := "is_fact") (scope := defScope s_is_fact) (f := T.f_is_fact) (cdv := cdv) (A := A) (outer := outer) (s := s) (H := H) (E := E)
  have hu := hr.units
  have hu5 := room5 hr
  exact (dss_cons (ds_if (DW.dt (dw_or (dt_not (dt_val (de_isi (T := "tuple") rfl T.n_isinstance rfl T.n_tuple (by decide +kernel) (de_var 1 (pv 1))))) (dw_or (dt_ne hu (de_blt call_len rd_len rfl T.n_len (by decide +kernel) (da_cons (fun _ _ ha hr => pa_cons ha hr) (de_var 1 (pv 1)) da_nil)) de_int) (dw_or1 (dt_not (dt_val (de_call (ok_is_whole T) (.inl rfl) tk (hr.mono (by decide)) rfl T.g_is_whole T.F_is_whole.kp T.b_is_whole (as_cons (de_ix (de_var 1 (pv 1)) de_int (fun _ _ => rfl)) (as_cons (de_neg de_int) (as_cons de_int as_nil)))))))))) (dss_one (ds_ret de_bl)) dss_nil) (dss_cons (ds_if (DW.dt (dw_or (dt_not (dt_val (de_call (ok_is_whole T) (.inl rfl) tk (hr.mono (by decide)) rfl T.g_is_whole T.F_is_whole.kp T.b_is_whole (as_cons (de_ix (de_var 1 (pv 1)) de_int (fun _ _ => rfl)) (as_cons de_int (as_cons (de_sub (de_blt call_len rd_len rfl T.n_len (by decide +kernel) (da_cons (fun _ _ ha hr => pa_cons ha hr) (de_var 0 (pv 0)) da_nil)) de_int) as_nil)))))) (dw_or1 (dt_not (dt_val (de_call (ok_is_whole T) (.inl rfl) tk (hr.mono (by decide)) rfl T.g_is_whole T.F_is_whole.kp T.b_is_whole (as_cons (de_ix (de_var 1 (pv 1)) de_int (fun _ _ => rfl)) (as_cons de_int (as_cons (de_sub (de_blt call_len rd_len rfl T.n_len (by decide +kernel) (da_cons (fun _ _ ha hr => pa_cons ha hr) (de_var 0 (pv 0)) da_nil)) de_int) as_nil))))))))) (dss_one (ds_ret de_bl)) dss_nil) (dss_one (ds_ret (de_ne hu (de_ix (de_var 1 (pv 1)) de_int (fun _ _ => rfl)) (de_ix (de_var 1 (pv 1)) de_int (fun _ _ => rfl)))))))
theorem sc_text_of : FnScope NM_text_of ["course"] (defScope s_text_of) := ⟨rfl, rfl, rfl, by decide +kernel, rfl, by decide +kernel, by decide +kernel⟩
theorem ok_text_of (T : Tx K mg) : FnOk P w K mg base (L2N.CX P w) 2 T.f_text_of T.d_text_of ["course"] (spF kd0 mg 1 (N_text_of)) := by
  refine fn_dl (N := NM_text_of) T.F_text_of sc_text_of (fun cdv A outer s H E hr => ?_) (by decide)
  have sc0 := sc_text_of
  have tk := takes_fn (P := P) (w := w) (K := K) (mg := mg) (base := base) (N := NM_text_of) (qual := "text_of") (scope := defScope s_text_of) (f := T.f_text_of) (cdv := cdv) (A := A) (outer := outer) (s := s) (H := H) (E := E)
  have hu := hr.units
  have hu5 := room5 hr
  exact (dss_one (ds_ret (de_join de_str (de_lc (own := [("step", 1)]) rfl sc0.nd (di_seq (de_var 0 (pv 0))) (blkOk_by (own := [("step", 1)]) (N := NM_text_of) (sc := defScope s_text_of) (by decide +kernel)) (fun _ _ _ _ _ => (dv_name 1 (pg_name (i := 1) sc0.nd rfl (.inl rfl)))) (fun _ _ _ _ _ => dts_nil) (fun _ _ _ _ _ => (de_call (ok_step_line T) (.inl rfl) takes0N (hr.mono (by decide)) rfl T.g_step_line T.F_step_line.kp T.b_step_line (as_cons (de_var 1 (pv 1)) as_nil)))))))
theorem sc_law_some : FnScope NM_law_some ["vat", "things"] (defScope s_law_some) := ⟨rfl, rfl, rfl, by decide +kernel, rfl, by decide +kernel, by decide +kernel⟩
theorem ok_law_some (T : Tx K mg) : FnOk P w K mg base (L2N.CX P w) 2 T.f_law_some T.d_law_some ["vat", "things"] (spF kd0 mg 2 (N_law_some)) := by
  refine fn_dl (N := NM_law_some) T.F_law_some sc_law_some (fun cdv A outer s H E hr => ?_) (by decide)
  have sc0 := sc_law_some
  have tk := takes_fn (P := P) (w := w) (K := K) (mg := mg) (base := base) (N := NM_law_some) (qual := "_law_some") (scope := defScope s_law_some) (f := T.f_law_some) (cdv := cdv) (A := A) (outer := outer) (s := s) (H := H) (E := E)
  have hu := hr.units
  have hu5 := room5 hr
  exact (dss_one (ds_ret (de_ix (de_var 1 (pv 1)) (de_callV (ok_law_under T) (.inl rfl) tk (hr.mono (by decide)) rfl T.g_law_under T.F_law_under.kp T.b_law_under (pv 0) (as_cons (de_blt call_len rd_len rfl T.n_len (by decide +kernel) (da_cons (fun _ _ ha hr => pa_cons ha hr) (de_var 1 (pv 1)) da_nil)) as_nil)) (fun _ _ => rfl))))
theorem sc_law_is_step : FnScope NM_law_is_step ["value", "ahead"] (defScope s_law_is_step) := ⟨rfl, rfl, rfl, by decide +kernel, rfl, by decide +kernel, by decide +kernel⟩
theorem ok_law_is_step (T : Tx K mg) : FnOk P w K mg base (L2N.CX P w) 2 T.f_law_is_step T.d_law_is_step ["value", "ahead"] (spF kd0 mg 2 (N_law_is_step)) := by
  refine fn_dl (N := NM_law_is_step) T.F_law_is_step sc_law_is_step (fun cdv A outer s H E hr => ?_) (by decide)
  have sc0 := sc_law_is_step
  have tk := takes_fn (P := P) (w := w) (K := K) (mg := mg) (base := base) (N := NM_law_is_step) (qual := "_law_is_step") (scope := defScope s_law_is_step) (f := T.f_law_is_step) (cdv := cdv) (A := A) (outer := outer) (s := s) (H := H) (E := E)
  have hu := hr.units
  have hu5 := room5 hr
  exact (dss_cons (ds_if (DW.dt (dw_or (dt_not (dt_val (de_isi (T := "tuple") rfl T.n_isinstance rfl T.n_tuple (by decide +kernel) (de_var 0 (pv 0))))) (dw_or (dt_notIn hu5 (de_blt call_len rd_len rfl T.n_len (by decide +kernel) (da_cons (fun _ _ ha hr => pa_cons ha hr) (de_var 0 (pv 0)) da_nil)) (de_tup (da_cons (fun _ _ ha hr => pa_cons ha hr) de_int (da_cons (fun _ _ ha hr => pa_cons ha hr) de_int (da_cons (fun _ _ ha hr => pa_cons ha hr) de_int da_nil)))) (by with_unfolding_all rfl)) (dw_or1 (dt_not (dt_val (de_isi (T := "str") rfl T.n_isinstance rfl T.n_str (by decide +kernel) (de_ix (de_var 0 (pv 0)) de_int (fun _ _ => rfl))))))))) (dss_one (ds_ret de_bl)) dss_nil) (dss_cons (ds_if (dt_eq hu (de_ix (de_var 0 (pv 0)) de_int (fun _ _ => rfl)) de_str) (dss_one (ds_ret (de_eq hu (de_blt call_len rd_len rfl T.n_len (by decide +kernel) (da_cons (fun _ _ ha hr => pa_cons ha hr) (de_var 0 (pv 0)) da_nil)) de_int))) dss_nil) (dss_cons (ds_if (dt_eq hu (de_ix (de_var 0 (pv 0)) de_int (fun _ _ => rfl)) de_str) (dss_one (ds_ret (de_and (de_eq hu (de_blt call_len rd_len rfl T.n_len (by decide +kernel) (da_cons (fun _ _ ha hr => pa_cons ha hr) (de_var 0 (pv 0)) da_nil)) de_int) (de_one (de_call (ok_law_is_whole T) (.inl rfl) tk (hr.mono (by decide)) rfl T.g_law_is_whole T.F_law_is_whole.kp T.b_law_is_whole (as_cons (de_ix (de_var 0 (pv 0)) de_int (fun _ _ => rfl)) (as_cons (de_neg de_int) (as_cons de_int as_nil)))))))) dss_nil) (dss_cons (ds_if (DW.dt (dw_or (dt_notIn hu5 (de_ix (de_var 0 (pv 0)) de_int (fun _ _ => rfl)) (de_lst (da_cons (fun _ _ ha hr => pa_cons ha hr) de_str (da_cons (fun _ _ ha hr => pa_cons ha hr) de_str (da_cons (fun _ _ ha hr => pa_cons ha hr) de_str (da_cons (fun _ _ ha hr => pa_cons ha hr) de_str da_nil))))) (by with_unfolding_all rfl)) (dw_or1 (dt_ne hu (de_blt call_len rd_len rfl T.n_len (by decide +kernel) (da_cons (fun _ _ ha hr => pa_cons ha hr) (de_var 0 (pv 0)) da_nil)) (de_ifExp (dt_eq hu (de_ix (de_var 0 (pv 0)) de_int (fun _ _ => rfl)) de_str) de_int de_int))))) (dss_one (ds_ret de_bl)) dss_nil) (dss_cons (ds_if (dt_not (dt_val (de_call (ok_law_is_whole T) (.inl rfl) tk (hr.mono (by decide)) rfl T.g_law_is_whole T.F_law_is_whole.kp T.b_law_is_whole (as_cons (de_ix (de_var 0 (pv 0)) de_int (fun _ _ => rfl)) (as_cons de_int (as_cons (de_sub (de_var 1 (pv 1)) de_int) as_nil)))))) (dss_one (ds_ret de_bl)) dss_nil) (dss_cons (ds_if (dt_eq hu (de_ix (de_var 0 (pv 0)) de_int (fun _ _ => rfl)) de_str) (dss_one (ds_ret (de_call (ok_law_is_whole T) (.inl rfl) tk (hr.mono (by decide)) rfl T.g_law_is_whole T.F_law_is_whole.kp T.b_law_is_whole (as_cons (de_ix (de_var 0 (pv 0)) de_int (fun _ _ => rfl)) (as_cons (de_neg de_int) (as_cons de_int as_nil)))))) dss_nil) (dss_one (ds_ret (de_or (de_eq hu (de_ix (de_var 0 (pv 0)) de_int (fun _ _ => rfl)) de_str) (de_one (de_and (de_call (ok_law_is_whole T) (.inl rfl) tk (hr.mono (by decide)) rfl T.g_law_is_whole T.F_law_is_whole.kp T.b_law_is_whole (as_cons (de_ix (de_var 0 (pv 0)) de_int (fun _ _ => rfl)) (as_cons de_int (as_cons (de_sub (de_var 1 (pv 1)) de_int) as_nil)))) (de_one (de_ne hu (de_ix (de_var 0 (pv 0)) de_int (fun _ _ => rfl)) (de_ix (de_var 0 (pv 0)) de_int (fun _ _ => rfl)))))))))))))))
theorem sc_law_error : FnScope NM_law_error ["call"] (defScope s_law_error) := ⟨rfl, rfl, rfl, by decide +kernel, rfl, by decide +kernel, by decide +kernel⟩
theorem Tx.errdef (T : Tx K mg) : ErrDef K mg NM_law_error s_law_error T.f_law_error T.d_law_error (He.ga K "StairError") T.f_law_names := ⟨T.F_law_error, sc_law_error, rfl, rfl, .inl rfl, rfl, rfl, rfl, ⟨_, _, _, _, _, _, _, _, _, _, _, _, _, rfl⟩, T.g_law_error, T.cS, T.g_law_names, T.b_law_error⟩
theorem Tx.hsub (T : Tx K mg) : ∀ (c t : Str) (C : Addr), nmS c = some t → mg c = some (.ref C) → PySem.W.exmOne K (.ref C) (.ref (He.ga K "StairError")) = some true := fun c t C h m => by
  have hce := nmS_mem h
  have z := T.cd c (List.mem_append_left [("InvalidText" : Str), "TooMany"] hce)
  rw [m] at z
  injection z with z
  injection z with z
  rw [z]
  exact T.exS c hce
theorem sc_has_stair : FnScope NM_has_stair ["value"] (defScope s_has_stair) := ⟨rfl, rfl, rfl, by decide +kernel, rfl, by decide +kernel, by decide +kernel⟩
theorem ok_has_stair (T : Tx K mg) : FnOk P w K mg base (L2N.CX P w) 3 T.f_has_stair T.d_has_stair ["value"] (spF kd0 mg 1 (N_has_stair)) := by
  refine fn_dl (N := NM_has_stair) T.F_has_stair sc_has_stair (fun cdv A outer s H E hr => ?_) (by decide)
  have sc0 := sc_has_stair
  have tk := takes_fn (P := P) (w := w) (K := K) (mg := mg) (base := base) (N := NM_has_stair) (qual := "has_stair") (scope := defScope s_has_stair) (f := T.f_has_stair) (cdv := cdv) (A := A) (outer := outer) (s := s) (H := H) (E := E)
  have hu := hr.units
  have hu5 := room5 hr
  exact (dss_cons (ds_if (DW.dt (dw_or (dt_not (dt_val (de_isi (T := "tuple") rfl T.n_isinstance rfl T.n_tuple (by decide +kernel) (de_var 0 (pv 0))))) (dw_or (dt_ne hu (de_blt call_len rd_len rfl T.n_len (by decide +kernel) (da_cons (fun _ _ ha hr => pa_cons ha hr) (de_var 0 (pv 0)) da_nil)) de_int) (dw_or1 (dt_not (dt_val (de_call (ok_is_whole T) (.inl rfl) tk (hr.mono (by decide)) rfl T.g_is_whole T.F_is_whole.kp T.b_is_whole (as_cons (de_ix (de_var 0 (pv 0)) de_int (fun _ _ => rfl)) (as_cons (de_neg (de_glob rfl T.v_HIGH)) (as_cons (de_glob rfl T.v_HIGH) as_nil)))))))))) (dss_one (ds_ret de_bl)) dss_nil) (dss_cons (ds_if (DW.dt (dw_or (dt_not (dt_val (de_isi (T := "tuple") rfl T.n_isinstance rfl T.n_tuple (by decide +kernel) (de_ix (de_var 0 (pv 0)) de_int (fun _ _ => rfl))))) (dw_or1 (dt_gt (de_blt call_len rd_len rfl T.n_len (by decide +kernel) (da_cons (fun _ _ ha hr => pa_cons ha hr) (de_ix (de_var 0 (pv 0)) de_int (fun _ _ => rfl)) da_nil)) de_int)))) (dss_one (ds_ret de_bl)) dss_nil) (dss_cons (ds_if (dt_ne hu (de_lc (own := [("step", 3)]) rfl sc0.nd (di_seq (de_ix (de_var 0 (pv 0)) de_int (fun _ _ => rfl))) (blkOk_by (own := [("step", 3)]) (N := NM_has_stair) (sc := defScope s_has_stair) (by decide +kernel)) (fun _ _ _ _ _ => (dv_name 3 (pg_name (i := 3) sc0.nd rfl (.inl rfl)))) (fun _ _ _ _ _ => (dts_one (dt_not (dt_val (de_call (ok_is_pair T) (.inl rfl) takes0N (hr.mono (by decide)) rfl T.g_is_pair T.F_is_pair.kp T.b_is_pair (as_cons (de_var 3 (pv 3)) (as_cons (de_glob rfl T.v_HIGH) as_nil))))))) (fun _ _ _ _ _ => (de_var 3 (pv 3)))) (de_lst da_nil)) (dss_one (ds_ret de_bl)) dss_nil) (dss_cons (ds_par2 (i := 1) (j := 2) (fun ha => ps_par rfl sc0.nd rfl rfl (by decide) rfl rfl ha (by rfl)) (da_cons (fun _ _ ha hr => pa_cons ha hr) (de_lc (own := [("step", 3)]) rfl sc0.nd (di_seq (de_ix (de_var 0 (pv 0)) de_int (fun _ _ => rfl))) (blkOk_by (own := [("step", 3)]) (N := NM_has_stair) (sc := defScope s_has_stair) (by decide +kernel)) (fun _ _ _ _ _ => (dv_name 3 (pg_name (i := 3) sc0.nd rfl (.inl rfl)))) (fun _ _ _ _ _ => dts_nil) (fun _ _ _ _ _ => (de_ix (de_var 3 (pv 3)) de_int (fun _ _ => rfl)))) (da_cons (fun _ _ ha hr => pa_cons ha hr) (de_add (de_lst (da_cons (fun _ _ ha hr => pa_cons ha hr) (de_ix (de_var 0 (pv 0)) de_int (fun _ _ => rfl)) da_nil)) (de_lc (own := [("step", 3)]) rfl sc0.nd (di_seq (de_ix (de_var 0 (pv 0)) de_int (fun _ _ => rfl))) (blkOk_by (own := [("step", 3)]) (N := NM_has_stair) (sc := defScope s_has_stair) (by decide +kernel)) (fun _ _ _ _ _ => (dv_name 3 (pg_name (i := 3) sc0.nd rfl (.inl rfl)))) (fun _ _ _ _ _ => dts_nil) (fun _ _ _ _ _ => (de_ix (de_var 3 (pv 3)) de_int (fun _ _ => rfl))))) da_nil))) (dss_one (ds_ret (de_and (de_call (ok_is_rising T) (.inl rfl) tk (hr.mono (by decide)) rfl T.g_is_rising T.F_is_rising.kp T.b_is_rising (as_cons (de_var 1 (pv 1)) as_nil)) (de_one (de_call (ok_is_rising T) (.inl rfl) tk (hr.mono (by decide)) rfl T.g_is_rising T.F_is_rising.kp T.b_is_rising (as_cons (de_var 2 (pv 2)) as_nil))))))))))
theorem sc_has_course : FnScope NM_has_course ["value"] (defScope s_has_course) := ⟨rfl, rfl, rfl, by decide +kernel, rfl, by decide +kernel, by decide +kernel⟩
theorem ok_has_course (T : Tx K mg) : FnOk P w K mg base (L2N.CX P w) 3 T.f_has_course T.d_has_course ["value"] (spF kd0 mg 1 (N_has_course)) := by
  refine fn_dl (N := NM_has_course) T.F_has_course sc_has_course (fun cdv A outer s H E hr => ?_) (by decide)
  have sc0 := sc_has_course
  have tk := takes_fn (P := P) (w := w) (K := K) (mg := mg) (base := base) (N := NM_has_course) (qual := "has_course") (scope := defScope s_has_course) (f := T.f_has_course) (cdv := cdv) (A := A) (outer := outer) (s := s) (H := H) (E := E)
  have hu := hr.units
  have hu5 := room5 hr
  exact (dss_cons (ds_if (DW.dt (dw_or (dt_not (dt_val (de_isi (T := "tuple") rfl T.n_isinstance rfl T.n_tuple (by decide +kernel) (de_var 0 (pv 0))))) (dw_or1 (dt_not (dt_leLe de_int (de_blt call_len rd_len rfl T.n_len (by decide +kernel) (da_cons (fun _ _ ha hr => pa_cons ha hr) (de_var 0 (pv 0)) da_nil)) (de_glob rfl T.v_MOST_STEPS)))))) (dss_one (ds_ret de_bl)) dss_nil) (dss_cons (ds_if (dt_ne hu (de_lc (own := [("at", 1)]) rfl sc0.nd (di_range1 rfl T.n_range (da_cons (fun _ _ ha hr => pa_cons ha hr) (de_blt call_len rd_len rfl T.n_len (by decide +kernel) (da_cons (fun _ _ ha hr => pa_cons ha hr) (de_var 0 (pv 0)) da_nil)) da_nil)) (blkOk_by (own := [("at", 1)]) (N := NM_has_course) (sc := defScope s_has_course) (by decide +kernel)) (fun _ _ _ _ _ => (dv_name 1 (pg_name (i := 1) sc0.nd rfl (.inl rfl)))) (fun _ _ _ _ _ => (dts_one (dt_not (dt_val (de_call (ok_is_step T) (.inl rfl) takes0N (hr.mono (by decide)) rfl T.g_is_step T.F_is_step.kp T.b_is_step (as_cons (de_ix (de_var 0 (pv 0)) (de_var 1 (pv 1)) (fun _ _ => rfl)) (as_cons (de_var 1 (pv 1)) as_nil))))))) (fun _ _ _ _ _ => (de_var 1 (pv 1)))) (de_lst da_nil)) (dss_one (ds_ret de_bl)) dss_nil) (dss_cons (ds_if (DW.dt (dw_or (dt_gt (de_blt call_len rd_len rfl T.n_len (by decide +kernel) (da_cons (fun _ _ ha hr => pa_cons ha hr) (de_call (ok_steps_with T) (.inl rfl) tk (hr.mono (by decide)) rfl T.g_steps_with T.F_steps_with.kp T.b_steps_with (as_cons (de_var 0 (pv 0)) (as_cons (de_tup (da_cons (fun _ _ ha hr => pa_cons ha hr) de_str da_nil)) as_nil))) da_nil)) de_int) (dw_or1 (dt_gt (de_blt call_len rd_len rfl T.n_len (by decide +kernel) (da_cons (fun _ _ ha hr => pa_cons ha hr) (de_call (ok_steps_with T) (.inl rfl) tk (hr.mono (by decide)) rfl T.g_steps_with T.F_steps_with.kp T.b_steps_with (as_cons (de_var 0 (pv 0)) (as_cons (de_tup (da_cons (fun _ _ ha hr => pa_cons ha hr) de_str da_nil)) as_nil))) da_nil)) de_int)))) (dss_one (ds_ret de_bl)) dss_nil) (dss_one (ds_ret (de_le (de_blt call_len rd_len rfl T.n_len (by decide +kernel) (da_cons (fun _ _ ha hr => pa_cons ha hr) (de_call (ok_steps_with T) (.inl rfl) tk (hr.mono (by decide)) rfl T.g_steps_with T.F_steps_with.kp T.b_steps_with (as_cons (de_var 0 (pv 0)) (as_cons (de_tup (da_cons (fun _ _ ha hr => pa_cons ha hr) de_str (da_cons (fun _ _ ha hr => pa_cons ha hr) de_str da_nil))) as_nil))) da_nil)) de_int))))))
theorem sc_need_given : FnScope NM_need_given ["course", "given"] (defScope s_need_given) := ⟨rfl, rfl, rfl, by decide +kernel, rfl, by decide +kernel, by decide +kernel⟩
theorem ok_need_given (T : Tx K mg) : FnOk P w K mg base (L2N.CX P w) 3 T.f_need_given T.d_need_given ["course", "given"] (spF kd0 mg 2 (N_need_given)) := by
  refine fn_dl (N := NM_need_given) T.F_need_given sc_need_given (fun cdv A outer s H E hr => ?_) (by decide)
  have sc0 := sc_need_given
  have tk := takes_fn (P := P) (w := w) (K := K) (mg := mg) (base := base) (N := NM_need_given) (qual := "need_given") (scope := defScope s_need_given) (f := T.f_need_given) (cdv := cdv) (A := A) (outer := outer) (s := s) (H := H) (E := E)
  have hu := hr.units
  have hu5 := room5 hr
  exact (dss_one (ds_if (dt_not (dt_val (de_call (ok_have_given T) (.inl rfl) tk (hr.mono (by decide)) rfl T.g_have_given T.F_have_given.kp T.b_have_given (as_cons (de_var 0 (pv 0)) (as_cons (de_var 1 (pv 1)) as_nil))))) (dss_one (ds_raise rfl tk PySem.F.excBase_ValueError T.x_InvalidGiven T.c_InvalidGiven T.k_InvalidGiven (raises_own T.sb_InvalidGiven T.ty_InvalidGiven) rfl)) dss_nil))
theorem sc_all_numbers : FnScope NM_all_numbers ["course", "stair", "given"] (defScope s_all_numbers) := ⟨rfl, rfl, rfl, by decide +kernel, rfl, by decide +kernel, by decide +kernel⟩
theorem ok_all_numbers (T : Tx K mg) : FnOk P w K mg base (L2N.CX P w) 3 T.f_all_numbers T.d_all_numbers ["course", "stair", "given"] (spF kd0 mg 3 (N_all_numbers)) := by
  refine fn_dl (N := NM_all_numbers) T.F_all_numbers sc_all_numbers (fun cdv A outer s H E hr => ?_) (by decide)
  have sc0 := sc_all_numbers
  have tk := takes_fn (P := P) (w := w) (K := K) (mg := mg) (base := base) (N := NM_all_numbers) (qual := "all_numbers") (scope := defScope s_all_numbers) (f := T.f_all_numbers) (cdv := cdv) (A := A) (outer := outer) (s := s) (H := H) (E := E)
  have hu := hr.units
  have hu5 := room5 hr
  exact (dss_cons (ds_parOL 3 4 2 (fun ha => ps_par rfl sc0.nd rfl rfl (by decide) rfl rfl ha (by rfl)) rfl T.n_list (pv 2)) (dss_cons (ds_for (passes_of rfl) rfl (di_seq (de_var 0 (pv 0))) (dg_name 5 (pg_name (i := 5) sc0.nd rfl (.inl rfl))) (dss_one (ds_if (dt_eq hu (de_ix (de_var 5 (pv 5)) de_int (fun _ _ => rfl)) de_str) (dss_one (ds_app 3 (pv 3) (de_pop0 4 (pv 4)))) (dss_one (ds_if (dt_eq hu (de_ix (de_var 5 (pv 5)) de_int (fun _ _ => rfl)) de_str) (dss_one (ds_app 3 (pv 3) (de_ix (de_var 5 (pv 5)) de_int (fun _ _ => rfl)))) (dss_one (ds_app 3 (pv 3) (de_callL (ok_number_of T) (.inl rfl) tk (hr.mono (by decide)) rfl T.g_number_of T.F_number_of.kp T.b_number_of (asl_cons (de_var 5 (pv 5)) (asl_cons (de_var 1 (pv 1)) (asl_nil 3 (pv 3)))))))))))) (dss_one (ds_ret (de_var 3 (pv 3))))))
theorem sc_has_facts : FnScope NM_has_facts ["course", "value"] (defScope s_has_facts) := ⟨rfl, rfl, rfl, by decide +kernel, rfl, by decide +kernel, by decide +kernel⟩
theorem ok_has_facts (T : Tx K mg) : FnOk P w K mg base (L2N.CX P w) 3 T.f_has_facts T.d_has_facts ["course", "value"] (spF kd0 mg 2 (N_has_facts)) := by
  refine fn_dl (N := NM_has_facts) T.F_has_facts sc_has_facts (fun cdv A outer s H E hr => ?_) (by decide)
  have sc0 := sc_has_facts
  have tk := takes_fn (P := P) (w := w) (K := K) (mg := mg) (base := base) (N := NM_has_facts) (qual := "has_facts") (scope := defScope s_has_facts) (f := T.f_has_facts) (cdv := cdv) (A := A) (outer := outer) (s := s) (H := H) (E := E)
  have hu := hr.units
  have hu5 := room5 hr
  exact (dss_cons (ds_if (DW.dt (dw_or (dt_not (dt_val (de_isi (T := "tuple") rfl T.n_isinstance rfl T.n_tuple (by decide +kernel) (de_var 1 (pv 1))))) (dw_or1 (dt_gt (de_blt call_len rd_len rfl T.n_len (by decide +kernel) (da_cons (fun _ _ ha hr => pa_cons ha hr) (de_var 1 (pv 1)) da_nil)) de_int)))) (dss_one (ds_ret de_bl)) dss_nil) (dss_one (ds_ret (de_eq hu (de_lc (own := [("fact", 2)]) rfl sc0.nd (di_seq (de_var 1 (pv 1))) (blkOk_by (own := [("fact", 2)]) (N := NM_has_facts) (sc := defScope s_has_facts) (by decide +kernel)) (fun _ _ _ _ _ => (dv_name 2 (pg_name (i := 2) sc0.nd rfl (.inl rfl)))) (fun _ _ _ _ _ => (dts_one (dt_not (dt_val (de_call (ok_is_fact T) (.inl rfl) takes0N (hr.mono (by decide)) rfl T.g_is_fact T.F_is_fact.kp T.b_is_fact (as_cons (de_var 0 (pv 0)) (as_cons (de_var 2 (pv 2)) as_nil))))))) (fun _ _ _ _ _ => (de_var 2 (pv 2)))) (de_lst da_nil)))))
theorem sc_need_fact : FnScope NM_need_fact ["course", "fact"] (defScope s_need_fact) := ⟨rfl, rfl, rfl, by decide +kernel, rfl, by decide +kernel, by decide +kernel⟩
theorem ok_need_fact (T : Tx K mg) : FnOk P w K mg base (L2N.CX P w) 3 T.f_need_fact T.d_need_fact ["course", "fact"] (spF kd0 mg 2 (N_need_fact)) := by
  refine fn_dl (N := NM_need_fact) T.F_need_fact sc_need_fact (fun cdv A outer s H E hr => ?_) (by decide)
  have sc0 := sc_need_fact
  have tk := takes_fn (P := P) (w := w) (K := K) (mg := mg) (base := base) (N := NM_need_fact) (qual := "need_fact") (scope := defScope s_need_fact) (f := T.f_need_fact) (cdv := cdv) (A := A) (outer := outer) (s := s) (H := H) (E := E)
  have hu := hr.units
  have hu5 := room5 hr
  exact (dss_one (ds_if (dt_not (dt_val (de_call (ok_is_fact T) (.inl rfl) tk (hr.mono (by decide)) rfl T.g_is_fact T.F_is_fact.kp T.b_is_fact (as_cons (de_var 0 (pv 0)) (as_cons (de_var 1 (pv 1)) as_nil))))) (dss_one (ds_raise rfl tk PySem.F.excBase_ValueError T.x_InvalidFacts T.c_InvalidFacts T.k_InvalidFacts (raises_own T.sb_InvalidFacts T.ty_InvalidFacts) rfl)) dss_nil))
theorem sc_law_is_course : FnScope NM_law_is_course ["value"] (defScope s_law_is_course) := ⟨rfl, rfl, rfl, by decide +kernel, rfl, by decide +kernel, by decide +kernel⟩
theorem ok_law_is_course (T : Tx K mg) : FnOk P w K mg base (L2N.CX P w) 3 T.f_law_is_course T.d_law_is_course ["value"] (spF kd0 mg 1 (N_law_is_course)) := by
  refine fn_dl (N := NM_law_is_course) T.F_law_is_course sc_law_is_course (fun cdv A outer s H E hr => ?_) (by decide)
  have sc0 := sc_law_is_course
  have tk := takes_fn (P := P) (w := w) (K := K) (mg := mg) (base := base) (N := NM_law_is_course) (qual := "_law_is_course") (scope := defScope s_law_is_course) (f := T.f_law_is_course) (cdv := cdv) (A := A) (outer := outer) (s := s) (H := H) (E := E)
  have hu := hr.units
  have hu5 := room5 hr
  exact (dss_cons (ds_if (DW.dt (dw_or (dt_not (dt_val (de_isi (T := "tuple") rfl T.n_isinstance rfl T.n_tuple (by decide +kernel) (de_var 0 (pv 0))))) (dw_or1 (dt_not (dt_leLe de_int (de_blt call_len rd_len rfl T.n_len (by decide +kernel) (da_cons (fun _ _ ha hr => pa_cons ha hr) (de_var 0 (pv 0)) da_nil)) de_int))))) (dss_one (ds_ret de_bl)) dss_nil) (dss_cons (ds_own 1 (fun h => ps_set (i := 1) sc0.nd rfl (.inl rfl) h) da_nil) (dss_cons (ds_for (passes_of rfl) rfl (di_range1 rfl T.n_range (da_cons (fun _ _ ha hr => pa_cons ha hr) (de_blt call_len rd_len rfl T.n_len (by decide +kernel) (da_cons (fun _ _ ha hr => pa_cons ha hr) (de_var 0 (pv 0)) da_nil)) da_nil)) (dg_name 2 (pg_name (i := 2) sc0.nd rfl (.inl rfl))) (dss_cons (ds_if (dt_not (dt_val (de_call (ok_law_is_step T) (.inl rfl) tk (hr.mono (by decide)) rfl T.g_law_is_step T.F_law_is_step.kp T.b_law_is_step (as_cons (de_ix (de_var 0 (pv 0)) (de_var 2 (pv 2)) (fun _ _ => rfl)) (as_cons (de_var 2 (pv 2)) as_nil))))) (dss_one (ds_ret de_bl)) dss_nil) (dss_one (ds_app 1 (pv 1) (de_ix (de_ix (de_var 0 (pv 0)) (de_var 2 (pv 2)) (fun _ _ => rfl)) de_int (fun _ _ => rfl)))))) (dss_cons (ds_set 3 (fun h => ps_set (i := 3) sc0.nd rfl (.inl rfl) h) (de_add (de_cntO 1 (pv 1) de_str) (de_cntO 1 (pv 1) de_str))) (dss_one (ds_ret (de_and (de_lt (de_cntO 1 (pv 1) de_str) de_int) (de_and (de_lt (de_cntO 1 (pv 1) de_str) de_int) (de_one (de_lt (de_var 3 (pv 3)) de_int))))))))))
theorem sc_law_odd : FnScope NM_law_odd ["vat", "depth"] (defScope s_law_odd) := ⟨rfl, rfl, rfl, by decide +kernel, rfl, by decide +kernel, by decide +kernel⟩
theorem raw_law_odd (T : Tx K mg) {F : Fn} {m : Nat} (hm : 3 ≤ m) (hrec : FnOk P w K mg base (L2N.CX P w) m T.f_law_odd T.d_law_odd ["vat", "depth"] (spF kd0 mg 2 F)) : FnOk P w K mg base (L2N.CX P w) (m + 1) T.f_law_odd T.d_law_odd ["vat", "depth"] (spF kd0 mg 2 (defF 5 (S_law_odd F))) := by
  refine fn_dl (N := NM_law_odd) T.F_law_odd sc_law_odd (fun cdv A outer s H E hr => ?_) (by decide)
  have sc0 := sc_law_odd
  have tk := takes_fn (P := P) (w := w) (K := K) (mg := mg) (base := base) (N := NM_law_odd) (qual := "_law_odd") (scope := defScope s_law_odd) (f := T.f_law_odd) (cdv := cdv) (A := A) (outer := outer) (s := s) (H := H) (E := E)
  have hu := hr.units
  have hu5 := room5 hr
  exact (dss_cons (ds_set 2 (fun h => ps_set (i := 2) sc0.nd rfl (.inl rfl) h) (de_lst (da_cons (fun _ _ ha hr => pa_cons ha hr) de_non (da_cons (fun _ _ ha hr => pa_cons ha hr) de_bl (da_cons (fun _ _ ha hr => pa_cons ha hr) de_bl (da_cons (fun _ _ ha hr => pa_cons ha hr) de_int (da_cons (fun _ _ ha hr => pa_cons ha hr) de_int (da_cons (fun _ _ ha hr => pa_cons ha hr) de_int (da_cons (fun _ _ ha hr => pa_cons ha hr) (de_neg de_int) (da_cons (fun _ _ ha hr => pa_cons ha hr) (de_pow de_int de_int) (da_cons (fun _ _ ha hr => pa_cons ha hr) de_str (da_cons (fun _ _ ha hr => pa_cons ha hr) de_str (da_cons (fun _ _ ha hr => pa_cons ha hr) de_str (da_cons (fun _ _ ha hr => pa_cons ha hr) de_str (da_cons (fun _ _ ha hr => pa_cons ha hr) (de_tup da_nil) (da_cons (fun _ _ ha hr => pa_cons ha hr) (de_lst da_nil) (da_cons (fun _ _ ha hr => pa_cons ha hr) (de_tup (da_cons (fun _ _ ha hr => pa_cons ha hr) de_str da_nil)) (da_cons (fun _ _ ha hr => pa_cons ha hr) (de_tup (da_cons (fun _ _ ha hr => pa_cons ha hr) de_str (da_cons (fun _ _ ha hr => pa_cons ha hr) de_int da_nil))) da_nil)))))))))))))))))) (dss_cons (ds_set 2 (fun h => ps_set (i := 2) sc0.nd rfl (.inl rfl) h) (de_add (de_var 2 (pv 2)) (de_lst (da_cons (fun _ _ ha hr => pa_cons ha hr) (de_tup (da_cons (fun _ _ ha hr => pa_cons ha hr) de_int (da_cons (fun _ _ ha hr => pa_cons ha hr) (de_tup (da_cons (fun _ _ ha hr => pa_cons ha hr) (de_tup (da_cons (fun _ _ ha hr => pa_cons ha hr) de_int (da_cons (fun _ _ ha hr => pa_cons ha hr) de_int da_nil))) da_nil)) da_nil))) (da_cons (fun _ _ ha hr => pa_cons ha hr) (de_tup (da_cons (fun _ _ ha hr => pa_cons ha hr) de_int (da_cons (fun _ _ ha hr => pa_cons ha hr) de_int (da_cons (fun _ _ ha hr => pa_cons ha hr) de_int da_nil)))) (da_cons (fun _ _ ha hr => pa_cons ha hr) (de_tup (da_cons (fun _ _ ha hr => pa_cons ha hr) (de_tup (da_cons (fun _ _ ha hr => pa_cons ha hr) de_str da_nil)) (da_cons (fun _ _ ha hr => pa_cons ha hr) (de_tup (da_cons (fun _ _ ha hr => pa_cons ha hr) de_str (da_cons (fun _ _ ha hr => pa_cons ha hr) de_int da_nil))) da_nil))) (da_cons (fun _ _ ha hr => pa_cons ha hr) (de_tup (da_cons (fun _ _ ha hr => pa_cons ha hr) de_str (da_cons (fun _ _ ha hr => pa_cons ha hr) de_int da_nil))) (da_cons (fun _ _ ha hr => pa_cons ha hr) de_str da_nil)))))))) (dss_cons (ds_if (DW.dt (dw_or (dt_eq hu (de_var 1 (pv 1)) de_int) (dw_or1 (dt_lt (de_callV (ok_law_under T) (.inl rfl) tk (hr.mono (by omega)) rfl T.g_law_under T.F_law_under.kp T.b_law_under (pv 0) (as_cons de_int as_nil)) de_int)))) (dss_one (ds_ret (de_callV (ok_law_some T) (.inl rfl) tk (hr.mono (by omega)) rfl T.g_law_some T.F_law_some.kp T.b_law_some (pv 0) (as_cons (de_var 2 (pv 2)) as_nil)))) dss_nil) (dss_cons (ds_setLc (i := 3) (own := [("part", 4)]) rfl sc0.nd rfl rfl (sw_true rfl rfl rfl (by decide +kernel)) (di_range1 rfl T.n_range (da_cons (fun _ _ ha hr => pa_cons ha hr) (de_callV (ok_law_under T) (.inl rfl) tk (hr.mono (by omega)) rfl T.g_law_under T.F_law_under.kp T.b_law_under (pv 0) (as_cons de_int as_nil)) da_nil)) (blkOk_by (own := [("part", 4)]) (N := NM_law_odd) (sc := defScope s_law_odd) (by decide +kernel)) (fun _ _ _ _ _ => (dv_name 4 (pg_name (i := 4) sc0.nd rfl (.inl rfl)))) (fun _ _ _ _ _ => dts_nil) (fun _ _ _ _ _ => (de_callV hrec (.inl rfl) takes0N (hr.mono (by omega)) rfl T.g_law_odd T.F_law_odd.kp T.b_law_odd (pv 0) (as_cons (de_sub (de_var 1 (pv 1)) de_int) as_nil)))) (dss_one (ds_ret (de_ifExp (dt_eq hu (de_callV (ok_law_under T) (.inl rfl) tk (hr.mono (by omega)) rfl T.g_law_under T.F_law_under.kp T.b_law_under (pv 0) (as_cons de_int as_nil)) de_int) (de_var 3 (pv 3)) (de_bltT call_tuple_of rd_tuple rfl T.n_tuple (by decide +kernel) (da_cons (fun _ _ ha hr => pa_cons ha hr) (de_var 3 (pv 3)) da_nil)))))))))
theorem ok_law_odd (T : Tx K mg) : ∀ n, FnOk P w K mg base (L2N.CX P w) (3 + n) T.f_law_odd T.d_law_odd ["vat", "depth"] (spF kd0 mg 2 (N_law_odd n))
  | 0 => fn_bad
  | n + 1 => raw_law_odd T (Nat.le_add_right _ _) (ok_law_odd T n)
theorem sc_law_by : FnScope NM_law_by ["call", "one", "other"] (defScope s_law_by) := ⟨rfl, rfl, rfl, by decide +kernel, rfl, by decide +kernel, by decide +kernel⟩
theorem ok_law_by (T : Tx K mg) (TB : ∀ p ∈ T.cs, LamX.TabB base mg p.1 p.2) (sc : Option (Addr × List Int)) {kf : Nat} {gv : Addr} {gd : FuncData} {gps : List Str} {Fv : Fn} (Fk : FnOk P w K mg base (L2N.CX P w) kf gv gd gps (spF kd0 mg 2 Fv)) (hkf : kf ≤ 36) (hkk : PySem.W.keepIn K (.ref gv) = true) (hbk : Binds K gd gps []) : FnOk P w K mg base (L2N.CX P w) 40 T.f_law_by T.d_law_by ["call", "one", "other"] (spF (kdS K T.tabs sc) mg 3 (N_law_by sc gv Fv)) := by
  refine fn_dlT (N := NM_law_by) T.F_law_by T.h_law_by sc_law_by (fun cdv hcd A outer s H E hr => ?_) (by decide)
  have sc0 := sc_law_by
  have tk := takes_fn (P := P) (w := w) (K := K) (mg := mg) (base := base) (N := NM_law_by) (qual := "_law_by") (scope := defScope s_law_by) (f := T.f_law_by) (cdv := cdv) (A := A) (outer := outer) (s := s) (H := H) (E := E)
  have hu := hr.units
  have hu5 := room5 hr
  have LA : LamAt (cxOf (L2N.CX P w) P w K mg base NM_law_by "_law_by" (defScope s_law_by) T.f_law_by cdv A outer s H E) T.tabs T.c_law_by T.p_law_by := ⟨TB (T.c_law_by, T.p_law_by) (by simp [Tx.cs]), hcd, (show (T.p_law_by, lamQ "_law_by") ∈ T.tabs from List.mem_cons_self), fun p hp hq => by
    simp only [Tx.tabs, List.mem_cons, List.not_mem_nil, or_false] at hp
    rcases hp with rfl | rfl | rfl | rfl
    · rfl
    · first | exact absurd hq T.pn_law_by_law_course_calls | exact absurd hq.symm T.pn_law_by_law_course_calls
    · first | exact absurd hq T.pn_law_by_law_facts_calls | exact absurd hq.symm T.pn_law_by_law_facts_calls
    · first | exact absurd hq T.pn_law_by_law | exact absurd hq.symm T.pn_law_by_law⟩
  exact (dss_one (ds_ret (de_lawerr (nm := nmS) (k := 37) rfl T.errdef (names_ok T) T.F_law_names.kp T.b_law_names LA (hr.mono (by decide)) (by decide) T.hsub (show LamX.LamS (defScope s_law_by) _ from LamX.lamS_by (by decide +kernel)) rfl (fun _ _ _ _ _ => rfl) (fun A outer s H E f c2 hr => (de_callX 0 Fk (.inl rfl) takes_lam (hr.mono (by omega)) (pv 0) hkk hbk (as_cons (de_var 1 (pv 1)) (as_cons (de_var 2 (pv 2)) as_nil)))))))
theorem sc_need_stair : FnScope NM_need_stair ["stair"] (defScope s_need_stair) := ⟨rfl, rfl, rfl, by decide +kernel, rfl, by decide +kernel, by decide +kernel⟩
theorem ok_need_stair (T : Tx K mg) : FnOk P w K mg base (L2N.CX P w) 4 T.f_need_stair T.d_need_stair ["stair"] (spF kd0 mg 1 (N_need_stair)) := by
  refine fn_dl (N := NM_need_stair) T.F_need_stair sc_need_stair (fun cdv A outer s H E hr => ?_) (by decide)
  have sc0 := sc_need_stair
  have tk := takes_fn (P := P) (w := w) (K := K) (mg := mg) (base := base) (N := NM_need_stair) (qual := "need_stair") (scope := defScope s_need_stair) (f := T.f_need_stair) (cdv := cdv) (A := A) (outer := outer) (s := s) (H := H) (E := E)
  have hu := hr.units
  have hu5 := room5 hr
  exact (dss_one (ds_if (dt_not (dt_val (de_call (ok_has_stair T) (.inl rfl) tk (hr.mono (by decide)) rfl T.g_has_stair T.F_has_stair.kp T.b_has_stair (as_cons (de_var 0 (pv 0)) as_nil)))) (dss_one (ds_raise rfl tk PySem.F.excBase_ValueError T.x_InvalidStair T.c_InvalidStair T.k_InvalidStair (raises_own T.sb_InvalidStair T.ty_InvalidStair) rfl)) dss_nil))
theorem sc_need_course : FnScope NM_need_course ["course"] (defScope s_need_course) := ⟨rfl, rfl, rfl, by decide +kernel, rfl, by decide +kernel, by decide +kernel⟩
theorem ok_need_course (T : Tx K mg) : FnOk P w K mg base (L2N.CX P w) 4 T.f_need_course T.d_need_course ["course"] (spF kd0 mg 1 (N_need_course)) := by
  refine fn_dl (N := NM_need_course) T.F_need_course sc_need_course (fun cdv A outer s H E hr => ?_) (by decide)
  have sc0 := sc_need_course
  have tk := takes_fn (P := P) (w := w) (K := K) (mg := mg) (base := base) (N := NM_need_course) (qual := "need_course") (scope := defScope s_need_course) (f := T.f_need_course) (cdv := cdv) (A := A) (outer := outer) (s := s) (H := H) (E := E)
  have hu := hr.units
  have hu5 := room5 hr
  exact (dss_one (ds_if (dt_not (dt_val (de_call (ok_has_course T) (.inl rfl) tk (hr.mono (by decide)) rfl T.g_has_course T.F_has_course.kp T.b_has_course (as_cons (de_var 0 (pv 0)) as_nil)))) (dss_one (ds_raise rfl tk PySem.F.excBase_ValueError T.x_InvalidCourse T.c_InvalidCourse T.k_InvalidCourse (raises_own T.sb_InvalidCourse T.ty_InvalidCourse) rfl)) dss_nil))
theorem sc_need_facts : FnScope NM_need_facts ["course", "facts"] (defScope s_need_facts) := ⟨rfl, rfl, rfl, by decide +kernel, rfl, by decide +kernel, by decide +kernel⟩
theorem ok_need_facts (T : Tx K mg) : FnOk P w K mg base (L2N.CX P w) 4 T.f_need_facts T.d_need_facts ["course", "facts"] (spF kd0 mg 2 (N_need_facts)) := by
  refine fn_dl (N := NM_need_facts) T.F_need_facts sc_need_facts (fun cdv A outer s H E hr => ?_) (by decide)
  have sc0 := sc_need_facts
  have tk := takes_fn (P := P) (w := w) (K := K) (mg := mg) (base := base) (N := NM_need_facts) (qual := "need_facts") (scope := defScope s_need_facts) (f := T.f_need_facts) (cdv := cdv) (A := A) (outer := outer) (s := s) (H := H) (E := E)
  have hu := hr.units
  have hu5 := room5 hr
  exact (dss_one (ds_if (dt_not (dt_val (de_call (ok_has_facts T) (.inl rfl) tk (hr.mono (by decide)) rfl T.g_has_facts T.F_has_facts.kp T.b_has_facts (as_cons (de_var 0 (pv 0)) (as_cons (de_var 1 (pv 1)) as_nil))))) (dss_one (ds_raise rfl tk PySem.F.excBase_ValueError T.x_InvalidFacts T.c_InvalidFacts T.k_InvalidFacts (raises_own T.sb_InvalidFacts T.ty_InvalidFacts) rfl)) dss_nil))
theorem sc_law_course : FnScope NM_law_course ["vat", "most"] (defScope s_law_course) := ⟨rfl, rfl, rfl, by decide +kernel, rfl, by decide +kernel, by decide +kernel⟩
theorem ok_law_course (T : Tx K mg) : FnOk P w K mg base (L2N.CX P w) 4 T.f_law_course T.d_law_course ["vat", "most"] (spF kd0 mg 2 (N_law_course)) := by
  refine fn_dl (N := NM_law_course) T.F_law_course sc_law_course (fun cdv A outer s H E hr => ?_) (by decide)
  have sc0 := sc_law_course
  have tk := takes_fn (P := P) (w := w) (K := K) (mg := mg) (base := base) (N := NM_law_course) (qual := "_law_course") (scope := defScope s_law_course) (f := T.f_law_course) (cdv := cdv) (A := A) (outer := outer) (s := s) (H := H) (E := E)
  have hu := hr.units
  have hu5 := room5 hr
  exact (dss_cons (ds_par2 (i := 2) (j := 3) (fun ha => ps_par rfl sc0.nd rfl rfl (by decide) rfl rfl ha (by rfl)) (da_cons (fun _ _ ha hr => pa_cons ha hr) (de_tup (da_cons (fun _ _ ha hr => pa_cons ha hr) (de_tup (da_cons (fun _ _ ha hr => pa_cons ha hr) de_str da_nil)) da_nil)) (da_cons (fun _ _ ha hr => pa_cons ha hr) (de_lst (da_cons (fun _ _ ha hr => pa_cons ha hr) de_str (da_cons (fun _ _ ha hr => pa_cons ha hr) de_str (da_cons (fun _ _ ha hr => pa_cons ha hr) de_str (da_cons (fun _ _ ha hr => pa_cons ha hr) de_str (da_cons (fun _ _ ha hr => pa_cons ha hr) de_str (da_cons (fun _ _ ha hr => pa_cons ha hr) de_str (da_cons (fun _ _ ha hr => pa_cons ha hr) de_str (da_cons (fun _ _ ha hr => pa_cons ha hr) de_str da_nil))))))))) da_nil))) (dss_cons (ds_for (passes_of rfl) rfl (di_range1 rfl T.n_range (da_cons (fun _ _ ha hr => pa_cons ha hr) (de_add de_int (de_callV (ok_law_under T) (.inl rfl) tk (hr.mono (by decide)) rfl T.g_law_under T.F_law_under.kp T.b_law_under (pv 0) (as_cons (de_sub (de_var 1 (pv 1)) de_int) as_nil))) da_nil)) (dg_name 4 (pg_name (i := 4) sc0.nd rfl (.inl rfl))) (dss_cons (ds_par2 (i := 5) (j := 6) (fun ha => ps_par rfl sc0.nd rfl rfl (by decide) rfl rfl ha (by rfl)) (da_cons (fun _ _ ha hr => pa_cons ha hr) (de_callV (ok_law_some T) (.inl rfl) tk (hr.mono (by decide)) rfl T.g_law_some T.F_law_some.kp T.b_law_some (pv 0) (as_cons (de_var 3 (pv 3)) as_nil)) (da_cons (fun _ _ ha hr => pa_cons ha hr) (de_blt call_len rd_len rfl T.n_len (by decide +kernel) (da_cons (fun _ _ ha hr => pa_cons ha hr) (de_var 2 (pv 2)) da_nil)) da_nil))) (dss_cons (ds_par2 (i := 7) (j := 8) (fun ha => ps_par rfl sc0.nd rfl rfl (by decide) rfl rfl ha (by rfl)) (da_cons (fun _ _ ha hr => pa_cons ha hr) (de_callV (ok_law_under T) (.inl rfl) tk (hr.mono (by decide)) rfl T.g_law_under T.F_law_under.kp T.b_law_under (pv 0) (as_cons (de_var 6 (pv 6)) as_nil)) (da_cons (fun _ _ ha hr => pa_cons ha hr) (de_callV (ok_law_under T) (.inl rfl) tk (hr.mono (by decide)) rfl T.g_law_under T.F_law_under.kp T.b_law_under (pv 0) (as_cons (de_var 6 (pv 6)) as_nil)) da_nil))) (dss_cons (ds_set 9 (fun h => ps_set (i := 9) sc0.nd rfl (.inl rfl) h) (de_tup (da_cons (fun _ _ ha hr => pa_cons ha hr) (de_var 5 (pv 5)) (da_cons (fun _ _ ha hr => pa_cons ha hr) (de_var 7 (pv 7)) da_nil)))) (dss_cons (ds_if (dt_eq hu (de_var 5 (pv 5)) de_str) (dss_one (ds_set 9 (fun h => ps_set (i := 9) sc0.nd rfl (.inl rfl) h) (de_tup (da_cons (fun _ _ ha hr => pa_cons ha hr) de_str da_nil)))) dss_nil) (dss_cons (ds_if (dt_eq hu (de_var 5 (pv 5)) de_str) (dss_one (ds_set 9 (fun h => ps_set (i := 9) sc0.nd rfl (.inl rfl) h) (de_tup (da_cons (fun _ _ ha hr => pa_cons ha hr) de_str (da_cons (fun _ _ ha hr => pa_cons ha hr) (de_callV (ok_law_some T) (.inl rfl) tk (hr.mono (by decide)) rfl T.g_law_some T.F_law_some.kp T.b_law_some (pv 0) (as_cons (de_lst (da_cons (fun _ _ ha hr => pa_cons ha hr) de_int (da_cons (fun _ _ ha hr => pa_cons ha hr) de_int (da_cons (fun _ _ ha hr => pa_cons ha hr) de_int (da_cons (fun _ _ ha hr => pa_cons ha hr) (de_neg de_int) (da_cons (fun _ _ ha hr => pa_cons ha hr) de_int da_nil)))))) as_nil)) da_nil))))) dss_nil) (dss_cons (ds_if (dt_eq hu (de_var 5 (pv 5)) de_str) (dss_one (ds_set 9 (fun h => ps_set (i := 9) sc0.nd rfl (.inl rfl) h) (de_tup (da_cons (fun _ _ ha hr => pa_cons ha hr) de_str (da_cons (fun _ _ ha hr => pa_cons ha hr) (de_var 7 (pv 7)) (da_cons (fun _ _ ha hr => pa_cons ha hr) (de_sub (de_callV (ok_law_under T) (.inl rfl) tk (hr.mono (by decide)) rfl T.g_law_under T.F_law_under.kp T.b_law_under (pv 0) (as_cons de_int as_nil)) de_int) da_nil)))))) dss_nil) (dss_cons (ds_if (dt_in hu5 (de_var 5 (pv 5)) (de_lst (da_cons (fun _ _ ha hr => pa_cons ha hr) de_str (da_cons (fun _ _ ha hr => pa_cons ha hr) de_str da_nil))) (by with_unfolding_all rfl)) (dss_one (ds_set 9 (fun h => ps_set (i := 9) sc0.nd rfl (.inl rfl) h) (de_ifExp (dt_ne hu (de_var 7 (pv 7)) (de_var 8 (pv 8))) (de_tup (da_cons (fun _ _ ha hr => pa_cons ha hr) (de_var 5 (pv 5)) (da_cons (fun _ _ ha hr => pa_cons ha hr) (de_var 7 (pv 7)) (da_cons (fun _ _ ha hr => pa_cons ha hr) (de_var 8 (pv 8)) da_nil)))) (de_tup (da_cons (fun _ _ ha hr => pa_cons ha hr) de_str (da_cons (fun _ _ ha hr => pa_cons ha hr) (de_var 7 (pv 7)) da_nil)))))) dss_nil) (dss_one (ds_if (dt_val (de_call (ok_law_is_course T) (.inl rfl) tk (hr.mono (by decide)) rfl T.g_law_is_course T.F_law_is_course.kp T.b_law_is_course (as_cons (de_add (de_var 2 (pv 2)) (de_tup (da_cons (fun _ _ ha hr => pa_cons ha hr) (de_var 9 (pv 9)) da_nil))) as_nil))) (dss_one (ds_set 2 (fun h => ps_set (i := 2) sc0.nd rfl (.inl rfl) h) (de_add (de_var 2 (pv 2)) (de_tup (da_cons (fun _ _ ha hr => pa_cons ha hr) (de_var 9 (pv 9)) da_nil))))) dss_nil)))))))))) (dss_one (ds_ret (de_var 2 (pv 2))))))
theorem sc_law_bent : FnScope NM_law_bent ["vat", "value"] (defScope s_law_bent) := ⟨rfl, rfl, rfl, by decide +kernel, rfl, by decide +kernel, by decide +kernel⟩
theorem raw_law_bent (T : Tx K mg) {F : Fn} {m : Nat} (hm : 7 ≤ m) (hrec : FnOk P w K mg base (L2N.CX P w) m T.f_law_bent T.d_law_bent ["vat", "value"] (spF kd0 mg 2 F)) : FnOk P w K mg base (L2N.CX P w) (m + 1) T.f_law_bent T.d_law_bent ["vat", "value"] (spF kd0 mg 2 (defF 5 (S_law_bent F))) := by
  refine fn_dl (N := NM_law_bent) T.F_law_bent sc_law_bent (fun cdv A outer s H E hr => ?_) (by decide)
  have sc0 := sc_law_bent
  have tk := takes_fn (P := P) (w := w) (K := K) (mg := mg) (base := base) (N := NM_law_bent) (qual := "_law_bent") (scope := defScope s_law_bent) (f := T.f_law_bent) (cdv := cdv) (A := A) (outer := outer) (s := s) (H := H) (E := E)
  have hu := hr.units
  have hu5 := room5 hr
  exact (dss_cons (ds_if (DW.dt (dw_or (dt_not (dt_val (de_isi (T := "tuple") rfl T.n_isinstance rfl T.n_tuple (by decide +kernel) (de_var 1 (pv 1))))) (dw_or (dt_eq hu (de_var 1 (pv 1)) (de_tup da_nil)) (dw_or1 (dt_eq hu (de_callV (ok_law_under T) (.inl rfl) tk (hr.mono (by omega)) rfl T.g_law_under T.F_law_under.kp T.b_law_under (pv 0) (as_cons de_int as_nil)) de_int))))) (dss_cons (ds_set 2 (fun h => ps_set (i := 2) sc0.nd rfl (.inl rfl) h) (de_lst (da_cons (fun _ _ ha hr => pa_cons ha hr) (de_callV (ok_law_odd T 3) (.inl rfl) tk (hr.mono (by omega)) rfl T.g_law_odd T.F_law_odd.kp T.b_law_odd (pv 0) (as_cons de_int as_nil)) (da_cons (fun _ _ ha hr => pa_cons ha hr) (de_callV (ok_law_odd T 3) (.inl rfl) tk (hr.mono (by omega)) rfl T.g_law_odd T.F_law_odd.kp T.b_law_odd (pv 0) (as_cons de_int as_nil)) da_nil)))) (dss_cons (ds_if (dt_val (de_isi (T := "str") rfl T.n_isinstance rfl T.n_str (by decide +kernel) (de_var 1 (pv 1)))) (dss_one (ds_set 2 (fun h => ps_set (i := 2) sc0.nd rfl (.inl rfl) h) (de_addB (de_var 2 (pv 2)) (de_lst (da_cons (fun _ _ ha hr => pa_cons ha hr) de_str (da_cons (fun _ _ ha hr => pa_cons ha hr) de_str (da_cons (fun _ _ ha hr => pa_cons ha hr) de_str (da_cons (fun _ _ ha hr => pa_cons ha hr) de_str (da_cons (fun _ _ ha hr => pa_cons ha hr) (de_slice (de_var 1 (pv 1)) do_none (do_some (de_negB de_int))) (da_cons (fun _ _ ha hr => pa_cons ha hr) (de_upper (de_var 1 (pv 1))) (da_cons (fun _ _ ha hr => pa_cons ha hr) de_str da_nil))))))))))) (dss_one (ds_if (dt_val (de_isi (T := "int") rfl T.n_isinstance rfl T.n_int (by decide +kernel) (de_var 1 (pv 1)))) (dss_one (ds_set 2 (fun h => ps_set (i := 2) sc0.nd rfl (.inl rfl) h) (de_addB (de_var 2 (pv 2)) (de_lst (da_cons (fun _ _ ha hr => pa_cons ha hr) (de_addB (de_var 1 (pv 1)) de_int) (da_cons (fun _ _ ha hr => pa_cons ha hr) (de_subB (de_var 1 (pv 1)) de_int) (da_cons (fun _ _ ha hr => pa_cons ha hr) (de_notB (de_var 1 (pv 1))) (da_cons (fun _ _ ha hr => pa_cons ha hr) (de_bltT call_strB rd_strB rfl T.n_str (by decide +kernel) (da_cons (fun _ _ ha hr => pa_cons ha hr) (de_var 1 (pv 1)) da_nil)) (da_cons (fun _ _ ha hr => pa_cons ha hr) (de_negB (de_var 1 (pv 1))) da_nil))))))))) dss_nil))) (dss_one (ds_ret (de_callV (ok_law_some T) (.inl rfl) tk (hr.mono (by omega)) rfl T.g_law_some T.F_law_some.kp T.b_law_some (pv 0) (as_cons (de_var 2 (pv 2)) as_nil)))))) dss_nil) (dss_cons (ds_par2 (i := 3) (j := 4) (fun ha => ps_par rfl sc0.nd rfl rfl (by decide) rfl rfl ha (by rfl)) (da_cons (fun _ _ ha hr => pa_cons ha hr) (de_callV (ok_law_under T) (.inl rfl) tk (hr.mono (by omega)) rfl T.g_law_under T.F_law_under.kp T.b_law_under (pv 0) (as_cons (de_blt call_len rd_len rfl T.n_len (by decide +kernel) (da_cons (fun _ _ ha hr => pa_cons ha hr) (de_var 1 (pv 1)) da_nil)) as_nil)) (da_cons (fun _ _ ha hr => pa_cons ha hr) (de_callV (ok_law_under T) (.inl rfl) tk (hr.mono (by omega)) rfl T.g_law_under T.F_law_under.kp T.b_law_under (pv 0) (as_cons de_int as_nil)) da_nil))) (dss_cons (ds_if (dt_eq hu (de_var 4 (pv 4)) de_int) (dss_one (ds_ret (de_addB (de_slice (de_var 1 (pv 1)) do_none (do_some (de_var 3 (pv 3)))) (de_slice (de_var 1 (pv 1)) (do_some (de_addB (de_var 3 (pv 3)) de_int)) do_none)))) dss_nil) (dss_cons (ds_if (dt_eq hu (de_var 4 (pv 4)) de_int) (dss_one (ds_ret (de_addB (de_slice (de_var 1 (pv 1)) do_none (do_some (de_addB (de_var 3 (pv 3)) de_int))) (de_slice (de_var 1 (pv 1)) (do_some (de_var 3 (pv 3))) do_none)))) dss_nil) (dss_cons (ds_if (dt_eq hu (de_var 4 (pv 4)) de_int) (dss_one (ds_ret (de_revT (de_var 1 (pv 1))))) dss_nil) (dss_cons (ds_if (dt_eq hu (de_var 4 (pv 4)) de_int) (dss_one (ds_ret (de_bltT call_list_of rd_list rfl T.n_list (by decide +kernel) (da_cons (fun _ _ ha hr => pa_cons ha hr) (de_var 1 (pv 1)) da_nil)))) dss_nil) (dss_one (ds_ret (de_addB (de_addB (de_slice (de_var 1 (pv 1)) do_none (do_some (de_var 3 (pv 3)))) (de_tup (da_cons (fun _ _ ha hr => pa_cons ha hr) (de_callV hrec (.inl rfl) tk (hr.mono (by omega)) rfl T.g_law_bent T.F_law_bent.kp T.b_law_bent (pv 0) (as_cons (de_ix (de_var 1 (pv 1)) (de_var 3 (pv 3)) (fun _ _ => rfl)) as_nil)) da_nil))) (de_slice (de_var 1 (pv 1)) (do_some (de_addB (de_var 3 (pv 3)) de_int)) do_none))))))))))
theorem ok_law_bent (T : Tx K mg) : ∀ n, FnOk P w K mg base (L2N.CX P w) (7 + n) T.f_law_bent T.d_law_bent ["vat", "value"] (spF kd0 mg 2 (N_law_bent n))
  | 0 => fn_bad
  | n + 1 => raw_law_bent T (Nat.le_add_right _ _) (ok_law_bent T n)
theorem sc_are_given : FnScope NM_are_given ["course", "value"] (defScope s_are_given) := ⟨rfl, rfl, rfl, by decide +kernel, rfl, by decide +kernel, by decide +kernel⟩
theorem ok_are_given (T : Tx K mg) : FnOk P w K mg base (L2N.CX P w) 5 T.f_are_given T.d_are_given ["course", "value"] (spF kd0 mg 2 (N_are_given)) := by
  refine fn_dl (N := NM_are_given) T.F_are_given sc_are_given (fun cdv A outer s H E hr => ?_) (by decide)
  have sc0 := sc_are_given
  have tk := takes_fn (P := P) (w := w) (K := K) (mg := mg) (base := base) (N := NM_are_given) (qual := "are_given") (scope := defScope s_are_given) (f := T.f_are_given) (cdv := cdv) (A := A) (outer := outer) (s := s) (H := H) (E := E)
  have hu := hr.units
  have hu5 := room5 hr
  exact (dss_cons (ds_exp (de_call (ok_need_course T) (.inl rfl) tk (hr.mono (by decide)) rfl T.g_need_course T.F_need_course.kp T.b_need_course (as_cons (de_var 0 (pv 0)) as_nil))) (dss_one (ds_ret (de_call (ok_have_given T) (.inl rfl) tk (hr.mono (by decide)) rfl T.g_have_given T.F_have_given.kp T.b_have_given (as_cons (de_var 0 (pv 0)) (as_cons (de_var 1 (pv 1)) as_nil))))))
theorem sc_numbers : FnScope NM_numbers ["course", "stair", "given"] (defScope s_numbers) := ⟨rfl, rfl, rfl, by decide +kernel, rfl, by decide +kernel, by decide +kernel⟩
theorem ok_numbers (T : Tx K mg) : FnOk P w K mg base (L2N.CX P w) 5 T.f_numbers T.d_numbers ["course", "stair", "given"] (spF kd0 mg 3 (N_numbers)) := by
  refine fn_dl (N := NM_numbers) T.F_numbers sc_numbers (fun cdv A outer s H E hr => ?_) (by decide)
  have sc0 := sc_numbers
  have tk := takes_fn (P := P) (w := w) (K := K) (mg := mg) (base := base) (N := NM_numbers) (qual := "numbers") (scope := defScope s_numbers) (f := T.f_numbers) (cdv := cdv) (A := A) (outer := outer) (s := s) (H := H) (E := E)
  have hu := hr.units
  have hu5 := room5 hr
  exact (dss_cons (ds_exp (de_call (ok_need_course T) (.inl rfl) tk (hr.mono (by decide)) rfl T.g_need_course T.F_need_course.kp T.b_need_course (as_cons (de_var 0 (pv 0)) as_nil))) (dss_cons (ds_exp (de_call (ok_need_stair T) (.inl rfl) tk (hr.mono (by decide)) rfl T.g_need_stair T.F_need_stair.kp T.b_need_stair (as_cons (de_var 1 (pv 1)) as_nil))) (dss_cons (ds_exp (de_call (ok_need_given T) (.inl rfl) tk (hr.mono (by decide)) rfl T.g_need_given T.F_need_given.kp T.b_need_given (as_cons (de_var 0 (pv 0)) (as_cons (de_var 2 (pv 2)) as_nil)))) (dss_one (ds_ret (de_call (ok_all_numbers T) (.inl rfl) tk (hr.mono (by decide)) rfl T.g_all_numbers T.F_all_numbers.kp T.b_all_numbers (as_cons (de_var 0 (pv 0)) (as_cons (de_var 1 (pv 1)) (as_cons (de_var 2 (pv 2)) as_nil)))))))))
theorem sc_are_facts : FnScope NM_are_facts ["course", "value"] (defScope s_are_facts) := ⟨rfl, rfl, rfl, by decide +kernel, rfl, by decide +kernel, by decide +kernel⟩
theorem ok_are_facts (T : Tx K mg) : FnOk P w K mg base (L2N.CX P w) 5 T.f_are_facts T.d_are_facts ["course", "value"] (spF kd0 mg 2 (N_are_facts)) := by
  refine fn_dl (N := NM_are_facts) T.F_are_facts sc_are_facts (fun cdv A outer s H E hr => ?_) (by decide)
  have sc0 := sc_are_facts
  have tk := takes_fn (P := P) (w := w) (K := K) (mg := mg) (base := base) (N := NM_are_facts) (qual := "are_facts") (scope := defScope s_are_facts) (f := T.f_are_facts) (cdv := cdv) (A := A) (outer := outer) (s := s) (H := H) (E := E)
  have hu := hr.units
  have hu5 := room5 hr
  exact (dss_cons (ds_exp (de_call (ok_need_course T) (.inl rfl) tk (hr.mono (by decide)) rfl T.g_need_course T.F_need_course.kp T.b_need_course (as_cons (de_var 0 (pv 0)) as_nil))) (dss_one (ds_ret (de_call (ok_has_facts T) (.inl rfl) tk (hr.mono (by decide)) rfl T.g_has_facts T.F_has_facts.kp T.b_has_facts (as_cons (de_var 0 (pv 0)) (as_cons (de_var 1 (pv 1)) as_nil))))))
theorem sc_is_case : FnScope NM_is_case ["course", "facts", "value"] (defScope s_is_case) := ⟨rfl, rfl, rfl, by decide +kernel, rfl, by decide +kernel, by decide +kernel⟩
theorem ok_is_case (T : Tx K mg) : FnOk P w K mg base (L2N.CX P w) 5 T.f_is_case T.d_is_case ["course", "facts", "value"] (spF kd0 mg 3 (N_is_case)) := by
  refine fn_dl (N := NM_is_case) T.F_is_case sc_is_case (fun cdv A outer s H E hr => ?_) (by decide)
  have sc0 := sc_is_case
  have tk := takes_fn (P := P) (w := w) (K := K) (mg := mg) (base := base) (N := NM_is_case) (qual := "is_case") (scope := defScope s_is_case) (f := T.f_is_case) (cdv := cdv) (A := A) (outer := outer) (s := s) (H := H) (E := E)
  have hu := hr.units
  have hu5 := room5 hr
  exact (dss_cons (ds_exp (de_call (ok_need_course T) (.inl rfl) tk (hr.mono (by decide)) rfl T.g_need_course T.F_need_course.kp T.b_need_course (as_cons (de_var 0 (pv 0)) as_nil))) (dss_cons (ds_exp (de_call (ok_need_facts T) (.inl rfl) tk (hr.mono (by decide)) rfl T.g_need_facts T.F_need_facts.kp T.b_need_facts (as_cons (de_var 0 (pv 0)) (as_cons (de_var 1 (pv 1)) as_nil)))) (dss_cons (ds_if (DW.dt (dw_or (dt_not (dt_val (de_isi (T := "tuple") rfl T.n_isinstance rfl T.n_tuple (by decide +kernel) (de_var 2 (pv 2))))) (dw_or1 (dt_ne hu (de_blt call_len rd_len rfl T.n_len (by decide +kernel) (da_cons (fun _ _ ha hr => pa_cons ha hr) (de_var 2 (pv 2)) da_nil)) de_int)))) (dss_one (ds_ret de_bl)) dss_nil) (dss_cons (ds_if (DW.dt (dw_or (dt_not (dt_val (de_call (ok_has_stair T) (.inl rfl) tk (hr.mono (by decide)) rfl T.g_has_stair T.F_has_stair.kp T.b_has_stair (as_cons (de_ix (de_var 2 (pv 2)) de_int (fun _ _ => rfl)) as_nil)))) (dw_or1 (dt_not (dt_val (de_call (ok_have_given T) (.inl rfl) tk (hr.mono (by decide)) rfl T.g_have_given T.F_have_given.kp T.b_have_given (as_cons (de_var 0 (pv 0)) (as_cons (de_ix (de_var 2 (pv 2)) de_int (fun _ _ => rfl)) as_nil)))))))) (dss_one (ds_ret de_bl)) dss_nil) (dss_one (ds_ret (de_call (ok_are_so T) (.inl rfl) tk (hr.mono (by decide)) rfl T.g_are_so T.F_are_so.kp T.b_are_so (as_cons (de_call (ok_all_numbers T) (.inl rfl) tk (hr.mono (by decide)) rfl T.g_all_numbers T.F_all_numbers.kp T.b_all_numbers (as_cons (de_var 0 (pv 0)) (as_cons (de_ix (de_var 2 (pv 2)) de_int (fun _ _ => rfl)) (as_cons (de_ix (de_var 2 (pv 2)) de_int (fun _ _ => rfl)) as_nil)))) (as_cons (de_var 1 (pv 1)) as_nil)))))))))
theorem sc_case_for : FnScope NM_case_for ["course", "facts"] (defScope s_case_for) := ⟨rfl, rfl, rfl, by decide +kernel, rfl, by decide +kernel, by decide +kernel⟩
theorem ok_case_for (T : Tx K mg) : FnOk P w K mg base (L2N.CX P w) 5 T.f_case_for T.d_case_for ["course", "facts"] (spF kd0 mg 2 (N_case_for)) := by
  refine fn_dl (N := NM_case_for) T.F_case_for sc_case_for (fun cdv A outer s H E hr => ?_) (by decide)
  have sc0 := sc_case_for
  have tk := takes_fn (P := P) (w := w) (K := K) (mg := mg) (base := base) (N := NM_case_for) (qual := "case_for") (scope := defScope s_case_for) (f := T.f_case_for) (cdv := cdv) (A := A) (outer := outer) (s := s) (H := H) (E := E)
  have hu := hr.units
  have hu5 := room5 hr
  exact (dss_cons (ds_exp (de_call (ok_need_course T) (.inl rfl) tk (hr.mono (by decide)) rfl T.g_need_course T.F_need_course.kp T.b_need_course (as_cons (de_var 0 (pv 0)) as_nil))) (dss_cons (ds_exp (de_call (ok_need_facts T) (.inl rfl) tk (hr.mono (by decide)) rfl T.g_need_facts T.F_need_facts.kp T.b_need_facts (as_cons (de_var 0 (pv 0)) (as_cons (de_var 1 (pv 1)) as_nil)))) (dss_one ds_bad)))
theorem sc_need_all : FnScope NM_need_all ["course", "facts", "claim"] (defScope s_need_all) := ⟨rfl, rfl, rfl, by decide +kernel, rfl, by decide +kernel, by decide +kernel⟩
theorem ok_need_all (T : Tx K mg) : FnOk P w K mg base (L2N.CX P w) 5 T.f_need_all T.d_need_all ["course", "facts", "claim"] (spF kd0 mg 3 (N_need_all)) := by
  refine fn_dl (N := NM_need_all) T.F_need_all sc_need_all (fun cdv A outer s H E hr => ?_) (by decide)
  have sc0 := sc_need_all
  have tk := takes_fn (P := P) (w := w) (K := K) (mg := mg) (base := base) (N := NM_need_all) (qual := "need_all") (scope := defScope s_need_all) (f := T.f_need_all) (cdv := cdv) (A := A) (outer := outer) (s := s) (H := H) (E := E)
  have hu := hr.units
  have hu5 := room5 hr
  exact (dss_cons (ds_exp (de_call (ok_need_course T) (.inl rfl) tk (hr.mono (by decide)) rfl T.g_need_course T.F_need_course.kp T.b_need_course (as_cons (de_var 0 (pv 0)) as_nil))) (dss_cons (ds_exp (de_call (ok_need_facts T) (.inl rfl) tk (hr.mono (by decide)) rfl T.g_need_facts T.F_need_facts.kp T.b_need_facts (as_cons (de_var 0 (pv 0)) (as_cons (de_var 1 (pv 1)) as_nil)))) (dss_one (ds_exp (de_call (ok_need_fact T) (.inl rfl) tk (hr.mono (by decide)) rfl T.g_need_fact T.F_need_fact.kp T.b_need_fact (as_cons (de_var 0 (pv 0)) (as_cons (de_var 2 (pv 2)) as_nil)))))))
theorem sc_need_two : FnScope NM_need_two ["course", "facts", "one", "other"] (defScope s_need_two) := ⟨rfl, rfl, rfl, by decide +kernel, rfl, by decide +kernel, by decide +kernel⟩
theorem ok_need_two (T : Tx K mg) : FnOk P w K mg base (L2N.CX P w) 5 T.f_need_two T.d_need_two ["course", "facts", "one", "other"] (spF kd0 mg 4 (N_need_two)) := by
  refine fn_dl (N := NM_need_two) T.F_need_two sc_need_two (fun cdv A outer s H E hr => ?_) (by decide)
  have sc0 := sc_need_two
  have tk := takes_fn (P := P) (w := w) (K := K) (mg := mg) (base := base) (N := NM_need_two) (qual := "need_two") (scope := defScope s_need_two) (f := T.f_need_two) (cdv := cdv) (A := A) (outer := outer) (s := s) (H := H) (E := E)
  have hu := hr.units
  have hu5 := room5 hr
  exact (dss_cons (ds_exp (de_call (ok_need_course T) (.inl rfl) tk (hr.mono (by decide)) rfl T.g_need_course T.F_need_course.kp T.b_need_course (as_cons (de_var 0 (pv 0)) as_nil))) (dss_cons (ds_exp (de_call (ok_need_facts T) (.inl rfl) tk (hr.mono (by decide)) rfl T.g_need_facts T.F_need_facts.kp T.b_need_facts (as_cons (de_var 0 (pv 0)) (as_cons (de_var 1 (pv 1)) as_nil)))) (dss_one (ds_exp (de_call (ok_need_indices T) (.inl rfl) tk (hr.mono (by decide)) rfl T.g_need_indices T.F_need_indices.kp T.b_need_indices (as_cons (de_var 0 (pv 0)) (as_cons (de_var 2 (pv 2)) (as_cons (de_var 3 (pv 3)) as_nil))))))))
theorem sc_need_like : FnScope NM_need_like ["one_course", "other_course"] (defScope s_need_like) := ⟨rfl, rfl, rfl, by decide +kernel, rfl, by decide +kernel, by decide +kernel⟩
theorem ok_need_like (T : Tx K mg) : FnOk P w K mg base (L2N.CX P w) 5 T.f_need_like T.d_need_like ["one_course", "other_course"] (spF kd0 mg 2 (N_need_like)) := by
  refine fn_dl (N := NM_need_like) T.F_need_like sc_need_like (fun cdv A outer s H E hr => ?_) (by decide)
  have sc0 := sc_need_like
  have tk := takes_fn (P := P) (w := w) (K := K) (mg := mg) (base := base) (N := NM_need_like) (qual := "need_like") (scope := defScope s_need_like) (f := T.f_need_like) (cdv := cdv) (A := A) (outer := outer) (s := s) (H := H) (E := E)
  have hu := hr.units
  have hu5 := room5 hr
  exact (dss_cons (ds_exp (de_call (ok_need_course T) (.inl rfl) tk (hr.mono (by decide)) rfl T.g_need_course T.F_need_course.kp T.b_need_course (as_cons (de_var 0 (pv 0)) as_nil))) (dss_cons (ds_exp (de_call (ok_need_course T) (.inl rfl) tk (hr.mono (by decide)) rfl T.g_need_course T.F_need_course.kp T.b_need_course (as_cons (de_var 1 (pv 1)) as_nil))) (dss_cons (ds_if (dt_ne hu (de_blt call_len rd_len rfl T.n_len (by decide +kernel) (da_cons (fun _ _ ha hr => pa_cons ha hr) (de_call (ok_steps_with T) (.inl rfl) tk (hr.mono (by decide)) rfl T.g_steps_with T.F_steps_with.kp T.b_steps_with (as_cons (de_var 0 (pv 0)) (as_cons (de_tup (da_cons (fun _ _ ha hr => pa_cons ha hr) de_str da_nil)) as_nil))) da_nil)) (de_blt call_len rd_len rfl T.n_len (by decide +kernel) (da_cons (fun _ _ ha hr => pa_cons ha hr) (de_call (ok_steps_with T) (.inl rfl) tk (hr.mono (by decide)) rfl T.g_steps_with T.F_steps_with.kp T.b_steps_with (as_cons (de_var 1 (pv 1)) (as_cons (de_tup (da_cons (fun _ _ ha hr => pa_cons ha hr) de_str da_nil)) as_nil))) da_nil))) (dss_one (ds_raise rfl tk PySem.F.excBase_ValueError T.x_Unlike T.c_Unlike T.k_Unlike (raises_own T.sb_Unlike T.ty_Unlike) rfl)) dss_nil) (dss_one (ds_if (dt_gt (de_add (de_blt call_len rd_len rfl T.n_len (by decide +kernel) (da_cons (fun _ _ ha hr => pa_cons ha hr) (de_call (ok_steps_with T) (.inl rfl) tk (hr.mono (by decide)) rfl T.g_steps_with T.F_steps_with.kp T.b_steps_with (as_cons (de_var 0 (pv 0)) (as_cons (de_tup (da_cons (fun _ _ ha hr => pa_cons ha hr) de_str da_nil)) as_nil))) da_nil)) (de_blt call_len rd_len rfl T.n_len (by decide +kernel) (da_cons (fun _ _ ha hr => pa_cons ha hr) (de_call (ok_steps_with T) (.inl rfl) tk (hr.mono (by decide)) rfl T.g_steps_with T.F_steps_with.kp T.b_steps_with (as_cons (de_var 1 (pv 1)) (as_cons (de_tup (da_cons (fun _ _ ha hr => pa_cons ha hr) de_str da_nil)) as_nil))) da_nil))) (de_glob rfl T.v_MOST_PUTS)) (dss_one ds_bad) dss_nil)))))
theorem sc_needless_facts : FnScope NM_needless_facts ["course", "facts"] (defScope s_needless_facts) := ⟨rfl, rfl, rfl, by decide +kernel, rfl, by decide +kernel, by decide +kernel⟩
theorem ok_needless_facts (T : Tx K mg) : FnOk P w K mg base (L2N.CX P w) 5 T.f_needless_facts T.d_needless_facts ["course", "facts"] (spF kd0 mg 2 (N_needless_facts)) := by
  refine fn_dl (N := NM_needless_facts) T.F_needless_facts sc_needless_facts (fun cdv A outer s H E hr => ?_) (by decide)
  have sc0 := sc_needless_facts
  have tk := takes_fn (P := P) (w := w) (K := K) (mg := mg) (base := base) (N := NM_needless_facts) (qual := "needless_facts") (scope := defScope s_needless_facts) (f := T.f_needless_facts) (cdv := cdv) (A := A) (outer := outer) (s := s) (H := H) (E := E)
  have hu := hr.units
  have hu5 := room5 hr
  exact (dss_cons (ds_exp (de_call (ok_need_course T) (.inl rfl) tk (hr.mono (by decide)) rfl T.g_need_course T.F_need_course.kp T.b_need_course (as_cons (de_var 0 (pv 0)) as_nil))) (dss_cons (ds_exp (de_call (ok_need_facts T) (.inl rfl) tk (hr.mono (by decide)) rfl T.g_need_facts T.F_need_facts.kp T.b_need_facts (as_cons (de_var 0 (pv 0)) (as_cons (de_var 1 (pv 1)) as_nil)))) (dss_one ds_bad)))
theorem sc_quarrels : FnScope NM_quarrels ["course", "facts"] (defScope s_quarrels) := ⟨rfl, rfl, rfl, by decide +kernel, rfl, by decide +kernel, by decide +kernel⟩
theorem ok_quarrels (T : Tx K mg) : FnOk P w K mg base (L2N.CX P w) 5 T.f_quarrels T.d_quarrels ["course", "facts"] (spF kd0 mg 2 (N_quarrels)) := by
  refine fn_dl (N := NM_quarrels) T.F_quarrels sc_quarrels (fun cdv A outer s H E hr => ?_) (by decide)
  have sc0 := sc_quarrels
  have tk := takes_fn (P := P) (w := w) (K := K) (mg := mg) (base := base) (N := NM_quarrels) (qual := "quarrels") (scope := defScope s_quarrels) (f := T.f_quarrels) (cdv := cdv) (A := A) (outer := outer) (s := s) (H := H) (E := E)
  have hu := hr.units
  have hu5 := room5 hr
  exact (dss_cons (ds_exp (de_call (ok_need_course T) (.inl rfl) tk (hr.mono (by decide)) rfl T.g_need_course T.F_need_course.kp T.b_need_course (as_cons (de_var 0 (pv 0)) as_nil))) (dss_cons (ds_exp (de_call (ok_need_facts T) (.inl rfl) tk (hr.mono (by decide)) rfl T.g_need_facts T.F_need_facts.kp T.b_need_facts (as_cons (de_var 0 (pv 0)) (as_cons (de_var 1 (pv 1)) as_nil)))) (dss_cons (ds_set 2 (fun h => ps_set (i := 2) sc0.nd rfl (.inl rfl) h) (de_lst da_nil)) (dss_cons ds_bad (dss_one ds_bad)))))
theorem sc_course_text : FnScope NM_course_text ["course"] (defScope s_course_text) := ⟨rfl, rfl, rfl, by decide +kernel, rfl, by decide +kernel, by decide +kernel⟩
theorem ok_course_text (T : Tx K mg) : FnOk P w K mg base (L2N.CX P w) 5 T.f_course_text T.d_course_text ["course"] (spF kd0 mg 1 (N_course_text)) := by
  refine fn_dl (N := NM_course_text) T.F_course_text sc_course_text (fun cdv A outer s H E hr => ?_) (by decide)
  have sc0 := sc_course_text
  have tk := takes_fn (P := P) (w := w) (K := K) (mg := mg) (base := base) (N := NM_course_text) (qual := "course_text") (scope := defScope s_course_text) (f := T.f_course_text) (cdv := cdv) (A := A) (outer := outer) (s := s) (H := H) (E := E)
  have hu := hr.units
  have hu5 := room5 hr
  exact (dss_cons (ds_exp (de_call (ok_need_course T) (.inl rfl) tk (hr.mono (by decide)) rfl T.g_need_course T.F_need_course.kp T.b_need_course (as_cons (de_var 0 (pv 0)) as_nil))) (dss_one (ds_ret (de_call (ok_text_of T) (.inl rfl) tk (hr.mono (by decide)) rfl T.g_text_of T.F_text_of.kp T.b_text_of (as_cons (de_var 0 (pv 0)) as_nil)))))
theorem sc_follows : FnScope NM_follows ["course", "facts", "claim"] (defScope s_follows) := ⟨rfl, rfl, rfl, by decide +kernel, rfl, by decide +kernel, by decide +kernel⟩
theorem ok_follows (T : Tx K mg) : FnOk P w K mg base (L2N.CX P w) 6 T.f_follows T.d_follows ["course", "facts", "claim"] (spF kd0 mg 3 (N_follows)) := by
  refine fn_dl (N := NM_follows) T.F_follows sc_follows (fun cdv A outer s H E hr => ?_) (by decide)
  have sc0 := sc_follows
  have tk := takes_fn (P := P) (w := w) (K := K) (mg := mg) (base := base) (N := NM_follows) (qual := "follows") (scope := defScope s_follows) (f := T.f_follows) (cdv := cdv) (A := A) (outer := outer) (s := s) (H := H) (E := E)
  have hu := hr.units
  have hu5 := room5 hr
  exact (dss_cons (ds_exp (de_call (ok_need_all T) (.inl rfl) tk (hr.mono (by decide)) rfl T.g_need_all T.F_need_all.kp T.b_need_all (as_cons (de_var 0 (pv 0)) (as_cons (de_var 1 (pv 1)) (as_cons (de_var 2 (pv 2)) as_nil))))) (dss_cons ds_bad (dss_cons ds_bad (dss_one ds_bad))))
theorem sc_breaking : FnScope NM_breaking ["course", "facts", "claim"] (defScope s_breaking) := ⟨rfl, rfl, rfl, by decide +kernel, rfl, by decide +kernel, by decide +kernel⟩
theorem ok_breaking (T : Tx K mg) : FnOk P w K mg base (L2N.CX P w) 6 T.f_breaking T.d_breaking ["course", "facts", "claim"] (spF kd0 mg 3 (N_breaking)) := by
  refine fn_dl (N := NM_breaking) T.F_breaking sc_breaking (fun cdv A outer s H E hr => ?_) (by decide)
  have sc0 := sc_breaking
  have tk := takes_fn (P := P) (w := w) (K := K) (mg := mg) (base := base) (N := NM_breaking) (qual := "breaking") (scope := defScope s_breaking) (f := T.f_breaking) (cdv := cdv) (A := A) (outer := outer) (s := s) (H := H) (E := E)
  have hu := hr.units
  have hu5 := room5 hr
  exact (dss_cons (ds_exp (de_call (ok_need_all T) (.inl rfl) tk (hr.mono (by decide)) rfl T.g_need_all T.F_need_all.kp T.b_need_all (as_cons (de_var 0 (pv 0)) (as_cons (de_var 1 (pv 1)) (as_cons (de_var 2 (pv 2)) as_nil))))) (dss_one ds_bad))
theorem sc_stretches : FnScope NM_stretches ["course", "facts", "one", "other"] (defScope s_stretches) := ⟨rfl, rfl, rfl, by decide +kernel, rfl, by decide +kernel, by decide +kernel⟩
theorem ok_stretches (T : Tx K mg) : FnOk P w K mg base (L2N.CX P w) 6 T.f_stretches T.d_stretches ["course", "facts", "one", "other"] (spF kd0 mg 4 (N_stretches)) := by
  refine fn_dl (N := NM_stretches) T.F_stretches sc_stretches (fun cdv A outer s H E hr => ?_) (by decide)
  have sc0 := sc_stretches
  have tk := takes_fn (P := P) (w := w) (K := K) (mg := mg) (base := base) (N := NM_stretches) (qual := "stretches") (scope := defScope s_stretches) (f := T.f_stretches) (cdv := cdv) (A := A) (outer := outer) (s := s) (H := H) (E := E)
  have hu := hr.units
  have hu5 := room5 hr
  exact (dss_cons (ds_exp (de_call (ok_need_two T) (.inl rfl) tk (hr.mono (by decide)) rfl T.g_need_two T.F_need_two.kp T.b_need_two (as_cons (de_var 0 (pv 0)) (as_cons (de_var 1 (pv 1)) (as_cons (de_var 2 (pv 2)) (as_cons (de_var 3 (pv 3)) as_nil)))))) (dss_one ds_bad))
theorem sc_gap_range : FnScope NM_gap_range ["course", "facts", "one", "other"] (defScope s_gap_range) := ⟨rfl, rfl, rfl, by decide +kernel, rfl, by decide +kernel, by decide +kernel⟩
theorem ok_gap_range (T : Tx K mg) : FnOk P w K mg base (L2N.CX P w) 6 T.f_gap_range T.d_gap_range ["course", "facts", "one", "other"] (spF kd0 mg 4 (N_gap_range)) := by
  refine fn_dl (N := NM_gap_range) T.F_gap_range sc_gap_range (fun cdv A outer s H E hr => ?_) (by decide)
  have sc0 := sc_gap_range
  have tk := takes_fn (P := P) (w := w) (K := K) (mg := mg) (base := base) (N := NM_gap_range) (qual := "gap_range") (scope := defScope s_gap_range) (f := T.f_gap_range) (cdv := cdv) (A := A) (outer := outer) (s := s) (H := H) (E := E)
  have hu := hr.units
  have hu5 := room5 hr
  exact (dss_cons (ds_exp (de_call (ok_need_two T) (.inl rfl) tk (hr.mono (by decide)) rfl T.g_need_two T.F_need_two.kp T.b_need_two (as_cons (de_var 0 (pv 0)) (as_cons (de_var 1 (pv 1)) (as_cons (de_var 2 (pv 2)) (as_cons (de_var 3 (pv 3)) as_nil)))))) (dss_cons ds_bad (dss_cons (ds_if (dt_eq hu (de_var 4 (pv 4)) (de_lst da_nil)) (dss_one (ds_raise rfl tk PySem.F.excBase_ValueError T.x_NoCase T.c_NoCase T.k_NoCase (raises_own T.sb_NoCase T.ty_NoCase) rfl)) dss_nil) (dss_one (ds_ret (de_tup (da_cons (fun _ _ ha hr => pa_cons ha hr) (de_ix (de_ix (de_var 4 (pv 4)) de_int (fun _ _ => rfl)) de_int (fun _ _ => rfl)) (da_cons (fun _ _ ha hr => pa_cons ha hr) (de_ix (de_ix (de_var 4 (pv 4)) (de_neg de_int) (fun _ _ => rfl)) de_int (fun _ _ => rfl)) da_nil))))))))
theorem sc_case_with : FnScope NM_case_with ["course", "facts", "one", "other", "number"] (defScope s_case_with) := ⟨rfl, rfl, rfl, by decide +kernel, rfl, by decide +kernel, by decide +kernel⟩
theorem ok_case_with (T : Tx K mg) : FnOk P w K mg base (L2N.CX P w) 6 T.f_case_with T.d_case_with ["course", "facts", "one", "other", "number"] (spF kd0 mg 5 (N_case_with)) := by
  refine fn_dl (N := NM_case_with) T.F_case_with sc_case_with (fun cdv A outer s H E hr => ?_) (by decide)
  have sc0 := sc_case_with
  have tk := takes_fn (P := P) (w := w) (K := K) (mg := mg) (base := base) (N := NM_case_with) (qual := "case_with") (scope := defScope s_case_with) (f := T.f_case_with) (cdv := cdv) (A := A) (outer := outer) (s := s) (H := H) (E := E)
  have hu := hr.units
  have hu5 := room5 hr
  exact (dss_cons (ds_exp (de_call (ok_need_two T) (.inl rfl) tk (hr.mono (by decide)) rfl T.g_need_two T.F_need_two.kp T.b_need_two (as_cons (de_var 0 (pv 0)) (as_cons (de_var 1 (pv 1)) (as_cons (de_var 2 (pv 2)) (as_cons (de_var 3 (pv 3)) as_nil)))))) (dss_cons (ds_exp (de_call (ok_need_number T) (.inl rfl) tk (hr.mono (by decide)) rfl T.g_need_number T.F_need_number.kp T.b_need_number (as_cons (de_var 4 (pv 4)) as_nil))) (dss_one ds_bad)))
theorem sc_alike : FnScope NM_alike ["one_course", "other_course"] (defScope s_alike) := ⟨rfl, rfl, rfl, by decide +kernel, rfl, by decide +kernel, by decide +kernel⟩
theorem ok_alike (T : Tx K mg) : FnOk P w K mg base (L2N.CX P w) 6 T.f_alike T.d_alike ["one_course", "other_course"] (spF kd0 mg 2 (N_alike)) := by
  refine fn_dl (N := NM_alike) T.F_alike sc_alike (fun cdv A outer s H E hr => ?_) (by decide)
  have sc0 := sc_alike
  have tk := takes_fn (P := P) (w := w) (K := K) (mg := mg) (base := base) (N := NM_alike) (qual := "alike") (scope := defScope s_alike) (f := T.f_alike) (cdv := cdv) (A := A) (outer := outer) (s := s) (H := H) (E := E)
  have hu := hr.units
  have hu5 := room5 hr
  exact (dss_cons (ds_exp (de_call (ok_need_like T) (.inl rfl) tk (hr.mono (by decide)) rfl T.g_need_like T.F_need_like.kp T.b_need_like (as_cons (de_var 0 (pv 0)) (as_cons (de_var 1 (pv 1)) as_nil)))) (dss_one ds_bad))
theorem sc_parting : FnScope NM_parting ["one_course", "other_course"] (defScope s_parting) := ⟨rfl, rfl, rfl, by decide +kernel, rfl, by decide +kernel, by decide +kernel⟩
theorem ok_parting (T : Tx K mg) : FnOk P w K mg base (L2N.CX P w) 6 T.f_parting T.d_parting ["one_course", "other_course"] (spF kd0 mg 2 (N_parting)) := by
  refine fn_dl (N := NM_parting) T.F_parting sc_parting (fun cdv A outer s H E hr => ?_) (by decide)
  have sc0 := sc_parting
  have tk := takes_fn (P := P) (w := w) (K := K) (mg := mg) (base := base) (N := NM_parting) (qual := "parting") (scope := defScope s_parting) (f := T.f_parting) (cdv := cdv) (A := A) (outer := outer) (s := s) (H := H) (E := E)
  have hu := hr.units
  have hu5 := room5 hr
  exact (dss_cons (ds_exp (de_call (ok_need_like T) (.inl rfl) tk (hr.mono (by decide)) rfl T.g_need_like T.F_need_like.kp T.b_need_like (as_cons (de_var 0 (pv 0)) (as_cons (de_var 1 (pv 1)) as_nil)))) (dss_one ds_bad))
theorem sc_paper_for : FnScope NM_paper_for ["course", "facts", "claim"] (defScope s_paper_for) := ⟨rfl, rfl, rfl, by decide +kernel, rfl, by decide +kernel, by decide +kernel⟩
theorem ok_paper_for (T : Tx K mg) : FnOk P w K mg base (L2N.CX P w) 6 T.f_paper_for T.d_paper_for ["course", "facts", "claim"] (spF kd0 mg 3 (N_paper_for)) := by
  refine fn_dl (N := NM_paper_for) T.F_paper_for sc_paper_for (fun cdv A outer s H E hr => ?_) (by decide)
  have sc0 := sc_paper_for
  have tk := takes_fn (P := P) (w := w) (K := K) (mg := mg) (base := base) (N := NM_paper_for) (qual := "paper_for") (scope := defScope s_paper_for) (f := T.f_paper_for) (cdv := cdv) (A := A) (outer := outer) (s := s) (H := H) (E := E)
  have hu := hr.units
  have hu5 := room5 hr
  exact (dss_cons (ds_exp (de_call (ok_need_all T) (.inl rfl) tk (hr.mono (by decide)) rfl T.g_need_all T.F_need_all.kp T.b_need_all (as_cons (de_var 0 (pv 0)) (as_cons (de_var 1 (pv 1)) (as_cons (de_var 2 (pv 2)) as_nil))))) (dss_one ds_bad))
theorem sc_is_paper : FnScope NM_is_paper ["course", "facts", "claim", "value"] (defScope s_is_paper) := ⟨rfl, rfl, rfl, by decide +kernel, rfl, by decide +kernel, by decide +kernel⟩
theorem ok_is_paper (T : Tx K mg) : FnOk P w K mg base (L2N.CX P w) 6 T.f_is_paper T.d_is_paper ["course", "facts", "claim", "value"] (spF kd0 mg 4 (N_is_paper)) := by
  refine fn_dl (N := NM_is_paper) T.F_is_paper sc_is_paper (fun cdv A outer s H E hr => ?_) (by decide)
  have sc0 := sc_is_paper
  have tk := takes_fn (P := P) (w := w) (K := K) (mg := mg) (base := base) (N := NM_is_paper) (qual := "is_paper") (scope := defScope s_is_paper) (f := T.f_is_paper) (cdv := cdv) (A := A) (outer := outer) (s := s) (H := H) (E := E)
  have hu := hr.units
  have hu5 := room5 hr
  exact (dss_cons (ds_exp (de_call (ok_need_all T) (.inl rfl) tk (hr.mono (by decide)) rfl T.g_need_all T.F_need_all.kp T.b_need_all (as_cons (de_var 0 (pv 0)) (as_cons (de_var 1 (pv 1)) (as_cons (de_var 2 (pv 2)) as_nil))))) (dss_one ds_bad))
theorem sc_least_lots : FnScope NM_least_lots ["course", "facts", "claim"] (defScope s_least_lots) := ⟨rfl, rfl, rfl, by decide +kernel, rfl, by decide +kernel, by decide +kernel⟩
theorem ok_least_lots (T : Tx K mg) : FnOk P w K mg base (L2N.CX P w) 6 T.f_least_lots T.d_least_lots ["course", "facts", "claim"] (spF kd0 mg 3 (N_least_lots)) := by
  refine fn_dl (N := NM_least_lots) T.F_least_lots sc_least_lots (fun cdv A outer s H E hr => ?_) (by decide)
  have sc0 := sc_least_lots
  have tk := takes_fn (P := P) (w := w) (K := K) (mg := mg) (base := base) (N := NM_least_lots) (qual := "least_lots") (scope := defScope s_least_lots) (f := T.f_least_lots) (cdv := cdv) (A := A) (outer := outer) (s := s) (H := H) (E := E)
  have hu := hr.units
  have hu5 := room5 hr
  exact (dss_cons (ds_exp (de_call (ok_need_all T) (.inl rfl) tk (hr.mono (by decide)) rfl T.g_need_all T.F_need_all.kp T.b_need_all (as_cons (de_var 0 (pv 0)) (as_cons (de_var 1 (pv 1)) (as_cons (de_var 2 (pv 2)) as_nil))))) (dss_cons (ds_set 3 (fun h => ps_set (i := 3) sc0.nd rfl (.inl rfl) h) (de_lst da_nil)) (dss_cons ds_bad (dss_one ds_bad))))
theorem sc_law_course_calls : FnScope NM_law_course_calls ["odd"] (defScope s_law_course_calls) := ⟨rfl, rfl, rfl, by decide +kernel, rfl, by decide +kernel, by decide +kernel⟩
theorem ok_law_course_calls (T : Tx K mg) (TB : ∀ p ∈ T.cs, LamX.TabB base mg p.1 p.2) (sc : Option (Addr × List Int)) : FnOk P w K mg base (L2N.CX P w) 41 T.f_law_course_calls T.d_law_course_calls ["odd"] (spF (kdS K T.tabs sc) mg 1 (N_law_course_calls sc T.ad)) := by
  refine fn_dlT (N := NM_law_course_calls) T.F_law_course_calls T.h_law_course_calls sc_law_course_calls (fun cdv hcd A outer s H E hr => ?_) (by decide)
  have sc0 := sc_law_course_calls
  have tk := takes_fn (P := P) (w := w) (K := K) (mg := mg) (base := base) (N := NM_law_course_calls) (qual := "_law_course_calls") (scope := defScope s_law_course_calls) (f := T.f_law_course_calls) (cdv := cdv) (A := A) (outer := outer) (s := s) (H := H) (E := E)
  have hu := hr.units
  have hu5 := room5 hr
  have LA : LamAt (cxOf (L2N.CX P w) P w K mg base NM_law_course_calls "_law_course_calls" (defScope s_law_course_calls) T.f_law_course_calls cdv A outer s H E) T.tabs T.c_law_course_calls T.p_law_course_calls := ⟨TB (T.c_law_course_calls, T.p_law_course_calls) (by simp [Tx.cs]), hcd, (show (T.p_law_course_calls, lamQ "_law_course_calls") ∈ T.tabs from List.mem_cons_of_mem _ (List.mem_cons_self)), fun p hp hq => by
    simp only [Tx.tabs, List.mem_cons, List.not_mem_nil, or_false] at hp
    rcases hp with rfl | rfl | rfl | rfl
    · first | exact absurd hq T.pn_law_by_law_course_calls | exact absurd hq.symm T.pn_law_by_law_course_calls
    · rfl
    · first | exact absurd hq T.pn_law_course_calls_law_facts_calls | exact absurd hq.symm T.pn_law_course_calls_law_facts_calls
    · first | exact absurd hq T.pn_law_course_calls_law | exact absurd hq.symm T.pn_law_course_calls_law⟩
  exact (dss_cons (ds_own 1 (fun h => ps_set (i := 1) sc0.nd rfl (.inl rfl) h) (da_cons (fun _ _ ha hr => pa_cons ha hr) (de_lawerr (nm := nmS) (k := 37) rfl T.errdef (names_ok T) T.F_law_names.kp T.b_law_names LA (hr.mono (by decide)) (by decide) T.hsub (show LamX.LamS (defScope s_law_course_calls) _ from LamX.lamS_by (by decide +kernel)) rfl (fun _ _ _ _ _ => rfl) (fun A outer s H E f c2 hr => (de_call (ok_course_text T) (.inl rfl) takes_lam (hr.mono (by decide)) rfl T.g_course_text T.F_course_text.kp T.b_course_text (as_cons (de_var 0 (pv 0)) as_nil)))) da_nil)) (dss_cons (ds_forF 2 (passes_of rfl) rfl (av_cons rfl T.g_are_given (av_cons rfl T.g_are_facts (av_cons rfl T.g_case_for (av_cons rfl T.g_needless_facts (av_cons rfl T.g_quarrels (av_cons rfl T.g_alike (av_cons rfl T.g_parting av_nil))))))) (pg_name (i := 2) sc0.nd rfl (.inr rfl)) (fb_cons (dss_one (ds_app 1 (pv 1) (de_call (ok_law_by T TB sc (ok_are_given T) (by decide) T.F_are_given.kp T.b_are_given) (.inr rfl) tk (hr.mono (by decide)) rfl T.g_law_by T.F_law_by.kp T.b_law_by (as_any 2 (pv 2) (as_cons (de_var 0 (pv 0)) (as_cons de_non as_nil)))))) (fb_cons (dss_one (ds_app 1 (pv 1) (de_call (ok_law_by T TB sc (ok_are_facts T) (by decide) T.F_are_facts.kp T.b_are_facts) (.inr rfl) tk (hr.mono (by decide)) rfl T.g_law_by T.F_law_by.kp T.b_law_by (as_any 2 (pv 2) (as_cons (de_var 0 (pv 0)) (as_cons de_non as_nil)))))) (fb_cons (dss_one (ds_app 1 (pv 1) (de_call (ok_law_by T TB sc (ok_case_for T) (by decide) T.F_case_for.kp T.b_case_for) (.inr rfl) tk (hr.mono (by decide)) rfl T.g_law_by T.F_law_by.kp T.b_law_by (as_any 2 (pv 2) (as_cons (de_var 0 (pv 0)) (as_cons de_non as_nil)))))) (fb_cons (dss_one (ds_app 1 (pv 1) (de_call (ok_law_by T TB sc (ok_needless_facts T) (by decide) T.F_needless_facts.kp T.b_needless_facts) (.inr rfl) tk (hr.mono (by decide)) rfl T.g_law_by T.F_law_by.kp T.b_law_by (as_any 2 (pv 2) (as_cons (de_var 0 (pv 0)) (as_cons de_non as_nil)))))) (fb_cons (dss_one (ds_app 1 (pv 1) (de_call (ok_law_by T TB sc (ok_quarrels T) (by decide) T.F_quarrels.kp T.b_quarrels) (.inr rfl) tk (hr.mono (by decide)) rfl T.g_law_by T.F_law_by.kp T.b_law_by (as_any 2 (pv 2) (as_cons (de_var 0 (pv 0)) (as_cons de_non as_nil)))))) (fb_cons (dss_one (ds_app 1 (pv 1) (de_call (ok_law_by T TB sc (ok_alike T) (by decide) T.F_alike.kp T.b_alike) (.inr rfl) tk (hr.mono (by decide)) rfl T.g_law_by T.F_law_by.kp T.b_law_by (as_any 2 (pv 2) (as_cons (de_var 0 (pv 0)) (as_cons de_non as_nil)))))) (fb_cons (dss_one (ds_app 1 (pv 1) (de_call (ok_law_by T TB sc (ok_parting T) (by decide) T.F_parting.kp T.b_parting) (.inr rfl) tk (hr.mono (by decide)) rfl T.g_law_by T.F_law_by.kp T.b_law_by (as_any 2 (pv 2) (as_cons (de_var 0 (pv 0)) (as_cons de_non as_nil)))))) fb_nil))))))) (Nat.le_of_ble_eq_true rfl)) (dss_cons (ds_forF 2 (passes_of rfl) rfl (av_cons rfl T.g_numbers (av_cons rfl T.g_is_case (av_cons rfl T.g_follows (av_cons rfl T.g_breaking (av_cons rfl T.g_paper_for (av_cons rfl T.g_least_lots av_nil)))))) (pg_name (i := 2) sc0.nd rfl (.inr rfl)) (fb_cons (dss_one (ds_app 1 (pv 1) (de_lawerr (nm := nmS) (k := 37) rfl T.errdef (names_ok T) T.F_law_names.kp T.b_law_names LA (hr.mono (by decide)) (by decide) T.hsub (show LamX.LamS (defScope s_law_course_calls) _ from LamX.lamS_by (by decide +kernel)) rfl (fun _ _ _ _ _ => rfl) (fun A outer s H E f c2 hr => (de_callX 2 (ok_numbers T) (.inl rfl) takes_lam (hr.mono (by decide)) (pv 2) T.F_numbers.kp T.b_numbers (as_cons (de_var 0 (pv 0)) (as_cons de_non (as_cons de_non as_nil)))))))) (fb_cons (dss_one (ds_app 1 (pv 1) (de_lawerr (nm := nmS) (k := 37) rfl T.errdef (names_ok T) T.F_law_names.kp T.b_law_names LA (hr.mono (by decide)) (by decide) T.hsub (show LamX.LamS (defScope s_law_course_calls) _ from LamX.lamS_by (by decide +kernel)) rfl (fun _ _ _ _ _ => rfl) (fun A outer s H E f c2 hr => (de_callX 2 (ok_is_case T) (.inl rfl) takes_lam (hr.mono (by decide)) (pv 2) T.F_is_case.kp T.b_is_case (as_cons (de_var 0 (pv 0)) (as_cons de_non (as_cons de_non as_nil)))))))) (fb_cons (dss_one (ds_app 1 (pv 1) (de_lawerr (nm := nmS) (k := 37) rfl T.errdef (names_ok T) T.F_law_names.kp T.b_law_names LA (hr.mono (by decide)) (by decide) T.hsub (show LamX.LamS (defScope s_law_course_calls) _ from LamX.lamS_by (by decide +kernel)) rfl (fun _ _ _ _ _ => rfl) (fun A outer s H E f c2 hr => (de_callX 2 (ok_follows T) (.inl rfl) takes_lam (hr.mono (by decide)) (pv 2) T.F_follows.kp T.b_follows (as_cons (de_var 0 (pv 0)) (as_cons de_non (as_cons de_non as_nil)))))))) (fb_cons (dss_one (ds_app 1 (pv 1) (de_lawerr (nm := nmS) (k := 37) rfl T.errdef (names_ok T) T.F_law_names.kp T.b_law_names LA (hr.mono (by decide)) (by decide) T.hsub (show LamX.LamS (defScope s_law_course_calls) _ from LamX.lamS_by (by decide +kernel)) rfl (fun _ _ _ _ _ => rfl) (fun A outer s H E f c2 hr => (de_callX 2 (ok_breaking T) (.inl rfl) takes_lam (hr.mono (by decide)) (pv 2) T.F_breaking.kp T.b_breaking (as_cons (de_var 0 (pv 0)) (as_cons de_non (as_cons de_non as_nil)))))))) (fb_cons (dss_one (ds_app 1 (pv 1) (de_lawerr (nm := nmS) (k := 37) rfl T.errdef (names_ok T) T.F_law_names.kp T.b_law_names LA (hr.mono (by decide)) (by decide) T.hsub (show LamX.LamS (defScope s_law_course_calls) _ from LamX.lamS_by (by decide +kernel)) rfl (fun _ _ _ _ _ => rfl) (fun A outer s H E f c2 hr => (de_callX 2 (ok_paper_for T) (.inl rfl) takes_lam (hr.mono (by decide)) (pv 2) T.F_paper_for.kp T.b_paper_for (as_cons (de_var 0 (pv 0)) (as_cons de_non (as_cons de_non as_nil)))))))) (fb_cons (dss_one (ds_app 1 (pv 1) (de_lawerr (nm := nmS) (k := 37) rfl T.errdef (names_ok T) T.F_law_names.kp T.b_law_names LA (hr.mono (by decide)) (by decide) T.hsub (show LamX.LamS (defScope s_law_course_calls) _ from LamX.lamS_by (by decide +kernel)) rfl (fun _ _ _ _ _ => rfl) (fun A outer s H E f c2 hr => (de_callX 2 (ok_least_lots T) (.inl rfl) takes_lam (hr.mono (by decide)) (pv 2) T.F_least_lots.kp T.b_least_lots (as_cons (de_var 0 (pv 0)) (as_cons de_non (as_cons de_non as_nil)))))))) fb_nil)))))) (Nat.le_of_ble_eq_true rfl)) (dss_cons (ds_forF 2 (passes_of rfl) rfl (av_cons rfl T.g_is_paper (av_cons rfl T.g_stretches (av_cons rfl T.g_gap_range av_nil))) (pg_name (i := 2) sc0.nd rfl (.inr rfl)) (fb_cons (dss_one (ds_app 1 (pv 1) (de_lawerr (nm := nmS) (k := 37) rfl T.errdef (names_ok T) T.F_law_names.kp T.b_law_names LA (hr.mono (by decide)) (by decide) T.hsub (show LamX.LamS (defScope s_law_course_calls) _ from LamX.lamS_by (by decide +kernel)) rfl (fun _ _ _ _ _ => rfl) (fun A outer s H E f c2 hr => (de_callX 2 (ok_is_paper T) (.inl rfl) takes_lam (hr.mono (by decide)) (pv 2) T.F_is_paper.kp T.b_is_paper (as_cons (de_var 0 (pv 0)) (as_cons de_non (as_cons de_non (as_cons de_non as_nil))))))))) (fb_cons (dss_one (ds_app 1 (pv 1) (de_lawerr (nm := nmS) (k := 37) rfl T.errdef (names_ok T) T.F_law_names.kp T.b_law_names LA (hr.mono (by decide)) (by decide) T.hsub (show LamX.LamS (defScope s_law_course_calls) _ from LamX.lamS_by (by decide +kernel)) rfl (fun _ _ _ _ _ => rfl) (fun A outer s H E f c2 hr => (de_callX 2 (ok_stretches T) (.inl rfl) takes_lam (hr.mono (by decide)) (pv 2) T.F_stretches.kp T.b_stretches (as_cons (de_var 0 (pv 0)) (as_cons de_non (as_cons de_non (as_cons de_non as_nil))))))))) (fb_cons (dss_one (ds_app 1 (pv 1) (de_lawerr (nm := nmS) (k := 37) rfl T.errdef (names_ok T) T.F_law_names.kp T.b_law_names LA (hr.mono (by decide)) (by decide) T.hsub (show LamX.LamS (defScope s_law_course_calls) _ from LamX.lamS_by (by decide +kernel)) rfl (fun _ _ _ _ _ => rfl) (fun A outer s H E f c2 hr => (de_callX 2 (ok_gap_range T) (.inl rfl) takes_lam (hr.mono (by decide)) (pv 2) T.F_gap_range.kp T.b_gap_range (as_cons (de_var 0 (pv 0)) (as_cons de_non (as_cons de_non (as_cons de_non as_nil))))))))) fb_nil))) (Nat.le_of_ble_eq_true rfl)) (dss_one (ds_ret (de_add (de_var 1 (pv 1)) (de_lst (da_cons (fun _ _ ha hr => pa_cons ha hr) (de_lawerr (nm := nmS) (k := 37) rfl T.errdef (names_ok T) T.F_law_names.kp T.b_law_names LA (hr.mono (by decide)) (by decide) T.hsub (show LamX.LamS (defScope s_law_course_calls) _ from LamX.lamS_by (by decide +kernel)) rfl (fun _ _ _ _ _ => rfl) (fun A outer s H E f c2 hr => (de_call (ok_case_with T) (.inl rfl) takes_lam (hr.mono (by decide)) rfl T.g_case_with T.F_case_with.kp T.b_case_with (as_cons (de_var 0 (pv 0)) (as_cons de_non (as_cons de_non (as_cons de_non (as_cons de_non as_nil)))))))) da_nil)))))))))
theorem sc_law_facts_calls : FnScope NM_law_facts_calls ["course", "odd"] (defScope s_law_facts_calls) := ⟨rfl, rfl, rfl, by decide +kernel, rfl, by decide +kernel, by decide +kernel⟩
theorem ok_law_facts_calls (T : Tx K mg) (TB : ∀ p ∈ T.cs, LamX.TabB base mg p.1 p.2) (sc : Option (Addr × List Int)) : FnOk P w K mg base (L2N.CX P w) 41 T.f_law_facts_calls T.d_law_facts_calls ["course", "odd"] (spF (kdS K T.tabs sc) mg 2 (N_law_facts_calls sc T.ad)) := by
  refine fn_dlT (N := NM_law_facts_calls) T.F_law_facts_calls T.h_law_facts_calls sc_law_facts_calls (fun cdv hcd A outer s H E hr => ?_) (by decide)
  have sc0 := sc_law_facts_calls
  have tk := takes_fn (P := P) (w := w) (K := K) (mg := mg) (base := base) (N := NM_law_facts_calls) (qual := "_law_facts_calls") (scope := defScope s_law_facts_calls) (f := T.f_law_facts_calls) (cdv := cdv) (A := A) (outer := outer) (s := s) (H := H) (E := E)
  have hu := hr.units
  have hu5 := room5 hr
  have LA : LamAt (cxOf (L2N.CX P w) P w K mg base NM_law_facts_calls "_law_facts_calls" (defScope s_law_facts_calls) T.f_law_facts_calls cdv A outer s H E) T.tabs T.c_law_facts_calls T.p_law_facts_calls := ⟨TB (T.c_law_facts_calls, T.p_law_facts_calls) (by simp [Tx.cs]), hcd, (show (T.p_law_facts_calls, lamQ "_law_facts_calls") ∈ T.tabs from List.mem_cons_of_mem _ (List.mem_cons_of_mem _ (List.mem_cons_self))), fun p hp hq => by
    simp only [Tx.tabs, List.mem_cons, List.not_mem_nil, or_false] at hp
    rcases hp with rfl | rfl | rfl | rfl
    · first | exact absurd hq T.pn_law_by_law_facts_calls | exact absurd hq.symm T.pn_law_by_law_facts_calls
    · first | exact absurd hq T.pn_law_course_calls_law_facts_calls | exact absurd hq.symm T.pn_law_course_calls_law_facts_calls
    · rfl
    · first | exact absurd hq T.pn_law_facts_calls_law | exact absurd hq.symm T.pn_law_facts_calls_law⟩
  exact (dss_cons (ds_own 2 (fun h => ps_set (i := 2) sc0.nd rfl (.inl rfl) h) da_nil) (dss_cons (ds_forF 3 (passes_of rfl) rfl (av_cons rfl T.g_case_for (av_cons rfl T.g_needless_facts (av_cons rfl T.g_quarrels av_nil))) (pg_name (i := 3) sc0.nd rfl (.inr rfl)) (fb_cons (dss_one (ds_app 2 (pv 2) (de_call (ok_law_by T TB sc (ok_case_for T) (by decide) T.F_case_for.kp T.b_case_for) (.inr rfl) tk (hr.mono (by decide)) rfl T.g_law_by T.F_law_by.kp T.b_law_by (as_any 3 (pv 3) (as_cons (de_var 0 (pv 0)) (as_cons (de_var 1 (pv 1)) as_nil)))))) (fb_cons (dss_one (ds_app 2 (pv 2) (de_call (ok_law_by T TB sc (ok_needless_facts T) (by decide) T.F_needless_facts.kp T.b_needless_facts) (.inr rfl) tk (hr.mono (by decide)) rfl T.g_law_by T.F_law_by.kp T.b_law_by (as_any 3 (pv 3) (as_cons (de_var 0 (pv 0)) (as_cons (de_var 1 (pv 1)) as_nil)))))) (fb_cons (dss_one (ds_app 2 (pv 2) (de_call (ok_law_by T TB sc (ok_quarrels T) (by decide) T.F_quarrels.kp T.b_quarrels) (.inr rfl) tk (hr.mono (by decide)) rfl T.g_law_by T.F_law_by.kp T.b_law_by (as_any 3 (pv 3) (as_cons (de_var 0 (pv 0)) (as_cons (de_var 1 (pv 1)) as_nil)))))) fb_nil))) (Nat.le_of_ble_eq_true rfl)) (dss_cons (ds_forF 3 (passes_of rfl) rfl (av_cons rfl T.g_is_case (av_cons rfl T.g_follows (av_cons rfl T.g_breaking (av_cons rfl T.g_paper_for (av_cons rfl T.g_least_lots av_nil))))) (pg_name (i := 3) sc0.nd rfl (.inr rfl)) (fb_cons (dss_one (ds_app 2 (pv 2) (de_lawerr (nm := nmS) (k := 37) rfl T.errdef (names_ok T) T.F_law_names.kp T.b_law_names LA (hr.mono (by decide)) (by decide) T.hsub (show LamX.LamS (defScope s_law_facts_calls) _ from LamX.lamS_by (by decide +kernel)) rfl (fun _ _ _ _ _ => rfl) (fun A outer s H E f c2 hr => (de_callX 3 (ok_is_case T) (.inl rfl) takes_lam (hr.mono (by decide)) (pv 3) T.F_is_case.kp T.b_is_case (as_cons (de_var 0 (pv 0)) (as_cons (de_var 1 (pv 1)) (as_cons de_non as_nil)))))))) (fb_cons (dss_one (ds_app 2 (pv 2) (de_lawerr (nm := nmS) (k := 37) rfl T.errdef (names_ok T) T.F_law_names.kp T.b_law_names LA (hr.mono (by decide)) (by decide) T.hsub (show LamX.LamS (defScope s_law_facts_calls) _ from LamX.lamS_by (by decide +kernel)) rfl (fun _ _ _ _ _ => rfl) (fun A outer s H E f c2 hr => (de_callX 3 (ok_follows T) (.inl rfl) takes_lam (hr.mono (by decide)) (pv 3) T.F_follows.kp T.b_follows (as_cons (de_var 0 (pv 0)) (as_cons (de_var 1 (pv 1)) (as_cons de_non as_nil)))))))) (fb_cons (dss_one (ds_app 2 (pv 2) (de_lawerr (nm := nmS) (k := 37) rfl T.errdef (names_ok T) T.F_law_names.kp T.b_law_names LA (hr.mono (by decide)) (by decide) T.hsub (show LamX.LamS (defScope s_law_facts_calls) _ from LamX.lamS_by (by decide +kernel)) rfl (fun _ _ _ _ _ => rfl) (fun A outer s H E f c2 hr => (de_callX 3 (ok_breaking T) (.inl rfl) takes_lam (hr.mono (by decide)) (pv 3) T.F_breaking.kp T.b_breaking (as_cons (de_var 0 (pv 0)) (as_cons (de_var 1 (pv 1)) (as_cons de_non as_nil)))))))) (fb_cons (dss_one (ds_app 2 (pv 2) (de_lawerr (nm := nmS) (k := 37) rfl T.errdef (names_ok T) T.F_law_names.kp T.b_law_names LA (hr.mono (by decide)) (by decide) T.hsub (show LamX.LamS (defScope s_law_facts_calls) _ from LamX.lamS_by (by decide +kernel)) rfl (fun _ _ _ _ _ => rfl) (fun A outer s H E f c2 hr => (de_callX 3 (ok_paper_for T) (.inl rfl) takes_lam (hr.mono (by decide)) (pv 3) T.F_paper_for.kp T.b_paper_for (as_cons (de_var 0 (pv 0)) (as_cons (de_var 1 (pv 1)) (as_cons de_non as_nil)))))))) (fb_cons (dss_one (ds_app 2 (pv 2) (de_lawerr (nm := nmS) (k := 37) rfl T.errdef (names_ok T) T.F_law_names.kp T.b_law_names LA (hr.mono (by decide)) (by decide) T.hsub (show LamX.LamS (defScope s_law_facts_calls) _ from LamX.lamS_by (by decide +kernel)) rfl (fun _ _ _ _ _ => rfl) (fun A outer s H E f c2 hr => (de_callX 3 (ok_least_lots T) (.inl rfl) takes_lam (hr.mono (by decide)) (pv 3) T.F_least_lots.kp T.b_least_lots (as_cons (de_var 0 (pv 0)) (as_cons (de_var 1 (pv 1)) (as_cons de_non as_nil)))))))) fb_nil))))) (Nat.le_of_ble_eq_true rfl)) (dss_cons (ds_forF 3 (passes_of rfl) rfl (av_cons rfl T.g_is_paper (av_cons rfl T.g_stretches (av_cons rfl T.g_gap_range av_nil))) (pg_name (i := 3) sc0.nd rfl (.inr rfl)) (fb_cons (dss_one (ds_app 2 (pv 2) (de_lawerr (nm := nmS) (k := 37) rfl T.errdef (names_ok T) T.F_law_names.kp T.b_law_names LA (hr.mono (by decide)) (by decide) T.hsub (show LamX.LamS (defScope s_law_facts_calls) _ from LamX.lamS_by (by decide +kernel)) rfl (fun _ _ _ _ _ => rfl) (fun A outer s H E f c2 hr => (de_callX 3 (ok_is_paper T) (.inl rfl) takes_lam (hr.mono (by decide)) (pv 3) T.F_is_paper.kp T.b_is_paper (as_cons (de_var 0 (pv 0)) (as_cons (de_var 1 (pv 1)) (as_cons de_non (as_cons de_non as_nil))))))))) (fb_cons (dss_one (ds_app 2 (pv 2) (de_lawerr (nm := nmS) (k := 37) rfl T.errdef (names_ok T) T.F_law_names.kp T.b_law_names LA (hr.mono (by decide)) (by decide) T.hsub (show LamX.LamS (defScope s_law_facts_calls) _ from LamX.lamS_by (by decide +kernel)) rfl (fun _ _ _ _ _ => rfl) (fun A outer s H E f c2 hr => (de_callX 3 (ok_stretches T) (.inl rfl) takes_lam (hr.mono (by decide)) (pv 3) T.F_stretches.kp T.b_stretches (as_cons (de_var 0 (pv 0)) (as_cons (de_var 1 (pv 1)) (as_cons de_non (as_cons de_non as_nil))))))))) (fb_cons (dss_one (ds_app 2 (pv 2) (de_lawerr (nm := nmS) (k := 37) rfl T.errdef (names_ok T) T.F_law_names.kp T.b_law_names LA (hr.mono (by decide)) (by decide) T.hsub (show LamX.LamS (defScope s_law_facts_calls) _ from LamX.lamS_by (by decide +kernel)) rfl (fun _ _ _ _ _ => rfl) (fun A outer s H E f c2 hr => (de_callX 3 (ok_gap_range T) (.inl rfl) takes_lam (hr.mono (by decide)) (pv 3) T.F_gap_range.kp T.b_gap_range (as_cons (de_var 0 (pv 0)) (as_cons (de_var 1 (pv 1)) (as_cons de_non (as_cons de_non as_nil))))))))) fb_nil))) (Nat.le_of_ble_eq_true rfl)) (dss_one (ds_ret (de_add (de_var 2 (pv 2)) (de_lst (da_cons (fun _ _ ha hr => pa_cons ha hr) (de_lawerr (nm := nmS) (k := 37) rfl T.errdef (names_ok T) T.F_law_names.kp T.b_law_names LA (hr.mono (by decide)) (by decide) T.hsub (show LamX.LamS (defScope s_law_facts_calls) _ from LamX.lamS_by (by decide +kernel)) rfl (fun _ _ _ _ _ => rfl) (fun A outer s H E f c2 hr => (de_call (ok_case_with T) (.inl rfl) takes_lam (hr.mono (by decide)) rfl T.g_case_with T.F_case_with.kp T.b_case_with (as_cons (de_var 0 (pv 0)) (as_cons (de_var 1 (pv 1)) (as_cons de_non (as_cons de_non (as_cons de_non as_nil)))))))) da_nil)))))))))
theorem sc_law : FnScope NM_law ["script"] (defScope s_law) := ⟨rfl, rfl, rfl, by decide +kernel, rfl, by decide +kernel, by decide +kernel⟩
theorem ok_law (T : Tx K mg) (TB : ∀ p ∈ T.cs, LamX.TabB base mg p.1 p.2) (sc : Option (Addr × List Int)) : FnOk P w K mg base (L2N.CX P w) 42 T.f_law T.d_law ["script"] (spF (kdS K T.tabs sc) mg 1 (N_law sc T.ad)) := by
  refine fn_dlT (N := NM_law) T.F_law T.h_law sc_law (fun cdv hcd A outer s H E hr => ?_) (by decide)
  have sc0 := sc_law
  have tk := takes_fn (P := P) (w := w) (K := K) (mg := mg) (base := base) (N := NM_law) (qual := "law") (scope := defScope s_law) (f := T.f_law) (cdv := cdv) (A := A) (outer := outer) (s := s) (H := H) (E := E)
  have hu := hr.units
  have hu5 := room5 hr
  have LA : LamAt (cxOf (L2N.CX P w) P w K mg base NM_law "law" (defScope s_law) T.f_law cdv A outer s H E) T.tabs T.c_law T.p_law := ⟨TB (T.c_law, T.p_law) (by simp [Tx.cs]), hcd, (show (T.p_law, lamQ "law") ∈ T.tabs from List.mem_cons_of_mem _ (List.mem_cons_of_mem _ (List.mem_cons_of_mem _ (List.mem_cons_self)))), fun p hp hq => by
    simp only [Tx.tabs, List.mem_cons, List.not_mem_nil, or_false] at hp
    rcases hp with rfl | rfl | rfl | rfl
    · first | exact absurd hq T.pn_law_by_law | exact absurd hq.symm T.pn_law_by_law
    · first | exact absurd hq T.pn_law_course_calls_law | exact absurd hq.symm T.pn_law_course_calls_law
    · first | exact absurd hq T.pn_law_facts_calls_law | exact absurd hq.symm T.pn_law_facts_calls_law
    · rfl⟩
  exact (dss_cons (ds_for (passes_of rfl) rfl (di_range1 rfl T.n_range (da_cons (fun _ _ ha hr => pa_cons ha hr) (de_blt (CallR.or (call_max2 rfl) (cr_max rfl)) rd_max rfl T.n_max (by decide +kernel) (da_cons (fun _ _ ha hr => pa_cons ha hr) de_int (da_cons (fun _ _ ha hr => pa_cons ha hr) (de_blt (CallR.or (call_min2 rfl) (cr_min rfl)) rd_min rfl T.n_min (by decide +kernel) (da_cons (fun _ _ ha hr => pa_cons ha hr) de_int (da_cons (fun _ _ ha hr => pa_cons ha hr) (de_lenS 0 rfl T.n_len (by decide +kernel) (pv 0)) da_nil))) da_nil))) da_nil)) (dg_name 1 (pg_name (i := 1) sc0.nd rfl (.inl rfl))) (dss_cons (ds_vat (ok_law_vat T TB sc) (.inr rfl) tk (hr.mono (by decide)) rfl T.g_law_vat T.F_law_vat.kp T.b_law_vat (fun h => ps_set (i := 2) sc0.nd rfl (.inl rfl) h) (as_any 0 (pv 0) (as_cons (de_var 1 (pv 1)) as_nil))) (dss_cons (ds_asg (de_tup (da_cons (fun _ _ ha hr => pa_cons ha hr) (de_callV (ok_law_course T) (.inl rfl) tk (hr.mono (by decide)) rfl T.g_law_course T.F_law_course.kp T.b_law_course (pv 2) (as_cons de_int as_nil)) (da_cons (fun _ _ ha hr => pa_cons ha hr) (de_tup (da_cons (fun _ _ ha hr => pa_cons ha hr) (de_tup (da_cons (fun _ _ ha hr => pa_cons ha hr) de_int (da_cons (fun _ _ ha hr => pa_cons ha hr) de_int (da_cons (fun _ _ ha hr => pa_cons ha hr) de_int da_nil)))) da_nil)) da_nil))) (dg_tup rfl (dgs_cons (dg_name 3 (pg_name (i := 3) sc0.nd rfl (.inr rfl))) (dgs_cons (dg_name 4 (pg_name (i := 4) sc0.nd rfl (.inr rfl))) dgs_nil)))) (dss_cons (ds_set 5 (fun h => ps_set (i := 5) sc0.nd rfl (.inl rfl) h) (de_lst (da_cons (fun _ _ ha hr => pa_cons ha hr) de_non (da_cons (fun _ _ ha hr => pa_cons ha hr) (de_bltT call_list_of rd_list rfl T.n_list (by decide +kernel) (da_cons (fun _ _ ha hr => pa_cons ha hr) (de_var 3 (pv 3)) da_nil)) (da_cons (fun _ _ ha hr => pa_cons ha hr) (de_add (de_slice (de_var 3 (pv 3)) (do_some de_int) do_none) (de_tup (da_cons (fun _ _ ha hr => pa_cons ha hr) (de_tup (da_cons (fun _ _ ha hr => pa_cons ha hr) de_str (da_cons (fun _ _ ha hr => pa_cons ha hr) de_int da_nil))) da_nil))) (da_cons (fun _ _ ha hr => pa_cons ha hr) (de_tup (da_cons (fun _ _ ha hr => pa_cons ha hr) (de_var 3 (pv 3)) da_nil)) (da_cons (fun _ _ ha hr => pa_cons ha hr) (de_tup da_nil) (da_cons (fun _ _ ha hr => pa_cons ha hr) de_int da_nil)))))))) (dss_cons (ds_for (passes_of rfl) rfl (di_seq (de_add (de_var 5 (pv 5)) (de_lst (da_cons (fun _ _ ha hr => pa_cons ha hr) (de_callV (ok_law_bent T 24) (.inl rfl) tk (hr.mono (by decide)) rfl T.g_law_bent T.F_law_bent.kp T.b_law_bent (pv 2) (as_cons (de_var 3 (pv 3)) as_nil)) da_nil)))) (dg_name 6 (pg_name (i := 6) sc0.nd rfl (.inl rfl))) (dss_cons (ds_own 7 (fun h => ps_set (i := 7) sc0.nd rfl (.inl rfl) h) da_nil) (dss_cons (ds_if (dt_not (dt_val (de_call (ok_law_is_course T) (.inl rfl) tk (hr.mono (by decide)) rfl T.g_law_is_course T.F_law_is_course.kp T.b_law_is_course (as_cons (de_var 6 (pv 6)) as_nil)))) (dss_one (ds_set 7 (fun h => ps_set (i := 7) sc0.nd rfl (.inl rfl) h) (de_call (ok_law_course_calls T TB sc) (.inr rfl) tk (hr.mono (by decide)) rfl T.g_law_course_calls T.F_law_course_calls.kp T.b_law_course_calls (as_cons (de_var 6 (pv 6)) as_nil)))) dss_nil) (dss_one (ds_if (dt_ne hu (de_lc (own := [("word", 10)]) rfl sc0.nd (di_seq (de_var 7 (pv 7))) (blkOk_by (own := [("word", 10)]) (N := NM_law) (sc := defScope s_law) (by decide +kernel)) (fun _ _ _ _ _ => (dv_name 10 (pg_name (i := 10) sc0.nd rfl (.inl rfl)))) (fun _ _ _ _ _ => (dts_one (dt_ne hu (de_var 10 (pv 10)) de_str))) (fun _ _ _ _ _ => (de_var 10 (pv 10)))) (de_lst da_nil)) (dss_one (ds_ret de_bl)) dss_nil))))) (dss_cons (ds_for (passes_of rfl) rfl (di_seq (de_lst (da_cons (fun _ _ ha hr => pa_cons ha hr) de_non (da_cons (fun _ _ ha hr => pa_cons ha hr) (de_bltT call_list_of rd_list rfl T.n_list (by decide +kernel) (da_cons (fun _ _ ha hr => pa_cons ha hr) (de_var 4 (pv 4)) da_nil)) (da_cons (fun _ _ ha hr => pa_cons ha hr) (de_mul (de_var 4 (pv 4)) de_int) (da_cons (fun _ _ ha hr => pa_cons ha hr) (de_ix (de_var 4 (pv 4)) de_int (fun _ _ => rfl)) (da_cons (fun _ _ ha hr => pa_cons ha hr) (de_tup (da_cons (fun _ _ ha hr => pa_cons ha hr) (de_tup (da_cons (fun _ _ ha hr => pa_cons ha hr) de_int (da_cons (fun _ _ ha hr => pa_cons ha hr) de_int (da_cons (fun _ _ ha hr => pa_cons ha hr) de_int da_nil)))) da_nil)) da_nil))))))) (dg_name 6 (pg_name (i := 6) sc0.nd rfl (.inl rfl))) (dss_one (ds_if (dt_ne hu (de_lc (own := [("word", 10)]) rfl sc0.nd (di_seq (de_call (ok_law_facts_calls T TB sc) (.inr rfl) tk (hr.mono (by decide)) rfl T.g_law_facts_calls T.F_law_facts_calls.kp T.b_law_facts_calls (as_cons (de_var 3 (pv 3)) (as_cons (de_var 6 (pv 6)) as_nil)))) (blkOk_by (own := [("word", 10)]) (N := NM_law) (sc := defScope s_law) (by decide +kernel)) (fun _ _ _ _ _ => (dv_name 10 (pg_name (i := 10) sc0.nd rfl (.inl rfl)))) (fun _ _ _ _ _ => (dts_one (dt_ne hu (de_var 10 (pv 10)) de_str))) (fun _ _ _ _ _ => (de_var 10 (pv 10)))) (de_lst da_nil)) (dss_one (ds_ret de_bl)) dss_nil))) (dss_cons (ds_forF 8 (passes_of rfl) rfl (av_cons rfl T.g_follows (av_cons rfl T.g_breaking (av_cons rfl T.g_paper_for (av_cons rfl T.g_least_lots av_nil)))) (pg_name (i := 8) sc0.nd rfl (.inr rfl)) (fb_cons (dss_one (ds_if (dt_ne hu (de_lawerr (nm := nmS) (k := 37) rfl T.errdef (names_ok T) T.F_law_names.kp T.b_law_names LA (hr.mono (by decide)) (by decide) T.hsub (show LamX.LamS (defScope s_law) _ from LamX.lamS_by (by decide +kernel)) rfl (fun _ _ _ _ _ => rfl) (fun A outer s H E f c2 hr => (de_callX 8 (ok_follows T) (.inl rfl) takes_lam (hr.mono (by decide)) (pv 8) T.F_follows.kp T.b_follows (as_cons (de_var 3 (pv 3)) (as_cons (de_var 4 (pv 4)) (as_cons (de_var 4 (pv 4)) as_nil)))))) de_str) (dss_one (ds_ret de_bl)) dss_nil)) (fb_cons (dss_one (ds_if (dt_ne hu (de_lawerr (nm := nmS) (k := 37) rfl T.errdef (names_ok T) T.F_law_names.kp T.b_law_names LA (hr.mono (by decide)) (by decide) T.hsub (show LamX.LamS (defScope s_law) _ from LamX.lamS_by (by decide +kernel)) rfl (fun _ _ _ _ _ => rfl) (fun A outer s H E f c2 hr => (de_callX 8 (ok_breaking T) (.inl rfl) takes_lam (hr.mono (by decide)) (pv 8) T.F_breaking.kp T.b_breaking (as_cons (de_var 3 (pv 3)) (as_cons (de_var 4 (pv 4)) (as_cons (de_var 4 (pv 4)) as_nil)))))) de_str) (dss_one (ds_ret de_bl)) dss_nil)) (fb_cons (dss_one (ds_if (dt_ne hu (de_lawerr (nm := nmS) (k := 37) rfl T.errdef (names_ok T) T.F_law_names.kp T.b_law_names LA (hr.mono (by decide)) (by decide) T.hsub (show LamX.LamS (defScope s_law) _ from LamX.lamS_by (by decide +kernel)) rfl (fun _ _ _ _ _ => rfl) (fun A outer s H E f c2 hr => (de_callX 8 (ok_paper_for T) (.inl rfl) takes_lam (hr.mono (by decide)) (pv 8) T.F_paper_for.kp T.b_paper_for (as_cons (de_var 3 (pv 3)) (as_cons (de_var 4 (pv 4)) (as_cons (de_var 4 (pv 4)) as_nil)))))) de_str) (dss_one (ds_ret de_bl)) dss_nil)) (fb_cons (dss_one (ds_if (dt_ne hu (de_lawerr (nm := nmS) (k := 37) rfl T.errdef (names_ok T) T.F_law_names.kp T.b_law_names LA (hr.mono (by decide)) (by decide) T.hsub (show LamX.LamS (defScope s_law) _ from LamX.lamS_by (by decide +kernel)) rfl (fun _ _ _ _ _ => rfl) (fun A outer s H E f c2 hr => (de_callX 8 (ok_least_lots T) (.inl rfl) takes_lam (hr.mono (by decide)) (pv 8) T.F_least_lots.kp T.b_least_lots (as_cons (de_var 3 (pv 3)) (as_cons (de_var 4 (pv 4)) (as_cons (de_var 4 (pv 4)) as_nil)))))) de_str) (dss_one (ds_ret de_bl)) dss_nil)) fb_nil)))) (Nat.le_of_ble_eq_true rfl)) (dss_cons (ds_own 7 (fun h => ps_set (i := 7) sc0.nd rfl (.inl rfl) h) (da_cons (fun _ _ ha hr => pa_cons ha hr) (de_lawerr (nm := nmS) (k := 37) rfl T.errdef (names_ok T) T.F_law_names.kp T.b_law_names LA (hr.mono (by decide)) (by decide) T.hsub (show LamX.LamS (defScope s_law) _ from LamX.lamS_by (by decide +kernel)) rfl (fun _ _ _ _ _ => rfl) (fun A outer s H E f c2 hr => (de_call (ok_case_with T) (.inl rfl) takes_lam (hr.mono (by decide)) rfl T.g_case_with T.F_case_with.kp T.b_case_with (as_cons (de_var 3 (pv 3)) (as_cons (de_var 4 (pv 4)) (as_cons de_non (as_cons de_non (as_cons de_non as_nil)))))))) da_nil)) (dss_cons (ds_app 7 (pv 7) (de_lawerr (nm := nmS) (k := 37) rfl T.errdef (names_ok T) T.F_law_names.kp T.b_law_names LA (hr.mono (by decide)) (by decide) T.hsub (show LamX.LamS (defScope s_law) _ from LamX.lamS_by (by decide +kernel)) rfl (fun _ _ _ _ _ => rfl) (fun A outer s H E f c2 hr => (de_call (ok_case_with T) (.inl rfl) takes_lam (hr.mono (by decide)) rfl T.g_case_with T.F_case_with.kp T.b_case_with (as_cons (de_var 3 (pv 3)) (as_cons (de_var 4 (pv 4)) (as_cons de_int (as_cons de_int (as_cons de_non as_nil))))))))) (dss_cons (ds_app 7 (pv 7) (de_lawerr (nm := nmS) (k := 37) rfl T.errdef (names_ok T) T.F_law_names.kp T.b_law_names LA (hr.mono (by decide)) (by decide) T.hsub (show LamX.LamS (defScope s_law) _ from LamX.lamS_by (by decide +kernel)) rfl (fun _ _ _ _ _ => rfl) (fun A outer s H E f c2 hr => (de_call (ok_gap_range T) (.inl rfl) takes_lam (hr.mono (by decide)) rfl T.g_gap_range T.F_gap_range.kp T.b_gap_range (as_cons (de_var 3 (pv 3)) (as_cons (de_var 4 (pv 4)) (as_cons de_int (as_cons (de_blt call_len rd_len rfl T.n_len (by decide +kernel) (da_cons (fun _ _ ha hr => pa_cons ha hr) (de_var 3 (pv 3)) da_nil)) as_nil)))))))) (dss_one (ds_if (dt_ne hu (de_var 7 (pv 7)) (de_mul (de_lst (da_cons (fun _ _ ha hr => pa_cons ha hr) de_str da_nil)) de_int)) (dss_one (ds_ret de_bl)) dss_nil)))))))))))) (dss_cons (ds_set 9 (fun h => ps_set (i := 9) sc0.nd rfl (.inl rfl) h) (de_tup (da_cons (fun _ _ ha hr => pa_cons ha hr) (de_tup (da_cons (fun _ _ ha hr => pa_cons ha hr) de_str da_nil)) (da_cons (fun _ _ ha hr => pa_cons ha hr) (de_tup (da_cons (fun _ _ ha hr => pa_cons ha hr) de_str da_nil)) da_nil)))) (dss_one (ds_ret (de_and (de_eq hu (de_call (ok_law_by T TB sc (ok_alike T) (by decide) T.F_alike.kp T.b_alike) (.inr rfl) tk (hr.mono (by decide)) rfl T.g_law_by T.F_law_by.kp T.b_law_by (as_val (pe_glob (v := V.ref T.f_alike) rfl T.g_alike rfl) (as_cons (de_var 9 (pv 9)) (as_cons (de_slice (de_var 9 (pv 9)) do_none (do_some de_int)) as_nil)))) de_str) (de_one (de_eq hu (de_call (ok_law_by T TB sc (ok_parting T) (by decide) T.F_parting.kp T.b_parting) (.inr rfl) tk (hr.mono (by decide)) rfl T.g_law_by T.F_law_by.kp T.b_law_by (as_val (pe_glob (v := V.ref T.f_parting) rfl T.g_parting rfl) (as_cons (de_slice (de_var 9 (pv 9)) do_none (do_some de_int)) (as_cons (de_var 9 (pv 9)) as_nil)))) de_str)))))))
end
end DL
namespace DL
open PySem L2
/-! ### is_whole, is_pair -/
def isW (lo hi : Int) : Dt → Bool
  | .int i => decide (lo ≤ i) && decide (i ≤ hi)
  | _ => false
theorem is_whole_ev (v : Dt) (lo hi : Int) : N_is_whole [.dat v, .dat (.int lo), .dat (.int hi)] = .ok (.bool (isW lo hi v)) [.dat v, .dat (.int lo), .dat (.int hi)] := by
  show runF _ S_is_whole _ = _
  cases v with
  | int i => by_cases h : lo ≤ i <;> simp [S_is_whole, fVar_succ, isW, h]
  | _ => simp [S_is_whole, fVar_succ, isW]
def isP (m : Int) : Dt → Bool
  | .tuple [a, b] => isW (-m) m a && isW (-m) m b
  | _ => false
theorem isP_len {m : Int} {xs : List Dt} (h : xs.length ≠ 2) : isP m (.tuple xs) = false := by
  match xs, h with
  | [], _ => rfl
  | [_], _ => rfl
  | [_, _], h => exact absurd rfl h
  | _ :: _ :: _ :: _, _ => rfl
theorem len2 {α : Type} {xs : List α} (h : xs.length = 2) : ∃ a b, xs = [a, b] := by
  match xs, h with
  | [a, b], _ => exact ⟨a, b, rfl⟩
theorem is_pair_ev (v : Dt) (m : Int) : N_is_pair [.dat v, .dat (.int m)] = .ok (.bool (isP m v)) [.dat v, .dat (.int m)] := by
  show runF _ S_is_pair _ = _
  cases v with
  | tuple xs =>
    by_cases h : xs.length = 2
    · obtain ⟨a, b, rfl⟩ := len2 h
      cases h1 : isW (-m) m a <;> simp [S_is_pair, fVar_succ, isP, is_whole_ev, h1]
    · have h2 : ¬ ((xs.length : Int) = 2) := by omega
      simp [S_is_pair, fVar_succ, isP_len h, h2]
  | _ => simp [S_is_pair, fVar_succ, isP]
/-! ### is_rising -/
def rising : List Int → Bool
  | a :: b :: r => decide (a < b) && rising (b :: r)
  | _ => true
theorem rising_iff : ∀ {l : List Int}, rising l = true ↔ ∀ i, i + 1 < l.length → l.getD i 0 < l.getD (i + 1) 0
  | [] => by simp [rising]
  | [a] => by simp [rising]
  | a :: b :: r => by
    have ih := rising_iff (l := b :: r)
    rw [rising, Bool.and_eq_true, decide_eq_true_eq, ih]
    constructor
    · rintro ⟨h1, h2⟩ i hi
      cases i with
      | zero => simpa using h1
      | succ i => simpa using h2 i (by simpa using hi)
    · intro h
      exact ⟨by simpa using h 0 (by simp), fun i hi => by simpa using h (i + 1) (by simpa using hi)⟩
def notUp (l : List Int) : Dt → Option Dt
  | .int j => if l.getD (j.toNat + 1) 0 ≤ l.getD j.toNat 0 then some (.int j) else none
  | _ => none
theorem fits_list {xs : List Dt} {n : Nat} {G : Dt → Option Dt} (h : ∀ d ∈ xs, ∀ y, G d = some y → fitN n y = true) : (xs.filterMap G).all (fitN n) = true := by
  rw [List.all_eq_true]
  intro y hy
  obtain ⟨d, hd, e⟩ := List.mem_filterMap.mp hy
  exact h d hd y e
theorem notUp_empty {l : List Int} : ((intsD 0 ((l.length : Int) - 1).toNat).filterMap (notUp l)).isEmpty = rising l := by
  rw [Bool.eq_iff_iff, List.isEmpty_iff, rising_iff, List.filterMap_eq_nil_iff]
  constructor
  · intro h i hi
    have h1 := h (.int (0 + (i : Int))) (List.mem_map.mpr ⟨i, List.mem_range.mpr (by omega), rfl⟩)
    simp only [notUp, Int.zero_add, Int.toNat_natCast] at h1
    split at h1
    · cases h1
    · omega
  · intro h d hd
    obtain ⟨i, hi, rfl⟩ := mem_intsD hd
    have := h i (by omega)
    simp only [notUp, Int.zero_add, Int.toNat_natCast]
    rw [if_neg (by omega)]
theorem get_int {l : List Int} {i : Nat} (h : i < l.length) : (l.map PyData.int)[i]? = some (.int (l.getD i 0)) := by
  simp [List.getElem?_map, List.getElem?_eq_getElem h, List.getD]
theorem is_rising_ev (l : List Int) (hl : l.length ≤ 1000) : N_is_rising [.dat (.list (l.map .int))] = .ok (.bool (rising l)) [.dat (.list (l.map .int))] := by
  show runF _ S_is_rising _ = _
  simp only [runF_ev, initE_cons, initE_nil, S_is_rising, sRet_ev, f2_ev]
  rw [fLc_pure (G := notUp l) (ds := intsD 0 ((l.length : Int) - 1).toNat) (e1 := [some (.dat (.list (l.map .int))), none])]
  · rw [← notUp_empty]
    have h := fits_list (n := 63) (xs := intsD 0 ((l.length : Int) - 1).toNat) (G := notUp l) fun d hd y hy => by
      obtain ⟨i, hi, rfl⟩ := mem_intsD hd
      simp only [notUp] at hy
      split at hy
      · cases hy; exact fitN_int
      · cases hy
    generalize List.filterMap (notUp l) (intsD 0 ((l.length : Int) - 1).toNat) = zs at h ⊢
    simp [gLst_ev, eqD_nil h, merge, keepS, wipeE]
  · have : -(2 ^ 62) ≤ ((l.length : Int) - 1) ∧ ((l.length : Int) - 1) < 2 ^ 62 := by omega
    simp [asR1_ev this]
  · intro d hd
    obtain ⟨i, hi, rfl⟩ := mem_intsD hd
    have g1 := get_int (l := l) (i := i) (by omega)
    have g2 := get_int (l := l) (i := i + 1) (by omega)
    refine ⟨[some (.dat (.list (l.map .int))), some (.dat (.int (i : Int)))], by simp [wipeE, mark, markS], ?_⟩
    by_cases c : l.getD (i + 1) 0 ≤ l.getD i 0
    · refine .inr ⟨[some (.dat (.list (l.map .int))), some (.dat (.int (i : Int)))], .int i, [some (.dat (.list (l.map .int))), some (.dat (.int (i : Int)))], ?_, ?_, ?_, ?_⟩
      · simp only [fB_ev, f2_ev, fV0, fVar_succ, R.bind_ok, R.cons_ok, ixD_list, atI_nat g1, atI_succ g2, ret1_some, fC_ev, addD_int, geD, cmpD_int, asB_bool, decide_eq_true c]
      · simp [fVar_succ]
      · simp [wipeE, unmark, unmarkS]
      · simp only [notUp, Int.zero_add, Int.toNat_natCast, if_pos c]
    · refine .inl ⟨[some (.dat (.list (l.map .int))), some (.dat (.int (i : Int)))], ?_, ?_, ?_⟩
      · simp only [fB_ev, f2_ev, fV0, fVar_succ, R.bind_ok, R.cons_ok, ixD_list, atI_nat g1, atI_succ g2, ret1_some, fC_ev, addD_int, geD, cmpD_int, asB_bool, decide_eq_false c]
      · simp [wipeE, unmark, unmarkS]
      · simp only [notUp, Int.zero_add, Int.toNat_natCast, if_neg c]
  · rw [intsD_length]
    omega
/-! ### has_stair -/
abbrev M12 : Int := 1000000000000
def pairI : Dt → Option (Int × Int)
  | .tuple [.int a, .int b] => some (a, b)
  | _ => none
theorem isP_pr {m : Int} {d : Dt} (h : isP m d = true) : ∃ p, d = pr p ∧ -m ≤ p.1 ∧ p.1 ≤ m ∧ -m ≤ p.2 ∧ p.2 ≤ m := by
  unfold isP at h
  split at h
  · rename_i a b
    rw [Bool.and_eq_true] at h
    cases a <;> simp [isW] at h
    cases b <;> simp [isW] at h
    rename_i i j
    exact ⟨(i, j), rfl, h.1.1, h.1.2, h.2.1, h.2.2⟩
  · cases h
theorem isP_of {m : Int} {p : Int × Int} : isP m (pr p) = (decide (-m ≤ p.1) && decide (p.1 ≤ m) && (decide (-m ≤ p.2) && decide (p.2 ≤ m))) := rfl
theorem all_prs {m : Int} : ∀ {ds : List Dt}, ds.all (isP m) = true → ∃ s : List (Int × Int), ds = s.map pr
  | [], _ => ⟨[], rfl⟩
  | d :: ds, h => by
    rw [List.all_cons, Bool.and_eq_true] at h
    obtain ⟨p, rfl, _⟩ := isP_pr h.1
    obtain ⟨s, rfl⟩ := all_prs h.2
    exact ⟨p :: s, rfl⟩
def bad1 (m : Int) (d : Dt) : Option Dt := if isP m d = true then none else some d
theorem bad1_empty {m : Int} {ds : List Dt} : (ds.filterMap (bad1 m)).isEmpty = ds.all (isP m) := by
  rw [Bool.eq_iff_iff, List.isEmpty_iff, List.filterMap_eq_nil_iff, List.all_eq_true]
  constructor
  · intro h d hd
    have := h d hd
    unfold bad1 at this
    split at this
    · rename_i c; exact c
    · cases this
  · intro h d hd
    unfold bad1
    rw [if_pos (h d hd)]
/-- whether a value is a stair -/
def isStair : Dt → Bool
  | .tuple [.int b, .tuple steps] => decide (-M12 ≤ b) && decide (b ≤ M12) && decide (steps.length ≤ 12) && steps.all (isP M12) && (rising ((steps.filterMap pairI).map (·.1)) && rising (b :: (steps.filterMap pairI).map (·.2)))
  | _ => false
theorem pairI_map {s : List (Int × Int)} : (s.map pr).filterMap pairI = s := by
  induction s with
  | nil => rfl
  | cons p s ih => simp [pr, pairI, ih]
theorem map_fst {s : List (Int × Int)} {f : Dt → Dt} (h : ∀ p, f (pr p) = .int p.1) : (s.map pr).map f = (s.map (·.1)).map PyData.int := by
  rw [List.map_map, List.map_map]
  exact List.map_congr_left fun p _ => h p
theorem map_snd {s : List (Int × Int)} {f : Dt → Dt} (h : ∀ p, f (pr p) = .int p.2) : (s.map pr).map f = (s.map (·.2)).map PyData.int := by
  rw [List.map_map, List.map_map]
  exact List.map_congr_left fun p _ => h p
def at0 : Dt → Dt
  | .tuple (a :: _) => a
  | d => d
def at1 : Dt → Dt
  | .tuple (_ :: a :: _) => a
  | d => d
theorem not2 {α : Type} {xs : List α} (h : xs.length ≠ 2) : ¬ ((xs.length : Int) = 2) := by omega
theorem isStair_len {xs : List Dt} (h : xs.length ≠ 2) : isStair (.tuple xs) = false := by
  unfold isStair
  split
  · rename_i e
    injection e with e
    rw [e] at h
    exact absurd rfl h
  · rfl
theorem has_stair_ev (v : Dt) (hv : fitN 60 v = true) : N_has_stair [.dat v] = .ok (.bool (isStair v)) [.dat v] := by
  show runF _ S_has_stair _ = _
  cases v with
  | tuple xs =>
    by_cases h : xs.length = 2
    · obtain ⟨a, b, rfl⟩ := len2 h
      cases a with
      | int i =>
        by_cases hi : -M12 ≤ i ∧ i ≤ M12
        · have hw : isW (-M12) M12 (.int i) = true := by simp [isW, hi]
          cases b with
          | tuple steps =>
            by_cases hl : steps.length ≤ 12
            · have hl2 : ¬ ((12 : Int) < steps.length) := by omega
              have hf : steps.all (fitN 58) = true := by
                simp only [fitN_tuple, List.all_cons, Bool.and_eq_true] at hv
                exact hv.2.1
              have hb : (steps.filterMap (bad1 M12)).all (fitN 63) = true := fits_list fun d hd y hy => by
                unfold bad1 at hy
                split at hy
                · cases hy
                · cases hy
                  exact fitN_mono (List.all_eq_true.mp hf d hd) (by omega)
              have t1 : fLc (fSeq (f2 ixD (fVar 0) (fC (.int 1)))) (gN 3) (gNot (fB (callD 2 N_is_pair (aCons (fVar 3) (aCons (fC (.int M12)) aNil))))) (fVar 3) [3] [some (.dat (.tuple [.int i, .tuple steps])), none, none, none] = .ok (.list (steps.filterMap (bad1 M12))) [some (.dat (.tuple [.int i, .tuple steps])), none, none, none] := by
                rw [fLc_G (bad1 M12) steps [some (.dat (.tuple [.int i, .tuple steps])), none, none, none] (by simp) (by omega) fun d hd => ?_]
                · simp [keepS_s]
                · cases c : isP M12 d <;> simp [turnR, fVar_succ, is_pair_ev, c, bad1]
              cases c : steps.all (isP M12) with
              | false =>
                have he : (steps.filterMap (bad1 M12)).isEmpty = false := by rw [bad1_empty, c]
                simp [S_has_stair, fVar_succ, is_whole_ev, hw, hl2, t1, gLst_ev, neD_nil hb, he, isStair, c]
              | true =>
                have he : (steps.filterMap (bad1 M12)).isEmpty = true := by rw [bad1_empty, c]
                obtain ⟨s, rfl⟩ := all_prs c
                have t2 : fLc (fSeq (f2 ixD (fVar 0) (fC (.int 1)))) (gN 3) fYes (f2 ixD (fVar 3) (fC (.int 0))) [3] [some (.dat (.tuple [.int i, .tuple (s.map pr)])), none, none, none] = .ok (.list ((s.map (·.1)).map PyData.int)) [some (.dat (.tuple [.int i, .tuple (s.map pr)])), none, none, none] := by
                  rw [fLc_M at0 (s.map pr) [some (.dat (.tuple [.int i, .tuple (s.map pr)])), none, none, none] (by simp) (by omega) fun d hd => ?_, map_fst fun p => rfl]
                  · simp [keepS_s]
                  · obtain ⟨p, _, rfl⟩ := List.mem_map.mp hd
                    simp [turnR, fVar_succ, pr, at0]
                have t3 : fLc (fSeq (f2 ixD (fVar 0) (fC (.int 1)))) (gN 3) fYes (f2 ixD (fVar 3) (fC (.int 1))) [3] [some (.dat (.tuple [.int i, .tuple (s.map pr)])), none, none, none] = .ok (.list ((s.map (·.2)).map PyData.int)) [some (.dat (.tuple [.int i, .tuple (s.map pr)])), none, none, none] := by
                  rw [fLc_M at1 (s.map pr) [some (.dat (.tuple [.int i, .tuple (s.map pr)])), none, none, none] (by simp) (by omega) fun d hd => ?_, map_snd fun p => rfl]
                  · simp [keepS_s]
                  · obtain ⟨p, _, rfl⟩ := List.mem_map.mp hd
                    simp [turnR, fVar_succ, pr, at1]
                have ha : addD (.list [.int i]) (.list ((s.map (·.2)).map PyData.int)) = some (.list ((i :: s.map (·.2)).map PyData.int)) := by
                  have : s.length ≤ 12 := by simpa using hl
                  exact addD_list (by simp; omega)
                have r1 := is_rising_ev (s.map (·.1)) (by have := hl; simp at this ⊢; omega)
                have r2 := is_rising_ev (i :: s.map (·.2)) (by have := hl; simp at this ⊢; omega)
                simp only [List.map_cons] at ha r2
                cases c1 : rising (s.map (·.1)) <;> simp [-List.filterMap_map, -List.map_map, -List.length_map, S_has_stair, fVar_succ, is_whole_ev, hw, t1, gLst_ev, neD_nil hb, he, t2, t3, ha, r1, r2, c1, isStair, pairI_map, hi, c, hl, hl2]
            · have hl2 : ((12 : Int) < steps.length) := by omega
              simp [S_has_stair, fVar_succ, is_whole_ev, hw, hl2, isStair, hl]
          | _ => simp [S_has_stair, fVar_succ, is_whole_ev, hw, isStair]
        · have hw : isW (-M12) M12 (.int i) = false := by
            simp only [isW]
            rw [Bool.and_eq_false_iff]
            by_cases h1 : -M12 ≤ i
            · exact .inr (decide_eq_false fun z => hi ⟨h1, z⟩)
            · exact .inl (decide_eq_false h1)
          have hs : isStair (.tuple [.int i, b]) = false := by
            unfold isStair
            split
            · rename_i z
              injection z with z
              injection z with z1 z2
              injection z1 with z1
              subst z1
              have : (decide (-M12 ≤ i) && decide (i ≤ M12)) = false := hw
              rw [this] <;> rfl
            · rfl
          simp [S_has_stair, fVar_succ, is_whole_ev, hw, hs]
      | _ => simp [S_has_stair, fVar_succ, is_whole_ev, isW, isStair]
    · simp [S_has_stair, fVar_succ, isStair_len h, not2 h]
  | _ => simp [S_has_stair, fVar_succ, isStair]
end DL
namespace DL
open PySem L2
/-! ### _law_is_stair -/
theorem law_is_whole_ev (v : Dt) (lo hi : Int) : N_law_is_whole [.dat v, .dat (.int lo), .dat (.int hi)] = .ok (.bool (isW lo hi v)) [.dat v, .dat (.int lo), .dat (.int hi)] := by
  show runF _ S_law_is_whole _ = _
  cases v with
  | int i => by_cases h : lo ≤ i <;> simp [S_law_is_whole, fVar_succ, isW, h]
  | _ => simp [S_law_is_whole, fVar_succ, isW]
def optD : Option Int → Dt
  | none => .none
  | some i => .int i
def above (la : Option Int) (x : Int) : Bool := match la with
  | none => true
  | some l => decide (l < x)
def stepsOk : Option Int → Int → List Dt → Bool
  | _, _, [] => true
  | la, lv, .tuple [.int x, .int y] :: ds => (decide (-M12 ≤ x) && decide (x ≤ M12)) && (decide (lv + 1 ≤ y) && decide (y ≤ M12)) && above la x && stepsOk (some x) y ds
  | _, _, _ :: _ => false
theorem stepsOk_pr {la : Option Int} {lv : Int} {p : Int × Int} {ds : List Dt} : stepsOk la lv (pr p :: ds) = ((decide (-M12 ≤ p.1) && decide (p.1 ≤ M12)) && (decide (lv + 1 ≤ p.2) && decide (p.2 ≤ M12)) && above la p.1 && stepsOk (some p.1) p.2 ds) := by
  show stepsOk la lv (.tuple [.int p.1, .int p.2] :: ds) = _
  rw [stepsOk]
theorem stepsOk_bad {la : Option Int} {lv : Int} {d : Dt} {ds : List Dt} (h : ∀ p, d ≠ pr p) : stepsOk la lv (d :: ds) = false := by
  unfold stepsOk
  split
  · rename_i e; cases e
  · rename_i e
    injection e with e1 e2
    exact absurd e1 (h (_, _))
  · rfl
def isBody : En → SO := (sSeq (sIf (gOr (gNot (fB (f1 (isiD "tuple") (fVar 4)))) (fB (f2 neD (fA lenD (fCons (fVar 4) fNil)) (fC (.int 2))))) (sRet (fC (.bool false))) sNx) (sSeq (sIf (gOr (gNot (fB (callD 3 N_law_is_whole (aCons (f2 ixD (fVar 4) (fC (.int 0))) (aCons (f1 negD (fVar 1)) (aCons (fVar 1) aNil)))))) (gNot (fB (callD 3 N_law_is_whole (aCons (f2 ixD (fVar 4) (fC (.int 1))) (aCons (f2 addD (fVar 3) (fC (.int 1))) (aCons (fVar 1) aNil))))))) (sRet (fC (.bool false))) sNx) (sSeq (sIf (gAnd (fB (f2 (isD true) (fVar 2) (fC .none))) (fB (f2 leD (f2 ixD (fVar 4) (fC (.int 0))) (fVar 2)))) (sRet (fC (.bool false))) sNx) (sAsg (fVar 4) (gT 2 (gsCons (gN 2) (gsCons (gN 3) gsNil)))))))
theorem isBody_pr {v : Dt} {la : Option Int} {lv : Int} {p : Int × Int} : isBody [some (.dat v), some (.dat (.int M12)), some (.dat (optD la)), some (.dat (.int lv)), some (.dat (pr p))] =
    if ((decide (-M12 ≤ p.1) && decide (p.1 ≤ M12)) && (decide (lv + 1 ≤ p.2) && decide (p.2 ≤ M12)) && above la p.1) = true then .nx [some (.dat v), some (.dat (.int M12)), some (.dat (.int p.1)), some (.dat (.int p.2)), some (.dat (pr p))]
    else .rt (.bool false) [some (.dat v), some (.dat (.int M12)), some (.dat (optD la)), some (.dat (.int lv)), some (.dat (pr p))] := by
  obtain ⟨x, y⟩ := p
  have e1 : isW (-M12) M12 (.int x) = (decide (-M12 ≤ x) && decide (x ≤ M12)) := rfl
  have e2 : isW (lv + 1) M12 (.int y) = (decide (lv + 1 ≤ y) && decide (y ≤ M12)) := rfl
  rw [← e1, ← e2]
  cases c1 : isW (-M12) M12 (.int x) with
  | false => simp [isBody, fVar_succ, law_is_whole_ev, c1, pr]
  | true =>
    cases c2 : isW (lv + 1) M12 (.int y) with
    | false => simp [isBody, fVar_succ, law_is_whole_ev, c1, c2, pr]
    | true =>
      cases la with
      | none => simp [isBody, fVar_succ, law_is_whole_ev, c1, c2, pr, above, optD, isD, isN, gT]
      | some l =>
        by_cases hx : x ≤ l
        · have hx2 : ¬ l < x := by omega
          simp [isBody, fVar_succ, law_is_whole_ev, c1, c2, pr, above, optD, isD, isN, hx, hx2]
        · have hx2 : l < x := by omega
          simp [isBody, fVar_succ, law_is_whole_ev, c1, c2, pr, above, optD, isD, isN, hx, hx2, gT]
theorem isBody_bad {v : Dt} {la : Option Int} {lv : Int} {d : Dt} (h : ∀ p, d ≠ pr p) : isBody [some (.dat v), some (.dat (.int M12)), some (.dat (optD la)), some (.dat (.int lv)), some (.dat d)] =
    .rt (.bool false) [some (.dat v), some (.dat (.int M12)), some (.dat (optD la)), some (.dat (.int lv)), some (.dat d)] := by
  cases d with
  | tuple xs =>
    by_cases hl : xs.length = 2
    · obtain ⟨a, b, rfl⟩ := len2 hl
      cases a with
      | int i =>
        cases b with
        | int j => exact absurd rfl (h (i, j))
        | _ => cases c : isW (-M12) M12 (.int i) <;> simp [isBody, fVar_succ, law_is_whole_ev, c, isW]
      | _ => simp [isBody, fVar_succ, law_is_whole_ev, isW]
    · simp [isBody, fVar_succ, not2 hl]
  | _ => simp [isBody, fVar_succ]
theorem isLoop {v : Dt} : ∀ (ds : List Dt) (la : Option Int) (lv : Int) (o : Option Slot), ∃ r, loopS (gN 4) isBody ds [some (.dat v), some (.dat (.int M12)), some (.dat (optD la)), some (.dat (.int lv)), o] =
    (if stepsOk la lv ds = true then SO.nx (some (.dat v) :: r) else SO.rt (.bool false) (some (.dat v) :: r))
  | [], la, lv, o => ⟨_, rfl⟩
  | d :: ds, la, lv, o => by
    have hg : gN 4 d [some (.dat v), some (.dat (.int M12)), some (.dat (optD la)), some (.dat (.int lv)), o] = some [some (.dat v), some (.dat (.int M12)), some (.dat (optD la)), some (.dat (.int lv)), some (.dat d)] := rfl
    by_cases h : ∃ p, d = pr p
    · obtain ⟨p, rfl⟩ := h
      have hb := isBody_pr (v := v) (la := la) (lv := lv) (p := p)
      rw [stepsOk_pr]
      cases c : ((decide (-M12 ≤ p.1) && decide (p.1 ≤ M12)) && (decide (lv + 1 ≤ p.2) && decide (p.2 ≤ M12)) && above la p.1) with
      | false =>
        rw [c, if_neg Bool.false_ne_true] at hb
        rw [Bool.false_and, loopS_rt hg hb]
        exact ⟨_, rfl⟩
      | true =>
        rw [c, if_pos rfl] at hb
        rw [Bool.true_and, loopS_nx hg hb]
        exact isLoop ds (some p.1) p.2 _
    · have hn : ∀ p, d ≠ pr p := fun p z => h ⟨p, z⟩
      rw [stepsOk_bad hn, loopS_rt hg (isBody_bad hn)]
      exact ⟨_, rfl⟩
theorem stepsOk_eq : ∀ {ds : List Dt} {la : Option Int} {lv : Int}, -M12 ≤ lv → stepsOk la lv ds = (ds.all (isP M12) && (rising (la.toList ++ (ds.filterMap pairI).map (·.1)) && rising (lv :: (ds.filterMap pairI).map (·.2))))
  | [], la, lv, _ => by cases la <;> simp [stepsOk, rising]
  | d :: ds, la, lv, hlv => by
    by_cases h : ∃ p, d = pr p
    · obtain ⟨⟨x, y⟩, rfl⟩ := h
      have hp : pairI (pr (x, y)) = some (x, y) := rfl
      rw [stepsOk_pr, List.all_cons, isP_of, List.filterMap_cons, hp]
      simp only [List.map_cons]
      by_cases hy : -M12 ≤ y
      · rw [stepsOk_eq (la := some x) (lv := y) hy]
        have r1 : rising (lv :: y :: (ds.filterMap pairI).map (·.2)) = (decide (lv < y) && rising (y :: (ds.filterMap pairI).map (·.2))) := rfl
        have r2 : rising (la.toList ++ x :: (ds.filterMap pairI).map (·.1)) = (above la x && rising (x :: (ds.filterMap pairI).map (·.1))) := by
          cases la <;> simp [rising, above]
        rw [r1, r2]
        have e1 : (decide (lv + 1 ≤ y)) = decide (lv < y) := rfl
        have e2 : decide (-M12 ≤ y) = true := decide_eq_true hy
        rw [e1, e2]
        simp only [Option.toList_some, List.singleton_append]
        generalize decide (-M12 ≤ x) = b1
        generalize decide (x ≤ M12) = b2
        generalize decide (y ≤ M12) = b3
        generalize decide (lv < y) = b4
        generalize above la x = b5
        generalize ds.all (isP M12) = b6
        generalize rising (x :: (ds.filterMap pairI).map (·.1)) = b7
        generalize rising (y :: (ds.filterMap pairI).map (·.2)) = b8
        cases b1 <;> cases b2 <;> cases b3 <;> cases b4 <;> cases b5 <;> cases b6 <;> cases b7 <;> rfl
      · have e1 : decide (lv + 1 ≤ y) = false := decide_eq_false (by omega)
        have e2 : decide (-M12 ≤ y) = false := decide_eq_false hy
        rw [e1, e2]
        simp
    · have hn : ∀ p, d ≠ pr p := fun p z => h ⟨p, z⟩
      have hb : isP M12 d = false := by
        cases c : isP M12 d with
        | false => rfl
        | true =>
          obtain ⟨p, e, _⟩ := isP_pr c
          exact absurd e (hn p)
      rw [stepsOk_bad hn, List.all_cons, hb] <;> rfl
theorem law_is_stair_ev (v : Dt) : N_law_is_stair [.dat v] = .ok (.bool (isStair v)) [.dat v] := by
  show runF _ S_law_is_stair _ = _
  have e12 : powD (.int 10) (.int 12) = some (.int M12) := by rw [powD_int (by decide)] <;> rfl
  cases v with
  | tuple xs =>
    by_cases h : xs.length = 2
    · obtain ⟨a, b, rfl⟩ := len2 h
      cases b with
      | tuple steps =>
        by_cases hl : steps.length ≤ 12
        · have hl2 : ¬ ((12 : Int) < steps.length) := by omega
          cases a with
          | int i =>
            cases hw : isW (-M12) M12 (.int i) with
            | true =>
              have hi : -M12 ≤ i ∧ i ≤ M12 := by simpa [isW] using hw
              obtain ⟨r, hr⟩ := isLoop (v := .tuple [.int i, .tuple steps]) steps none i none
              have he : isStair (.tuple [.int i, .tuple steps]) = stepsOk none i steps := by
                rw [stepsOk_eq hi.1]
                simp [isStair, hi, hl]
              rw [he]
              show (match S_law_is_stair [some (.dat (.tuple [.int i, .tuple steps])), none, none, none, none] with
                | .nx e => fin [.dat (.tuple [.int i, .tuple steps])] e (.ok .none)
                | .rt d e => fin [.dat (.tuple [.int i, .tuple steps])] e (.ok d)
                | .exc c e => fin [.dat (.tuple [.int i, .tuple steps])] e (.exc c)
                | _ => .bad) = _
              have hS : S_law_is_stair [some (.dat (.tuple [.int i, .tuple steps])), none, none, none, none] = (loopS (gN 4) isBody steps [some (.dat (.tuple [.int i, .tuple steps])), some (.dat (.int M12)), some (.dat (optD none)), some (.dat (.int i)), none]).seq (sRet (fC (.bool true))) := by
                simp [S_law_is_stair, fVar_succ, law_is_whole_ev, e12, hl2, hw, optD]
                rfl
              rw [hS, hr]
              cases stepsOk none i steps <;> simp
            | false =>
              have he : isStair (.tuple [.int i, .tuple steps]) = false := by
                have z : (decide (-M12 ≤ i) && decide (i ≤ M12)) = false := hw
                simp only [isStair, z, Bool.false_and]
              simp [S_law_is_stair, fVar_succ, law_is_whole_ev, e12, hl2, hw, he]
          | _ => simp [S_law_is_stair, fVar_succ, law_is_whole_ev, e12, hl2, isW, isStair]
        · have hl2 : ((12 : Int) < steps.length) := by omega
          have he : isStair (.tuple [a, .tuple steps]) = false := by cases a <;> simp [isStair, hl]
          simp [S_law_is_stair, fVar_succ, law_is_whole_ev, e12, hl2, he]
      | _ =>
        have he : ∀ a b, (∀ s, b ≠ .tuple s) → isStair (.tuple [a, b]) = false := fun a b hb => by cases a <;> cases b <;> first | rfl | exact absurd rfl (hb _)
        rw [he a _ (fun s z => by cases z)]
        simp [S_law_is_stair, fVar_succ, e12]
    · simp [S_law_is_stair, fVar_succ, isStair_len h, not2 h, e12]
  | _ => simp [S_law_is_stair, fVar_succ, isStair, e12]
end DL
namespace DL
open PySem L2
/-! EV5: more readings -/
theorem defF_run {n : Nat} {f : En → SO} {as : List Slot} (h : as.all noTrue = true) : defF n f as = runF n f as := if_pos h
theorem run_rt {n : Nat} {f : En → SO} {as as' : List Slot} {d : Dt} {e : En} (hn : as.all noTrue = true) (h : f (initE n as) = .rt d e) (ho : outs as e = some as') : defF n f as = .ok d as' := by
  rw [defF_run hn]
  unfold runF
  rw [h]
  unfold fin
  dsimp only
  rw [ho]
theorem run_nx {n : Nat} {f : En → SO} {as as' : List Slot} {e : En} (hn : as.all noTrue = true) (h : f (initE n as) = .nx e) (ho : outs as e = some as') : defF n f as = .ok .none as' := by
  rw [defF_run hn]
  unfold runF
  rw [h]
  unfold fin
  dsimp only
  rw [ho]
theorem run_exc {n : Nat} {f : En → SO} {as as' : List Slot} {c : Str} {e : En} (hn : as.all noTrue = true) (h : f (initE n as) = .exc c e) (ho : outs as e = some as') : defF n f as = .exc c as' := by
  rw [defF_run hn]
  unfold runF
  rw [h]
  unfold fin
  dsimp only
  rw [ho]
theorem fits_nat {n : Nat} (hl : n ≤ 1000000) : fits (n : Int) = true := by
  exact fits_in (by omega)
/-- range(n), n a length -/
theorem asR1_nat {n : Nat} {e : En} (hl : n ≤ 1000000) : asR1 [.int (n : Int)] e = .ok (intsD 0 n) e := by
  unfold asR1
  simp only [fits_nat hl, if_true, Int.toNat_natCast]
/-- for i in range(n): the rule that keeps the bounds closed (the kernel must not look into `fits`) -/
theorem fRange1_of {fs : En → R (List Dt)} {e e1 : En} {n : Nat} (h : fs e = .ok [.int (n : Int)] e1) (hl : n ≤ 1000000) : fRange1 fs e = .ok (intsD 0 n) e1 := by
  unfold fRange1
  rw [h, R.bind_ok, asR1_nat hl]
theorem intsD_succ {lo : Int} {n : Nat} : intsD lo (n + 1) = .int lo :: intsD (lo + 1) n := by
  unfold intsD
  rw [List.range_succ_eq_map, List.map_cons, List.map_map]
  congr 1
  · simp
  · apply List.map_congr_left
    intro i _
    simp only [Function.comp_apply, Int.natCast_succ]
    congr 1
    omega
theorem strsD_map : ∀ {ws : List Str}, strsD (ws.map PyData.str) = some ws
  | [] => rfl
  | w :: ws => by
    rw [List.map_cons, strsD, strsD_map]
    rfl
theorem sApp_of {i : Nat} {fa : En → R Dt} {e e1 : En} {b b1 : Bool} {xs xs1 : List Dt} {d : Dt} (hi : e[i]? = some (some (.own b xs))) (hf : fa e = .ok d e1) (h1 : e1[i]? = some (some (.own b1 xs1))) (hs : xs1.length ≤ 1000000) : sApp i fa e = .nx (e1.set i (some (.own b1 (xs1 ++ [d])))) := by
  unfold sApp
  rw [hi, isOwn_own, if_pos rfl, hf, RS_ok, h1]
  exact if_pos (decide_eq_true hs)
theorem sOwn_of {i : Nat} {fs : En → R (List Dt)} {e e1 : En} {ds : List Dt} (hf : fs e = .ok ds e1) (hs : ds.length ≤ 1000000) : sOwn i fs e = .nx (e1.set i (some (.own true ds))) := by
  unfold sOwn
  rw [hf, RS_ok]
  exact if_pos (decide_eq_true hs)
theorem callL_of {n i : Nat} {F : Fn} {fr : En → R (List Slot)} {e e1 : En} {b b1 : Bool} {xs xs1 ys : List Dt} {ss ss' : List Slot} {d : Dt} (hi : e[i]? = some (some (.own b xs))) (hf : fr e = .ok ss e1) (h1 : e1[i]? = some (some (.own b1 xs1))) (hn : ss.length + 1 = n) (hF : F (ss ++ [.own false xs1]) = .ok d ss') (hl : lastOwn ss' = some ys) :
    callL n i F fr e = .ok d (e1.set i (some (.own b1 ys))) := by
  unfold callL
  rw [hi, isOwn_own, if_pos rfl, hf, R.bind_ok, h1]
  dsimp only
  rw [if_pos hn, hF]
  unfold backL
  dsimp only
  rw [hl]
theorem fCntO_of {i : Nat} {fb : En → R Dt} {e e1 : En} {b b1 : Bool} {xs : List Dt} {ws : List Str} {z : Str} (hi : e[i]? = some (some (.own b xs))) (hf : fb e = .ok (.str z) e1) (h1 : e1[i]? = some (some (.own b1 (ws.map PyData.str)))) : fCntO i fb e = .ok (.int (ws.count z : Nat)) e1 := by
  unfold fCntO
  rw [hi, isOwn_own, if_pos rfl, hf, R.bind_ok, h1]
  dsimp only
  rw [strsD_map]
end DL
namespace DL
open PySem L2
/-! ### words of steps -/
def kind (w : Str) : Nat := if w == "any" then 0 else if w == "told" then 1 else if w == "put" then 2 else if w == "plus" then 3 else if w == "greater" then 4 else if w == "lesser" then 5 else 6
theorem kind_le (w : Str) : kind w ≤ 6 := by
  unfold kind
  repeat' split
  all_goals decide
theorem word_cases (w : Str) : w = "any" ∨ w = "told" ∨ w = "put" ∨ w = "plus" ∨ w = "greater" ∨ w = "lesser" ∨ ((w == "any") = false ∧ (w == "told") = false ∧ (w == "put") = false ∧ (w == "plus") = false ∧ (w == "greater") = false ∧ (w == "lesser") = false) := by
  by_cases h1 : w = "any"; · exact .inl h1
  by_cases h2 : w = "told"; · exact .inr (.inl h2)
  by_cases h3 : w = "put"; · exact .inr (.inr (.inl h3))
  by_cases h4 : w = "plus"; · exact .inr (.inr (.inr (.inl h4)))
  by_cases h5 : w = "greater"; · exact .inr (.inr (.inr (.inr (.inl h5))))
  by_cases h6 : w = "lesser"; · exact .inr (.inr (.inr (.inr (.inr (.inl h6)))))
  exact .inr (.inr (.inr (.inr (.inr (.inr ⟨beq_false_of_ne h1, beq_false_of_ne h2, beq_false_of_ne h3, beq_false_of_ne h4, beq_false_of_ne h5, beq_false_of_ne h6⟩)))))
theorem kind_beq (w : Str) : (w == "any") = (kind w == 0) ∧ (w == "told") = (kind w == 1) ∧ (w == "put") = (kind w == 2) ∧ (w == "plus") = (kind w == 3) ∧ (w == "greater") = (kind w == 4) ∧ (w == "lesser") = (kind w == 5) := by
  rcases word_cases w with rfl | rfl | rfl | rfl | rfl | rfl | ⟨h1, h2, h3, h4, h5, h6⟩
  · decide +kernel
  · decide +kernel
  · decide +kernel
  · decide +kernel
  · decide +kernel
  · decide +kernel
  · simp [kind, h1, h2, h3, h4, h5, h6]
theorem beq_sym (a b : Str) : (a == b) = (b == a) := by
  by_cases h : a = b
  · rw [h]
  · rw [beq_false_of_ne h, beq_false_of_ne (Ne.symm h)]
theorem ok_any : PyData.strOk "any" = true := by decide +kernel
theorem ok_told : PyData.strOk "told" = true := by decide +kernel
theorem ok_put : PyData.strOk "put" = true := by decide +kernel
theorem ok_plus : PyData.strOk "plus" = true := by decide +kernel
theorem ok_greater : PyData.strOk "greater" = true := by decide +kernel
theorem ok_lesser : PyData.strOk "lesser" = true := by decide +kernel
theorem eqD_str {a b : Str} (h1 : PyData.strOk a = true) (h2 : PyData.strOk b = true) : eqD (.str a) (.str b) = some (.bool (a == b)) := by
  rw [eqD_of (by rw [fitN_str]; exact h1) (by rw [fitN_str]; exact h2), eqv_str]
theorem inD_list {neg : Bool} {x : Dt} {ys : List Dt} : inD neg x (.list ys) = if (okD x && okD (.list ys)) = true then some (.bool (neg != ys.any fun z => PyData.eqv z x)) else none := rfl
theorem inD_tuple {neg : Bool} {x : Dt} {ys : List Dt} : inD neg x (.tuple ys) = if (okD x && okD (.tuple ys)) = true then some (.bool (neg != ys.any fun z => PyData.eqv z x)) else none := rfl
section
variable {w : Str} (h : PyData.strOk w = true)
include h
theorem eq_any : eqD (.str w) (.str "any") = some (.bool (kind w == 0)) := by rw [eqD_str h ok_any, (kind_beq w).1]
theorem eq_told : eqD (.str w) (.str "told") = some (.bool (kind w == 1)) := by rw [eqD_str h ok_told, (kind_beq w).2.1]
theorem eq_put : eqD (.str w) (.str "put") = some (.bool (kind w == 2)) := by rw [eqD_str h ok_put, (kind_beq w).2.2.1]
theorem eq_plus : eqD (.str w) (.str "plus") = some (.bool (kind w == 3)) := by rw [eqD_str h ok_plus, (kind_beq w).2.2.2.1]
theorem eq_greater : eqD (.str w) (.str "greater") = some (.bool (kind w == 4)) := by rw [eqD_str h ok_greater, (kind_beq w).2.2.2.2.1]
theorem eq_lesser : eqD (.str w) (.str "lesser") = some (.bool (kind w == 5)) := by rw [eqD_str h ok_lesser, (kind_beq w).2.2.2.2.2]
theorem inT_of {neg : Bool} {ys : List Str} (hy : ys.all PyData.strOk = true) : inD neg (.str w) (.tuple (ys.map PyData.str)) = some (.bool (neg != (ys.any fun z => z == w))) := by
  have e1 : okD (.str w) = true := by rw [okD_eq, fitN_str]; exact h
  have e2 : okD (.tuple (ys.map PyData.str)) = true := by
    rw [okD_eq, fitN_tuple, List.all_map]
    simpa [Function.comp_def, fitN_str] using hy
  rw [inD_tuple, e1, e2]
  simp [List.any_map, Function.comp_def]
theorem inL_of {neg : Bool} {ys : List Str} (hy : ys.all PyData.strOk = true) : inD neg (.str w) (.list (ys.map PyData.str)) = some (.bool (neg != (ys.any fun z => z == w))) := by
  have e1 : okD (.str w) = true := by rw [okD_eq, fitN_str]; exact h
  have e2 : okD (.list (ys.map PyData.str)) = true := by
    rw [okD_eq, fitN_list, List.all_map]
    simpa [Function.comp_def, fitN_str] using hy
  rw [inD_list, e1, e2]
  simp [List.any_map, Function.comp_def]
theorem in_gl {neg : Bool} : inD neg (.str w) (.tuple [.str "greater", .str "lesser"]) = some (.bool (neg != (kind w == 4 || kind w == 5))) := by
  have e := inT_of h (neg := neg) (ys := ["greater", "lesser"]) (by decide +kernel)
  simp only [List.map_cons, List.map_nil, List.any_cons, List.any_nil, Bool.or_false, beq_sym "greater" w, beq_sym "lesser" w, (kind_beq w).2.2.2.2.1, (kind_beq w).2.2.2.2.2] at e
  exact e
theorem in_glL {neg : Bool} : inD neg (.str w) (.list [.str "greater", .str "lesser"]) = some (.bool (neg != (kind w == 4 || kind w == 5))) := by
  have e := inL_of h (neg := neg) (ys := ["greater", "lesser"]) (by decide +kernel)
  simp only [List.map_cons, List.map_nil, List.any_cons, List.any_nil, Bool.or_false, beq_sym "greater" w, beq_sym "lesser" w, (kind_beq w).2.2.2.2.1, (kind_beq w).2.2.2.2.2] at e
  exact e
theorem in_pgl {neg : Bool} : inD neg (.str w) (.list [.str "plus", .str "put", .str "greater", .str "lesser"]) = some (.bool (neg != (kind w == 3 || (kind w == 2 || (kind w == 4 || kind w == 5))))) := by
  have e := inL_of h (neg := neg) (ys := ["plus", "put", "greater", "lesser"]) (by decide +kernel)
  simp only [List.map_cons, List.map_nil, List.any_cons, List.any_nil, Bool.or_false, beq_sym "greater" w, beq_sym "lesser" w, beq_sym "plus" w, beq_sym "put" w, (kind_beq w).2.2.2.2.1, (kind_beq w).2.2.2.2.2, (kind_beq w).2.2.1, (kind_beq w).2.2.2.1] at e
  exact e
theorem in_any {neg : Bool} : inD neg (.str w) (.tuple [.str "any"]) = some (.bool (neg != (kind w == 0))) := by
  have e := inT_of h (neg := neg) (ys := ["any"]) (by decide +kernel)
  simp only [List.map_cons, List.map_nil, List.any_cons, List.any_nil, Bool.or_false, beq_sym "any" w, (kind_beq w).1] at e
  exact e
theorem in_put {neg : Bool} : inD neg (.str w) (.tuple [.str "put"]) = some (.bool (neg != (kind w == 2))) := by
  have e := inT_of h (neg := neg) (ys := ["put"]) (by decide +kernel)
  simp only [List.map_cons, List.map_nil, List.any_cons, List.any_nil, Bool.or_false, beq_sym "put" w, (kind_beq w).2.2.1] at e
  exact e
end
/-! ### is_step -/
def isStepB (n : Int) : Dt → Bool
  | .tuple [.str w] => kind w == 0
  | .tuple [.str w, a] => if kind w = 1 then isW (-1000) 1000 a else if kind w = 2 then isW 0 (n - 1) a else false
  | .tuple [.str w, a, b] => if kind w = 3 then isW 0 (n - 1) a && isW (-20) 20 b else if kind w = 4 ∨ kind w = 5 then isW 0 (n - 1) a && isW 0 (n - 1) b && !PyData.eqv a b else false
  | _ => false
theorem isStepB_long {n : Int} {a b c d : Dt} {r : List Dt} : isStepB n (.tuple (a :: b :: c :: d :: r)) = false := by cases a <;> rfl
theorem isStepB_nstr {n : Int} {a : Dt} {r : List Dt} (h : ∀ w, a ≠ .str w) : isStepB n (.tuple (a :: r)) = false := by
  unfold isStepB
  split
  · rename_i e; injection e with e; injection e with e1 e2; exact absurd e1 (h _)
  · rename_i e; injection e with e; injection e with e1 e2; exact absurd e1 (h _)
  · rename_i e; injection e with e; injection e with e1 e2; exact absurd e1 (h _)
  · rfl
theorem k7 {k : Nat} (h : k ≤ 6) : k = 0 ∨ k = 1 ∨ k = 2 ∨ k = 3 ∨ k = 4 ∨ k = 5 ∨ k = 6 := by omega
theorem neD_int' {i j : Int} : neD (.int i) (.int j) = some (.bool (!decide (i = j))) := neD_int
theorem in123 {m : Nat} : inD true (.int (m : Int)) (.tuple [.int 1, .int 2, .int 3]) = some (.bool (!(decide (m = 1) || (decide (m = 2) || decide (m = 3))))) := by
  rw [inD_tuple]
  have e1 : okD (.int (m : Int)) = true := by rw [okD_eq]; exact fitN_int
  have e2 : okD (.tuple [.int 1, .int 2, .int 3]) = true := by decide +kernel
  rw [e1, e2]
  simp only [Bool.and_true, if_true, List.any_cons, List.any_nil, eqv_int, Bool.or_false, Bool.true_bne]
  have a1 : decide ((1 : Int) = (m : Int)) = decide (m = 1) := decide_eq_decide.mpr (by omega)
  have a2 : decide ((2 : Int) = (m : Int)) = decide (m = 2) := decide_eq_decide.mpr (by omega)
  have a3 : decide ((3 : Int) = (m : Int)) = decide (m = 3) := decide_eq_decide.mpr (by omega)
  rw [a1, a2, a3]
theorem in1 : inD true (.int 1) (.tuple [.int 1, .int 2, .int 3]) = some (.bool false) := in123 (m := 1)
theorem in2 : inD true (.int 2) (.tuple [.int 1, .int 2, .int 3]) = some (.bool false) := in123 (m := 2)
theorem in3 : inD true (.int 3) (.tuple [.int 1, .int 2, .int 3]) = some (.bool false) := in123 (m := 3)
theorem fit_cons {n : Nat} {a : Dt} {r : List Dt} (h : fitN (n + 1) (.tuple (a :: r)) = true) : fitN n a = true ∧ fitN (n + 1) (.tuple r) = true := by
  rw [fitN_tuple] at h ⊢
  simpa using h
theorem len3s {α : Type} {a b c : α} : [a, b, c].length = 3 := rfl
theorem len_ne {α : Type} {a b c d : α} {r : List α} (k : Nat) (h : k ≤ 3) : ¬ (((a :: b :: c :: d :: r).length : Int) = (k : Int)) := by
  simp only [List.length_cons]
  omega
theorem is_step_ev (v : Dt) (n : Int) (hv : fitN 60 v = true) : N_is_step [.dat v, .dat (.int n)] = .ok (.bool (isStepB n v)) [.dat v, .dat (.int n)] := by
  show runF _ S_is_step _ = _
  cases v with
  | tuple xs =>
    have q0 : eqD (.tuple xs) (.tuple []) = some (.bool xs.isEmpty) := by rw [eqD_of (fitN_mono hv (by decide)) (by decide +kernel), eqv_tnil]
    cases xs with
    | nil => simp [S_is_step, fVar_succ, gTup_ev, q0, isStepB]
    | cons a r =>
      obtain ⟨ha, hr⟩ := fit_cons hv
      by_cases hs : ∃ w, a = .str w
      · obtain ⟨w, rfl⟩ := hs
        rw [fitN_str] at ha
        have e0 := eq_any ha
        have e1 := eq_told ha
        have e2 := eq_put ha
        have e3 := eq_plus ha
        have e4 := in_gl ha (neg := true)
        rcases r with _ | ⟨a, _ | ⟨b, _ | ⟨c, r⟩⟩⟩
        · rcases k7 (kind_le w) with k | k | k | k | k | k | k <;> rw [k] at e0 e1 e2 e3 e4 <;> simp [S_is_step, fVar_succ, gTup_ev, q0, e0, e1, isStepB, k]
        · rcases k7 (kind_le w) with k | k | k | k | k | k | k <;> rw [k] at e0 e1 e2 e3 e4 <;> cases c : isW 0 (n - 1) a <;> simp [S_is_step, fVar_succ, gTup_ev, q0, e0, e1, e2, e3, is_whole_ev, isStepB, k, c]
        · have hab : eqD a b = some (.bool (PyData.eqv a b)) := eqD_of (fitN_mono (fit_cons hr).1 (by decide)) (fitN_mono (fit_cons (fit_cons hr).2).1 (by decide))
          rcases k7 (kind_le w) with k | k | k | k | k | k | k <;> rw [k] at e0 e1 e2 e3 e4 <;> cases c : isW 0 (n - 1) a <;> cases c2 : PyData.eqv a b <;> simp [S_is_step, fVar_succ, gTup_ev, q0, e0, e1, e2, e3, e4, is_whole_ev, isStepB, k, c, hab, c2]
        · rw [isStepB_long]
          have l1 : ¬ (((PyData.str w :: a :: b :: c :: r).length : Int) = 1) := len_ne 1 (by decide)
          have l2 : ¬ (((PyData.str w :: a :: b :: c :: r).length : Int) = 2) := len_ne 2 (by decide)
          have l3 : ¬ (((PyData.str w :: a :: b :: c :: r).length : Int) = 3) := len_ne 3 (by decide)
          have l4 : ¬ (((PyData.str w :: a :: b :: c :: r).length : Int) < 2) := by simp only [List.length_cons]; omega
          rcases k7 (kind_le w) with k | k | k | k | k | k | k <;> rw [k] at e0 e1 e2 e3 e4 <;> cases c : isW 0 (n - 1) a <;> simp [-List.length_cons, len3s, S_is_step, fVar_succ, gTup_ev, q0, e0, e1, e2, e3, is_whole_ev, k, c, l1, l2, l3, l4]
      · have hs : ∀ w, a ≠ .str w := fun w e => hs ⟨w, e⟩
        rw [isStepB_nstr hs]
        cases a with
        | str w => exact absurd rfl (hs w)
        | _ => simp [S_is_step, fVar_succ, gTup_ev, q0]
  | _ => simp [S_is_step, fVar_succ, isStepB]
theorem law_is_step_ev (v : Dt) (n : Int) (hv : fitN 60 v = true) : N_law_is_step [.dat v, .dat (.int n)] = .ok (.bool (isStepB n v)) [.dat v, .dat (.int n)] := by
  show runF _ S_law_is_step _ = _
  cases v with
  | tuple xs =>
    cases xs with
    | nil =>
      have q00 : inD true (.int 0) (.tuple [.int 1, .int 2, .int 3]) = some (.bool true) := in123 (m := 0)
      simp [S_law_is_step, fVar_succ, gTup_ev, isStepB, q00]
    | cons a r =>
      obtain ⟨ha, hr⟩ := fit_cons hv
      have q1 := in123 (m := (a :: r).length)
      by_cases hs : ∃ w, a = .str w
      · obtain ⟨w, rfl⟩ := hs
        rw [fitN_str] at ha
        have e0 := eq_any ha
        have e1 := eq_told ha
        have e2 := eq_put ha
        have e3 := eq_plus ha
        have e4 := in_pgl ha (neg := true)
        rcases r with _ | ⟨a, _ | ⟨b, _ | ⟨c, r⟩⟩⟩
        · rcases k7 (kind_le w) with k | k | k | k | k | k | k <;> rw [k] at e0 e1 e2 e3 e4 <;> simp [S_law_is_step, fVar_succ, gTup_ev, gLst_ev, in1, in2, in3, e0, e1, e2, e3, e4, isStepB, k]
        · rcases k7 (kind_le w) with k | k | k | k | k | k | k <;> rw [k] at e0 e1 e2 e3 e4 <;> cases c : isW 0 (n - 1) a <;> simp [S_law_is_step, fVar_succ, gTup_ev, gLst_ev, in1, in2, in3, e0, e1, e2, e3, e4, law_is_whole_ev, isStepB, k, c]
        · have hab : neD a b = some (.bool (!PyData.eqv a b)) := neD_of (fitN_mono (fit_cons hr).1 (by decide)) (fitN_mono (fit_cons (fit_cons hr).2).1 (by decide))
          rcases k7 (kind_le w) with k | k | k | k | k | k | k <;> rw [k] at e0 e1 e2 e3 e4 <;> cases c : isW 0 (n - 1) a <;> cases c3 : isW 0 (n - 1) b <;> cases c2 : PyData.eqv a b <;> simp [S_law_is_step, fVar_succ, gTup_ev, gLst_ev, in1, in2, in3, e0, e1, e2, e3, e4, law_is_whole_ev, isStepB, k, c, hab, c2, c3]
        · rw [isStepB_long]
          have l1 : ¬ ((PyData.str w :: a :: b :: c :: r).length = 1) := by simp
          have l2 : ¬ ((PyData.str w :: a :: b :: c :: r).length = 2) := by simp
          have l3 : ¬ ((PyData.str w :: a :: b :: c :: r).length = 3) := by simp
          simp [-List.length_cons, len3s, S_law_is_step, fVar_succ, gTup_ev, q1, l1, l2, l3]
      · have hs : ∀ w, a ≠ .str w := fun w e => hs ⟨w, e⟩
        rw [isStepB_nstr hs]
        have hc : (decide ((a :: r).length = 1) || (decide ((a :: r).length = 2) || decide ((a :: r).length = 3))) = true ∨ (decide ((a :: r).length = 1) || (decide ((a :: r).length = 2) || decide ((a :: r).length = 3))) = false := by
          cases (decide ((a :: r).length = 1) || (decide ((a :: r).length = 2) || decide ((a :: r).length = 3))) <;> simp
        rcases hc with hc | hc <;> rw [hc] at q1 <;> cases a with
        | str w => exact absurd rfl (hs w)
        | _ => simp [-List.length_cons, len3s, S_law_is_step, fVar_succ, gTup_ev, q1]
  | _ => simp [S_law_is_step, fVar_succ, isStepB]
end DL
namespace DL
open PySem L2
/-! ### steps and courses as data -/
inductive Stp where
  | any
  | told (n : Int)
  | put (i : Nat)
  | plus (i : Nat) (m : Int)
  | great (i j : Nat)
  | less (i j : Nat)
deriving DecidableEq
def Stp.d : Stp → Dt
  | .any => .tuple [.str "any"]
  | .told n => .tuple [.str "told", .int n]
  | .put i => .tuple [.str "put", .int i]
  | .plus i m => .tuple [.str "plus", .int i, .int m]
  | .great i j => .tuple [.str "greater", .int i, .int j]
  | .less i j => .tuple [.str "lesser", .int i, .int j]
def Stp.k : Stp → Nat
  | .any => 0
  | .told _ => 1
  | .put _ => 2
  | .plus _ _ => 3
  | .great _ _ => 4
  | .less _ _ => 5
def Stp.w : Stp → Str
  | .any => "any"
  | .told _ => "told"
  | .put _ => "put"
  | .plus _ _ => "plus"
  | .great _ _ => "greater"
  | .less _ _ => "lesser"
/-- a step behind n others -/
def Stp.ok (n : Nat) : Stp → Prop
  | .any => True
  | .told m => -1000 ≤ m ∧ m ≤ 1000
  | .put i => i < n
  | .plus i m => i < n ∧ -20 ≤ m ∧ m ≤ 20
  | .great i j => i < n ∧ j < n ∧ i ≠ j
  | .less i j => i < n ∧ j < n ∧ i ≠ j
theorem isW_int {lo hi : Int} {a : Dt} (h : isW lo hi a = true) : ∃ i, a = .int i ∧ lo ≤ i ∧ i ≤ hi := by
  cases a with
  | int i =>
    simp only [isW, Bool.and_eq_true, decide_eq_true_eq] at h
    exact ⟨i, rfl, h⟩
  | _ => cases h
theorem isW_nat {n : Nat} {a : Dt} (h : isW 0 ((n : Int) - 1) a = true) : ∃ i : Nat, a = .int (i : Int) ∧ i < n := by
  obtain ⟨i, rfl, h0, h1⟩ := isW_int h
  obtain ⟨j, rfl⟩ := Int.eq_ofNat_of_zero_le h0
  exact ⟨j, rfl, by omega⟩
theorem isW_of {lo hi i : Int} (h : lo ≤ i ∧ i ≤ hi) : isW lo hi (.int i) = true := by simp [isW, h]
theorem kind_inv (w : Str) : (kind w = 0 → w = "any") ∧ (kind w = 1 → w = "told") ∧ (kind w = 2 → w = "put") ∧ (kind w = 3 → w = "plus") ∧ (kind w = 4 → w = "greater") ∧ (kind w = 5 → w = "lesser") := by
  rcases word_cases w with rfl | rfl | rfl | rfl | rfl | rfl | ⟨h1, h2, h3, h4, h5, h6⟩
  · decide +kernel
  · decide +kernel
  · decide +kernel
  · decide +kernel
  · decide +kernel
  · decide +kernel
  · simp [kind, h1, h2, h3, h4, h5, h6]
@[simp] theorem kind_any : kind "any" = 0 := by decide +kernel
@[simp] theorem kind_told : kind "told" = 1 := by decide +kernel
@[simp] theorem kind_put : kind "put" = 2 := by decide +kernel
@[simp] theorem kind_plus : kind "plus" = 3 := by decide +kernel
@[simp] theorem kind_greater : kind "greater" = 4 := by decide +kernel
@[simp] theorem kind_lesser : kind "lesser" = 5 := by decide +kernel
theorem isStepB_ok {n : Nat} {d : Dt} (h : isStepB n d = true) : ∃ s : Stp, d = s.d ∧ s.ok n := by
  unfold isStepB at h
  split at h
  · rename_i w
    have := (kind_inv w).1 (by simpa using h)
    subst this
    exact ⟨.any, rfl, trivial⟩
  · rename_i w a
    split at h
    · rename_i k
      have := (kind_inv w).2.1 k
      subst this
      obtain ⟨i, rfl, h1⟩ := isW_int h
      exact ⟨.told i, rfl, h1⟩
    · split at h
      · rename_i k
        have := (kind_inv w).2.2.1 k
        subst this
        obtain ⟨i, rfl, h1⟩ := isW_nat h
        exact ⟨.put i, rfl, h1⟩
      · cases h
  · rename_i w a b
    split at h
    · rename_i k
      have := (kind_inv w).2.2.2.1 k
      subst this
      rw [Bool.and_eq_true] at h
      obtain ⟨i, rfl, h1⟩ := isW_nat h.1
      obtain ⟨j, rfl, h2⟩ := isW_int h.2
      exact ⟨.plus i j, rfl, h1, h2⟩
    · split at h
      · rename_i k
        simp only [Bool.and_eq_true, Bool.not_eq_true'] at h
        obtain ⟨i, rfl, h1⟩ := isW_nat h.1.1
        obtain ⟨j, rfl, h2⟩ := isW_nat h.1.2
        have ne : i ≠ j := fun e => by
          have := h.2
          rw [eqv_int, e] at this
          simp at this
        rcases k with k | k
        · have := (kind_inv w).2.2.2.2.1 k
          subst this
          exact ⟨.great i j, rfl, h1, h2, ne⟩
        · have := (kind_inv w).2.2.2.2.2 k
          subst this
          exact ⟨.less i j, rfl, h1, h2, ne⟩
      · cases h
  · cases h
theorem isStepB_of {n : Nat} {s : Stp} (h : s.ok n) : isStepB n s.d = true := by
  cases s with
  | any => simp [Stp.d, isStepB]
  | told m =>
    have h : -1000 ≤ m ∧ m ≤ 1000 := h
    simpa [Stp.d, isStepB, isW] using h
  | put i =>
    have h : i < n := h
    simp [Stp.d, isStepB, isW]
    omega
  | plus i m =>
    obtain ⟨h1, h2, h3⟩ := h
    simp [Stp.d, isStepB, isW]
    omega
  | great i j =>
    obtain ⟨h1, h2, h3⟩ := h
    simp [Stp.d, isStepB, isW]
    omega
  | less i j =>
    obtain ⟨h1, h2, h3⟩ := h
    simp [Stp.d, isStepB, isW]
    omega
def okFrom : Nat → List Stp → Prop
  | _, [] => True
  | n, s :: c => s.ok n ∧ okFrom (n + 1) c
def stepsB : Nat → List Dt → Bool
  | _, [] => true
  | n, d :: ds => isStepB n d && stepsB (n + 1) ds
theorem stepsB_ok : ∀ {ds : List Dt} {n : Nat}, stepsB n ds = true → ∃ c : List Stp, ds = c.map Stp.d ∧ okFrom n c
  | [], _, _ => ⟨[], rfl, trivial⟩
  | d :: ds, n, h => by
    rw [stepsB, Bool.and_eq_true] at h
    obtain ⟨s, rfl, h1⟩ := isStepB_ok h.1
    obtain ⟨c, rfl, h2⟩ := stepsB_ok h.2
    exact ⟨s :: c, rfl, h1, h2⟩
theorem stepsB_of : ∀ {c : List Stp} {n : Nat}, okFrom n c → stepsB n (c.map Stp.d) = true
  | [], _, _ => rfl
  | s :: c, n, h => by
    rw [List.map_cons, stepsB, Bool.and_eq_true]
    exact ⟨isStepB_of h.1, stepsB_of h.2⟩
theorem stepsB_iff {ds : List Dt} : ∀ {n : Nat}, stepsB n ds = true ↔ ∀ i, i < ds.length → isStepB ((n + i : Nat) : Int) (ds.getD i .none) = true := by
  induction ds with
  | nil => intro n; simp [stepsB]
  | cons d ds ih =>
    intro n
    rw [stepsB, Bool.and_eq_true, ih]
    constructor
    · rintro ⟨h1, h2⟩ i hi
      cases i with
      | zero => simpa using h1
      | succ i =>
        have := h2 i (by simpa using hi)
        rw [show n + 1 + i = n + (i + 1) by omega] at this
        simpa using this
    · intro h
      refine ⟨by simpa using h 0 (by simp), fun i hi => ?_⟩
      have := h (i + 1) (by simpa using hi)
      rw [show n + (i + 1) = n + 1 + i by omega] at this
      simpa using this
abbrev courseD (c : List Stp) : Dt := .tuple (c.map Stp.d)
/-! ### steps_with -/
theorem ints_filter {q : Nat → Bool} {G : Dt → Option Dt} {n : Nat} (h : ∀ i, i < n → G (.int (i : Int)) = if q i = true then some (.int (i : Int)) else none) : (intsD 0 n).filterMap G = ((List.range n).filter q).map fun i : Nat => PyData.int (i : Int) := by
  have key : ∀ l : List Nat, (∀ i ∈ l, i < n) → (l.map fun i : Nat => PyData.int (0 + (i : Int))).filterMap G = (l.filter q).map fun i : Nat => PyData.int (i : Int) := fun l => by
    induction l with
    | nil => intro _; rfl
    | cons a l ih =>
      intro hl
      rw [List.map_cons, List.filterMap_cons, List.filter_cons, Int.zero_add, h a (hl a (by simp)), ih fun i hi => hl i (by simp [hi])]
      cases q a <;> simp
  exact key _ fun i hi => List.mem_range.mp hi
theorem range_getD {α : Type} {d : α} {c : List α} : (List.range c.length).map (fun i => c.getD i d) = c := by
  apply List.ext_getElem
  · simp
  · intro i h1 h2
    simp [List.getD, List.getElem?_eq_getElem h2]
def idxs (p : Nat → Bool) (c : List Stp) : List Nat := (List.range c.length).filter fun i => p (c.getD i .any).k
theorem idxs_len {p : Nat → Bool} {c : List Stp} : (idxs p c).length = c.countP fun s => p s.k := by
  unfold idxs
  rw [← List.countP_eq_length_filter]
  have e := List.countP_map (p := fun s : Stp => p s.k) (f := fun i => c.getD i .any) (l := List.range c.length)
  rw [range_getD] at e
  rw [e]
  rfl
theorem mem_idxs {p : Nat → Bool} {c : List Stp} {i : Nat} : i ∈ idxs p c ↔ ∃ s, c[i]? = some s ∧ p s.k = true := by
  unfold idxs
  rw [List.mem_filter, List.mem_range]
  constructor
  · rintro ⟨h1, h2⟩
    exact ⟨c[i], List.getElem?_eq_getElem h1, by simpa [List.getD, List.getElem?_eq_getElem h1] using h2⟩
  · rintro ⟨s, h1, h2⟩
    exact ⟨(List.getElem?_eq_some_iff.mp h1).1, by simpa [List.getD, h1] using h2⟩
theorem get_d {c : List Stp} {i : Nat} (h : i < c.length) : (c.map Stp.d)[i]? = some (c.getD i .any).d := by
  simp [List.getElem?_map, List.getElem?_eq_getElem h, List.getD]
theorem ix0_d (s : Stp) : ixD s.d (.int 0) = some (.str s.w) := by cases s <;> rfl
def swG (p : Nat → Bool) (c : List Stp) : Dt → Option Dt
  | .int i => if p (c.getD i.toNat .any).k = true then some (.int i) else none
  | _ => none
def swE (c : List Stp) (W : Dt) (o : Option Slot) : En := [some (.dat (courseD c)), some (.dat W), o]
def swF : En → R Dt := (fLc (fRange1 (fCons (fA lenD (fCons (fVar 0) fNil)) fNil)) (gN 2) (fB (f2 (inD false) (f2 ixD (f2 ixD (fVar 0) (fVar 2)) (fC (.int 0))) (fVar 1))) (fVar 2) [2])
theorem sw1 {c : List Stp} (hl : c.length ≤ 1000) {W : Dt} : (fRange1 (fCons (fA lenD (fCons (fVar 0) fNil)) fNil)) (swE c W none) = .ok (intsD 0 c.length) (swE c W none) := fRange1_of (by simp [swE]) (by omega)
theorem sw2 {c : List Stp} (hl : c.length ≤ 1000) {W : Dt} {p : Nat → Bool} (hW : ∀ s : Stp, inD false (.str s.w) W = some (.bool (p s.k))) : ∀ d ∈ intsD 0 c.length, turnR (gN 2) (fB (f2 (inD false) (f2 ixD (f2 ixD (fVar 0) (fVar 2)) (fC (.int 0))) (fVar 1))) (fVar 2) [2] (swE c W none) d = .ok (swG p c d) (swE c W none) := by
  intro d hd
  obtain ⟨i, hi, rfl⟩ := mem_intsD hd
  have g1 := atI_nat (get_d hi)
  simp only [Int.zero_add] at *
  cases q : p (c.getD i .any).k <;> simp [-List.getD_eq_getElem?_getD, turnR, fVar_succ, courseD, g1, ix0_d, hW, q, swG, swE]
theorem sw3 {c : List Stp} (hl : c.length ≤ 1000) {W : Dt} {p : Nat → Bool} (hW : ∀ s : Stp, inD false (.str s.w) W = some (.bool (p s.k))) : swF (swE c W none) = .ok (.list ((intsD 0 c.length).filterMap (swG p c))) (swE c W none) := by
  unfold swF
  rw [fLc_G (swG p c) (intsD 0 c.length) (swE c W none) (sw1 hl) (by rw [intsD_length]; omega) (sw2 hl hW)]
  simp [keepS_s, swE]
theorem sw4 {c : List Stp} (hl : c.length ≤ 1000) {W : Dt} {p : Nat → Bool} (hW : ∀ s : Stp, inD false (.str s.w) W = some (.bool (p s.k))) : swF (swE c W none) = .ok (.list ((idxs p c).map fun i : Nat => PyData.int (i : Int))) (swE c W none) := by
  rw [sw3 hl hW, ints_filter (q := fun i => p (c.getD i .any).k) (G := swG p c) (fun i hi => by simp [swG])]
  rfl

theorem S_sw : S_steps_with = sRet swF := rfl
theorem sw6 {c : List Stp} (hl : c.length ≤ 1000) {W : Dt} {p : Nat → Bool} (hW : ∀ s : Stp, inD false (.str s.w) W = some (.bool (p s.k))) : S_steps_with (swE c W none) = .rt (.list ((idxs p c).map fun i : Nat => PyData.int (i : Int))) (swE c W none) := by
  rw [S_sw, sRet_ev, sw4 hl hW, RS_ok]
theorem steps_with_ev {c : List Stp} (hl : c.length ≤ 1000) {W : Dt} {p : Nat → Bool} (hW : ∀ s : Stp, inD false (.str s.w) W = some (.bool (p s.k))) : N_steps_with [.dat (courseD c), .dat W] = .ok (.list ((idxs p c).map fun i : Nat => PyData.int (i : Int))) [.dat (courseD c), .dat W] :=
  run_rt (e := swE c W none) rfl (sw6 hl hW) rfl
theorem ok_w (s : Stp) : PyData.strOk s.w = true := by
  cases s
  · exact ok_any
  · exact ok_told
  · exact ok_put
  · exact ok_plus
  · exact ok_greater
  · exact ok_lesser
theorem kind_w (s : Stp) : kind s.w = s.k := by
  cases s
  · exact kind_any
  · exact kind_told
  · exact kind_put
  · exact kind_plus
  · exact kind_greater
  · exact kind_lesser
theorem sw_any {c : List Stp} (hl : c.length ≤ 1000) : N_steps_with [.dat (courseD c), .dat (.tuple [.str "any"])] = .ok (.list ((idxs (· == 0) c).map fun i : Nat => PyData.int (i : Int))) [.dat (courseD c), .dat (.tuple [.str "any"])] := steps_with_ev hl fun s => by rw [in_any (ok_w s), kind_w]; simp
theorem sw_put {c : List Stp} (hl : c.length ≤ 1000) : N_steps_with [.dat (courseD c), .dat (.tuple [.str "put"])] = .ok (.list ((idxs (· == 2) c).map fun i : Nat => PyData.int (i : Int))) [.dat (courseD c), .dat (.tuple [.str "put"])] := steps_with_ev hl fun s => by rw [in_put (ok_w s), kind_w]; simp
theorem sw_gl {c : List Stp} (hl : c.length ≤ 1000) : N_steps_with [.dat (courseD c), .dat (.tuple [.str "greater", .str "lesser"])] = .ok (.list ((idxs (fun k => k == 4 || k == 5) c).map fun i : Nat => PyData.int (i : Int))) [.dat (courseD c), .dat (.tuple [.str "greater", .str "lesser"])] := steps_with_ev hl fun s => by rw [in_gl (ok_w s), kind_w]; simp
/-! ### has_course -/
def wordK : Dt → Nat
  | .tuple (.str w :: _) => kind w
  | _ => 6
theorem wordK_d (s : Stp) : wordK s.d = s.k := by cases s <;> simp [Stp.d, wordK, Stp.k]
def cntK (p : Nat → Bool) (xs : List Dt) : Nat := xs.countP fun d => p (wordK d)
theorem cntK_d {p : Nat → Bool} {c : List Stp} : cntK p (c.map Stp.d) = c.countP fun s => p s.k := by
  unfold cntK
  rw [List.countP_map]
  congr 1
  funext s
  simp [wordK_d]
def isCourse : Dt → Bool
  | .tuple xs => decide (1 ≤ xs.length) && (decide (xs.length ≤ 8) && (stepsB 0 xs && (decide (cntK (· == 0) xs ≤ 3) && (decide (cntK (· == 2) xs ≤ 3) && decide (cntK (fun k => k == 4 || k == 5) xs ≤ 2)))))
  | _ => false
def notStep (xs : List Dt) : Dt → Option Dt
  | .int i => if isStepB i (xs.getD i.toNat .none) = true then none else some (.int i)
  | _ => none
theorem notStep_empty {xs : List Dt} : ((intsD 0 xs.length).filterMap (notStep xs)).isEmpty = stepsB 0 xs := by
  rw [Bool.eq_iff_iff, List.isEmpty_iff, stepsB_iff, List.filterMap_eq_nil_iff]
  constructor
  · intro h i hi
    have h1 := h (.int (0 + (i : Int))) (List.mem_map.mpr ⟨i, List.mem_range.mpr hi, rfl⟩)
    simp only [notStep, Int.zero_add, Int.toNat_natCast] at h1
    split at h1
    · rename_i c
      rw [Nat.zero_add]
      exact c
    · cases h1
  · intro h d hd
    obtain ⟨i, hi, rfl⟩ := mem_intsD hd
    have := h i hi
    rw [Nat.zero_add] at this
    simp only [notStep, Int.zero_add, Int.toNat_natCast]
    rw [if_pos this]
theorem get_dt {xs : List Dt} {i : Nat} (h : i < xs.length) : xs[i]? = some (xs.getD i .none) := by
  simp [List.getElem?_eq_getElem h, List.getD]
theorem has_course_ev (v : Dt) (hv : fitN 61 v = true) : N_has_course [.dat v] = .ok (.bool (isCourse v)) [.dat v] := by
  refine run_rt (e := [some (.dat v), none]) rfl ?_ rfl
  show S_has_course [some (.dat v), none] = _
  cases v with
  | tuple xs =>
    by_cases h1 : 1 ≤ xs.length
    · by_cases h8 : xs.length ≤ 8
      · have i1 : decide ((1 : Int) ≤ (xs.length : Int)) = true := decide_eq_true (by omega)
        have i8 : decide ((xs.length : Int) ≤ 8) = true := decide_eq_true (by omega)
        have hl2 : xs.length ≤ 1000000 := by omega
        have hf : ∀ i, i < xs.length → fitN 60 (xs.getD i .none) = true := fun i hi => by
          rw [fitN_tuple, List.all_eq_true] at hv
          exact hv _ (List.mem_iff_getElem?.mpr ⟨i, get_dt hi⟩)
        have t1 : fLc (fRange1 (fCons (fA lenD (fCons (fVar 0) fNil)) fNil)) (gN 1) (gNot (fB (callD 2 N_is_step (aCons (f2 ixD (fVar 0) (fVar 1)) (aCons (fVar 1) aNil))))) (fVar 1) [1] [some (.dat (.tuple xs)), none] = .ok (.list ((intsD 0 xs.length).filterMap (notStep xs))) [some (.dat (.tuple xs)), none] := by
          rw [fLc_G (notStep xs) (intsD 0 xs.length) [some (.dat (.tuple xs)), none] (fRange1_of (by simp) (by omega)) (by rw [intsD_length]; omega) fun d hd => ?_]
          · simp [keepS_s]
          · obtain ⟨i, hi, rfl⟩ := mem_intsD hd
            have g1 := atI_nat (get_dt hi)
            have g2 := is_step_ev (xs.getD i .none) (i : Int) (hf i hi)
            simp only [Int.zero_add] at *
            cases q : isStepB (i : Int) (xs.getD i .none) <;> rw [q] at g2 <;> simp [-List.getD_eq_getElem?_getD, turnR, fVar_succ, g1, g2, q, notStep]
        have hb : ((intsD 0 xs.length).filterMap (notStep xs)).all (fitN 63) = true := fits_list fun d hd y hy => by
          obtain ⟨i, hi, rfl⟩ := mem_intsD hd
          simp only [notStep] at hy
          split at hy
          · cases hy
          · cases hy; exact fitN_int
        have he := notStep_empty (xs := xs)
        have hn := neD_nil hb
        rw [he] at hn
        generalize List.filterMap (notStep xs) (intsD 0 xs.length) = Z at t1 hn
        cases c : stepsB 0 xs with
        | false =>
          rw [c] at hn
          simp [S_has_course, fVar_succ, i1, i8, t1, gLst_ev, hn, isCourse, c]
        | true =>
          rw [c] at hn
          obtain ⟨cs, rfl, hok⟩ := stepsB_ok c
          have l1 : cs.length ≤ 1000 := by simp at h8; omega
          have s1 := sw_any l1
          have s2 := sw_put l1
          have s3 := sw_gl l1
          simp only [courseD] at s1 s2 s3
          have n1 := idxs_len (p := (· == 0)) (c := cs)
          have n2 := idxs_len (p := (· == 2)) (c := cs)
          have n3 := idxs_len (p := fun k => k == 4 || k == 5) (c := cs)
          rw [show (cs.countP fun s => s.k == 0) = cntK (· == 0) (cs.map Stp.d) from (cntK_d (p := (· == 0))).symm] at n1
          rw [show (cs.countP fun s => s.k == 2) = cntK (· == 2) (cs.map Stp.d) from (cntK_d (p := (· == 2))).symm] at n2
          rw [show (cs.countP fun s => s.k == 4 || s.k == 5) = cntK (fun k => k == 4 || k == 5) (cs.map Stp.d) from (cntK_d (p := fun k => k == 4 || k == 5)).symm] at n3
          have hL : ∀ {l : List Nat} {m : Nat}, l.length = m → (l.map fun i : Nat => PyData.int (i : Int)).length = m := fun e => by rw [List.length_map]; exact e
          have n1 := hL n1
          have n2 := hL n2
          have n3 := hL n3
          simp only [isCourse, c, h1, h8]
          generalize (idxs (· == 0) cs).map (fun i : Nat => PyData.int (i : Int)) = L1 at s1 n1
          generalize (idxs (· == 2) cs).map (fun i : Nat => PyData.int (i : Int)) = L2 at s2 n2
          generalize (idxs (fun k => k == 4 || k == 5) cs).map (fun i : Nat => PyData.int (i : Int)) = L3 at s3 n3
          generalize cntK (· == 0) (cs.map Stp.d) = m1 at n1
          generalize cntK (· == 2) (cs.map Stp.d) = m2 at n2
          generalize cntK (fun k => k == 4 || k == 5) (cs.map Stp.d) = m3 at n3
          generalize cs.map Stp.d = xs at *
          have d1 : decide ((3 : Int) < (L1.length : Int)) = !decide (m1 ≤ 3) := by rw [← decide_not]; exact decide_eq_decide.mpr (by omega)
          have d2 : decide ((3 : Int) < (L2.length : Int)) = !decide (m2 ≤ 3) := by rw [← decide_not]; exact decide_eq_decide.mpr (by omega)
          have d3 : decide ((L3.length : Int) ≤ 2) = decide (m3 ≤ 2) := decide_eq_decide.mpr (by omega)
          cases b1 : decide (m1 ≤ 3) <;> cases b2 : decide (m2 ≤ 3) <;> rw [b1] at d1 <;> rw [b2] at d2 <;> simp [-decide_eq_true_eq, -decide_eq_false_iff_not, S_has_course, fVar_succ, i1, i8, t1, gLst_ev, gTup_ev, hn, s1, s2, s3, d1, d2, d3]
      · have i1 : decide ((1 : Int) ≤ (xs.length : Int)) = true := decide_eq_true (by omega)
        have i8 : decide ((xs.length : Int) ≤ 8) = false := decide_eq_false (by omega)
        simp [S_has_course, fVar_succ, i1, i8, isCourse, h8]
    · have i1 : decide ((1 : Int) ≤ (xs.length : Int)) = false := decide_eq_false (by omega)
      have i2 : decide (1 ≤ xs.length) = false := decide_eq_false h1
      simp [-decide_eq_false_iff_not, S_has_course, fVar_succ, i1, isCourse, i2]
  | _ => simp [S_has_course, fVar_succ, isCourse]
end DL
namespace DL
open PySem L2
/-! ### what a meter shows -/
def lvl (b : Int) (s : List (Int × Int)) (n : Int) : Int := s.foldl (fun f p => if p.1 ≤ n then p.2 else f) b
theorem lvl_nil {b n : Int} : lvl b [] n = b := rfl
theorem lvl_cons {b n : Int} {p : Int × Int} {s : List (Int × Int)} : lvl b (p :: s) n = lvl (if p.1 ≤ n then p.2 else b) s n := rfl
theorem level_loop {st : Dt} {n : Int} : ∀ (s : List (Int × Int)) (f : Int) (o1 o2 : Option Slot), ∃ o1' o2', loopS (gT 2 (gsCons (gN 3) (gsCons (gN 4) gsNil))) (sIf (fB (f2 leD (fVar 3) (fVar 1))) (sAsg (fVar 4) (gN 2)) sNx) (s.map pr) [some (.dat st), some (.dat (.int n)), some (.dat (.int f)), o1, o2] =
    .nx [some (.dat st), some (.dat (.int n)), some (.dat (.int (lvl f s n))), o1', o2']
  | [], f, o1, o2 => ⟨o1, o2, rfl⟩
  | p :: s, f, o1, o2 => by
    rw [List.map_cons]
    by_cases h : p.1 ≤ n
    · rw [loopS_nx (e1 := [some (.dat st), some (.dat (.int n)), some (.dat (.int f)), some (.dat (.int p.1)), some (.dat (.int p.2))]) (e2 := [some (.dat st), some (.dat (.int n)), some (.dat (.int p.2)), some (.dat (.int p.1)), some (.dat (.int p.2))]) (by simp) (by simp [fVar_succ, h])]
      rw [lvl_cons, if_pos h]
      exact level_loop s p.2 _ _
    · rw [loopS_nx (e1 := [some (.dat st), some (.dat (.int n)), some (.dat (.int f)), some (.dat (.int p.1)), some (.dat (.int p.2))]) (e2 := [some (.dat st), some (.dat (.int n)), some (.dat (.int f)), some (.dat (.int p.1)), some (.dat (.int p.2))]) (by simp) (by simp [fVar_succ, h])]
      rw [lvl_cons, if_neg h]
      exact level_loop s f _ _
theorem level_at_ev (b : Int) (s : List (Int × Int)) (n : Int) : N_level_at [.dat (stD b s), .dat (.int n)] = .ok (.int (lvl b s n)) [.dat (stD b s), .dat (.int n)] := by
  show runF _ S_level_at _ = _
  obtain ⟨o1, o2, h⟩ := level_loop (st := stD b s) (n := n) s b none none
  have hS : S_level_at [some (.dat (stD b s)), some (.dat (.int n)), none, none, none] = .rt (.int (lvl b s n)) [some (.dat (stD b s)), some (.dat (.int n)), some (.dat (.int (lvl b s n))), o1, o2] := by
    simp [S_level_at, h, fVar_succ]
  simp [hS]
def shownL (s : List (Int × Int)) (n : Int) : List Int := (s.filter fun p => decide (p.1 ≤ n)).map (·.2)
theorem lvl_last : ∀ {s : List (Int × Int)} {b n : Int}, lvl b s n = (shownL s n).getLastD b
  | [], _, _ => rfl
  | p :: s, b, n => by
    rw [lvl_cons, lvl_last]
    unfold shownL
    by_cases h : p.1 ≤ n
    · rw [List.filter_cons_of_pos (by simpa using h), if_pos h, List.map_cons]
      cases h2 : (List.filter (fun p => decide (p.1 ≤ n)) s).map (·.2) with
      | nil => rfl
      | cons a l => simp [List.getLastD]
    · rw [List.filter_cons_of_neg (by simpa using h), if_neg h]
theorem law_shown_ev (b : Int) (s : List (Int × Int)) (n : Int) (hs : s.length ≤ 1000) : N_law_shown [.dat (stD b s), .dat (.int n)] = .ok (.int (lvl b s n)) [.dat (stD b s), .dat (.int n)] := by
  show runF _ S_law_shown _ = _
  have t : fLc (fSeq (f2 ixD (fVar 0) (fC (.int 1)))) (gT 2 (gsCons (gN 3) (gsCons (gN 4) gsNil))) (fB (f2 leD (fVar 3) (fVar 1))) (fVar 4) [3, 4] [some (.dat (stD b s)), some (.dat (.int n)), none, none, none] = .ok (.list ((shownL s n).map PyData.int)) [some (.dat (stD b s)), some (.dat (.int n)), none, none, none] := by
    rw [fLc_G (fun d => match d with
      | .tuple [.int x, .int y] => if x ≤ n then some (.int y) else none
      | _ => none) (s.map pr) [some (.dat (stD b s)), some (.dat (.int n)), none, none, none] (by simp) (by simp; omega) fun d hd => ?_]
    · have e : (s.map pr).filterMap (fun d => match d with
        | .tuple [.int x, .int y] => if x ≤ n then some (.int y) else none
        | _ => none) = (shownL s n).map PyData.int := by
        unfold shownL
        clear hs
        induction s with
        | nil => rfl
        | cons p s ih =>
          by_cases h : p.1 ≤ n
          · rw [List.filter_cons_of_pos (by simpa using h), List.map_cons, List.map_cons, List.map_cons, List.filterMap_cons, ← ih]
            simp [pr, h]
          · rw [List.filter_cons_of_neg (by simpa using h), List.map_cons, List.filterMap_cons, ← ih]
            simp [pr, h]
      rw [e]
      simp [keepS_s]
    · obtain ⟨p, _, rfl⟩ := List.mem_map.mp hd
      by_cases h : p.1 ≤ n <;> simp [turnR, fVar_succ, h, pr, gT]
  have hf : ((shownL s n).map PyData.int).all (fitN 63) = true := fitN_ints
  cases hl : shownL s n with
  | nil =>
    have e : lvl b s n = b := by rw [lvl_last, hl] <;> rfl
    simp [-List.map_map, S_law_shown, fVar_succ, t, hl, gLst_ev, neD_nil (xs := []) rfl, e]
  | cons a l =>
    have e : atI ((shownL s n).map PyData.int) (-1) = some (.int (lvl b s n)) := by
      rw [atI_map, lvl_last]
      have : shownL s n = (shownL s n).dropLast ++ [(shownL s n).getLastD b] := by
        rw [hl]
        exact (List.dropLast_concat_getLast (List.cons_ne_nil a l)).symm
      rw [this, atI_last]
      simp
    rw [hl] at e hf
    simp [-List.map_map, -List.map_cons, S_law_shown, fVar_succ, t, hl, gLst_ev, neD_nil hf, e]
end DL
namespace DL
open PySem L2
/-! ### _law_is_course -/
def wordS : Dt → Str
  | .tuple (.str w :: _) => w
  | _ => ""
theorem kind_empty : kind "" = 6 := by decide +kernel
theorem wordK_S (d : Dt) : wordK d = kind (wordS d) := by
  unfold wordK wordS
  split
  · rfl
  · first
    | exact kind_empty.symm
    | (rename_i h
       split
       · exact absurd rfl (h _ _)
       · exact kind_empty.symm)
theorem wordS_d (s : Stp) : wordS s.d = s.w := by cases s <;> rfl
theorem cnt_w {z : Str} {k : Nat} (h : ∀ w : Str, (w == z) = (kind w == k)) (xs : List Dt) : (xs.map wordS).count z = cntK (· == k) xs := by
  unfold cntK
  rw [List.count_eq_countP, List.countP_map]
  congr 1
  funext d
  simp only [Function.comp_apply, wordK_S, h]
theorem cntK_or (xs : List Dt) : cntK (fun k => k == 4 || k == 5) xs = cntK (· == 4) xs + cntK (· == 5) xs := by
  unfold cntK
  induction xs with
  | nil => rfl
  | cons d xs ih =>
    simp only [List.countP_cons, ih]
    by_cases h4 : wordK d = 4
    · simp [h4]
      omega
    · by_cases h5 : wordK d = 5
      · simp [h5]
        omega
      · simp [h4, h5]
def licB : En → SO := (sSeq (sIf (gNot (fB (callD 2 N_law_is_step (aCons (f2 ixD (fVar 0) (fVar 2)) (aCons (fVar 2) aNil))))) (sRet (fC (.bool false))) sNx) (sApp 1 (f2 ixD (f2 ixD (fVar 0) (fVar 2)) (fC (.int 0)))))
def licE (xs : List Dt) (ws : List Str) (o2 o3 : Option Slot) : En := [some (.dat (.tuple xs)), some (.own true (ws.map PyData.str)), o2, o3]
theorem lic_turn {xs : List Dt} {k : Nat} (hk : k < xs.length) (hf : fitN 60 (xs.getD k .none) = true) (ws : List Str) (hw : ws.length ≤ 1000) (o3 : Option Slot) :
    licB (licE xs ws (some (.dat (.int (k : Int)))) o3) = if isStepB (k : Int) (xs.getD k .none) = true then .nx (licE xs (ws ++ [wordS (xs.getD k .none)]) (some (.dat (.int (k : Int)))) o3) else .rt (.bool false) (licE xs ws (some (.dat (.int (k : Int)))) o3) := by
  have g1 := atI_nat (get_dt hk)
  have g2 := law_is_step_ev (xs.getD k .none) (k : Int) hf
  cases q : isStepB (k : Int) (xs.getD k .none) with
  | false =>
    rw [q] at g2
    simp [-List.getD_eq_getElem?_getD, licB, licE, fVar_succ, g1, g2]
  | true =>
    rw [q] at g2
    have hx : ixD (xs.getD k .none) (.int 0) = some (.str (wordS (xs.getD k .none))) := by
      obtain ⟨s, hs, _⟩ := isStepB_ok q
      rw [hs, ix0_d, wordS_d]
    have ha : sApp 1 (f2 ixD (f2 ixD (fVar 0) (fVar 2)) (fC (.int 0))) (licE xs ws (some (.dat (.int (k : Int)))) o3) = .nx (licE xs (ws ++ [wordS (xs.getD k .none)]) (some (.dat (.int (k : Int)))) o3) := by
      rw [sApp_of (b := true) (xs := ws.map PyData.str) (b1 := true) (xs1 := ws.map PyData.str) (d := .str (wordS (xs.getD k .none))) (e1 := licE xs ws (some (.dat (.int (k : Int)))) o3) rfl (by simp [-List.getD_eq_getElem?_getD, licE, fVar_succ, g1, hx]) rfl (by simp; omega)]
      simp [licE]
    have hi : (sIf (gNot (fB (callD 2 N_law_is_step (aCons (f2 ixD (fVar 0) (fVar 2)) (aCons (fVar 2) aNil))))) (sRet (fC (.bool false))) sNx) (licE xs ws (some (.dat (.int (k : Int)))) o3) = .nx (licE xs ws (some (.dat (.int (k : Int)))) o3) := by
      simp [-List.getD_eq_getElem?_getD, licE, fVar_succ, g1, g2]
    rw [if_pos rfl]
    unfold licB
    rw [sSeq_ev, hi, seq_nx, ha]
theorem lic_loop {xs : List Dt} (hx : xs.length ≤ 500) (hf : ∀ i, i < xs.length → fitN 60 (xs.getD i .none) = true) (o3 : Option Slot) : ∀ (m k : Nat) (ws : List Str) (o2 : Option Slot), k + m = xs.length → ws.length ≤ k → ∃ ws' o2', loopS (gN 2) licB (intsD (k : Int) m) (licE xs ws o2 o3) =
    if stepsB k (xs.drop k) = true then .nx (licE xs (ws ++ (xs.drop k).map wordS) o2' o3) else .rt (.bool false) (licE xs ws' o2' o3)
  | 0, k, ws, o2, hk, hw => ⟨ws, o2, by
    rw [List.drop_of_length_le (by omega)]
    simp [stepsB, intsD]⟩
  | m + 1, k, ws, o2, hk, hw => by
    have hlt : k < xs.length := by omega
    have ht := lic_turn hlt (hf k hlt) ws (by omega) o3
    have hd : xs.drop k = xs.getD k .none :: xs.drop (k + 1) := by
      rw [List.drop_eq_getElem_cons hlt]
      congr 1
      simp [List.getD, List.getElem?_eq_getElem hlt]
    rw [intsD_succ, hd, stepsB, show ((k : Int) + 1) = ((k + 1 : Nat) : Int) from rfl]
    cases q : isStepB (k : Int) (xs.getD k .none) with
    | false =>
      rw [q] at ht
      exact ⟨ws, some (.dat (.int (k : Int))), by rw [loopS_rt (e1 := licE xs ws (some (.dat (.int (k : Int)))) o3) rfl ht] <;> rfl⟩
    | true =>
      rw [q, if_pos rfl] at ht
      obtain ⟨ws', o2', ih⟩ := lic_loop hx hf o3 m (k + 1) (ws ++ [wordS (xs.getD k .none)]) (some (.dat (.int (k : Int)))) (by omega) (by simp; omega)
      refine ⟨ws', o2', ?_⟩
      rw [loopS_nx (e1 := licE xs ws (some (.dat (.int (k : Int)))) o3) rfl ht, ih]
      simp [-List.getD_eq_getElem?_getD]
def licT : En → SO := (sSeq (sAsg (f2 addD (fCntO 1 (fC (.str "greater"))) (fCntO 1 (fC (.str "lesser")))) (gN 3)) (sRet (fAnd (f2 ltD (fCntO 1 (fC (.str "any"))) (fC (.int 4))) (fAnd (f2 ltD (fCntO 1 (fC (.str "put"))) (fC (.int 4))) (f2 ltD (fVar 3) (fC (.int 3)))))))
theorem lic_cnt {xs : List Dt} {ws : List Str} {o2 o3 : Option Slot} (z : Str) : fCntO 1 (fC (.str z)) (licE xs ws o2 o3) = .ok (.int (ws.count z : Nat)) (licE xs ws o2 o3) := fCntO_of (b := true) (b1 := true) (xs := ws.map PyData.str) rfl fC_ev rfl
theorem licT_ev {xs : List Dt} {ws : List Str} {o2 o3 : Option Slot} : licT (licE xs ws o2 o3) = .rt (.bool (decide (ws.count ("any" : Str) ≤ 3) && (decide (ws.count ("put" : Str) ≤ 3) && decide (ws.count ("greater" : Str) + ws.count ("lesser" : Str) ≤ 2)))) (licE xs ws o2 (some (.dat (.int (ws.count ("greater" : Str) + ws.count ("lesser" : Str) : Nat))))) := by
  have a1 : (sAsg (f2 addD (fCntO 1 (fC (.str "greater"))) (fCntO 1 (fC (.str "lesser")))) (gN 3)) (licE xs ws o2 o3) = .nx (licE xs ws o2 (some (.dat (.int (ws.count ("greater" : Str) + ws.count ("lesser" : Str) : Nat))))) := by
    rw [sAsg_ev, f2_ev, lic_cnt, R.bind_ok, lic_cnt]
    simp [licE]
  unfold licT
  rw [sSeq_ev, a1, seq_nx]
  generalize ws.count ("greater" : Str) + ws.count ("lesser" : Str) = n3
  have v3 : fVar 3 (licE xs ws o2 (some (.dat (.int (n3 : Nat))))) = .ok (.int (n3 : Nat)) (licE xs ws o2 (some (.dat (.int (n3 : Nat))))) := rfl
  have c1 := lic_cnt (xs := xs) (ws := ws) (o2 := o2) (o3 := some (.dat (.int (n3 : Nat)))) "any"
  have c2 := lic_cnt (xs := xs) (ws := ws) (o2 := o2) (o3 := some (.dat (.int (n3 : Nat)))) "put"
  generalize licE xs ws o2 (some (.dat (.int (n3 : Nat)))) = e at *
  generalize ws.count ("any" : Str) = n1 at *
  generalize ws.count ("put" : Str) = n2 at *
  have d1 : decide ((n1 : Int) < 4) = decide (n1 ≤ 3) := decide_eq_decide.mpr (by omega)
  have d2 : decide ((n2 : Int) < 4) = decide (n2 ≤ 3) := decide_eq_decide.mpr (by omega)
  have d3 : decide ((n3 : Int) < 3) = decide (n3 ≤ 2) := decide_eq_decide.mpr (by omega)
  cases b1 : decide (n1 ≤ 3) <;> cases b2 : decide (n2 ≤ 3) <;> rw [b1] at d1 <;> rw [b2] at d2 <;> simp [-decide_eq_true_eq, -decide_eq_false_iff_not, c1, c2, v3, d1, d2, d3]
theorem S_lic : S_law_is_course = sSeq (sIf (gOr (gNot (fB (f1 (isiD "tuple") (fVar 0)))) (gNot (fB (fCh leD leD (fC (.int 1)) (fA lenD (fCons (fVar 0) fNil)) (fC (.int 8)))))) (sRet (fC (.bool false))) sNx) (sSeq (sOwn 1 fNil) (sSeq (sFor (fRange1 (fCons (fA lenD (fCons (fVar 0) fNil)) fNil)) (gN 2) licB) licT)) := rfl
theorem law_is_course_ev (v : Dt) (hv : fitN 61 v = true) : N_law_is_course [.dat v] = .ok (.bool (isCourse v)) [.dat v] := by
  have key : ∃ e, S_law_is_course [some (.dat v), none, none, none] = .rt (.bool (isCourse v)) (some (.dat v) :: e) := by
    rw [S_lic, sSeq_ev]
    cases v with
    | tuple xs =>
      by_cases h1 : 1 ≤ xs.length
      · by_cases h8 : xs.length ≤ 8
        · have i1 : decide ((1 : Int) ≤ (xs.length : Int)) = true := decide_eq_true (by omega)
          have i8 : decide ((xs.length : Int) ≤ 8) = true := decide_eq_true (by omega)
          have hf : ∀ i, i < xs.length → fitN 60 (xs.getD i .none) = true := fun i hi => by
            rw [fitN_tuple, List.all_eq_true] at hv
            exact hv _ (List.mem_iff_getElem?.mpr ⟨i, get_dt hi⟩)
          have a0 : (sIf (gOr (gNot (fB (f1 (isiD "tuple") (fVar 0)))) (gNot (fB (fCh leD leD (fC (.int 1)) (fA lenD (fCons (fVar 0) fNil)) (fC (.int 8)))))) (sRet (fC (.bool false))) sNx) [some (.dat (.tuple xs)), none, none, none] = .nx [some (.dat (.tuple xs)), none, none, none] := by
            simp [fVar_succ, i1, i8]
          have a1 : sOwn 1 fNil [some (.dat (.tuple xs)), none, none, none] = .nx (licE xs [] none none) := sOwn_of (ds := []) rfl (by decide)
          have a2 : fRange1 (fCons (fA lenD (fCons (fVar 0) fNil)) fNil) (licE xs [] none none) = .ok (intsD 0 xs.length) (licE xs [] none none) := fRange1_of (by simp [licE]) (by omega)
          obtain ⟨ws', o2', hl⟩ := lic_loop (by omega) hf none xs.length 0 [] none (by omega) (by simp)
          simp only [List.drop_zero, List.nil_append, show ((0 : Nat) : Int) = 0 from rfl] at hl
          rw [a0, seq_nx, sSeq_ev, a1, seq_nx, sSeq_ev, sFor_ev, a2, RS_ok, hl]
          have hc : isCourse (.tuple xs) = (stepsB 0 xs && (decide (cntK (· == 0) xs ≤ 3) && (decide (cntK (· == 2) xs ≤ 3) && decide (cntK (fun k => k == 4 || k == 5) xs ≤ 2)))) := by
            simp [isCourse, h1, h8]
          rw [hc]
          cases q : stepsB 0 xs with
          | false => exact ⟨_, rfl⟩
          | true =>
            rw [if_pos rfl, seq_nx, licT_ev, cnt_w (k := 0) (fun w => (kind_beq w).1), cnt_w (k := 2) (fun w => (kind_beq w).2.2.1), cnt_w (k := 4) (fun w => (kind_beq w).2.2.2.2.1), cnt_w (k := 5) (fun w => (kind_beq w).2.2.2.2.2), ← cntK_or]
            exact ⟨_, rfl⟩
        · have i1 : decide ((1 : Int) ≤ (xs.length : Int)) = true := decide_eq_true (by omega)
          have i8 : decide ((xs.length : Int) ≤ 8) = false := decide_eq_false (by omega)
          have i9 : decide (xs.length ≤ 8) = false := decide_eq_false h8
          exact ⟨[none, none, none], by simp [-decide_eq_false_iff_not, fVar_succ, i1, i8, i9, isCourse]⟩
      · have i1 : decide ((1 : Int) ≤ (xs.length : Int)) = false := decide_eq_false (by omega)
        have i2 : decide (1 ≤ xs.length) = false := decide_eq_false h1
        exact ⟨[none, none, none], by simp [-decide_eq_false_iff_not, fVar_succ, i1, i2, isCourse]⟩
    | _ => exact ⟨[none, none, none], by simp [fVar_succ, isCourse]⟩
  obtain ⟨e, he⟩ := key
  exact run_rt rfl he rfl
end DL
namespace DL
open PySem L2
/-! ### the way -/
inductive Way (b : Int) (s : List (Int × Int)) : Int → List Int → Prop
  | stop {n : Int} : lvl b s n = n → Way b s n [n]
  | go {n : Int} {l : List Int} : lvl b s n ≠ n → Way b s (lvl b s n) l → Way b s n (n :: l)
theorem atI_snoc {pre : List Int} {n : Int} : atI ((pre ++ [n]).map PyData.int) (-1) = some (.int n) := by
  rw [List.map_append]
  exact atI_last
def wayC : En → R Bool := (fB (f2 neD (callD 2 N_level_at (aCons (fVar 0) (aCons (fOwn 2 (f1 negD (fC (.int 1)))) aNil))) (fOwn 2 (f1 negD (fC (.int 1))))))
def wayB : En → SO := (sApp 2 (callD 2 N_level_at (aCons (fVar 0) (aCons (fOwn 2 (f1 negD (fC (.int 1)))) aNil))))
def wayE (b : Int) (s : List (Int × Int)) (k : Dt) (xs : List Int) : En := [some (.dat (stD b s)), some (.dat k), some (.own true (xs.map PyData.int))]
theorem fOwn_way {b : Int} {s : List (Int × Int)} {k : Dt} {pre : List Int} {n : Int} : fOwn 2 (f1 negD (fC (.int 1))) (wayE b s k (pre ++ [n])) = .ok (.int n) (wayE b s k (pre ++ [n])) := by
  have e := atI_snoc (pre := pre) (n := n)
  simp [-List.map_append, fOwn, wayE, e]
theorem wayC_ev {b : Int} {s : List (Int × Int)} {k : Dt} {pre : List Int} {n : Int} : wayC (wayE b s k (pre ++ [n])) = .ok (!decide (lvl b s n = n)) (wayE b s k (pre ++ [n])) := by
  have h0 : fVar 0 (wayE b s k (pre ++ [n])) = .ok (stD b s) (wayE b s k (pre ++ [n])) := rfl
  simp [wayC, h0, fOwn_way, level_at_ev]
theorem wayB_ev {b : Int} {s : List (Int × Int)} {k : Dt} {pre : List Int} {n : Int} (hl : pre.length ≤ 1000) : wayB (wayE b s k (pre ++ [n])) = .nx (wayE b s k ((pre ++ [n]) ++ [lvl b s n])) := by
  have h0 : fVar 0 (wayE b s k (pre ++ [n])) = .ok (stD b s) (wayE b s k (pre ++ [n])) := rfl
  have hs : small ((pre ++ [n]).map PyData.int).length = true := decide_eq_true (by simp; omega)
  have h2 : (wayE b s k (pre ++ [n]))[2]? = some (some (.own true ((pre ++ [n]).map PyData.int))) := rfl
  unfold wayB sApp
  rw [h2]
  simp only [isOwn_own, if_true, callD_ev, aCons_ev, aNil_ev, h0, R.bind_ok, fOwn_way, List.length_cons, List.length_nil, level_at_ev, ofFO_ok, RS_ok, h2, hs]
  simp [wayE]
theorem way_loop {b : Int} {s : List (Int × Int)} {k : Dt} {n : Int} {l : List Int} (w : Way b s n l) : ∀ (pre : List Int) (fuel : Nat), pre.length + l.length ≤ 1000 → l.length < fuel → whileS wayC wayB fuel (wayE b s k (pre ++ [n])) = .nx (wayE b s k (pre ++ l)) := by
  induction w with
  | stop h =>
    intro pre fuel hp hf
    cases fuel with
    | zero => omega
    | succ fuel =>
      unfold whileS
      rw [wayC_ev, h]
      simp
  | @go n l h w ih =>
    intro pre fuel hp hf
    cases fuel with
    | zero => omega
    | succ fuel =>
      unfold whileS
      rw [wayC_ev, decide_eq_false h]
      simp only [List.length_cons] at hp hf
      simp only [Bool.not_false, RS_ok, if_true]
      rw [wayB_ev (by omega)]
      dsimp only
      rw [ih (pre ++ [n]) fuel (by simp; omega) (by omega)]
      simp
theorem way_of_ev {b : Int} {s : List (Int × Int)} {n : Int} {l : List Int} (w : Way b s n l) (hl : l.length ≤ 30) : N_way_of [.dat (stD b s), .dat (.int n)] = .ok (.list (l.map PyData.int)) [.dat (stD b s), .dat (.int n)] := by
  show runF _ S_way_of _ = _
  have h := way_loop (k := .int n) w [] fuel_way_of (by simp; omega) (by unfold fuel_way_of; omega)
  have hs : small 1 = true := rfl
  have hS : S_way_of [some (.dat (stD b s)), some (.dat (.int n)), none] = .rt (.list (l.map PyData.int)) [some (.dat (stD b s)), some (.dat (.int n)), some (.dat (.list (l.map PyData.int)))] := by
    unfold S_way_of
    simp only [sSeq_ev]
    rw [show sOwn 2 (fCons (fVar 1) fNil) [some (.dat (stD b s)), some (.dat (.int n)), none] = .nx (wayE b s (.int n) ([] ++ [n])) from by simp [sOwn, fVar_succ, hs, wayE]]
    simp only [seq_nx, sSeq_ev]
    rw [show whileS (fB (f2 neD (callD 2 N_level_at (aCons (fVar 0) (aCons (fOwn 2 (f1 negD (fC (.int 1)))) aNil))) (fOwn 2 (f1 negD (fC (.int 1)))))) (sApp 2 (callD 2 N_level_at (aCons (fVar 0) (aCons (fOwn 2 (f1 negD (fC (.int 1)))) aNil)))) fuel_way_of (wayE b s (.int n) ([] ++ [n])) = _ from h]
    simp [wayE, fVar_succ]
  simp [hS]
/-! ### the law's way -/
def wayC2 : En → R Bool := (fB (f2 neD (callD 2 N_law_shown (aCons (fVar 0) (aCons (f2 ixD (fVar 2) (f1 negD (fC (.int 1)))) aNil))) (f2 ixD (fVar 2) (f1 negD (fC (.int 1))))))
def wayB2 : En → SO := (sAsg (f2 addD (fVar 2) (fA gLst (fCons (callD 2 N_law_shown (aCons (fVar 0) (aCons (f2 ixD (fVar 2) (f1 negD (fC (.int 1)))) aNil))) fNil))) (gN 2))
def wayE2 (b : Int) (s : List (Int × Int)) (k : Dt) (xs : List Int) : En := [some (.dat (stD b s)), some (.dat k), some (.dat (.list (xs.map PyData.int)))]
section
variable {b : Int} {s : List (Int × Int)} {k : Dt} {pre : List Int} {n : Int}
theorem w20 {xs : List Int} : fVar 0 (wayE2 b s k xs) = .ok (stD b s) (wayE2 b s k xs) := rfl
theorem w22 {xs : List Int} : fVar 2 (wayE2 b s k xs) = .ok (.list (xs.map PyData.int)) (wayE2 b s k xs) := rfl
theorem wayC2_ev (hs : s.length ≤ 1000) : wayC2 (wayE2 b s k (pre ++ [n])) = .ok (!decide (lvl b s n = n)) (wayE2 b s k (pre ++ [n])) := by
  simp [-List.map_append, wayC2, w20, w22, atI_snoc, law_shown_ev _ _ _ hs]
theorem wayB2_ev (hs : s.length ≤ 1000) (hl : pre.length ≤ 1000) : wayB2 (wayE2 b s k (pre ++ [n])) = .nx (wayE2 b s k ((pre ++ [n]) ++ [lvl b s n])) := by
  have ha : addD (.list ((pre ++ [n]).map PyData.int)) (.list [.int (lvl b s n)]) = some (.list (((pre ++ [n]) ++ [lvl b s n]).map PyData.int)) := by
    rw [addD_list (by simp; omega)]
    simp
  simp [-List.map_append, -List.append_assoc, wayB2, w20, w22, atI_snoc, law_shown_ev _ _ _ hs, gLst_ev, ha]
  simp [wayE2]
end
theorem way_loop2 {b : Int} {s : List (Int × Int)} {k : Dt} {n : Int} {l : List Int} (hs : s.length ≤ 1000) (w : Way b s n l) : ∀ (pre : List Int) (fuel : Nat), pre.length + l.length ≤ 1000 → l.length < fuel → whileS wayC2 wayB2 fuel (wayE2 b s k (pre ++ [n])) = .nx (wayE2 b s k (pre ++ l)) := by
  induction w with
  | stop h =>
    intro pre fuel hp hf
    cases fuel with
    | zero => omega
    | succ fuel =>
      unfold whileS
      rw [wayC2_ev hs, h]
      simp
  | @go n l h w ih =>
    intro pre fuel hp hf
    cases fuel with
    | zero => omega
    | succ fuel =>
      unfold whileS
      rw [wayC2_ev hs, decide_eq_false h]
      simp only [List.length_cons] at hp hf
      simp only [Bool.not_false, RS_ok, if_true]
      rw [wayB2_ev hs (by omega)]
      dsimp only
      rw [ih (pre ++ [n]) fuel (by simp; omega) (by omega)]
      simp
theorem law_way_ev {b : Int} {s : List (Int × Int)} {n : Int} {l : List Int} (hs : s.length ≤ 1000) (w : Way b s n l) (hl : l.length ≤ 30) : N_law_way [.dat (stD b s), .dat (.int n)] = .ok (.list (l.map PyData.int)) [.dat (stD b s), .dat (.int n)] := by
  show runF _ S_law_way _ = _
  have h := way_loop2 (k := .int n) hs w [] fuel_law_way (by simp; omega) (by unfold fuel_law_way; omega)
  have hS : S_law_way [some (.dat (stD b s)), some (.dat (.int n)), none] = .rt (.list (l.map PyData.int)) (wayE2 b s (.int n) l) := by
    unfold S_law_way
    simp only [sSeq_ev]
    rw [show sAsg (fA gLst (fCons (fVar 1) fNil)) (gN 2) [some (.dat (stD b s)), some (.dat (.int n)), none] = .nx (wayE2 b s (.int n) ([] ++ [n])) from by simp [fVar_succ, gLst_ev, wayE2]]
    simp only [seq_nx, sSeq_ev]
    rw [show whileS (fB (f2 neD (callD 2 N_law_shown (aCons (fVar 0) (aCons (f2 ixD (fVar 2) (f1 negD (fC (.int 1)))) aNil))) (f2 ixD (fVar 2) (f1 negD (fC (.int 1)))))) (sAsg (f2 addD (fVar 2) (fA gLst (fCons (callD 2 N_law_shown (aCons (fVar 0) (aCons (f2 ixD (fVar 2) (f1 negD (fC (.int 1)))) aNil))) fNil))) (gN 2)) fuel_law_way (wayE2 b s (.int n) ([] ++ [n])) = _ from h]
    simp [w22]
  simp [hS, wayE2]
end DL
namespace DL
open PySem L2
/-! ### it comes to a standstill -/
structure SG (b : Int) (s : List (Int × Int)) : Prop where
  m : rising (s.map (·.1)) = true
  l : rising (b :: s.map (·.2)) = true
theorem rising_tail {a : Int} {l : List Int} (h : rising (a :: l) = true) : rising l = true := by
  cases l with
  | nil => rfl
  | cons b l =>
    rw [rising, Bool.and_eq_true] at h
    exact h.2
theorem rising_lt {a : Int} : ∀ {l : List Int}, rising (a :: l) = true → ∀ x ∈ l, a < x
  | [], _, x, hx => by simp at hx
  | b :: l, h, x, hx => by
    rw [rising, Bool.and_eq_true, decide_eq_true_eq] at h
    rcases List.mem_cons.mp hx with rfl | hx
    · exact h.1
    · have := rising_lt h.2 x hx
      omega
theorem SG.tail {b : Int} {p : Int × Int} {s : List (Int × Int)} (h : SG b (p :: s)) : SG p.2 s := ⟨rising_tail h.m, rising_tail h.l⟩
theorem SG.skip {b : Int} {p : Int × Int} {s : List (Int × Int)} (h : SG b (p :: s)) : SG b s := by
  refine ⟨rising_tail h.m, ?_⟩
  have h1 := rising_lt h.l
  have h2 := rising_tail (rising_tail h.l)
  cases s with
  | nil => rfl
  | cons q s =>
    simp only [List.map_cons] at h1 h2 ⊢
    rw [rising, Bool.and_eq_true, decide_eq_true_eq]
    exact ⟨h1 q.2 (by simp), h2⟩
theorem lvl_mem {n : Int} : ∀ {s : List (Int × Int)} {b : Int}, lvl b s n ∈ b :: s.map (·.2)
  | [], b => by simp [lvl]
  | p :: s, b => by
    rw [lvl_cons]
    have := lvl_mem (n := n) (s := s) (b := if p.1 ≤ n then p.2 else b)
    simp only [List.map_cons, List.mem_cons] at this ⊢
    by_cases h : p.1 ≤ n
    · rw [if_pos h] at this ⊢
      rcases this with h | h
      · exact .inr (.inl h)
      · exact .inr (.inr h)
    · rw [if_neg h] at this ⊢
      rcases this with h | h
      · exact .inl h
      · exact .inr (.inr h)
theorem lvl_ge {n b : Int} {s : List (Int × Int)} (h : SG b s) : b ≤ lvl b s n := by
  rcases List.mem_cons.mp (lvl_mem (n := n) (s := s) (b := b)) with e | e
  · omega
  · have := rising_lt h.l _ e
    omega
theorem lvl_low {n : Int} : ∀ {s : List (Int × Int)} {b : Int}, (∀ p ∈ s, n < p.1) → lvl b s n = b
  | [], _, _ => rfl
  | p :: s, b, h => by
    rw [lvl_cons, if_neg (by have := h p (by simp); omega)]
    exact lvl_low fun q hq => h q (by simp [hq])
theorem lvl_mono {n m : Int} (hnm : n ≤ m) : ∀ {s : List (Int × Int)} {b : Int}, SG b s → lvl b s n ≤ lvl b s m
  | [], _, _ => Int.le_refl _
  | p :: s, b, h => by
    rw [lvl_cons, lvl_cons]
    by_cases h1 : p.1 ≤ n
    · rw [if_pos h1, if_pos (by omega)]
      exact lvl_mono hnm h.tail
    · rw [if_neg h1]
      by_cases h2 : p.1 ≤ m
      · rw [if_pos h2]
        have e : lvl b s n = b := lvl_low fun q hq => by
          have : p.1 < q.1 := rising_lt h.m q.1 (List.mem_map.mpr ⟨q, hq, rfl⟩)
          omega
        rw [e]
        have h3 := lvl_ge (n := m) h.tail
        have h4 := rising_lt h.l p.2 (by simp)
        omega
      · rw [if_neg h2]
        exact lvl_mono hnm h.skip
theorem filter_len {P Q : Int → Bool} {x : Int} : ∀ {l : List Int}, (∀ y, P y = true → Q y = true) → x ∈ l → Q x = true → P x = false → (l.filter P).length < (l.filter Q).length
  | [], _, hx, _, _ => by simp at hx
  | y :: l, h, hx, hq, hp => by
    have le : ∀ l : List Int, (l.filter P).length ≤ (l.filter Q).length := fun l => by
      induction l with
      | nil => simp
      | cons a l ih =>
        cases hP : P a with
        | true => rw [List.filter_cons_of_pos hP, List.filter_cons_of_pos (h a hP)]; simp; exact ih
        | false =>
          rw [List.filter_cons_of_neg (by simp [hP])]
          cases hQ : Q a with
          | true => rw [List.filter_cons_of_pos hQ]; simp; omega
          | false => rw [List.filter_cons_of_neg (by simp [hQ])]; exact ih
    rcases List.mem_cons.mp hx with rfl | hx
    · rw [List.filter_cons_of_neg (by simp [hp]), List.filter_cons_of_pos hq]
      have := le l
      simp
      omega
    · have ih := filter_len h hx hq hp
      cases hP : P y with
      | true => rw [List.filter_cons_of_pos hP, List.filter_cons_of_pos (h y hP)]; simp; exact ih
      | false =>
        rw [List.filter_cons_of_neg (by simp [hP])]
        cases hQ : Q y with
        | true => rw [List.filter_cons_of_pos hQ]; simp; omega
        | false => rw [List.filter_cons_of_neg (by simp [hQ])]; exact ih
section
variable {b : Int} {s : List (Int × Int)}
theorem way_up (h : SG b s) : ∀ (k : Nat) (n : Int), n < lvl b s n → ((b :: s.map (·.2)).filter fun y => decide (n < y)).length ≤ k → ∃ l, Way b s n l ∧ l.length ≤ k + 1
  | 0, n, hn, hk => by
    have h1 : lvl b s n ∈ (b :: s.map (·.2)).filter fun y => decide (n < y) := List.mem_filter.mpr ⟨lvl_mem, decide_eq_true hn⟩
    have := List.length_pos_of_mem h1
    omega
  | k + 1, n, hn, hk => by
    have hm : lvl b s n ≤ lvl b s (lvl b s n) := lvl_mono (by omega) h
    by_cases he : lvl b s (lvl b s n) = lvl b s n
    · exact ⟨[n, lvl b s n], .go (by omega) (.stop he), by simp⟩
    · have hlt := filter_len (P := fun y => decide (lvl b s n < y)) (Q := fun y => decide (n < y)) (x := lvl b s n) (l := b :: s.map (·.2)) (fun y hy => by
        have := of_decide_eq_true hy
        exact decide_eq_true (by omega)) lvl_mem (decide_eq_true hn) (decide_eq_false (by omega))
      obtain ⟨l, w, hl⟩ := way_up h k (lvl b s n) (by omega) (by omega)
      exact ⟨n :: l, .go (by omega) w, by simp; omega⟩
theorem way_down (h : SG b s) : ∀ (k : Nat) (n : Int), lvl b s n < n → ((b :: s.map (·.2)).filter fun y => decide (y < n)).length ≤ k → ∃ l, Way b s n l ∧ l.length ≤ k + 1
  | 0, n, hn, hk => by
    have h1 : lvl b s n ∈ (b :: s.map (·.2)).filter fun y => decide (y < n) := List.mem_filter.mpr ⟨lvl_mem, decide_eq_true hn⟩
    have := List.length_pos_of_mem h1
    omega
  | k + 1, n, hn, hk => by
    have hm : lvl b s (lvl b s n) ≤ lvl b s n := lvl_mono (by omega) h
    by_cases he : lvl b s (lvl b s n) = lvl b s n
    · exact ⟨[n, lvl b s n], .go (by omega) (.stop he), by simp⟩
    · have hlt := filter_len (P := fun y => decide (y < lvl b s n)) (Q := fun y => decide (y < n)) (x := lvl b s n) (l := b :: s.map (·.2)) (fun y hy => by
        have := of_decide_eq_true hy
        exact decide_eq_true (by omega)) lvl_mem (decide_eq_true hn) (decide_eq_false (by omega))
      obtain ⟨l, w, hl⟩ := way_down h k (lvl b s n) (by omega) (by omega)
      exact ⟨n :: l, .go (by omega) w, by simp; omega⟩
theorem way_ex (h : SG b s) (n : Int) : ∃ l, Way b s n l ∧ l.length ≤ s.length + 2 := by
  have hle : ∀ P : Int → Bool, ((b :: s.map (·.2)).filter P).length ≤ s.length + 1 := fun P => by
    have := List.length_filter_le P (b :: s.map (·.2))
    simpa using this
  by_cases h1 : lvl b s n = n
  · exact ⟨[n], .stop h1, by simp⟩
  · by_cases h2 : n < lvl b s n
    · exact way_up h (s.length + 1) n h2 (hle _)
    · exact way_down h (s.length + 1) n (by omega) (hle _)
end
theorem Way.ne {b : Int} {s : List (Int × Int)} {n : Int} {l : List Int} (w : Way b s n l) : l ≠ [] := by cases w <;> simp
theorem Way.last {b : Int} {s : List (Int × Int)} {n : Int} {l : List Int} (w : Way b s n l) : ∃ pre z, l = pre ++ [z] := ⟨_, _, (List.dropLast_concat_getLast w.ne).symm⟩
end DL
namespace DL
open PySem L2
/-! ### the program's answers -/
def fixG (b : Int) (s : List (Int × Int)) : Dt → Option Dt
  | .int x => if lvl b s x = x then some (.int x) else none
  | _ => none
theorem fixG_map {b : Int} {s : List (Int × Int)} : ∀ {L : List Int}, (L.map PyData.int).filterMap (fixG b s) = (L.filter fun x => decide (lvl b s x = x)).map PyData.int
  | [] => rfl
  | p :: s2 => by
    have ih := fixG_map (b := b) (s := s) (L := s2)
    by_cases hp : lvl b s p = p
    · rw [List.filter_cons_of_pos (by simpa using hp), List.map_cons, List.map_cons, List.filterMap_cons, ← ih]
      simp [hp, fixG]
    · rw [List.filter_cons_of_neg (by simpa using hp), List.map_cons, List.filterMap_cons, ← ih]
      simp [hp, fixG]
/-- a stair that is_stair takes -/
structure Stair (b : Int) (s : List (Int × Int)) : Prop extends SG b s where
  len : s.length ≤ 12
  ok : isStair (stD b s) = true
theorem need_stair_ok {v : Dt} (hv : fitN 60 v = true) (h : isStair v = true) : N_need_stair [.dat v] = .ok .none [.dat v] := by
  show runF _ S_need_stair _ = _
  simp [S_need_stair, has_stair_ev v hv, h]
theorem need_stair_no {v : Dt} (hv : fitN 60 v = true) (h : isStair v = false) : N_need_stair [.dat v] = .exc "InvalidStair" [.dat v] := by
  show runF _ S_need_stair _ = _
  simp [S_need_stair, has_stair_ev v hv, h]
abbrev G9 : Int := 1000000000
theorem need_number_ok {v : Dt} (h : isW (-G9) G9 v = true) : N_need_number [.dat v] = .ok .none [.dat v] := by
  show runF _ S_need_number _ = _
  simp [S_need_number, is_whole_ev, h]
theorem need_number_no {v : Dt} (h : isW (-G9) G9 v = false) : N_need_number [.dat v] = .exc "InvalidNumber" [.dat v] := by
  show runF _ S_need_number _ = _
  simp [S_need_number, is_whole_ev, h]
theorem is_stair_ev (v : Dt) (hv : fitN 60 v = true) : N_is_stair [.dat v] = .ok (.bool (isStair v)) [.dat v] := by
  show runF _ S_is_stair _ = _
  simp [S_is_stair, has_stair_ev v hv]
section
variable {b : Int} {s : List (Int × Int)} (h : Stair b s)
include h
theorem ns : N_need_stair [.dat (stD b s)] = .ok .none [.dat (stD b s)] := need_stair_ok fitN_stD h.ok
theorem shown_ev {n : Int} (hn : -G9 ≤ n ∧ n ≤ G9) : N_shown [.dat (stD b s), .dat (.int n)] = .ok (.int (lvl b s n)) [.dat (stD b s), .dat (.int n)] := by
  show runF _ S_shown _ = _
  have hw : isW (-G9) G9 (.int n) = true := by simp [isW, hn]
  simp [S_shown, fVar_succ, ns h, need_number_ok hw, level_at_ev]
theorem shown_no {v : Dt} (hv : isW (-G9) G9 v = false) : N_shown [.dat (stD b s), .dat v] = .exc "InvalidNumber" [.dat (stD b s), .dat v] := by
  show runF _ S_shown _ = _
  simp [S_shown, fVar_succ, ns h, need_number_no hv]
theorem standstill_ev {n : Int} {pre : List Int} {z : Int} (hn : -G9 ≤ n ∧ n ≤ G9) (w : Way b s n (pre ++ [z])) (hl : (pre ++ [z]).length ≤ 30) : N_standstill [.dat (stD b s), .dat (.int n)] = .ok (.tuple [.int z, .int pre.length]) [.dat (stD b s), .dat (.int n)] := by
  show runF _ S_standstill _ = _
  have hw : isW (-G9) G9 (.int n) = true := by simp [isW, hn]
  have hz : atI ((pre ++ [z]).map PyData.int) (-1) = some (.int z) := atI_snoc
  simp [-List.map_append, S_standstill, fVar_succ, ns h, need_number_ok hw, way_of_ev w hl, hz, gTup_ev]
theorem standstill_no {v : Dt} (hv : isW (-G9) G9 v = false) : N_standstill [.dat (stD b s), .dat v] = .exc "InvalidNumber" [.dat (stD b s), .dat v] := by
  show runF _ S_standstill _ = _
  simp [S_standstill, fVar_succ, ns h, need_number_no hv]
abbrev T30 : Int := 1000000000000000000000000000000
theorem after_no1 {v t : Dt} (hv : isW (-G9) G9 v = false) : N_after [.dat (stD b s), .dat v, .dat t] = .exc "InvalidNumber" [.dat (stD b s), .dat v, .dat t] := by
  show runF _ S_after _ = _
  simp [S_after, fVar_succ, ns h, need_number_no hv]
theorem after_no2 {n : Int} {t : Dt} (hn : -G9 ≤ n ∧ n ≤ G9) (hv : isW 0 T30 t = false) : N_after [.dat (stD b s), .dat (.int n), .dat t] = .exc "InvalidNumber" [.dat (stD b s), .dat (.int n), .dat t] := by
  show runF _ S_after _ = _
  have hw : isW (-G9) G9 (.int n) = true := by simp [isW, hn]
  simp [S_after, fVar_succ, ns h, need_number_ok hw, is_whole_ev, hv]
theorem after_ev {n t : Int} {pre : List Int} {z : Int} (hn : -G9 ≤ n ∧ n ≤ G9) (ht : 0 ≤ t ∧ t ≤ T30) (w : Way b s n (pre ++ [z])) (hl : (pre ++ [z]).length ≤ 30) : N_after [.dat (stD b s), .dat (.int n), .dat (.int t)] = .ok (.int ((pre ++ [z]).getD t.toNat z)) [.dat (stD b s), .dat (.int n), .dat (.int t)] := by
  show runF _ S_after _ = _
  have hw : isW (-G9) G9 (.int n) = true := by simp [isW, hn]
  have hw2 : isW 0 T30 (.int t) = true := by simp [isW, ht]
  have hz : atI ((pre ++ [z]).map PyData.int) (-1) = some (.int z) := atI_snoc
  have hlen : (((pre ++ [z]).map PyData.int).length : Int) = (pre ++ [z]).length := by simp
  by_cases c : t < (pre ++ [z]).length
  · obtain ⟨k, rfl⟩ := Int.eq_ofNat_of_zero_le ht.1
    have hk : k < (pre ++ [z]).length := by omega
    have hi : atI ((pre ++ [z]).map PyData.int) (k : Int) = some (.int ((pre ++ [z]).getD k z)) := atI_nat (by
      rw [List.getElem?_map, List.getElem?_eq_getElem hk]
      simp [List.getD, List.getElem?_eq_getElem hk])
    have hc : (decide ((k : Int) < ((pre ++ [z]).map PyData.int).length)) = true := decide_eq_true (by rw [hlen]; exact c)
    have hk2 : k < ((pre ++ [z]).map PyData.int).length := by rw [List.length_map]; exact hk
    simp [-List.map_append, -List.length_map, -List.length_append, -List.getD_eq_getElem?_getD, S_after, fVar_succ, ns h, need_number_ok hw, is_whole_ev, hw2, way_of_ev w hl, hk2, hi]
  · have hd : (pre ++ [z]).getD t.toNat z = z := by
      rw [List.getD, List.getElem?_eq_none (by omega)]
      rfl
    have hc : (decide (t < ((pre ++ [z]).map PyData.int).length)) = false := decide_eq_false (by rw [hlen]; exact c)
    rw [hd]
    simp [-List.map_append, -List.length_map, -List.length_append, S_after, fVar_succ, ns h, need_number_ok hw, is_whole_ev, hw2, way_of_ev w hl, hc, hz]
theorem still_ev : N_still [.dat (stD b s)] = .ok (.list (((b :: s.map (·.2)).filter fun x => decide (lvl b s x = x)).map PyData.int)) [.dat (stD b s)] := by
  show runF _ S_still _ = _
  have hl := h.len
  have t1 : fLc (fSeq (f2 ixD (fVar 0) (fC (.int 1)))) (gN 2) fYes (f2 ixD (fVar 2) (fC (.int 1))) [2] [some (.dat (stD b s)), none, none, none] = .ok (.list ((s.map (·.2)).map PyData.int)) [some (.dat (stD b s)), none, none, none] := by
    rw [fLc_M at1 (s.map pr) [some (.dat (stD b s)), none, none, none] (by simp) (by simp; omega) fun d hd => ?_, map_snd fun p => rfl]
    · simp [keepS_s]
    · obtain ⟨p, _, rfl⟩ := List.mem_map.mp hd
      simp [turnR, fVar_succ]
      simp [pr, at1]
  have ha : addD (.list [.int b]) (.list ((s.map (·.2)).map PyData.int)) = some (.list ((b :: s.map (·.2)).map PyData.int)) := addD_list (by simp; omega)
  have t2 : fLc (fSeq (fVar 1)) (gN 3) (fB (f2 eqD (callD 2 N_level_at (aCons (fVar 0) (aCons (fVar 3) aNil))) (fVar 3))) (fVar 3) [3] [some (.dat (stD b s)), some (.dat (.list ((b :: s.map (·.2)).map PyData.int))), none, none] = .ok (.list (((b :: s.map (·.2)).filter fun x => decide (lvl b s x = x)).map PyData.int)) [some (.dat (stD b s)), some (.dat (.list ((b :: s.map (·.2)).map PyData.int))), none, none] := by
    generalize hL : (b :: s.map (·.2)) = L
    have hlen : L.length ≤ 1000 := by rw [← hL]; simp; omega
    rw [fLc_G (fixG b s) (L.map PyData.int) [some (.dat (stD b s)), some (.dat (.list (L.map PyData.int))), none, none] (by simp [fVar_succ]) (by simp; omega) fun d hd => ?_]
    · have e : (L.map PyData.int).filterMap (fixG b s) = (L.filter fun x => decide (lvl b s x = x)).map PyData.int := by
        exact fixG_map
      rw [e]
      simp [keepS_s]
    · obtain ⟨x, _, rfl⟩ := List.mem_map.mp hd
      by_cases hx : lvl b s x = x <;> simp [turnR, fVar_succ, level_at_ev, hx, fixG]
  simp only [List.map_cons] at ha t2
  simp [-List.map_map, S_still, fVar_succ, ns h, t1, gLst_ev, ha, t2]
end
theorem still_no {v : Dt} (hv : fitN 60 v = true) (h : isStair v = false) : N_still [.dat v] = .exc "InvalidStair" [.dat v] := by
  show runF _ S_still _ = _
  simp [S_still, need_stair_no hv h]
end DL
namespace DL
open PySem L2
/-! ### draws -/
abbrev vs (v : Int × Int) : List Dt := [.int v.1, .int v.2]
def VOK (v : Int × Int) : Prop := 0 ≤ v.1 ∧ 0 ≤ v.2 ∧ v.2 ≤ 2147483629
theorem callV_of {n i : Nat} {F : Fn} {fr : En → R (List Slot)} {e e1 : En} {b b1 b2 : Bool} {xs xs1 ys : List Dt} {ss rest : List Slot} {d : Dt} (hi : e[i]? = some (some (.own b xs))) (hf : fr e = .ok ss e1) (h1 : e1[i]? = some (some (.own b1 xs1))) (hn : ss.length + 1 = n) (hF : F (.own false xs1 :: ss) = .ok d (.own b2 ys :: rest)) :
    callV n i F fr e = .ok d (e1.set i (some (.own b1 ys))) := by
  unfold callV
  rw [hi, isOwn_own, if_pos rfl, hf, R.bind_ok, h1]
  dsimp only
  rw [if_pos hn, hF] <;> rfl
theorem fOwn_of {i : Nat} {fb : En → R Dt} {e e1 : En} {b b1 : Bool} {xs xs1 : List Dt} {j : Int} (hi : e[i]? = some (some (.own b xs))) (hf : fb e = .ok (.int j) e1) (h1 : e1[i]? = some (some (.own b1 xs1))) : fOwn i fb e = ret1 (atI xs1 j) e1 := by
  unfold fOwn
  rw [hi, isOwn_own, if_pos rfl, hf, R.bind_ok, h1]
section
variable {e : En} {b : Bool} {v : Int × Int} {o : List (Option Slot)}
theorem own0 : fOwn 0 (fC (.int 0)) (some (.own b (vs v)) :: e) = .ok (.int v.1) (some (.own b (vs v)) :: e) := by
  rw [fOwn_of (b := b) (xs := vs v) (b1 := b) (xs1 := vs v) rfl fC_ev rfl]
  simp
theorem own1 : fOwn 0 (fC (.int 1)) (some (.own b (vs v)) :: e) = .ok (.int v.2) (some (.own b (vs v)) :: e) := by
  rw [fOwn_of (b := b) (xs := vs v) (b1 := b) (xs1 := vs v) rfl fC_ev rfl]
  simp
theorem setIx0 {fa : En → R Dt} {d : Dt} {e1 : En} {b1 : Bool} {w : Int × Int} (h : fa (some (.own b (vs v)) :: e) = .ok d (some (.own b1 (vs w)) :: e1)) : sSetIx 0 fa (fC (.int 0)) (some (.own b (vs v)) :: e) = .nx (some (.own b1 [d, .int w.2]) :: e1) := by
  unfold sSetIx
  rw [h, RS_ok]
  rfl
theorem setIx1 {fa : En → R Dt} {d : Dt} {e1 : En} {b1 : Bool} {w : Int × Int} (h : fa (some (.own b (vs v)) :: e) = .ok d (some (.own b1 (vs w)) :: e1)) : sSetIx 0 fa (fC (.int 1)) (some (.own b (vs v)) :: e) = .nx (some (.own b1 [.int w.1, d]) :: e1) := by
  unfold sSetIx
  rw [h, RS_ok]
  rfl
end
/-- what a def that draws says -/
def Draws (F : Fn) (as : List Slot) (P : Dt → Prop) : Prop := ∀ v, VOK v → ∃ d w, VOK w ∧ P d ∧ F (.own false (vs v) :: as) = .ok d (.own false (vs w) :: as)
theorem law_under_ev (m : Int) (h0 : 0 < m) (h1 : m < 1073741824) : Draws N_law_under [.dat (.int m)] (fun d => ∃ n, d = .int n ∧ 0 ≤ n ∧ n < m) := by
  intro v hv
  obtain ⟨v0, v1⟩ := v
  obtain ⟨p0, p1, p2⟩ := hv
  by_cases c : 0 < v0
  · refine ⟨.int (v0 % m), (v0 / m, v1), ⟨Int.ediv_nonneg p0 (by omega), p1, p2⟩, ⟨_, rfl, Int.emod_nonneg _ (by omega), Int.emod_lt_of_pos _ h0⟩, ?_⟩
    show runF _ S_law_under _ = _
    have e1 := modD_int (i := v0) h0
    have e2 := divD_int (i := v0) h0 h1
    have s1 : sSetIx 0 (f2 divD (fOwn 0 (fC (.int 0))) (fVar 1)) (fC (.int 0)) [some (.own false (vs (v0, v1))), some (.dat (.int m)), some (.dat (.int (v0 % m))), none] = .nx [some (.own false [.int (v0 / m), .int v1]), some (.dat (.int m)), some (.dat (.int (v0 % m))), none] :=
      setIx0 (w := (v0, v1)) (by simp [own0, fVar_succ, e2])
    simp [S_law_under, own0, fVar_succ, c, e1, s1]
  · have c0 : v0 = 0 := by omega
    subst c0
    have a1 := modD_int (i := v1 * 39373 + 101) (j := 2147483629) (by decide)
    have a0 := mulD_int (i := v1) (j := 39373) (.inr (by decide))
    have q0 : 0 ≤ (v1 * 39373 + 101) % 2147483629 := Int.emod_nonneg _ (by decide)
    have q1 : (v1 * 39373 + 101) % 2147483629 < 2147483629 := Int.emod_lt_of_pos _ (by decide)
    generalize (v1 * 39373 + 101) % 2147483629 = u at a1 q0 q1
    have a2 := divD_int (i := u) (j := 5) (by decide) (by decide)
    have a3 := mulD_int (i := u) (j := u / 5 + 9) (.inl (by omega))
    have a4 := modD_int (i := u * (u / 5 + 9)) (j := 2147483587) (by decide)
    generalize u * (u / 5 + 9) % 2147483587 = t at a4
    have a5 := divD_int (i := t) (j := 32) (by decide) (by decide)
    have a6 := modD_int (i := t / 32) h0
    refine ⟨.int (t / 32 % m), (0, u), ⟨by omega, q0, by omega⟩, ⟨_, rfl, Int.emod_nonneg _ (by omega), Int.emod_lt_of_pos _ h0⟩, ?_⟩
    show runF _ S_law_under _ = _
    have s1 : sSetIx 0 (f2 modD (fA intD (fCons (f2 addD (f2 mulD (fOwn 0 (fC (.int 1))) (fC (.int 39373))) (fC (.int 101))) fNil)) (fC (.int 2147483629))) (fC (.int 1)) [some (.own false (vs (0, v1))), some (.dat (.int m)), none, none] = .nx [some (.own false [.int 0, .int u]), some (.dat (.int m)), none, none] :=
      setIx1 (w := (0, v1)) (by simp [own1, a0, a1])
    have o1 : ∀ r : En, fOwn 0 (fC (.int 1)) (some (.own false [.int 0, .int u]) :: r) = .ok (.int u) (some (.own false [.int 0, .int u]) :: r) := fun r => own1 (v := (0, u))
    simp [S_law_under, own0, s1, o1, fVar_succ, a2, a3, a4, a5, a6]
theorem law_some_ev (xs : List Dt) (h0 : xs ≠ []) (h1 : xs.length ≤ 1000) : Draws N_law_some [.dat (.list xs)] (fun d => d ∈ xs) := by
  intro v hv
  have hp := List.length_pos_iff.mpr h0
  obtain ⟨d, w, hw, ⟨n, rfl, n0, n1⟩, he⟩ := law_under_ev xs.length (by omega) (by omega) v hv
  obtain ⟨k, rfl⟩ := Int.eq_ofNat_of_zero_le n0
  have hk : k < xs.length := by omega
  refine ⟨xs[k], w, hw, List.getElem_mem hk, ?_⟩
  show runF _ S_law_some _ = _
  have hc : callV 2 0 N_law_under (aCons (fA lenD (fCons (fVar 1) fNil)) aNil) [some (.own false (vs v)), some (.dat (.list xs))] = .ok (.int k) [some (.own false (vs w)), some (.dat (.list xs))] :=
    callV_of (b := false) (xs := vs v) (b1 := false) (xs1 := vs v) (e1 := [some (.own false (vs v)), some (.dat (.list xs))]) (ss := [.dat (.int xs.length)]) rfl (by simp [fVar_succ]) rfl rfl he
  have hi := atI_nat (List.getElem?_eq_getElem hk)
  simp [S_law_some, fVar_succ, hc, hi]
end DL
namespace DL
open PySem L2
/-! ### numbers of a course -/
/-- the number of a step that hangs on numbers before it -/
def valOf (b : Int) (s : List (Int × Int)) (f : List Int) : Stp → Int
  | .any => 0
  | .told n => n
  | .put i => lvl b s (f.getD i 0)
  | .plus i m => f.getD i 0 + m
  | .great i j => if f.getD j 0 > f.getD i 0 then f.getD j 0 else f.getD i 0
  | .less i j => if f.getD j 0 < f.getD i 0 then f.getD j 0 else f.getD i 0
def runC (b : Int) (s : List (Int × Int)) : List Stp → List Int → List Int → List Int
  | [], _, f => f
  | .any :: c, g, f => runC b s c g.tail (f ++ [g.headD 0])
  | st :: c, g, f => runC b s c g (f ++ [valOf b s f st])
def numsC (b : Int) (s : List (Int × Int)) (c : List Stp) (g : List Int) : List Int := runC b s c g []
def anys (c : List Stp) : Nat := c.countP fun s => s.k == 0
theorem anys_any {c : List Stp} : anys (.any :: c) = anys c + 1 := by
  unfold anys
  rw [List.countP_cons]
  rfl
theorem anys_not {st : Stp} {c : List Stp} (h : st ≠ .any) : anys (st :: c) = anys c := by
  unfold anys
  rw [List.countP_cons]
  cases st <;> first | exact absurd rfl h | rfl
theorem runC_any {b : Int} {s : List (Int × Int)} {c : List Stp} {g f : List Int} : runC b s (.any :: c) g f = runC b s c g.tail (f ++ [g.headD 0]) := rfl
theorem runC_not {b : Int} {s : List (Int × Int)} {st : Stp} {c : List Stp} {g f : List Int} (h : st ≠ .any) : runC b s (st :: c) g f = runC b s c g (f ++ [valOf b s f st]) := by
  cases st <;> first | exact absurd rfl h | rfl
abbrev iL (l : List Int) : List Dt := l.map PyData.int
theorem ix_ints {f : List Int} {i : Nat} (h : i < f.length) : atI (iL f) (i : Int) = some (.int (f.getD i 0)) := atI_nat (get_int h)
section
variable {b : Int} {s : List (Int × Int)}
/-! number_of -/
theorem S_nf : S_number_of = S_number_of := rfl
theorem own2 {a c : Option Slot} {bb : Bool} {f : List Int} {i : Nat} (h : i < f.length) {fb : En → R Dt} (hb : fb [a, c, some (.own bb (iL f))] = .ok (.int (i : Int)) [a, c, some (.own bb (iL f))]) : fOwn 2 fb [a, c, some (.own bb (iL f))] = .ok (.int (f.getD i 0)) [a, c, some (.own bb (iL f))] := by
  rw [fOwn_of (b := bb) (xs := iL f) (b1 := bb) (xs1 := iL f) (j := (i : Int)) rfl hb rfl, ix_ints h]
  rfl
theorem maxD2 {i j : Int} : maxD [.int i, .int j] = some (.int (if j > i then j else i)) := rfl
theorem minD2 {i j : Int} : minD [.int i, .int j] = some (.int (if j < i then j else i)) := rfl
theorem number_of_ev {st : Stp} {f : List Int} (ho : st.ok f.length) (hk : 2 ≤ st.k) : N_number_of [.dat st.d, .dat (stD b s), .own false (iL f)] = .ok (.int (valOf b s f st)) [.dat st.d, .dat (stD b s), .own false (iL f)] := by
  refine run_rt (e := [some (.dat st.d), some (.dat (stD b s)), some (.own false (iL f))]) rfl ?_ rfl
  show S_number_of [some (.dat st.d), some (.dat (stD b s)), some (.own false (iL f))] = _
  cases st with
  | any => simp [Stp.k] at hk
  | told n => simp [Stp.k] at hk
  | put i =>
    have g1 := own2 (a := some (.dat (Stp.put i).d)) (c := some (.dat (stD b s))) (bb := false) (fb := f2 ixD (fVar 0) (fC (.int 1))) ho (by simp [fVar_succ, Stp.d])
    have e1 := eq_put ok_put
    simp only [Stp.d] at g1
    simp [S_number_of, fVar_succ, Stp.d, e1, g1, level_at_ev, valOf]
  | plus i m =>
    have g1 := own2 (a := some (.dat (Stp.plus i m).d)) (c := some (.dat (stD b s))) (bb := false) (fb := f2 ixD (fVar 0) (fC (.int 1))) ho.1 (by simp [fVar_succ, Stp.d])
    have e1 := eq_put ok_plus
    have e2 := eq_plus ok_plus
    simp only [Stp.d] at g1
    simp [S_number_of, fVar_succ, Stp.d, e1, e2, g1, valOf]
  | great i j =>
    have g1 := own2 (a := some (.dat (Stp.great i j).d)) (c := some (.dat (stD b s))) (bb := false) (fb := f2 ixD (fVar 0) (fC (.int 1))) ho.1 (by simp [fVar_succ, Stp.d])
    have g2 := own2 (a := some (.dat (Stp.great i j).d)) (c := some (.dat (stD b s))) (bb := false) (fb := f2 ixD (fVar 0) (fC (.int 2))) ho.2.1 (by simp [fVar_succ, Stp.d])
    have e1 := eq_put ok_greater
    have e2 := eq_plus ok_greater
    have e3 := eq_greater ok_greater
    simp only [Stp.d] at g1 g2
    simp [S_number_of, fVar_succ, Stp.d, e1, e2, e3, g1, g2, maxD2, valOf]
  | less i j =>
    have g1 := own2 (a := some (.dat (Stp.less i j).d)) (c := some (.dat (stD b s))) (bb := false) (fb := f2 ixD (fVar 0) (fC (.int 1))) ho.1 (by simp [fVar_succ, Stp.d])
    have g2 := own2 (a := some (.dat (Stp.less i j).d)) (c := some (.dat (stD b s))) (bb := false) (fb := f2 ixD (fVar 0) (fC (.int 2))) ho.2.1 (by simp [fVar_succ, Stp.d])
    have e1 := eq_put ok_lesser
    have e2 := eq_plus ok_lesser
    have e3 := eq_greater ok_lesser
    simp only [Stp.d] at g1 g2
    simp [S_number_of, fVar_succ, Stp.d, e1, e2, e3, g1, g2, minD2, valOf]
/-! all_numbers -/
def anB : En → SO := (sIf (fB (f2 eqD (f2 ixD (fVar 5) (fC (.int 0))) (fC (.str "any")))) (sApp 3 (fPop0 4)) (sIf (fB (f2 eqD (f2 ixD (fVar 5) (fC (.int 0))) (fC (.str "told")))) (sApp 3 (f2 ixD (fVar 5) (fC (.int 1)))) (sApp 3 (callL 3 3 N_number_of (aCons (fVar 5) (aCons (fVar 1) aNil))))))
theorem S_an : S_all_numbers = sSeq (sParOL 3 4 2) (sSeq (sFor (fSeq (fVar 0)) (gN 5) anB) (sRet (fVar 3))) := rfl
def anE (C : Dt) (b : Int) (s : List (Int × Int)) (G : Dt) (f g : List Int) (o : Option Slot) : En := [some (.dat C), some (.dat (stD b s)), some (.dat G), some (.own true (iL f)), some (.own true (iL g)), o]
theorem app3 {C G : Dt} {f g g' : List Int} {o : Option Slot} {fa : En → R Dt} {d : Int} (h : fa (anE C b s G f g o) = .ok (.int d) (anE C b s G f g' o)) (hl : f.length ≤ 1000) : sApp 3 fa (anE C b s G f g o) = .nx (anE C b s G (f ++ [d]) g' o) := by
  rw [sApp_of (b := true) (xs := iL f) (b1 := true) (xs1 := iL f) (e1 := anE C b s G f g' o) (d := .int d) rfl h rfl (by simp; omega)]
  simp [anE]
theorem test5 {st : Stp} {E : En} (h : fVar 5 E = .ok st.d E) : (fB (f2 eqD (f2 ixD (fVar 5) (fC (.int 0))) (fC (.str "any")))) E = .ok (st.k == 0) E ∧ (fB (f2 eqD (f2 ixD (fVar 5) (fC (.int 0))) (fC (.str "told")))) E = .ok (st.k == 1) E ∧ (fB (f2 eqD (f2 ixD (fVar 5) (fC (.int 0))) (fC (.str "put")))) E = .ok (st.k == 2) E ∧ (fB (f2 eqD (f2 ixD (fVar 5) (fC (.int 0))) (fC (.str "plus")))) E = .ok (st.k == 3) E ∧ (fB (f2 eqD (f2 ixD (fVar 5) (fC (.int 0))) (fC (.str "greater")))) E = .ok (st.k == 4) E := by
  have e0 := eq_any (ok_w st)
  have e1 := eq_told (ok_w st)
  have e2 := eq_put (ok_w st)
  have e3 := eq_plus (ok_w st)
  have e4 := eq_greater (ok_w st)
  rw [kind_w] at e0 e1 e2 e3 e4
  refine ⟨?_, ?_, ?_, ?_, ?_⟩
  · rw [fB_ev, f2_ev, f2_ev, h]
    simp only [R.bind_ok, fC_ev, ix0_d, ret1_some, e0, asB_bool]
  · rw [fB_ev, f2_ev, f2_ev, h]
    simp only [R.bind_ok, fC_ev, ix0_d, ret1_some, e1, asB_bool]
  · rw [fB_ev, f2_ev, f2_ev, h]
    simp only [R.bind_ok, fC_ev, ix0_d, ret1_some, e2, asB_bool]
  · rw [fB_ev, f2_ev, f2_ev, h]
    simp only [R.bind_ok, fC_ev, ix0_d, ret1_some, e3, asB_bool]
  · rw [fB_ev, f2_ev, f2_ev, h]
    simp only [R.bind_ok, fC_ev, ix0_d, ret1_some, e4, asB_bool]
theorem an_turn {C G : Dt} {st : Stp} {f g : List Int} (ho : st.ok f.length) (hl : f.length ≤ 1000) (hg : st = .any → g ≠ []) :
    anB (anE C b s G f g (some (.dat st.d))) = .nx (anE C b s G (f ++ [if st = .any then g.headD 0 else valOf b s f st]) (if st = .any then g.tail else g) (some (.dat st.d))) := by
  obtain ⟨t0, t1, _, _, _⟩ := test5 (st := st) (E := anE C b s G f g (some (.dat st.d))) rfl
  unfold anB
  rw [sIf_ev, t0, RS_ok]
  cases st with
  | any =>
    cases g with
    | nil => exact absurd rfl (hg rfl)
    | cons x g => exact app3 (d := x) rfl hl
  | told n =>
    show sIf _ _ _ _ = _
    rw [sIf_ev, t1, RS_ok]
    exact app3 (d := n) rfl hl
  | _ =>
    show sIf _ _ _ _ = _
    rw [sIf_ev, t1, RS_ok]
    refine app3 ?_ hl
    exact callL_of (b := true) (xs := iL f) (b1 := true) (xs1 := iL f) (e1 := anE C b s G f g _) rfl (by
      rw [aCons_ev, show ∀ d : Dt, fVar 5 (anE C b s G f g (some (.dat d))) = .ok d (anE C b s G f g (some (.dat d))) from fun _ => rfl, R.bind_ok, aCons_ev, show ∀ d : Dt, fVar 1 (anE C b s G f g (some (.dat d))) = .ok (stD b s) (anE C b s G f g (some (.dat d))) from fun _ => rfl, R.bind_ok, aNil_ev] <;> rfl) rfl rfl (number_of_ev (b := b) (s := s) ho (by simp [Stp.k])) rfl
theorem an_loop {C G : Dt} : ∀ (c : List Stp) (f g : List Int) (o : Option Slot), okFrom f.length c → f.length + c.length ≤ 1000 → anys c ≤ g.length → ∃ g' o', loopS (gN 5) anB (c.map Stp.d) (anE C b s G f g o) = .nx (anE C b s G (runC b s c g f) g' o')
  | [], f, g, o, _, _, _ => ⟨g, o, rfl⟩
  | st :: c, f, g, o, hok, hl, hg => by
    simp only [List.length_cons] at hl
    have hne : st = .any → g ≠ [] := fun e z => by
      subst e
      subst z
      rw [anys_any, List.length_nil] at hg
      omega
    have ht := an_turn (C := C) (G := G) (b := b) (s := s) (g := g) hok.1 (by omega) hne
    have hlen : ∀ x : Int, (f ++ [x]).length = f.length + 1 := fun x => by simp
    obtain ⟨g', o', ih⟩ := an_loop (C := C) (G := G) c (f ++ [if st = .any then g.headD 0 else valOf b s f st]) (if st = .any then g.tail else g) (some (.dat st.d)) (by rw [hlen]; exact hok.2) (by rw [hlen]; omega) (by
      by_cases e : st = .any
      · subst e
        rw [anys_any] at hg
        simp only [if_true, List.length_tail]
        omega
      · rw [anys_not e] at hg
        rw [if_neg e]
        omega)
    refine ⟨g', o', ?_⟩
    rw [List.map_cons, loopS_nx (e1 := anE C b s G f g (some (.dat st.d))) rfl ht, ih]
    by_cases e : st = .any
    · subst e
      simp [runC]
    · rw [runC_not e, if_neg e, if_neg e]
theorem all_numbers_ev {c : List Stp} {g : List Int} (hok : okFrom 0 c) (hl : c.length ≤ 1000) (hg : anys c ≤ g.length) : N_all_numbers [.dat (courseD c), .dat (stD b s), .dat (.tuple (iL g))] = .ok (.list (iL (numsC b s c g))) [.dat (courseD c), .dat (stD b s), .dat (.tuple (iL g))] := by
  obtain ⟨g', o', h⟩ := an_loop (C := courseD c) (G := .tuple (iL g)) (b := b) (s := s) c [] g none hok (by simp; omega) hg
  refine run_rt (e := [some (.dat (courseD c)), some (.dat (stD b s)), some (.dat (.tuple (iL g))), some (.dat (.list (iL (numsC b s c g)))), some (.own true (iL g')), o']) rfl ?_ rfl
  rw [S_an, sSeq_ev]
  have a1 : sParOL 3 4 2 (initE 6 [.dat (courseD c), .dat (stD b s), .dat (.tuple (iL g))]) = .nx (anE (courseD c) b s (.tuple (iL g)) [] g none) := rfl
  rw [a1, seq_nx, sSeq_ev, sFor_ev]
  have a2 : fSeq (fVar 0) (anE (courseD c) b s (.tuple (iL g)) [] g none) = .ok (c.map Stp.d) (anE (courseD c) b s (.tuple (iL g)) [] g none) := rfl
  rw [a2, RS_ok, h, seq_nx]
  rfl
/-! _law_numbers -/
def lnB : En → SO := (sIf (fB (f2 eqD (f2 ixD (fVar 5) (fC (.int 0))) (fC (.str "any")))) (sPar2 3 4 (fCons (f2 addD (fVar 3) (fA gLst (fCons (f2 ixD (fVar 2) (fVar 4)) fNil))) (fCons (f2 addD (fVar 4) (fC (.int 1))) fNil))) (sIf (fB (f2 eqD (f2 ixD (fVar 5) (fC (.int 0))) (fC (.str "told")))) (sAsg (f2 addD (fVar 3) (fA gLst (fCons (f2 ixD (fVar 5) (fC (.int 1))) fNil))) (gN 3)) (sIf (fB (f2 eqD (f2 ixD (fVar 5) (fC (.int 0))) (fC (.str "put")))) (sAsg (f2 addD (fVar 3) (fA gLst (fCons (callD 2 N_law_shown (aCons (fVar 1) (aCons (f2 ixD (fVar 3) (f2 ixD (fVar 5) (fC (.int 1)))) aNil))) fNil))) (gN 3)) (sIf (fB (f2 eqD (f2 ixD (fVar 5) (fC (.int 0))) (fC (.str "plus")))) (sAsg (f2 addD (fVar 3) (fA gLst (fCons (f2 addD (f2 ixD (fVar 3) (f2 ixD (fVar 5) (fC (.int 1)))) (f2 ixD (fVar 5) (fC (.int 2)))) fNil))) (gN 3)) (sSeq (sAsg (fA gLst (fCons (fA intD (fCons (f2 ixD (fVar 3) (f2 ixD (fVar 5) (fC (.int 1)))) fNil)) (fCons (fA intD (fCons (f2 ixD (fVar 3) (f2 ixD (fVar 5) (fC (.int 2)))) fNil)) fNil))) (gN 6)) (sAsg (f2 addD (fVar 3) (fA gLst (fCons (fIf (fB (f2 eqD (f2 ixD (fVar 5) (fC (.int 0))) (fC (.str "greater")))) (fA maxD (fCons (fVar 6) fNil)) (fA minD (fCons (fVar 6) fNil))) fNil))) (gN 3)))))))
theorem S_ln : S_law_numbers = sSeq (sPar2 3 4 (fCons (fA gLst fNil) (fCons (fC (.int 0)) fNil))) (sSeq (sFor (fSeq (fVar 0)) (gN 5) lnB) (sRet (fVar 3))) := rfl
def lnE (C : Dt) (b : Int) (s : List (Int × Int)) (g f : List Int) (u : Nat) (o o6 : Option Slot) : En := [some (.dat C), some (.dat (stD b s)), some (.dat (.tuple (iL g))), some (.dat (.list (iL f))), some (.dat (.int (u : Int))), o, o6]
theorem add1 {f : List Int} {d : Int} (hl : f.length ≤ 1000) : addD (.list (iL f)) (.list [.int d]) = some (.list (iL (f ++ [d]))) := by
  rw [addD_list (by simp; omega)]
  simp
theorem gl1 {d : Dt} : gLst [d] = some (.list [d]) := rfl
theorem ln_turn {C : Dt} {st : Stp} {f g : List Int} {u : Nat} (hs : s.length ≤ 1000) (ho : st.ok f.length) (hl : f.length ≤ 1000) (hg : st = .any → u < g.length) (o6 : Option Slot) :
    ∃ o6', lnB (lnE C b s g f u (some (.dat st.d)) o6) = .nx (lnE C b s g (f ++ [if st = .any then g.getD u 0 else valOf b s f st]) (if st = .any then u + 1 else u) (some (.dat st.d)) o6') := by
  obtain ⟨t0, t1, t2, t3, t4⟩ := test5 (st := st) (E := lnE C b s g f u (some (.dat st.d)) o6) rfl
  have v3 : ∀ {o o6}, fVar 3 (lnE C b s g f u o o6) = .ok (.list (iL f)) (lnE C b s g f u o o6) := rfl
  have v5 : ∀ {d : Dt} {o6}, fVar 5 (lnE C b s g f u (some (.dat d)) o6) = .ok d (lnE C b s g f u (some (.dat d)) o6) := rfl
  have v1 : ∀ {o o6}, fVar 1 (lnE C b s g f u o o6) = .ok (stD b s) (lnE C b s g f u o o6) := rfl
  have w3 : ∀ {d : Dt} {o o6}, (lnE C b s g f u o o6).set 3 (some (.dat d)) = [some (.dat C), some (.dat (stD b s)), some (.dat (.tuple (iL g))), some (.dat d), some (.dat (.int (u : Int))), o, o6] := rfl
  unfold lnB
  rw [sIf_ev, t0, RS_ok]
  cases st with
  | any =>
    refine ⟨o6, ?_⟩
    have hx := ix_ints (hg rfl)
    have v2 : ∀ {o o6}, fVar 2 (lnE C b s g f u o o6) = .ok (.tuple (iL g)) (lnE C b s g f u o o6) := rfl
    have v4 : ∀ {o o6}, fVar 4 (lnE C b s g f u o o6) = .ok (.int (u : Int)) (lnE C b s g f u o o6) := rfl
    show sPar2 3 4 _ _ = _
    simp only [sPar2_ev, fCons_ev, f2_ev, fA_ev, v3, v2, v4, R.bind_ok, ixD_tuple, hx, ret1_some, fNil_ev, gl1, add1 hl, fC_ev, addD_int, RS_ok]
    rfl
  | told n =>
    refine ⟨o6, ?_⟩
    show sIf _ _ _ _ = _
    rw [sIf_ev, t1, RS_ok]
    show sAsg _ _ _ = _
    simp only [sAsg_ev, f2_ev, fA_ev, fCons_ev, v3, v5, R.bind_ok, fC_ev, show ixD (Stp.told n).d (.int 1) = some (.int n) from rfl, ret1_some, fNil_ev, gl1, add1 hl, RS_ok]
    rfl
  | put i =>
    refine ⟨o6, ?_⟩
    show sIf _ _ _ _ = _
    rw [sIf_ev, t1, RS_ok]
    show sIf _ _ _ _ = _
    rw [sIf_ev, t2, RS_ok]
    show sAsg _ _ _ = _
    simp only [sAsg_ev, f2_ev, fA_ev, fCons_ev, v3, v5, v1, R.bind_ok, fC_ev, show ixD (Stp.put i).d (.int 1) = some (.int (i : Int)) from rfl, ret1_some, fNil_ev, gl1, ixD_list, ix_ints (show i < f.length from ho), callD_ev, aCons_ev, aNil_ev, law_shown_ev b s _ hs, ofFO_ok, add1 hl, RS_ok, List.length_cons, List.length_nil, Nat.zero_add, if_true]
    rfl
  | plus i m =>
    refine ⟨o6, ?_⟩
    show sIf _ _ _ _ = _
    rw [sIf_ev, t1, RS_ok]
    show sIf _ _ _ _ = _
    rw [sIf_ev, t2, RS_ok]
    show sIf _ _ _ _ = _
    rw [sIf_ev, t3, RS_ok]
    show sAsg _ _ _ = _
    simp only [sAsg_ev, f2_ev, fA_ev, fCons_ev, v3, v5, v1, R.bind_ok, fC_ev, show ixD (Stp.plus i m).d (.int 1) = some (.int (i : Int)) from rfl, show ixD (Stp.plus i m).d (.int 2) = some (.int m) from rfl, ret1_some, fNil_ev, gl1, ixD_list, ix_ints ho.1, addD_int, add1 hl, RS_ok]
    rfl
  | great i j =>
    refine ⟨some (.dat (.list [.int (f.getD i 0), .int (f.getD j 0)])), ?_⟩
    have q6 : ∀ {o}, fVar 6 (lnE C b s g f u o (some (.dat (.list [.int (f.getD i 0), .int (f.getD j 0)])))) = .ok (.list [.int (f.getD i 0), .int (f.getD j 0)]) (lnE C b s g f u o (some (.dat (.list [.int (f.getD i 0), .int (f.getD j 0)])))) := rfl
    obtain ⟨_, _, _, _, t4'⟩ := test5 (st := Stp.great i j) (E := lnE C b s g f u (some (.dat (Stp.great i j).d)) (some (.dat (.list [.int (f.getD i 0), .int (f.getD j 0)])))) rfl
    have e6 : (sAsg (fA gLst (fCons (fA intD (fCons (f2 ixD (fVar 3) (f2 ixD (fVar 5) (fC (.int 1)))) fNil)) (fCons (fA intD (fCons (f2 ixD (fVar 3) (f2 ixD (fVar 5) (fC (.int 2)))) fNil)) fNil))) (gN 6)) (lnE C b s g f u (some (.dat (Stp.great i j).d)) o6) = .nx (lnE C b s g f u (some (.dat (Stp.great i j).d)) (some (.dat (.list [.int (f.getD i 0), .int (f.getD j 0)])))) := by
      simp only [sAsg_ev, f2_ev, fA_ev, fCons_ev, v3, v5, R.bind_ok, fC_ev, show ixD (Stp.great i j).d (.int 1) = some (.int (i : Int)) from rfl, show ixD (Stp.great i j).d (.int 2) = some (.int (j : Int)) from rfl, ret1_some, fNil_ev, ixD_list, ix_ints ho.1, ix_ints ho.2.1, intD_int]
      rfl
    show sIf _ _ _ _ = _
    rw [sIf_ev, t1, RS_ok]
    show sIf _ _ _ _ = _
    rw [sIf_ev, t2, RS_ok]
    show sIf _ _ _ _ = _
    rw [sIf_ev, t3, RS_ok]
    show sSeq _ _ _ = _
    rw [sSeq_ev, e6, seq_nx]
    simp only [sAsg_ev, f2_ev, fA_ev, fCons_ev, v3, fIf_ev, t4', q6, R.bind_ok, show ((Stp.great i j).k == 4) = true from rfl, if_true, fNil_ev, show maxD [.list [.int (f.getD i 0), .int (f.getD j 0)]] = some (.int (if f.getD j 0 > f.getD i 0 then f.getD j 0 else f.getD i 0)) from rfl, ret1_some, gl1, add1 hl, RS_ok]
    rfl
  | less i j =>
    refine ⟨some (.dat (.list [.int (f.getD i 0), .int (f.getD j 0)])), ?_⟩
    have q6 : ∀ {o}, fVar 6 (lnE C b s g f u o (some (.dat (.list [.int (f.getD i 0), .int (f.getD j 0)])))) = .ok (.list [.int (f.getD i 0), .int (f.getD j 0)]) (lnE C b s g f u o (some (.dat (.list [.int (f.getD i 0), .int (f.getD j 0)])))) := rfl
    obtain ⟨_, _, _, _, t4'⟩ := test5 (st := Stp.less i j) (E := lnE C b s g f u (some (.dat (Stp.less i j).d)) (some (.dat (.list [.int (f.getD i 0), .int (f.getD j 0)])))) rfl
    have e6 : (sAsg (fA gLst (fCons (fA intD (fCons (f2 ixD (fVar 3) (f2 ixD (fVar 5) (fC (.int 1)))) fNil)) (fCons (fA intD (fCons (f2 ixD (fVar 3) (f2 ixD (fVar 5) (fC (.int 2)))) fNil)) fNil))) (gN 6)) (lnE C b s g f u (some (.dat (Stp.less i j).d)) o6) = .nx (lnE C b s g f u (some (.dat (Stp.less i j).d)) (some (.dat (.list [.int (f.getD i 0), .int (f.getD j 0)])))) := by
      simp only [sAsg_ev, f2_ev, fA_ev, fCons_ev, v3, v5, R.bind_ok, fC_ev, show ixD (Stp.less i j).d (.int 1) = some (.int (i : Int)) from rfl, show ixD (Stp.less i j).d (.int 2) = some (.int (j : Int)) from rfl, ret1_some, fNil_ev, ixD_list, ix_ints ho.1, ix_ints ho.2.1, intD_int]
      rfl
    show sIf _ _ _ _ = _
    rw [sIf_ev, t1, RS_ok]
    show sIf _ _ _ _ = _
    rw [sIf_ev, t2, RS_ok]
    show sIf _ _ _ _ = _
    rw [sIf_ev, t3, RS_ok]
    show sSeq _ _ _ = _
    rw [sSeq_ev, e6, seq_nx]
    simp only [sAsg_ev, f2_ev, fA_ev, fCons_ev, v3, fIf_ev, t4', q6, R.bind_ok, show ((Stp.less i j).k == 4) = false from rfl, Bool.false_eq_true, if_false, fNil_ev, show minD [.list [.int (f.getD i 0), .int (f.getD j 0)]] = some (.int (if f.getD j 0 < f.getD i 0 then f.getD j 0 else f.getD i 0)) from rfl, ret1_some, gl1, add1 hl, RS_ok]
    rfl
theorem ln_loop {C : Dt} {g : List Int} (hs : s.length ≤ 1000) : ∀ (c : List Stp) (f : List Int) (u : Nat) (o o6 : Option Slot), okFrom f.length c → f.length + c.length ≤ 1000 → u + anys c ≤ g.length → ∃ u' o' o6', loopS (gN 5) lnB (c.map Stp.d) (lnE C b s g f u o o6) = .nx (lnE C b s g (runC b s c (g.drop u) f) u' o' o6')
  | [], f, u, o, o6, _, _, _ => ⟨u, o, o6, rfl⟩
  | st :: c, f, u, o, o6, hok, hl, hg => by
    simp only [List.length_cons] at hl
    have hne : st = .any → u < g.length := fun e => by
      subst e
      rw [anys_any] at hg
      omega
    obtain ⟨o6', ht⟩ := ln_turn (C := C) (b := b) (s := s) hs hok.1 (by omega) hne o6
    have hlen : ∀ x : Int, (f ++ [x]).length = f.length + 1 := fun x => by simp
    obtain ⟨u', o', o6'', ih⟩ := ln_loop (C := C) (g := g) hs c (f ++ [if st = .any then g.getD u 0 else valOf b s f st]) (if st = .any then u + 1 else u) (some (.dat st.d)) o6' (by rw [hlen]; exact hok.2) (by rw [hlen]; omega) (by
      by_cases e : st = .any
      · subst e
        rw [anys_any] at hg
        rw [if_pos rfl]
        omega
      · rw [anys_not e] at hg
        rw [if_neg e]
        omega)
    refine ⟨u', o', o6'', ?_⟩
    rw [List.map_cons, loopS_nx (e1 := lnE C b s g f u (some (.dat st.d)) o6) rfl ht, ih]
    by_cases e : st = .any
    · subst e
      have hu := hne rfl
      rw [if_pos rfl, if_pos rfl, List.drop_eq_getElem_cons hu, runC_any]
      simp [List.getD, List.getElem?_eq_getElem hu]
    · rw [runC_not e, if_neg e, if_neg e]
theorem law_numbers_ev {c : List Stp} {g : List Int} (hs : s.length ≤ 1000) (hok : okFrom 0 c) (hl : c.length ≤ 1000) (hg : anys c ≤ g.length) : N_law_numbers [.dat (courseD c), .dat (stD b s), .dat (.tuple (iL g))] = .ok (.list (iL (numsC b s c g))) [.dat (courseD c), .dat (stD b s), .dat (.tuple (iL g))] := by
  obtain ⟨u', o', o6', h⟩ := ln_loop (C := courseD c) (g := g) (b := b) hs c [] 0 none none hok (by simp; omega) (by omega)
  refine run_rt (e := lnE (courseD c) b s g (numsC b s c g) u' o' o6') rfl ?_ rfl
  rw [S_ln, sSeq_ev]
  have a1 : sPar2 3 4 (fCons (fA gLst fNil) (fCons (fC (.int 0)) fNil)) (initE 7 [.dat (courseD c), .dat (stD b s), .dat (.tuple (iL g))]) = .nx (lnE (courseD c) b s g [] 0 none none) := rfl
  rw [a1, seq_nx, sSeq_ev, sFor_ev]
  have a2 : fSeq (fVar 0) (lnE (courseD c) b s g [] 0 none none) = .ok (c.map Stp.d) (lnE (courseD c) b s g [] 0 none none) := rfl
  rw [a2, RS_ok, h, seq_nx]
  rfl
end
end DL
namespace DL
open PySem L2
/-! ### drawn stairs -/
theorem rising_snoc {y : Int} : ∀ {l : List Int}, rising l = true → (∀ x ∈ l, x < y) → rising (l ++ [y]) = true
  | [], _, _ => rfl
  | [a], _, h => by simp [rising, h a (by simp)]
  | a :: b :: l, h, hx => by
    rw [rising, Bool.and_eq_true] at h
    have := rising_snoc (l := b :: l) h.2 fun x hm => hx x (List.mem_cons_of_mem _ hm)
    show rising (a :: b :: (l ++ [y])) = true
    rw [rising, h.1]
    exact this
structure Drawn (k : Nat) (b : Int) (s : List (Int × Int)) : Prop extends SG b s where
  len : s.length ≤ k
  b0 : -6 ≤ b
  b1 : b ≤ 2
  at_ : ∀ p ∈ s, -6 ≤ p.1 ∧ p.1 ≤ 2 + 4 * (k : Int) ∧ -6 ≤ p.2 ∧ p.2 ≤ 2 + 4 * (k : Int)
structure Grow (i : Nat) (b mark level : Int) (s : List (Int × Int)) : Prop extends SG b s where
  len : s.length = i
  m0 : -6 ≤ mark
  m1 : mark ≤ 2 + 4 * (i : Int)
  l0 : -6 ≤ level
  l1 : level ≤ 2 + 4 * (i : Int)
  lb : b ≤ level
  b0 : -6 ≤ b
  b1 : b ≤ 2
  at_ : ∀ p ∈ s, -6 ≤ p.1 ∧ p.1 ≤ mark ∧ -6 ≤ p.2 ∧ p.2 ≤ level
def stBody : En → SO := (sSeq (sPar2 2 3 (fCons (f2 addD (f2 addD (fVar 2) (fC (.int 1))) (callV 2 0 N_law_under (aCons (fC (.int 4)) aNil))) (fCons (f2 addD (f2 addD (fVar 3) (fC (.int 1))) (callV 2 0 N_law_under (aCons (fC (.int 4)) aNil))) fNil))) (sAsg (f2 addD (fVar 4) (fA gTup (fCons (fA gTup (fCons (fVar 2) (fCons (fVar 3) fNil))) fNil))) (gN 4)))
/-- a draw of a number, the list at slot 0 -/
theorem under0 {m : Int} (h0 : 0 < m) (h1 : m < 1073741824) {v : Int × Int} (hv : VOK v) (b : Bool) (r : En) : ∃ n w, VOK w ∧ 0 ≤ n ∧ n < m ∧ callV 2 0 N_law_under (aCons (fC (.int m)) aNil) (some (.own b (vs v)) :: r) = .ok (.int n) (some (.own b (vs w)) :: r) := by
  obtain ⟨d, w, hw, ⟨n, rfl, n0, n1⟩, he⟩ := law_under_ev m h0 h1 v hv
  exact ⟨n, w, hw, n0, n1, callV_of (b := b) (xs := vs v) (b1 := b) (xs1 := vs v) (e1 := some (.own b (vs v)) :: r) (ss := [.dat (.int m)]) rfl (by simp) rfl rfl he⟩
theorem st_turn {i : Nat} {b mark level : Int} {s : List (Int × Int)} (J : Grow i b mark level s) (hi : i ≤ 1000) {v : Int × Int} (hv : VOK v) (bb : Bool) (o1 o2 o3 : Option Slot) : ∃ w mark' level', VOK w ∧ Grow (i + 1) b mark' level' (s ++ [(mark', level')]) ∧
    stBody [some (.own bb (vs v)), o1, some (.dat (.int mark)), some (.dat (.int level)), some (.dat (.tuple (s.map pr))), o2, o3] = .nx [some (.own bb (vs w)), o1, some (.dat (.int mark')), some (.dat (.int level')), some (.dat (.tuple ((s ++ [(mark', level')]).map pr))), o2, o3] := by
  obtain ⟨n1, w1, hw1, a0, a1, h1⟩ := under0 (m := 4) (by decide) (by decide) hv bb [o1, some (.dat (.int mark)), some (.dat (.int level)), some (.dat (.tuple (s.map pr))), o2, o3]
  obtain ⟨n2, w2, hw2, c0, c1, h2⟩ := under0 (m := 4) (by decide) (by decide) hw1 bb [o1, some (.dat (.int mark)), some (.dat (.int level)), some (.dat (.tuple (s.map pr))), o2, o3]
  have jl := J.len
  have ha : addD (.tuple (s.map pr)) (.tuple [.tuple [.int (mark + 1 + n1), .int (level + 1 + n2)]]) = some (.tuple ((s ++ [(mark + 1 + n1, level + 1 + n2)]).map pr)) := by
    rw [addD_tuple (by simp; omega), List.map_append]
    rfl
  have jm0 := J.m0
  have jm1 := J.m1
  have jl0 := J.l0
  have jl1 := J.l1
  have jlb := J.lb
  refine ⟨w2, mark + 1 + n1, level + 1 + n2, hw2, ⟨⟨?_, ?_⟩, by simp [jl], by omega, by omega, by omega, by omega, by omega, J.b0, J.b1, fun p hp => ?_⟩, ?_⟩
  · rw [List.map_append]
    refine rising_snoc J.m fun x hx => ?_
    obtain ⟨p, hp, rfl⟩ := List.mem_map.mp hx
    have := J.at_ p hp
    dsimp only
    omega
  · rw [List.map_append, ← List.cons_append]
    refine rising_snoc J.l fun x hx => ?_
    dsimp only
    rcases List.mem_cons.mp hx with rfl | hx
    · omega
    · obtain ⟨p, hp, rfl⟩ := List.mem_map.mp hx
      have := J.at_ p hp
      omega
  · rcases List.mem_append.mp hp with hp | hp
    · have := J.at_ p hp
      omega
    · rw [List.mem_singleton.mp hp]
      dsimp only
      omega
  · simp [-List.map_append, stBody, fVar_succ, h1, h2, gTup_ev, ha]
theorem st_loop {b : Int} (bb : Bool) (o1 o2 : Option Slot) : ∀ (ds : List Dt) (i : Nat) (mark level : Int) (s : List (Int × Int)) (v : Int × Int) (o3 : Option Slot), Grow i b mark level s → i + ds.length ≤ 1000 → VOK v →
    ∃ w mark' level' s' o3', VOK w ∧ Grow (i + ds.length) b mark' level' s' ∧ loopS (gN 6) stBody ds [some (.own bb (vs v)), o1, some (.dat (.int mark)), some (.dat (.int level)), some (.dat (.tuple (s.map pr))), o2, o3] = .nx [some (.own bb (vs w)), o1, some (.dat (.int mark')), some (.dat (.int level')), some (.dat (.tuple (s'.map pr))), o2, o3']
  | [], i, mark, level, s, v, o3, J, _, hv => ⟨v, mark, level, s, o3, hv, J, rfl⟩
  | d :: ds, i, mark, level, s, v, o3, J, hi, hv => by
    simp only [List.length_cons] at hi
    obtain ⟨w, m1, l1, hw, J1, h1⟩ := st_turn J (by omega) hv bb o1 o2 (some (.dat d))
    obtain ⟨w2, m2, l2, s2, o4, hw2, J2, h2⟩ := st_loop bb o1 o2 ds (i + 1) m1 l1 _ w (some (.dat d)) J1 (by omega) hw
    refine ⟨w2, m2, l2, s2, o4, hw2, ?_, ?_⟩
    · rw [List.length_cons, show i + (ds.length + 1) = i + 1 + ds.length by omega]
      exact J2
    · rw [loopS_nx (e1 := [some (.own bb (vs v)), o1, some (.dat (.int mark)), some (.dat (.int level)), some (.dat (.tuple (s.map pr))), o2, some (.dat d)]) rfl h1]
      exact h2
theorem law_stair_ev (k : Nat) (hk : k ≤ 12) : Draws N_law_stair [.dat (.int k)] (fun d => ∃ b s, d = stD b s ∧ Drawn k b s) := by
  intro v hv
  obtain ⟨n1, w1, hw1, a0, a1, h1⟩ := under0 (m := 9) (by decide) (by decide) hv false [some (.dat (.int k)), none, none, none, none, none]
  obtain ⟨n2, w2, hw2, c0, c1, h2⟩ := under0 (m := 9) (by decide) (by decide) hw1 false [some (.dat (.int k)), none, none, none, none, none]
  obtain ⟨d3, w3, hw3, ⟨n3, rfl, e0, e1⟩, h3⟩ := law_under_ev ((k : Int) + 1) (by omega) (by omega) w2 hw2
  have c3 : callV 2 0 N_law_under (aCons (f2 addD (fVar 1) (fC (.int 1))) aNil) [some (.own false (vs w2)), some (.dat (.int k)), some (.dat (.int (n1 - 6))), some (.dat (.int (n2 - 6))), some (.dat (.tuple [])), some (.dat (.int (n2 - 6))), none] = .ok (.int n3) [some (.own false (vs w3)), some (.dat (.int k)), some (.dat (.int (n1 - 6))), some (.dat (.int (n2 - 6))), some (.dat (.tuple [])), some (.dat (.int (n2 - 6))), none] :=
    callV_of (b := false) (xs := vs w2) (b1 := false) (xs1 := vs w2) (e1 := [some (.own false (vs w2)), some (.dat (.int k)), some (.dat (.int (n1 - 6))), some (.dat (.int (n2 - 6))), some (.dat (.tuple [])), some (.dat (.int (n2 - 6))), none]) (ss := [.dat (.int ((k : Int) + 1))]) rfl (by simp [fVar_succ]) rfl rfl h3
  have J0 : Grow 0 (n2 - 6) (n1 - 6) (n2 - 6) [] := ⟨⟨rfl, rfl⟩, rfl, by omega, by omega, by omega, by omega, by omega, by omega, by omega, fun p hp => by simp at hp⟩
  obtain ⟨w4, m4, l4, s4, o4, hw4, J4, h4⟩ := st_loop (b := n2 - 6) false (some (.dat (.int k))) (some (.dat (.int (n2 - 6)))) (intsD 0 n3.toNat) 0 (n1 - 6) (n2 - 6) [] w3 none J0 (by rw [intsD_length]; omega) hw3
  rw [intsD_length, Nat.zero_add] at J4
  refine ⟨stD (n2 - 6) s4, w4, hw4, ⟨_, _, rfl, ⟨J4.toSG, by have := J4.len; omega, J4.b0, J4.b1, fun p hp => ?_⟩⟩, ?_⟩
  · have x1 := J4.at_ p hp
    have x2 := J4.m1
    have x3 := J4.l1
    omega
  · show runF _ S_law_stair _ = _
    have hr : -(2 ^ 62) ≤ n3 ∧ n3 < 2 ^ 62 := by omega
    have h4 : loopS (gN 6) (sSeq (sPar2 2 3 (fCons (f2 addD (f2 addD (fVar 2) (fC (.int 1))) (callV 2 0 N_law_under (aCons (fC (.int 4)) aNil))) (fCons (f2 addD (f2 addD (fVar 3) (fC (.int 1))) (callV 2 0 N_law_under (aCons (fC (.int 4)) aNil))) fNil))) (sAsg (f2 addD (fVar 4) (fA gTup (fCons (fA gTup (fCons (fVar 2) (fCons (fVar 3) fNil))) fNil))) (gN 4))) _ _ = _ := h4
    simp only [List.map_nil] at h4
    simp [S_law_stair, sPar3, fVar_succ, h1, h2, gTup_ev, c3, asR1_ev hr, h4, stD]
end DL
namespace DL
open PySem L2
/-! ### courses -/
structure Crs (c : List Stp) : Prop where
  ok : okFrom 0 c
  l1 : 1 ≤ c.length
  l8 : c.length ≤ 8
  any3 : anys c ≤ 3
  put3 : (c.countP fun s => s.k == 2) ≤ 3
  gl2 : (c.countP fun s => s.k == 4 || s.k == 5) ≤ 2
theorem isCourse_of {c : List Stp} (h : Crs c) : isCourse (courseD c) = true := by
  have e1 := h.any3
  have e2 := h.put3
  have e3 := h.gl2
  have q1 : cntK (· == 0) (c.map Stp.d) = anys c := cntK_d (p := (· == 0))
  have q2 : cntK (· == 2) (c.map Stp.d) = c.countP fun s => s.k == 2 := cntK_d (p := (· == 2))
  have q3 : cntK (fun k => k == 4 || k == 5) (c.map Stp.d) = c.countP fun s => s.k == 4 || s.k == 5 := cntK_d (p := fun k => k == 4 || k == 5)
  simp only [isCourse, List.length_map, stepsB_of h.ok, q1, q2, q3, Bool.and_eq_true, decide_eq_true_eq]
  exact ⟨h.l1, h.l8, trivial, e1, e2, e3⟩
theorem isCourse_ok {v : Dt} (h : isCourse v = true) : ∃ c, v = courseD c ∧ Crs c := by
  cases v with
  | tuple xs =>
    simp only [isCourse, Bool.and_eq_true, decide_eq_true_eq] at h
    obtain ⟨h1, h2, h3, h4, h5, h6⟩ := h
    obtain ⟨c, rfl, hok⟩ := stepsB_ok h3
    have q1 : cntK (· == 0) (c.map Stp.d) = anys c := cntK_d (p := (· == 0))
    have q2 : cntK (· == 2) (c.map Stp.d) = c.countP fun s => s.k == 2 := cntK_d (p := (· == 2))
    have q3 : cntK (fun k => k == 4 || k == 5) (c.map Stp.d) = c.countP fun s => s.k == 4 || s.k == 5 := cntK_d (p := fun k => k == 4 || k == 5)
    rw [q1] at h4
    rw [q2] at h5
    rw [q3] at h6
    rw [List.length_map] at h1 h2
    exact ⟨c, rfl, hok, h1, h2, h4, h5, h6⟩
  | _ => cases h
theorem d_inj {s t : Stp} (h : s.d = t.d) : s = t := by
  have hk : s.k = t.k := by rw [← wordK_d s, ← wordK_d t, h]
  cases s <;> cases t <;> first
    | rfl
    | (simp [Stp.k] at hk; done)
    | (simp [Stp.d] at h; simp [h]; done)
    | (simp [Stp.d] at h; simp; omega)
theorem fit_d (s : Stp) : fitN 1 s.d = true := by
  have h : ∀ w : Str, PyData.strOk w = true → ∀ r : List Dt, r.all (fitN 0) = true → fitN 1 (.tuple (.str w :: r)) = true := fun w hw r hr => by
    rw [fitN_tuple, List.all_cons, fitN_str, hw, hr] <;> rfl
  cases s with
  | any => exact h _ ok_any _ rfl
  | told n => exact h _ ok_told _ (by simp)
  | put i => exact h _ ok_put _ (by simp)
  | plus i m => exact h _ ok_plus _ (by simp)
  | great i j => exact h _ ok_greater _ (by simp)
  | less i j => exact h _ ok_lesser _ (by simp)
theorem fit_course {n : Nat} (c : List Stp) : fitN (n + 2) (courseD c) = true := by
  rw [fitN_tuple, List.all_eq_true]
  intro d hd
  obtain ⟨s, _, rfl⟩ := List.mem_map.mp hd
  exact fitN_mono (fit_d s) (by omega)
theorem okFrom_snoc {st : Stp} : ∀ {c : List Stp} {n : Nat}, okFrom n c → st.ok (n + c.length) → okFrom n (c ++ [st])
  | [], n, _, h => ⟨h, trivial⟩
  | s :: c, n, h, h2 => by
    refine ⟨h.1, okFrom_snoc h.2 ?_⟩
    rw [List.length_cons] at h2
    rwa [show n + 1 + c.length = n + (c.length + 1) by omega]
/-! need_course, given -/
theorem need_course_ok {v : Dt} (hv : fitN 61 v = true) (h : isCourse v = true) : N_need_course [.dat v] = .ok .none [.dat v] := by
  refine run_nx (e := [some (.dat v)]) rfl ?_ rfl
  show S_need_course [some (.dat v)] = _
  simp [S_need_course, has_course_ev v hv, h]
theorem need_course_no {v : Dt} (hv : fitN 61 v = true) (h : isCourse v = false) : N_need_course [.dat v] = .exc "InvalidCourse" [.dat v] := by
  refine run_exc (e := [some (.dat v)]) rfl ?_ rfl
  show S_need_course [some (.dat v)] = _
  simp [S_need_course, has_course_ev v hv, h]
theorem is_course_ev (v : Dt) (hv : fitN 61 v = true) : N_is_course [.dat v] = .ok (.bool (isCourse v)) [.dat v] := by
  refine run_rt (e := [some (.dat v)]) rfl ?_ rfl
  show S_is_course [some (.dat v)] = _
  simp [S_is_course, has_course_ev v hv]
def isGiven (n : Nat) : Dt → Bool
  | .tuple xs => decide (xs.length = n) && xs.all (isW (-M12) M12)
  | _ => false
def notW (lo hi : Int) (d : Dt) : Option Dt := if isW lo hi d = true then none else some d
theorem notW_empty {lo hi : Int} {ds : List Dt} : (ds.filterMap (notW lo hi)).isEmpty = ds.all (isW lo hi) := by
  rw [Bool.eq_iff_iff, List.isEmpty_iff, List.filterMap_eq_nil_iff, List.all_eq_true]
  constructor
  · intro h d hd
    have := h d hd
    unfold notW at this
    split at this
    · rename_i c; exact c
    · cases this
  · intro h d hd
    unfold notW
    rw [if_pos (h d hd)]
theorem isGiven_ok {n : Nat} {v : Dt} (h : isGiven n v = true) : ∃ g : List Int, v = .tuple (iL g) ∧ g.length = n ∧ ∀ x ∈ g, -M12 ≤ x ∧ x ≤ M12 := by
  cases v with
  | tuple xs =>
    simp only [isGiven, Bool.and_eq_true, decide_eq_true_eq] at h
    obtain ⟨h1, h2⟩ := h
    have key : ∀ l : List Dt, l.all (isW (-M12) M12) = true → ∃ g : List Int, l = iL g ∧ ∀ x ∈ g, -M12 ≤ x ∧ x ≤ M12 := fun l => by
      induction l with
      | nil => exact fun _ => ⟨[], rfl, by simp⟩
      | cons a l ih =>
        intro hl
        rw [List.all_cons, Bool.and_eq_true] at hl
        obtain ⟨i, rfl, hi⟩ := isW_int hl.1
        obtain ⟨g, rfl, hg⟩ := ih hl.2
        exact ⟨i :: g, rfl, fun x hx => by
          rcases List.mem_cons.mp hx with rfl | hx
          · exact hi
          · exact hg x hx⟩
    obtain ⟨g, rfl, hg⟩ := key xs h2
    exact ⟨g, rfl, by simpa using h1, hg⟩
  | _ => cases h
theorem isGiven_of {g : List Int} (h : ∀ x ∈ g, -M12 ≤ x ∧ x ≤ M12) : isGiven g.length (.tuple (iL g)) = true := by
  simp only [isGiven, Bool.and_eq_true, decide_eq_true_eq, List.length_map, List.all_map, List.all_eq_true, true_and]
  exact fun x hx => isW_of (h x hx)
theorem hg_lc {C : Dt} {xs : List Dt} (hl : xs.length ≤ 1000000) (hv : xs.all (fitN 60) = true) : f2 eqD (fLc (fSeq (fVar 1)) (gN 2) (gNot (fB (callD 3 N_is_whole (aCons (fVar 2) (aCons (f1 negD (fC (.int 1000000000000))) (aCons (fC (.int 1000000000000)) aNil)))))) (fVar 2) [2]) (fA gLst fNil) [some (.dat C), some (.dat (.tuple xs)), none] = .ok (.bool (xs.all (isW (-M12) M12))) [some (.dat C), some (.dat (.tuple xs)), none] := by
  have t1 : fLc (fSeq (fVar 1)) (gN 2) (gNot (fB (callD 3 N_is_whole (aCons (fVar 2) (aCons (f1 negD (fC (.int 1000000000000))) (aCons (fC (.int 1000000000000)) aNil)))))) (fVar 2) [2] [some (.dat C), some (.dat (.tuple xs)), none] = .ok (.list (xs.filterMap (notW (-M12) M12))) [some (.dat C), some (.dat (.tuple xs)), none] := by
    rw [fLc_G (notW (-M12) M12) xs [some (.dat C), some (.dat (.tuple xs)), none] (by simp [fVar_succ]) hl fun d hd => ?_]
    · simp [keepS_s]
    · cases c : isW (-M12) M12 d <;> simp [turnR, fVar_succ, is_whole_ev, c, notW]
  have hb : (xs.filterMap (notW (-M12) M12)).all (fitN 63) = true := fits_list fun d hd y hy => by
    unfold notW at hy
    split at hy
    · cases hy
    · cases hy
      exact fitN_mono (List.all_eq_true.mp hv d hd) (by omega)
  rw [f2_ev, t1, R.bind_ok]
  have he := eqD_nil hb
  rw [notW_empty] at he
  simp only [fA_ev, fNil_ev, R.bind_ok, show gLst [] = some (.list []) from rfl, ret1_some, he]
theorem have_given_ev {c : List Stp} (hc : c.length ≤ 1000) (v : Dt) (hv : fitN 61 v = true) (hl : ∀ xs, v = .tuple xs → xs.length ≤ 1000000) : N_have_given [.dat (courseD c), .dat v] = .ok (.bool (isGiven (anys c) v)) [.dat (courseD c), .dat v] := by
  refine run_rt (e := [some (.dat (courseD c)), some (.dat v), none]) rfl ?_ rfl
  show S_have_given [some (.dat (courseD c)), some (.dat v), none] = _
  have s1 := sw_any hc
  have n1 : (idxs (· == 0) c).length = anys c := idxs_len (p := (· == 0)) (c := c)
  have n2 : ((idxs (· == 0) c).map fun i : Nat => PyData.int (i : Int)).length = anys c := by rw [List.length_map, n1]
  generalize (idxs (· == 0) c).map (fun i : Nat => PyData.int (i : Int)) = L at s1 n2
  generalize courseD c = C at *
  cases v with
  | tuple xs =>
    have hx : xs.all (fitN 60) = true := by rwa [fitN_tuple] at hv
    have t1 := hg_lc (C := C) (hl xs rfl) hx
    unfold S_have_given
    rw [sSeq_ev]
    have d1 : decide (xs.length = anys c) = decide ((xs.length : Int) = (L.length : Int)) := decide_eq_decide.mpr (by omega)
    have a1 : (sIf (gOr (gNot (fB (f1 (isiD "tuple") (fVar 1)))) (fB (f2 neD (fA lenD (fCons (fVar 1) fNil)) (fA lenD (fCons (callD 2 N_steps_with (aCons (fVar 0) (aCons (fA gTup (fCons (fC (.str "any")) fNil)) aNil))) fNil))))) (sRet (fC (.bool false))) sNx) [some (.dat C), some (.dat (.tuple xs)), none] = if decide (xs.length = anys c) = true then .nx [some (.dat C), some (.dat (.tuple xs)), none] else .rt (.bool false) [some (.dat C), some (.dat (.tuple xs)), none] := by
      rw [d1]
      by_cases q : (xs.length : Int) = (L.length : Int) <;> simp [fVar_succ, gTup_ev, s1, q]
    rw [a1]
    cases q : decide (xs.length = anys c) with
    | false => simp [isGiven, q]
    | true =>
      rw [if_pos rfl, seq_nx, sRet_ev, t1, RS_ok]
      simp only [isGiven, q, Bool.true_and]
  | _ => simp [S_have_given, fVar_succ, isGiven]
theorem fit_len {v : Dt} (h : fitN 61 v = true) : True := trivial
section
variable {c : List Stp} (h : Crs c)
include h
theorem Crs.lt : c.length ≤ 1000 := by have := h.l8; omega
theorem need_given_ok {v : Dt} (hv : fitN 61 v = true) (hl : ∀ xs, v = .tuple xs → xs.length ≤ 1000000) (hg : isGiven (anys c) v = true) : N_need_given [.dat (courseD c), .dat v] = .ok .none [.dat (courseD c), .dat v] := by
  refine run_nx (e := [some (.dat (courseD c)), some (.dat v)]) rfl ?_ rfl
  show S_need_given [some (.dat (courseD c)), some (.dat v)] = _
  have e := have_given_ev h.lt v hv hl
  rw [hg] at e
  generalize courseD c = C at *
  simp [S_need_given, fVar_succ, e]
theorem need_given_no {v : Dt} (hv : fitN 61 v = true) (hl : ∀ xs, v = .tuple xs → xs.length ≤ 1000000) (hg : isGiven (anys c) v = false) : N_need_given [.dat (courseD c), .dat v] = .exc "InvalidGiven" [.dat (courseD c), .dat v] := by
  refine run_exc (e := [some (.dat (courseD c)), some (.dat v)]) rfl ?_ rfl
  show S_need_given [some (.dat (courseD c)), some (.dat v)] = _
  have e := have_given_ev h.lt v hv hl
  rw [hg] at e
  generalize courseD c = C at *
  simp [S_need_given, fVar_succ, e]
theorem nc : N_need_course [.dat (courseD c)] = .ok .none [.dat (courseD c)] := need_course_ok (fit_course c) (isCourse_of h)
theorem are_given_ev {v : Dt} (hv : fitN 61 v = true) (hl : ∀ xs, v = .tuple xs → xs.length ≤ 1000000) : N_are_given [.dat (courseD c), .dat v] = .ok (.bool (isGiven (anys c) v)) [.dat (courseD c), .dat v] := by
  refine run_rt (e := [some (.dat (courseD c)), some (.dat v)]) rfl ?_ rfl
  show S_are_given [some (.dat (courseD c)), some (.dat v)] = _
  have e := have_given_ev h.lt v hv hl
  have e0 := nc h
  generalize courseD c = C at *
  simp [S_are_given, fVar_succ, e, e0]
theorem numbers_ev {b : Int} {s : List (Int × Int)} (hs : Stair b s) {g : List Int} (hg : g.length = anys c) (hb : ∀ x ∈ g, -M12 ≤ x ∧ x ≤ M12) : N_numbers [.dat (courseD c), .dat (stD b s), .dat (.tuple (iL g))] = .ok (.list (iL (numsC b s c g))) [.dat (courseD c), .dat (stD b s), .dat (.tuple (iL g))] := by
  refine run_rt (e := [some (.dat (courseD c)), some (.dat (stD b s)), some (.dat (.tuple (iL g)))]) rfl ?_ rfl
  show S_numbers [some (.dat (courseD c)), some (.dat (stD b s)), some (.dat (.tuple (iL g)))] = _
  have hl : g.length ≤ 8 := by
    have := h.any3
    omega
  have e1 := need_given_ok h (v := .tuple (iL g)) (by rw [fitN_tuple]; exact fitN_ints) (fun xs e => by injection e with e; rw [← e, List.length_map]; omega) (by rw [← hg]; exact isGiven_of hb)
  have e0 := nc h
  have e2 := ns hs
  have e3 := all_numbers_ev (b := b) (s := s) h.ok h.lt (by omega : anys c ≤ g.length)
  generalize courseD c = C at *
  generalize stD b s = st at *
  generalize PyData.tuple (iL g) = G at *
  simp [S_numbers, fVar_succ, e0, e1, e2, e3]
theorem numbers_noS {v w : Dt} (hv : fitN 60 v = true) (hs : isStair v = false) : N_numbers [.dat (courseD c), .dat v, .dat w] = .exc "InvalidStair" [.dat (courseD c), .dat v, .dat w] := by
  refine run_exc (e := [some (.dat (courseD c)), some (.dat v), some (.dat w)]) rfl ?_ rfl
  show S_numbers [some (.dat (courseD c)), some (.dat v), some (.dat w)] = _
  have e0 := nc h
  have e2 := need_stair_no hv hs
  generalize courseD c = C at *
  simp [S_numbers, fVar_succ, e0, e2]
theorem numbers_noG {b : Int} {s : List (Int × Int)} (hs : Stair b s) {v : Dt} (hv : fitN 61 v = true) (hl : ∀ xs, v = .tuple xs → xs.length ≤ 1000000) (hg : isGiven (anys c) v = false) : N_numbers [.dat (courseD c), .dat (stD b s), .dat v] = .exc "InvalidGiven" [.dat (courseD c), .dat (stD b s), .dat v] := by
  refine run_exc (e := [some (.dat (courseD c)), some (.dat (stD b s)), some (.dat v)]) rfl ?_ rfl
  show S_numbers [some (.dat (courseD c)), some (.dat (stD b s)), some (.dat v)] = _
  have e0 := nc h
  have e2 := ns hs
  have e1 := need_given_no h hv hl hg
  generalize courseD c = C at *
  generalize stD b s = st at *
  simp [S_numbers, fVar_succ, e0, e1, e2]
end
theorem are_given_no {v w : Dt} (hv : fitN 61 v = true) (h : isCourse v = false) : N_are_given [.dat v, .dat w] = .exc "InvalidCourse" [.dat v, .dat w] := by
  refine run_exc (e := [some (.dat v), some (.dat w)]) rfl ?_ rfl
  show S_are_given [some (.dat v), some (.dat w)] = _
  simp [S_are_given, fVar_succ, need_course_no hv h]
end DL
namespace DL
open PySem L2
/-! ### a drawn course -/
/-- small numbers, as they are drawn -/
def Stp.tame : Stp → Prop
  | .told n => -20 ≤ n ∧ n ≤ 20
  | .plus _ m => -20 ≤ m ∧ m ≤ 20
  | _ => True
theorem draw0 {F : Fn} {P : Dt → Prop} {as : List Slot} {n : Nat} (hF : Draws F as P) (hn : as.length + 1 = n) {b : Bool} {v : Int × Int} {r : En} {fr : En → R (List Slot)} (hv : VOK v) (hf : fr (some (.own b (vs v)) :: r) = .ok as (some (.own b (vs v)) :: r)) : ∃ d w, VOK w ∧ P d ∧ callV n 0 F fr (some (.own b (vs v)) :: r) = .ok d (some (.own b (vs w)) :: r) := by
  obtain ⟨d, w, hw, hd, he⟩ := hF v hv
  exact ⟨d, w, hw, hd, callV_of (b := b) (xs := vs v) (b1 := b) (xs1 := vs v) (e1 := some (.own b (vs v)) :: r) rfl hf rfl hn he⟩
def lcWords : List Dt := [.str "put", .str "put", .str "put", .str "plus", .str "told", .str "any", .str "greater", .str "lesser"]
/-- slots: vat, most, found, words, turn, word, ahead, one, other, step -/
def lcE (b : Bool) (v : Int × Int) (m : Dt) (c : List Stp) (o4 o5 o6 o7 o8 o9 : Option Slot) : En := [some (.own b (vs v)), some (.dat m), some (.dat (courseD c)), some (.dat (.list lcWords)), o4, o5, o6, o7, o8, o9]
def lcA : En → SO := (sPar2 5 6 (fCons (callV 2 0 N_law_some (aCons (fVar 3) aNil)) (fCons (fA lenD (fCons (fVar 2) fNil)) fNil)))
def lcB : En → SO := (sPar2 7 8 (fCons (callV 2 0 N_law_under (aCons (fVar 6) aNil)) (fCons (callV 2 0 N_law_under (aCons (fVar 6) aNil)) fNil)))
def lcC : En → SO := (sAsg (fA gTup (fCons (fVar 5) (fCons (fVar 7) fNil))) (gN 9))
def lcD : En → SO := (sIf (fB (f2 eqD (fVar 5) (fC (.str "any")))) (sAsg (fA gTup (fCons (fC (.str "any")) fNil)) (gN 9)) sNx)
def lcT : En → SO := (sIf (fB (f2 eqD (fVar 5) (fC (.str "told")))) (sAsg (fA gTup (fCons (fC (.str "told")) (fCons (callV 2 0 N_law_some (aCons (fA gLst (fCons (fC (.int 0)) (fCons (fC (.int 1)) (fCons (fC (.int 4)) (fCons (f1 negD (fC (.int 3))) (fCons (fC (.int 20)) fNil)))))) aNil)) fNil))) (gN 9)) sNx)
def lcP : En → SO := (sIf (fB (f2 eqD (fVar 5) (fC (.str "plus")))) (sAsg (fA gTup (fCons (fC (.str "plus")) (fCons (fVar 7) (fCons (f2 subD (callV 2 0 N_law_under (aCons (fC (.int 7)) aNil)) (fC (.int 3))) fNil)))) (gN 9)) sNx)
def lcG : En → SO := (sIf (fB (f2 (inD false) (fVar 5) (fA gLst (fCons (fC (.str "greater")) (fCons (fC (.str "lesser")) fNil))))) (sAsg (fIf (fB (f2 neD (fVar 7) (fVar 8))) (fA gTup (fCons (fVar 5) (fCons (fVar 7) (fCons (fVar 8) fNil)))) (fA gTup (fCons (fC (.str "put")) (fCons (fVar 7) fNil)))) (gN 9)) sNx)
def lcH : En → SO := (sIf (fB (callD 1 N_law_is_course (aCons (f2 addD (fVar 2) (fA gTup (fCons (fVar 9) fNil))) aNil))) (sAsg (f2 addD (fVar 2) (fA gTup (fCons (fVar 9) fNil))) (gN 2)) sNx)
def lcBody : En → SO := sSeq lcA (sSeq lcB (sSeq lcC (sSeq lcD (sSeq lcT (sSeq lcP (sSeq lcG lcH))))))
theorem S_lc : S_law_course = sSeq (sPar2 2 3 (fCons (fA gTup (fCons (fA gTup (fCons (fC (.str "any")) fNil)) fNil)) (fCons (fA gLst (fCons (fC (.str "put")) (fCons (fC (.str "put")) (fCons (fC (.str "put")) (fCons (fC (.str "plus")) (fCons (fC (.str "told")) (fCons (fC (.str "any")) (fCons (fC (.str "greater")) (fCons (fC (.str "lesser")) fNil))))))))) fNil))) (sSeq (sFor (fRange1 (fCons (f2 addD (fC (.int 1)) (callV 2 0 N_law_under (aCons (f2 subD (fVar 1) (fC (.int 1))) aNil))) fNil)) (gN 4) lcBody) (sRet (fVar 2))) := rfl
section
variable {bb : Bool} {v : Int × Int} {m : Dt} {c : List Stp} {o4 o5 o6 o7 o8 o9 : Option Slot}
theorem lcA_ev (hv : VOK v) : ∃ w st, VOK w ∧ (st = Stp.put 0 ∨ st = Stp.plus 0 0 ∨ st = .told 0 ∨ st = .any ∨ st = .great 0 0 ∨ st = .less 0 0) ∧ lcA (lcE bb v m c o4 o5 o6 o7 o8 o9) = .nx (lcE bb w m c o4 (some (.dat (.str st.w))) (some (.dat (.int (c.length : Nat)))) o7 o8 o9) := by
  obtain ⟨d, w, hw, hd, he⟩ := draw0 (law_some_ev lcWords (by simp [lcWords]) (by simp [lcWords])) (n := 2) rfl (b := bb) (r := [some (.dat m), some (.dat (courseD c)), some (.dat (.list lcWords)), o4, o5, o6, o7, o8, o9]) (fr := aCons (fVar 3) aNil) hv (by simp [fVar_succ])
  have hst : ∃ st, d = .str (Stp.w st) ∧ (st = Stp.put 0 ∨ st = Stp.plus 0 0 ∨ st = .told 0 ∨ st = .any ∨ st = .great 0 0 ∨ st = .less 0 0) := by
    simp only [lcWords, List.mem_cons, List.not_mem_nil, or_false] at hd
    rcases hd with rfl | rfl | rfl | rfl | rfl | rfl | rfl | rfl
    · exact ⟨.put 0, rfl, by simp⟩
    · exact ⟨.put 0, rfl, by simp⟩
    · exact ⟨.put 0, rfl, by simp⟩
    · exact ⟨.plus 0 0, rfl, by simp⟩
    · exact ⟨.told 0, rfl, by simp⟩
    · exact ⟨.any, rfl, by simp⟩
    · exact ⟨.great 0 0, rfl, by simp⟩
    · exact ⟨.less 0 0, rfl, by simp⟩
  obtain ⟨st, rfl, hst⟩ := hst
  refine ⟨w, st, hw, hst, ?_⟩
  unfold lcA lcE
  simp only [sPar2_ev, fCons_ev, he, R.bind_ok]
  simp [fVar_succ]
theorem lcB_ev (hv : VOK v) (h1 : 1 ≤ c.length) (h8 : c.length ≤ 8) : ∃ w i j, VOK w ∧ i < c.length ∧ j < c.length ∧ lcB (lcE bb v m c o4 o5 (some (.dat (.int (c.length : Nat)))) o7 o8 o9) = .nx (lcE bb w m c o4 o5 (some (.dat (.int (c.length : Nat)))) (some (.dat (.int (i : Nat)))) (some (.dat (.int (j : Nat)))) o9) := by
  obtain ⟨d, w, hw, ⟨n, rfl, n0, n1⟩, he⟩ := draw0 (law_under_ev c.length (by omega) (by omega)) (n := 2) rfl (b := bb) (r := [some (.dat m), some (.dat (courseD c)), some (.dat (.list lcWords)), o4, o5, some (.dat (.int (c.length : Nat))), o7, o8, o9]) (fr := aCons (fVar 6) aNil) hv (by simp [fVar_succ])
  obtain ⟨d2, w2, hw2, ⟨n', rfl, n2, n3⟩, he2⟩ := draw0 (law_under_ev c.length (by omega) (by omega)) (n := 2) rfl (b := bb) (r := [some (.dat m), some (.dat (courseD c)), some (.dat (.list lcWords)), o4, o5, some (.dat (.int (c.length : Nat))), o7, o8, o9]) (fr := aCons (fVar 6) aNil) hw (by simp [fVar_succ])
  obtain ⟨i, rfl⟩ := Int.eq_ofNat_of_zero_le n0
  obtain ⟨j, rfl⟩ := Int.eq_ofNat_of_zero_le n2
  refine ⟨w2, i, j, hw2, by omega, by omega, ?_⟩
  unfold lcB lcE
  simp only [sPar2_ev, fCons_ev, he, he2, R.bind_ok, fNil_ev, RS_ok]
  simp
/-- the step that a turn makes -/
theorem lc_step {st : Stp} {i j : Nat} (hst : st = Stp.put 0 ∨ st = Stp.plus 0 0 ∨ st = .told 0 ∨ st = .any ∨ st = .great 0 0 ∨ st = .less 0 0) (hi : i < c.length) (hj : j < c.length) (hv : VOK v) :
    ∃ w s, VOK w ∧ (Stp.ok c.length s ∧ s.tame) ∧ (sSeq lcC (sSeq lcD (sSeq lcT (sSeq lcP (sSeq lcG lcH))))) (lcE bb v m c o4 (some (.dat (.str st.w))) o6 (some (.dat (.int (i : Nat)))) (some (.dat (.int (j : Nat)))) o9) = lcH (lcE bb w m c o4 (some (.dat (.str st.w))) o6 (some (.dat (.int (i : Nat)))) (some (.dat (.int (j : Nat)))) (some (.dat s.d))) := by
  have c1 : ∀ {w v o9}, lcC (lcE bb v m c o4 (some (.dat (.str w))) o6 (some (.dat (.int (i : Nat)))) (some (.dat (.int (j : Nat)))) o9) = .nx (lcE bb v m c o4 (some (.dat (.str w))) o6 (some (.dat (.int (i : Nat)))) (some (.dat (.int (j : Nat)))) (some (.dat (.tuple [.str w, .int (i : Nat)])))) := fun {w v o9} => by
    simp [lcC, lcE, fVar_succ, gTup_ev]
  have e0 := eq_any (ok_w st)
  have e1 := eq_told (ok_w st)
  have e3 := eq_plus (ok_w st)
  have e4 := in_glL (ok_w st) (neg := false)
  rw [kind_w] at e0 e1 e3 e4
  have g2 : gLst [.str "greater", .str "lesser"] = some (.list [.str "greater", .str "lesser"]) := rfl
  rw [sSeq_ev, c1, seq_nx]
  have dN : ∀ {v o9}, st.k ≠ 0 → lcD (lcE bb v m c o4 (some (.dat (.str st.w))) o6 (some (.dat (.int (i : Nat)))) (some (.dat (.int (j : Nat)))) o9) = .nx (lcE bb v m c o4 (some (.dat (.str st.w))) o6 (some (.dat (.int (i : Nat)))) (some (.dat (.int (j : Nat)))) o9) := fun {v o9} hk => by
    simp [lcD, lcE, fVar_succ, e0, hk]
  have tN : ∀ {v o9}, st.k ≠ 1 → lcT (lcE bb v m c o4 (some (.dat (.str st.w))) o6 (some (.dat (.int (i : Nat)))) (some (.dat (.int (j : Nat)))) o9) = .nx (lcE bb v m c o4 (some (.dat (.str st.w))) o6 (some (.dat (.int (i : Nat)))) (some (.dat (.int (j : Nat)))) o9) := fun {v o9} hk => by
    simp [lcT, lcE, fVar_succ, e1, hk]
  have pN : ∀ {v o9}, st.k ≠ 3 → lcP (lcE bb v m c o4 (some (.dat (.str st.w))) o6 (some (.dat (.int (i : Nat)))) (some (.dat (.int (j : Nat)))) o9) = .nx (lcE bb v m c o4 (some (.dat (.str st.w))) o6 (some (.dat (.int (i : Nat)))) (some (.dat (.int (j : Nat)))) o9) := fun {v o9} hk => by
    simp [lcP, lcE, fVar_succ, e3, hk]
  have gN : ∀ {v o9}, st.k ≠ 4 → st.k ≠ 5 → lcG (lcE bb v m c o4 (some (.dat (.str st.w))) o6 (some (.dat (.int (i : Nat)))) (some (.dat (.int (j : Nat)))) o9) = .nx (lcE bb v m c o4 (some (.dat (.str st.w))) o6 (some (.dat (.int (i : Nat)))) (some (.dat (.int (j : Nat)))) o9) := fun {v o9} h4 h5 => by
    simp [lcG, lcE, fVar_succ, e4, g2, h4, h5]
  have gY : ∀ {v o9}, (st.k = 4 ∨ st.k = 5) → lcG (lcE bb v m c o4 (some (.dat (.str st.w))) o6 (some (.dat (.int (i : Nat)))) (some (.dat (.int (j : Nat)))) o9) = .nx (lcE bb v m c o4 (some (.dat (.str st.w))) o6 (some (.dat (.int (i : Nat)))) (some (.dat (.int (j : Nat)))) (some (.dat (if i = j then .tuple [.str "put", .int (i : Nat)] else .tuple [.str st.w, .int (i : Nat), .int (j : Nat)])))) := fun {v o9} hk => by
    have q : neD (.int (i : Nat)) (.int (j : Nat)) = some (.bool (!decide (i = j))) := by
      rw [neD_int]
      congr 3
      exact decide_eq_decide.mpr (by omega)
    have z : (st.k == 4 || st.k == 5) = true := by rcases hk with h | h <;> simp [h]
    rw [z] at e4
    by_cases hij : i = j
    · simp [hij] at q
      simp [lcG, lcE, fVar_succ, e4, g2, q, hij, gTup_ev]
    · simp [hij] at q
      simp [lcG, lcE, fVar_succ, e4, g2, q, hij, gTup_ev]
  rcases hst with rfl | rfl | rfl | rfl | rfl | rfl
  · refine ⟨v, .put i, hv, ⟨hi, trivial⟩, ?_⟩
    rw [sSeq_ev, dN (by decide), seq_nx, sSeq_ev, tN (by decide), seq_nx, sSeq_ev, pN (by decide), seq_nx, sSeq_ev, gN (by decide) (by decide), seq_nx]
    rfl
  · obtain ⟨d, w, hw, ⟨n, rfl, n0, n1⟩, he⟩ := draw0 (law_under_ev 7 (by omega) (by omega)) (n := 2) rfl (b := bb) (r := [some (.dat m), some (.dat (courseD c)), some (.dat (.list lcWords)), o4, some (.dat (.str (Stp.plus 0 0).w)), o6, some (.dat (.int (i : Nat))), some (.dat (.int (j : Nat))), some (.dat (.tuple [.str (Stp.plus 0 0).w, .int (i : Nat)]))]) (fr := aCons (fC (.int 7)) aNil) hv (by simp)
    refine ⟨w, .plus i (n - 3), hw, ⟨⟨hi, by omega, by omega⟩, (show -20 ≤ n - 3 ∧ n - 3 ≤ 20 by omega)⟩, ?_⟩
    have pY : lcP (lcE bb v m c o4 (some (.dat (.str (Stp.plus 0 0).w))) o6 (some (.dat (.int (i : Nat)))) (some (.dat (.int (j : Nat)))) (some (.dat (.tuple [.str (Stp.plus 0 0).w, .int (i : Nat)])))) = .nx (lcE bb w m c o4 (some (.dat (.str (Stp.plus 0 0).w))) o6 (some (.dat (.int (i : Nat)))) (some (.dat (.int (j : Nat)))) (some (.dat (Stp.plus i (n - 3)).d))) := by
      simp [lcP, lcE, fVar_succ, e3, Stp.k, he, gTup_ev, Stp.d]
    rw [sSeq_ev, dN (by decide), seq_nx, sSeq_ev, tN (by decide), seq_nx, sSeq_ev, pY, seq_nx, sSeq_ev, gN (by decide) (by decide), seq_nx]
  · obtain ⟨d, w, hw, hd, he⟩ := draw0 (law_some_ev [.int 0, .int 1, .int 4, .int (-3), .int 20] (by simp) (by simp)) (n := 2) rfl (b := bb) (r := [some (.dat m), some (.dat (courseD c)), some (.dat (.list lcWords)), o4, some (.dat (.str (Stp.told 0).w)), o6, some (.dat (.int (i : Nat))), some (.dat (.int (j : Nat))), some (.dat (.tuple [.str (Stp.told 0).w, .int (i : Nat)]))]) (fr := (aCons (fA gLst (fCons (fC (.int 0)) (fCons (fC (.int 1)) (fCons (fC (.int 4)) (fCons (f1 negD (fC (.int 3))) (fCons (fC (.int 20)) fNil)))))) aNil)) hv (by simp [gLst_ev])
    obtain ⟨n, rfl, hn⟩ : ∃ n : Int, d = .int n ∧ -20 ≤ n ∧ n ≤ 20 := by
      simp only [List.mem_cons, List.not_mem_nil, or_false] at hd
      rcases hd with rfl | rfl | rfl | rfl | rfl
      all_goals exact ⟨_, rfl, by decide, by decide⟩
    refine ⟨w, .told n, hw, ⟨(show -1000 ≤ n ∧ n ≤ 1000 by omega), hn⟩, ?_⟩
    have tY : lcT (lcE bb v m c o4 (some (.dat (.str (Stp.told 0).w))) o6 (some (.dat (.int (i : Nat)))) (some (.dat (.int (j : Nat)))) (some (.dat (.tuple [.str (Stp.told 0).w, .int (i : Nat)])))) = .nx (lcE bb w m c o4 (some (.dat (.str (Stp.told 0).w))) o6 (some (.dat (.int (i : Nat)))) (some (.dat (.int (j : Nat)))) (some (.dat (Stp.told n).d))) := by
      unfold lcT lcE
      rw [sIf_ev]
      simp [fVar_succ, e1, Stp.k, gTup_ev, Stp.d, -fA_ev]
      simp only [fCons_ev, fA_ev, fC_ev, he, R.bind_ok, fNil_ev]
      simp [gTup_ev]
    rw [sSeq_ev, dN (by decide), seq_nx, sSeq_ev, tY, seq_nx, sSeq_ev, pN (by decide), seq_nx, sSeq_ev, gN (by decide) (by decide), seq_nx]
  · refine ⟨v, .any, hv, ⟨trivial, trivial⟩, ?_⟩
    have dY : ∀ {o9}, lcD (lcE bb v m c o4 (some (.dat (.str (Stp.any).w))) o6 (some (.dat (.int (i : Nat)))) (some (.dat (.int (j : Nat)))) o9) = .nx (lcE bb v m c o4 (some (.dat (.str (Stp.any).w))) o6 (some (.dat (.int (i : Nat)))) (some (.dat (.int (j : Nat)))) (some (.dat Stp.any.d))) := fun {o9} => by
      simp [lcD, lcE, fVar_succ, e0, Stp.k, gTup_ev, Stp.d]
    rw [sSeq_ev, dY, seq_nx, sSeq_ev, tN (by decide), seq_nx, sSeq_ev, pN (by decide), seq_nx, sSeq_ev, gN (by decide) (by decide), seq_nx]
  · refine ⟨v, if i = j then .put i else .great i j, hv, ?_, ?_⟩
    · by_cases hij : i = j
      · rw [if_pos hij]; exact ⟨hi, trivial⟩
      · rw [if_neg hij]; exact ⟨⟨hi, hj, hij⟩, trivial⟩
    · rw [sSeq_ev, dN (by decide), seq_nx, sSeq_ev, tN (by decide), seq_nx, sSeq_ev, pN (by decide), seq_nx, sSeq_ev, gY (.inl rfl), seq_nx]
      by_cases hij : i = j
      · rw [if_pos hij, if_pos hij]; rfl
      · rw [if_neg hij, if_neg hij]; rfl
  · refine ⟨v, if i = j then .put i else .less i j, hv, ?_, ?_⟩
    · by_cases hij : i = j
      · rw [if_pos hij]; exact ⟨hi, trivial⟩
      · rw [if_neg hij]; exact ⟨⟨hi, hj, hij⟩, trivial⟩
    · rw [sSeq_ev, dN (by decide), seq_nx, sSeq_ev, tN (by decide), seq_nx, sSeq_ev, pN (by decide), seq_nx, sSeq_ev, gY (.inr rfl), seq_nx]
      by_cases hij : i = j
      · rw [if_pos hij, if_pos hij]; rfl
      · rw [if_neg hij, if_neg hij]; rfl
theorem lcH_ev {s : Stp} (h8 : c.length ≤ 8) : lcH (lcE bb v m c o4 o5 o6 o7 o8 (some (.dat s.d))) = .nx (lcE bb v m (if isCourse (courseD (c ++ [s])) = true then c ++ [s] else c) o4 o5 o6 o7 o8 (some (.dat s.d))) := by
  have ha : addD (courseD c) (.tuple [s.d]) = some (courseD (c ++ [s])) := by
    rw [addD_tuple (by simp; omega)]
    simp
  have hl := law_is_course_ev (courseD (c ++ [s])) (fit_course _)
  unfold lcH lcE
  have hq : ∀ {k : Bool}, isCourse (courseD (c ++ [s])) = k → (if isCourse (courseD (c ++ [s])) = true then c ++ [s] else c) = if k = true then c ++ [s] else c := fun h => by rw [h]
  cases q : isCourse (courseD (c ++ [s])) with
  | false =>
    rw [q] at hl
    rw [if_neg Bool.false_ne_true]
    generalize courseD (c ++ [s]) = C2 at *
    generalize courseD c = C1 at *
    simp [fVar_succ, gTup_ev, ha, hl]
  | true =>
    rw [q] at hl
    rw [if_pos rfl]
    generalize courseD (c ++ [s]) = C2 at *
    generalize courseD c = C1 at *
    simp [fVar_succ, gTup_ev, ha, hl]
end
structure CI (i : Nat) (c : List Stp) : Prop extends Crs c where
  a0 : c[0]? = some .any
  len : c.length ≤ 1 + i
  two : 1 ≤ i → 2 ≤ c.length
  tm : ∀ s ∈ c, s.tame
theorem ci_snoc {i : Nat} {c : List Stp} (J : CI i c) {s : Stp} (hs : s.ok c.length) (ht : s.tame) : CI (i + 1) (if isCourse (courseD (c ++ [s])) = true then c ++ [s] else c) := by
  have l1 := J.l1
  have hl := J.len
  by_cases h : isCourse (courseD (c ++ [s])) = true
  · rw [if_pos h]
    obtain ⟨c', e, hc⟩ := isCourse_ok h
    injection e with e
    have e : c ++ [s] = c' := by
      have inj : ∀ {a b : List Stp}, a.map Stp.d = b.map Stp.d → a = b := fun {a b} hab => by
        induction a generalizing b with
        | nil => cases b with
          | nil => rfl
          | cons y b => simp at hab
        | cons x a ih => cases b with
          | nil => simp at hab
          | cons y b =>
            simp only [List.map_cons, List.cons.injEq] at hab
            rw [d_inj hab.1, ih hab.2]
      exact inj e
    subst e
    refine ⟨hc, ?_, by simp; omega, fun _ => by simp; omega, fun x hx => ?_⟩
    · rw [List.getElem?_append_left (by omega)]
      exact J.a0
    · rcases List.mem_append.mp hx with hx | hx
      · exact J.tm x hx
      · rw [List.mem_singleton.mp hx]; exact ht
  · rw [if_neg h]
    refine ⟨J.toCrs, J.a0, by omega, fun _ => ?_, J.tm⟩
    by_cases h1 : c.length = 1
    · exfalso
      apply h
      apply isCourse_of
      have hc : c = [.any] := by
        match c, h1, J.a0 with
        | [x], _, h0 => simpa using h0
      subst hc
      refine ⟨okFrom_snoc J.ok (by simpa using hs), by simp, by simp, ?_, ?_, ?_⟩
      · exact Nat.le_trans List.countP_le_length (by simp)
      · exact Nat.le_trans List.countP_le_length (by simp)
      · exact Nat.le_trans List.countP_le_length (by simp)
    · omega
theorem lc_turn {bb : Bool} {v : Int × Int} {m : Dt} {c : List Stp} {i : Nat} (J : CI i c) (hv : VOK v) (o4 o5 o6 o7 o8 o9 : Option Slot) : ∃ w c' p5 p6 p7 p8 p9, VOK w ∧ CI (i + 1) c' ∧ lcBody (lcE bb v m c o4 o5 o6 o7 o8 o9) = .nx (lcE bb w m c' o4 p5 p6 p7 p8 p9) := by
  obtain ⟨w1, st, hw1, hst, hA⟩ := lcA_ev (bb := bb) (m := m) (c := c) (o4 := o4) (o5 := o5) (o6 := o6) (o7 := o7) (o8 := o8) (o9 := o9) hv
  obtain ⟨w2, i1, j1, hw2, hi, hj, hB⟩ := lcB_ev (bb := bb) (m := m) (c := c) (o4 := o4) (o5 := some (.dat (.str st.w))) (o7 := o7) (o8 := o8) (o9 := o9) hw1 J.l1 J.l8
  obtain ⟨w3, s, hw3, hs, hC⟩ := lc_step (bb := bb) (m := m) (c := c) (o4 := o4) (o6 := some (.dat (.int (c.length : Nat)))) (o9 := o9) hst hi hj hw2
  refine ⟨w3, _, some (.dat (.str st.w)), some (.dat (.int (c.length : Nat))), some (.dat (.int (i1 : Nat))), some (.dat (.int (j1 : Nat))), some (.dat s.d), hw3, ci_snoc J hs.1 hs.2, ?_⟩
  unfold lcBody
  rw [sSeq_ev, hA, seq_nx, sSeq_ev, hB, seq_nx, hC, lcH_ev J.l8]
theorem lc_loop {bb : Bool} {m : Dt} : ∀ (ds : List Dt) (i : Nat) (c : List Stp) (v : Int × Int) (o4 o5 o6 o7 o8 o9 : Option Slot), CI i c → VOK v → ∃ w c' p4 p5 p6 p7 p8 p9, VOK w ∧ CI (i + ds.length) c' ∧ loopS (gN 4) lcBody ds (lcE bb v m c o4 o5 o6 o7 o8 o9) = .nx (lcE bb w m c' p4 p5 p6 p7 p8 p9)
  | [], i, c, v, o4, o5, o6, o7, o8, o9, J, hv => ⟨v, c, o4, o5, o6, o7, o8, o9, hv, J, rfl⟩
  | d :: ds, i, c, v, o4, o5, o6, o7, o8, o9, J, hv => by
    obtain ⟨w, c1, q5, q6, q7, q8, q9, hw, J1, h1⟩ := lc_turn (bb := bb) (m := m) J hv (some (.dat d)) o5 o6 o7 o8 o9
    obtain ⟨w2, c2, p4, p5, p6, p7, p8, p9, hw2, J2, h2⟩ := lc_loop (bb := bb) (m := m) ds (i + 1) c1 w (some (.dat d)) q5 q6 q7 q8 q9 J1 hw
    refine ⟨w2, c2, p4, p5, p6, p7, p8, p9, hw2, ?_, ?_⟩
    · rw [List.length_cons, show i + (ds.length + 1) = i + 1 + ds.length by omega]
      exact J2
    · rw [loopS_nx (e1 := lcE bb v m c (some (.dat d)) o5 o6 o7 o8 o9) rfl h1]
      exact h2
structure DC (m : Nat) (c : List Stp) : Prop extends Crs c where
  a0 : c[0]? = some .any
  two : 2 ≤ c.length
  len : c.length ≤ m
  tm : ∀ s ∈ c, s.tame
theorem law_course_ev (m : Nat) (h2 : 2 ≤ m) (h8 : m ≤ 8) : Draws N_law_course [.dat (.int (m : Nat))] (fun d => ∃ c, d = courseD c ∧ DC m c) := by
  intro v hv
  obtain ⟨d, w, hw, ⟨n, rfl, n0, n1⟩, he⟩ := draw0 (law_under_ev ((m : Int) - 1) (by omega) (by omega)) (n := 2) rfl (b := false) (r := [some (.dat (.int (m : Nat))), some (.dat (courseD [.any])), some (.dat (.list lcWords)), none, none, none, none, none, none]) (fr := aCons (f2 subD (fVar 1) (fC (.int 1))) aNil) hv (by simp [fVar_succ])
  obtain ⟨k, rfl⟩ := Int.eq_ofNat_of_zero_le n0
  have J0 : CI 0 [.any] := ⟨⟨⟨trivial, trivial⟩, by simp, by simp, by decide, by decide, by decide⟩, rfl, by simp, fun h => by omega, fun x hx => by rw [List.mem_singleton.mp hx]; trivial⟩
  obtain ⟨w2, c, p4, p5, p6, p7, p8, p9, hw2, J2, hl⟩ := lc_loop (bb := false) (m := .int (m : Nat)) (intsD 0 (1 + k)) 0 [.any] w none none none none none none J0 hw
  rw [intsD_length, Nat.zero_add] at J2
  refine ⟨courseD c, w2, hw2, ⟨c, rfl, J2.toCrs, J2.a0, J2.two (by omega), by have := J2.len; omega, J2.tm⟩, ?_⟩
  refine run_rt (e := lcE false w2 (.int (m : Nat)) c p4 p5 p6 p7 p8 p9) rfl ?_ rfl
  rw [S_lc, sSeq_ev]
  have a1 : (sPar2 2 3 (fCons (fA gTup (fCons (fA gTup (fCons (fC (.str "any")) fNil)) fNil)) (fCons (fA gLst (fCons (fC (.str "put")) (fCons (fC (.str "put")) (fCons (fC (.str "put")) (fCons (fC (.str "plus")) (fCons (fC (.str "told")) (fCons (fC (.str "any")) (fCons (fC (.str "greater")) (fCons (fC (.str "lesser")) fNil))))))))) fNil))) (initE 10 [.own false (vs v), .dat (.int (m : Nat))]) = .nx (lcE false v (.int (m : Nat)) [.any] none none none none none none) := rfl
  rw [a1, seq_nx, sSeq_ev, sFor_ev]
  have a2 : fRange1 (fCons (f2 addD (fC (.int 1)) (callV 2 0 N_law_under (aCons (f2 subD (fVar 1) (fC (.int 1))) aNil))) fNil) (lcE false v (.int (m : Nat)) [.any] none none none none none none) = .ok (intsD 0 (1 + k)) (lcE false w (.int (m : Nat)) [.any] none none none none none none) := by
    refine fRange1_of ?_ (by omega)
    unfold lcE
    simp only [fCons_ev, f2_ev, fC_ev, R.bind_ok, he, addD_int, ret1_some, fNil_ev]
    rfl
  rw [a2, RS_ok, hl, seq_nx]
  rfl
end DL
namespace DL
open PySem L2
/-! ### what is told of a drawn stair -/
theorem Drawn.stair {k : Nat} (hk : k ≤ 12) {b : Int} {s : List (Int × Int)} (h : Drawn k b s) : Stair b s := by
  have m12 : M12 = 1000000000000 := rfl
  refine ⟨h.toSG, by have := h.len; omega, ?_⟩
  have hb0 := h.b0
  have hb1 := h.b1
  have hl := h.len
  have ha : (s.map pr).all (isP M12) = true := by
    rw [List.all_eq_true]
    intro d hd
    obtain ⟨p, hp, rfl⟩ := List.mem_map.mp hd
    have := h.at_ p hp
    rw [isP_of]
    simp only [Bool.and_eq_true, decide_eq_true_eq]
    omega
  simp only [stD, isStair, pairI_map, ha, h.m, h.l, Bool.and_true, Bool.and_eq_true, decide_eq_true_eq, List.length_map]
  omega
theorem some0 {fr : En → R (List Slot)} {b : Bool} {v v1 : Int × Int} {r r1 : En} {xs : List Dt} (hf : fr (some (.own b (vs v)) :: r) = .ok [.dat (.list xs)] (some (.own b (vs v1)) :: r1)) (hv : VOK v1) (h0 : xs ≠ []) (h1 : xs.length ≤ 1000) : ∃ d w, VOK w ∧ d ∈ xs ∧ callV 2 0 N_law_some fr (some (.own b (vs v)) :: r) = .ok d (some (.own b (vs w)) :: r1) := by
  obtain ⟨d, w, hw, hd, he⟩ := law_some_ev xs h0 h1 v1 hv
  exact ⟨d, w, hw, hd, callV_of (b := b) (xs := vs v) (b1 := b) (xs1 := vs v1) (e1 := some (.own b (vs v1)) :: r1) (ss := [.dat (.list xs)]) rfl hf rfl rfl he⟩
def trBody : En → SO := (sSeq (sAsg (callV 2 0 N_law_some (aCons (fA gLst (fCons (f2 subD (callV 2 0 N_law_under (aCons (fC (.int 30)) aNil)) (fC (.int 10))) (fCons (f2 powD (fC (.int 10)) (fC (.int 9))) (fCons (f1 negD (f2 powD (fC (.int 10)) (fC (.int 9)))) fNil)))) aNil)) (gN 3)) (sSeq (sPar2 4 5 (fCons (callD 2 N_law_way (aCons (fVar 1) (aCons (fVar 3) aNil))) (fCons (callV 2 0 N_law_some (aCons (fA gLst (fCons (fC (.int 0)) (fCons (fC (.int 1)) (fCons (fC (.int 2)) (fCons (fC (.int 3)) (fCons (f2 powD (fC (.int 10)) (fC (.int 30))) fNil)))))) aNil)) fNil))) (sSeq (sIf (gOr (fB (f2 neD (callD 2 N_shown (aCons (fVar 1) (aCons (fVar 3) aNil))) (callD 2 N_law_shown (aCons (fVar 1) (aCons (fVar 3) aNil))))) (fB (f2 neD (callD 2 N_standstill (aCons (fVar 1) (aCons (fVar 3) aNil))) (fA gTup (fCons (f2 ixD (fVar 4) (f1 negD (fC (.int 1)))) (fCons (f2 subD (fA lenD (fCons (fVar 4) fNil)) (fC (.int 1))) fNil)))))) (sRet (fC (.bool false))) sNx) (sIf (fB (f2 neD (callD 3 N_after (aCons (fVar 1) (aCons (fVar 3) (aCons (fVar 5) aNil)))) (f2 ixD (f2 addD (fVar 4) (f2 mulD (fA gLst (fCons (f2 ixD (fVar 4) (f1 negD (fC (.int 1)))) fNil)) (fC (.int 4)))) (fA minD (fCons (fVar 5) (fCons (fA lenD (fCons (fVar 4) fNil)) fNil)))))) (sRet (fC (.bool false))) sNx))))
theorem tr_turn {b : Int} {s : List (Int × Int)} (h : Stair b s) {v : Int × Int} (hv : VOK v) (bb : Bool) (o2 o3 o4 o5 o6 : Option Slot) : ∃ w p3 p4 p5, VOK w ∧ trBody [some (.own bb (vs v)), some (.dat (stD b s)), o2, o3, o4, o5, o6] = .nx [some (.own bb (vs w)), some (.dat (stD b s)), o2, p3, p4, p5, o6] := by
  have g9 : G9 = 1000000000 := rfl
  have t30 : T30 = 1000000000000000000000000000000 := rfl
  have e9 : powD (.int 10) (.int 9) = some (.int G9) := by rw [powD_int (by decide)] <;> rfl
  have e30 : powD (.int 10) (.int 30) = some (.int T30) := by rw [powD_int (by decide)] <;> rfl
  obtain ⟨n1, w1, hw1, a0, a1, h1⟩ := under0 (m := 30) (by decide) (by decide) hv bb [some (.dat (stD b s)), o2, o3, o4, o5, o6]
  obtain ⟨d2, w2, hw2, hd2, h2⟩ := some0 (b := bb) (v := v) (v1 := w1) (r := [some (.dat (stD b s)), o2, o3, o4, o5, o6]) (r1 := [some (.dat (stD b s)), o2, o3, o4, o5, o6]) (xs := [.int (n1 - 10), .int G9, .int (-G9)]) (fr := (aCons (fA gLst (fCons (f2 subD (callV 2 0 N_law_under (aCons (fC (.int 30)) aNil)) (fC (.int 10))) (fCons (f2 powD (fC (.int 10)) (fC (.int 9))) (fCons (f1 negD (f2 powD (fC (.int 10)) (fC (.int 9)))) fNil)))) aNil)) (by simp [h1, e9, gLst_ev]) hw1 (by simp) (by simp)
  obtain ⟨n, rfl, hn⟩ : ∃ n, d2 = .int n ∧ -G9 ≤ n ∧ n ≤ G9 := by
    simp only [List.mem_cons, List.not_mem_nil, or_false] at hd2
    rcases hd2 with rfl | rfl | rfl
    · exact ⟨_, rfl, by omega, by omega⟩
    · exact ⟨_, rfl, by omega, by omega⟩
    · exact ⟨_, rfl, by omega, by omega⟩
  obtain ⟨d3, w3, hw3, hd3, h3⟩ := some0 (b := bb) (v := w2) (v1 := w2) (r := [some (.dat (stD b s)), o2, some (.dat (.int n)), o4, o5, o6]) (r1 := [some (.dat (stD b s)), o2, some (.dat (.int n)), o4, o5, o6]) (xs := [.int 0, .int 1, .int 2, .int 3, .int T30]) (fr := (aCons (fA gLst (fCons (fC (.int 0)) (fCons (fC (.int 1)) (fCons (fC (.int 2)) (fCons (fC (.int 3)) (fCons (f2 powD (fC (.int 10)) (fC (.int 30))) fNil)))))) aNil)) (by simp [e30, gLst_ev]) hw2 (by simp) (by simp)
  obtain ⟨t, rfl, ht⟩ : ∃ t, d3 = .int t ∧ 0 ≤ t ∧ t ≤ T30 := by
    simp only [List.mem_cons, List.not_mem_nil, or_false] at hd3
    rcases hd3 with rfl | rfl | rfl | rfl | rfl <;> exact ⟨_, rfl, by omega, by omega⟩
  obtain ⟨l, w, hl⟩ := way_ex h.toSG n
  obtain ⟨pre, z, rfl⟩ := w.last
  have hlen := h.len
  have hl30 : (pre ++ [z]).length ≤ 30 := by omega
  have hz : atI ((pre ++ [z]).map PyData.int) (-1) = some (.int z) := atI_snoc
  have x1 := law_way_ev (by omega) w hl30
  have x2 := shown_ev h hn
  have x3 := standstill_ev h hn w hl30
  have x4 := after_ev h hn ht w hl30
  have x5 := law_shown_ev b s n (by omega)
  generalize hL : (pre ++ [z]).map PyData.int = L at *
  have hLlen : (L.length : Int) = pre.length + 1 := by rw [← hL]; simp
  have x6 : neD (.tuple [.int z, .int pre.length]) (.tuple [.int z, .int ((L.length : Int) - 1)]) = some (.bool false) := by
    rw [neD_of (by simp) (by simp), hLlen]
    simp
  have x7 : mulD (.list [.int z]) (.int 4) = some (.list [.int z, .int z, .int z, .int z]) := by rfl
  have x8 : addD (.list L) (.list [.int z, .int z, .int z, .int z]) = some (.list (L ++ [.int z, .int z, .int z, .int z])) := addD_list (by rw [← hL]; simp at hl30 ⊢; omega)
  have x9 : minD [.int t, .int L.length] = some (.int (if (L.length : Int) < t then L.length else t)) := rfl
  have x10 : atI (L ++ [.int z, .int z, .int z, .int z]) (if (L.length : Int) < t then L.length else t) = some (.int ((pre ++ [z]).getD t.toNat z)) := by
    by_cases c : (L.length : Int) < t
    · rw [if_pos c]
      have hg : (pre ++ [z]).getD t.toNat z = z := by
        rw [List.getD, List.getElem?_eq_none (by simp; omega)]
        rfl
      rw [hg]
      exact atI_nat (by rw [List.getElem?_append_right (Nat.le_refl _), Nat.sub_self] <;> rfl)
    · rw [if_neg c]
      obtain ⟨k, rfl⟩ := Int.eq_ofNat_of_zero_le ht.1
      rw [Int.toNat_natCast]
      refine atI_nat ?_
      by_cases c2 : k < L.length
      · rw [List.getElem?_append_left c2, ← hL, List.getElem?_map]
        have hk : k < (pre ++ [z]).length := by simp; omega
        rw [List.getElem?_eq_getElem hk, List.getD, List.getElem?_eq_getElem hk]
        rfl
      · have e : k = L.length := by omega
        have hg : (pre ++ [z]).getD k z = z := by
          rw [List.getD, List.getElem?_eq_none (by simp; omega)]
          rfl
        rw [hg, e, List.getElem?_append_right (Nat.le_refl _), Nat.sub_self] <;> rfl
  refine ⟨w3, some (.dat (.int n)), some (.dat (.list L)), some (.dat (.int t)), hw3, ?_⟩
  simp [-List.getD_eq_getElem?_getD, trBody, h2, fVar_succ, x1, h3, x2, x5, x3, hz, gTup_ev, x6, x4, gLst_ev, x7, x8, x9, x10]
end DL
namespace DL
open PySem L2
/-! EV6: comprehensions in any frame -/
section
variable {e : En} {j : Nat} {o : Option Slot}
theorem mark_len : (mark e).length = e.length := by unfold mark; rw [List.length_map]
theorem mark_set_none : mark (e.set j none) = (mark e).set j none := by
  unfold mark
  rw [List.map_set]
  rfl
theorem turn_id {x : Option Slot} (hj : e[j]? = some none) : wipeE (unmark e ((mark e).set j x)) [j] = e := by
  have lj : j < e.length := (List.getElem?_eq_some_iff.mp hj).1
  apply List.ext_getElem?
  intro k
  rw [wipe_cons, wipe_nil]
  by_cases hkj : k = j
  · subst hkj
    rw [List.getElem?_set_self (by unfold unmark; rw [List.length_zipWith, List.length_set, mark_len]; omega), hj]
  · rw [List.getElem?_set_ne (Ne.symm hkj)]
    unfold unmark
    rw [List.getElem?_zipWith, List.getElem?_set_ne (Ne.symm hkj), mark_get]
    cases e[k]? with
    | none => rfl
    | some s => simp
theorem merge_id (hj : e[j]? = some o) (ho : ∀ b xs, o ≠ some (.own b xs)) : merge e (wipeE e [j]) [j] = e := by
  have lj : j < e.length := (List.getElem?_eq_some_iff.mp hj).1
  have hk : keepS e j = o := by
    unfold keepS
    rw [hj]
    cases o with
    | none => rfl
    | some s =>
      cases s with
      | dat d => rfl
      | raw w => rfl
      | own b xs => exact absurd rfl (ho b xs)
  rw [merge_cons, merge_nil, hk, wipe_cons, wipe_nil]
  apply List.ext_getElem?
  intro k
  by_cases hkj : k = j
  · subst hkj
    rw [List.getElem?_set_self (by simp only [List.length_set]; exact lj), hj]
  · rw [List.getElem?_set_ne (Ne.symm hkj), List.getElem?_set_ne (Ne.symm hkj), List.getElem?_set_ne (Ne.symm hkj)]
/-- the frame of a turn, its item at j -/
abbrev inTurn (e : En) (j : Nat) (d : Dt) : En := (mark e).set j (some (.dat d))
theorem in_self (hj : e[j]? = some o) {d : Dt} : (inTurn e j d)[j]? = some (some (.dat d)) := by
  rw [List.getElem?_set_self]
  rw [mark_len]
  exact (List.getElem?_eq_some_iff.mp hj).1
theorem in_dat {i : Nat} (hij : j ≠ i) {x d : Dt} (hi : e[i]? = some (some (.dat x))) : (inTurn e j d)[i]? = some (some (.dat x)) := by
  rw [List.getElem?_set_ne hij, mark_get, hi]
  rfl
theorem in_own {i : Nat} (hij : j ≠ i) {b : Bool} {xs : List Dt} {d : Dt} (hi : e[i]? = some (some (.own b xs))) : (inTurn e j d)[i]? = some (some (.own false xs)) := by
  rw [List.getElem?_set_ne hij, mark_get, hi]
  rfl
theorem in_var (hj : e[j]? = some o) {d : Dt} : fVar j (inTurn e j d) = .ok d (inTurn e j d) := fVar_of (in_self hj)
theorem in_vard {i : Nat} (hij : j ≠ i) {x d : Dt} (hi : e[i]? = some (some (.dat x))) : fVar i (inTurn e j d) = .ok x (inTurn e j d) := fVar_of (in_dat hij hi)
/-- [fe for x in fi if ft], x at j; nothing of the frame changes -/
theorem fLc_id {fi : En → R (List Dt)} {ft : En → R Bool} {fe : En → R Dt} {G : Dt → Option Dt} {ds : List Dt} (hj : e[j]? = some o) (ho : ∀ b xs, o ≠ some (.own b xs)) (hfi : fi e = .ok ds e) (hn : ds.length ≤ 1000000)
    (h : ∀ d ∈ ds, (ft (inTurn e j d) = .ok false (inTurn e j d) ∧ G d = none) ∨ (ft (inTurn e j d) = .ok true (inTurn e j d) ∧ ∃ y, fe (inTurn e j d) = .ok y (inTurn e j d) ∧ G d = some y)) : fLc fi (gN j) ft fe [j] e = .ok (.list (ds.filterMap G)) e := by
  have lj : j < e.length := (List.getElem?_eq_some_iff.mp hj).1
  have h0 : (wipeE e [j])[j]? = some none := by rw [wipe_cons, wipe_nil, List.getElem?_set_self lj]
  have h1 : ∀ d, (mark (wipeE e [j])).set j (some (.dat d)) = inTurn e j d := fun d => by
    rw [wipe_cons, wipe_nil, mark_set_none, List.set_set]
  rw [fLc_pure hfi (G := G) (fun d hd => ?_) hn, merge_id hj ho]
  refine ⟨inTurn e j d, by rw [gN_ev, h1], ?_⟩
  have hw : wipeE (unmark (wipeE e [j]) (inTurn e j d)) [j] = wipeE e [j] := by
    rw [← h1]
    exact turn_id h0
  rcases h d hd with ⟨a, b⟩ | ⟨a, y, b, c⟩
  · exact .inl ⟨_, a, hw, b⟩
  · exact .inr ⟨_, y, _, a, b, hw, c⟩
/-- [fe for x in fi] -/
theorem fLc_all {fi : En → R (List Dt)} {fe : En → R Dt} {M : Dt → Dt} {ds : List Dt} (hj : e[j]? = some o) (ho : ∀ b xs, o ≠ some (.own b xs)) (hfi : fi e = .ok ds e) (hn : ds.length ≤ 1000000)
    (h : ∀ d ∈ ds, fe (inTurn e j d) = .ok (M d) (inTurn e j d)) : fLc fi (gN j) fYes fe [j] e = .ok (.list (ds.map M)) e := by
  rw [fLc_id (ft := fYes) (G := fun d => some (M d)) hj ho hfi hn fun d hd => .inr ⟨fYes_ev, M d, h d hd, rfl⟩]
  congr 2
  induction ds with
  | nil => rfl
  | cons a l ih => simp
end
end DL
namespace DL
open PySem L2
/-! ### any values -/
def asc (s : Str) : Bool := s.cps.all (· < 128)
def leafB (k : Nat) : Dt → Bool
  | .none => true
  | .bool _ => true
  | .int i => decide (i.natAbs ≤ 10 ^ 31 + k)
  | .str s => asc s && decide (s.length ≤ 60 * 3 ^ k)
  | _ => false
def vb (k : Nat) : Nat → Dt → Bool
  | n + 1, .list xs => decide (xs.length ≤ 20 + k) && xs.all (vb k n)
  | n + 1, .tuple xs => decide (xs.length ≤ 20 + k) && xs.all (vb k n)
  | _, d => leafB k d
theorem vb_leaf {k n : Nat} {d : Dt} (h : leafB k d = true) : vb k n d = true := by
  cases n with
  | zero => cases d <;> exact h
  | succ n =>
    cases d with
    | list xs => cases h
    | tuple xs => cases h
    | _ => exact h
theorem vb_list {k n : Nat} {xs : List Dt} : vb k (n + 1) (.list xs) = (decide (xs.length ≤ 20 + k) && xs.all (vb k n)) := rfl
theorem vb_tuple {k n : Nat} {xs : List Dt} : vb k (n + 1) (.tuple xs) = (decide (xs.length ≤ 20 + k) && xs.all (vb k n)) := rfl
theorem leafB_mono {k k' : Nat} (hk : k ≤ k') {d : Dt} (h : leafB k d = true) : leafB k' d = true := by
  cases d with
  | int i =>
    have := of_decide_eq_true h
    exact decide_eq_true (by omega)
  | str s =>
    obtain ⟨h1, h2⟩ := Bool.and_eq_true_iff.mp h
    refine Bool.and_eq_true_iff.mpr ⟨h1, decide_eq_true ?_⟩
    have h3 := of_decide_eq_true h2
    have h4 : 3 ^ k ≤ 3 ^ k' := Nat.pow_le_pow_right (by decide) hk
    omega
  | _ => exact h
theorem vb_mono {k k' : Nat} (hk : k ≤ k') : ∀ {n n' : Nat}, n ≤ n' → ∀ {d : Dt}, vb k n d = true → vb k' n' d = true
  | 0, n', _, d, h => by
    have : leafB k d = true := by cases d <;> exact h
    exact vb_leaf (leafB_mono hk this)
  | n + 1, 0, hn, _, _ => by omega
  | n + 1, n' + 1, hn, d, h => by
    have go : ∀ {xs : List Dt}, (decide (xs.length ≤ 20 + k) && xs.all (vb k n)) = true → (decide (xs.length ≤ 20 + k') && xs.all (vb k' n')) = true := fun {xs} h => by
      rw [Bool.and_eq_true, decide_eq_true_eq, List.all_eq_true] at h ⊢
      exact ⟨by omega, fun x hx => vb_mono hk (by omega) (h.2 x hx)⟩
    cases d with
    | list xs => exact go h
    | tuple xs => exact go h
    | none => rfl
    | bool b => rfl
    | int i => exact leafB_mono hk (d := .int i) h
    | str s => exact leafB_mono hk (d := .str s) h
    | dict l => cases h
theorem asc_ok {s : Str} (h : asc s = true) : PyData.strOk s = true := by
  unfold asc at h
  unfold PyData.strOk
  rw [Array.all_eq_true] at h ⊢
  intro i hi
  have := of_decide_eq_true (h i hi)
  exact decide_eq_true (by omega)
theorem vb_fit {k : Nat} : ∀ {n : Nat} {d : Dt}, vb k n d = true → fitN n d = true
  | 0, d, h => by
    cases d with
    | str s =>
      rw [fitN_str]
      exact asc_ok (Bool.and_eq_true_iff.mp h).1
    | none => simp
    | bool b => simp
    | int i => simp
    | list xs => cases h
    | tuple xs => cases h
    | dict l => cases h
  | n + 1, d, h => by
    cases d with
    | list xs =>
      rw [vb_list, Bool.and_eq_true, List.all_eq_true] at h
      rw [fitN_list, List.all_eq_true]
      exact fun x hx => vb_fit (h.2 x hx)
    | tuple xs =>
      rw [vb_tuple, Bool.and_eq_true, List.all_eq_true] at h
      rw [fitN_tuple, List.all_eq_true]
      exact fun x hx => vb_fit (h.2 x hx)
    | str s =>
      rw [fitN_str]
      exact asc_ok (Bool.and_eq_true_iff.mp h).1
    | none => simp
    | bool b => simp
    | int i => simp
    | dict l => cases h
/-! ### _law_odd -/
abbrev T31 : Int := 10000000000000000000000000000000
def oddL : List Dt := [.none, .bool true, .bool false, .int 0, .int 1, .int 2, .int (-1), .int T31, .str "", .str "any", .str "put", .str "ring", .tuple [], .list [], .tuple [.str "any"], .tuple [.str "put", .int 0],
  .tuple [.int 0, .tuple [.tuple [.int 3, .int 5]]], .tuple [.int 0, .int 1, .int 0], .tuple [.tuple [.str "any"], .tuple [.str "put", .int 0]], .tuple [.str "told", .int 4], .str "split"]
theorem oddL_ok : oddL.all (vb 0 3) = true := by decide +kernel
theorem odd0 (F : Fn) : Draws (defF 5 (S_law_odd F)) [.dat (.int 0)] (fun d => vb 0 3 d = true) := by
  intro v hv
  have e31 : powD (.int 10) (.int 31) = some (.int T31) := by rw [powD_int (by decide)] <;> rfl
  obtain ⟨d, w, hw, hd, h1⟩ := some0 (b := false) (v := v) (v1 := v) (r := [some (.dat (.int 0)), some (.dat (.list oddL)), none, none]) (r1 := [some (.dat (.int 0)), some (.dat (.list oddL)), none, none]) (xs := oddL) (fr := (aCons (fVar 2) aNil)) (by simp [fVar_succ]) hv (by decide) (by decide)
  refine ⟨d, w, hw, List.all_eq_true.mp oddL_ok d hd, ?_⟩
  show runF _ (S_law_odd F) _ = _
  have hadd : addD (.list [.none, .bool true, .bool false, .int 0, .int 1, .int 2, .int (-1), .int T31, .str "", .str "any", .str "put", .str "ring", .tuple [], .list [], .tuple [.str "any"], .tuple [.str "put", .int 0]]) (.list [.tuple [.int 0, .tuple [.tuple [.int 3, .int 5]]], .tuple [.int 0, .int 1, .int 0], .tuple [.tuple [.str "any"], .tuple [.str "put", .int 0]], .tuple [.str "told", .int 4], .str "split"]) = some (.list oddL) := rfl
  simp [S_law_odd, e31, gTup_ev, gLst_ev, fVar_succ, hadd, h1]
theorem odd_lc {F : Fn} {P : Dt → Prop} (hF : Draws F [.dat (.int 0)] P) (b : Bool) (o2 : Option Slot) : ∀ (ds : List Dt) (v : Int × Int), VOK v → ∃ r w, VOK w ∧ r.length = ds.length ∧ (∀ x ∈ r, P x) ∧
    lcS (gN 4) fYes (callV 2 0 F (aCons (f2 subD (fVar 1) (fC (.int 1))) aNil)) [4] ds [some (.own b (vs v)), some (.dat (.int 1)), o2, none, none] = .ok r [some (.own b (vs w)), some (.dat (.int 1)), o2, none, none]
  | [], v, hv => ⟨[], v, hv, rfl, fun _ h => by simp at h, rfl⟩
  | d :: ds, v, hv => by
    obtain ⟨y, w, hw, hy, h1⟩ := hF v hv
    have hc : callV 2 0 F (aCons (f2 subD (fVar 1) (fC (.int 1))) aNil) [some (.own false (vs v)), some (.dat (.int 1)), markS o2, none, some (.dat d)] = .ok y [some (.own false (vs w)), some (.dat (.int 1)), markS o2, none, some (.dat d)] :=
      callV_of (b := false) (xs := vs v) (b1 := false) (xs1 := vs v) (e1 := [some (.own false (vs v)), some (.dat (.int 1)), markS o2, none, some (.dat d)]) (ss := [.dat (.int 0)]) rfl (by simp [fVar_succ]) rfl rfl h1
    obtain ⟨r, w2, hw2, hl, hr, h2⟩ := odd_lc hF b o2 ds w hw
    refine ⟨y :: r, w2, hw2, by simp [hl], fun x hx => ?_, ?_⟩
    · rcases List.mem_cons.mp hx with rfl | hx
      · exact hy
      · exact hr x hx
    · rw [lcS_cons (e1 := [some (.own false (vs v)), some (.dat (.int 1)), markS o2, none, some (.dat d)]) (by simp)]
      simp only [fYes_ev, hc]
      have e : wipeE (unmark [some (.own b (vs v)), some (.dat (.int 1)), o2, none, none] [some (.own false (vs w)), some (.dat (.int 1)), markS o2, none, some (.dat d)]) [4] = [some (.own b (vs w)), some (.dat (.int 1)), o2, none, none] := by simp
      rw [e, h2]
theorem odd1 (f : Nat) : Draws (N_law_odd (f + 2)) [.dat (.int 1)] (fun d => vb 0 4 d = true) := by
  intro v hv
  show ∃ d w, VOK w ∧ vb 0 4 d = true ∧ runF _ (S_law_odd (N_law_odd (f + 1))) _ = _
  have e31 : powD (.int 10) (.int 31) = some (.int T31) := by rw [powD_int (by decide)] <;> rfl
  have hadd : addD (.list [.none, .bool true, .bool false, .int 0, .int 1, .int 2, .int (-1), .int T31, .str "", .str "any", .str "put", .str "ring", .tuple [], .list [], .tuple [.str "any"], .tuple [.str "put", .int 0]]) (.list [.tuple [.int 0, .tuple [.tuple [.int 3, .int 5]]], .tuple [.int 0, .int 1, .int 0], .tuple [.tuple [.str "any"], .tuple [.str "put", .int 0]], .tuple [.str "told", .int 4], .str "split"]) = some (.list oddL) := rfl
  obtain ⟨n1, w1, hw1, a0, a1, h1⟩ := under0 (m := 9) (by decide) (by decide) hv false [some (.dat (.int 1)), some (.dat (.list oddL)), none, none]
  by_cases c : n1 < 6
  · obtain ⟨d, w, hw, hd, h2⟩ := some0 (b := false) (v := w1) (v1 := w1) (r := [some (.dat (.int 1)), some (.dat (.list oddL)), none, none]) (r1 := [some (.dat (.int 1)), some (.dat (.list oddL)), none, none]) (xs := oddL) (fr := (aCons (fVar 2) aNil)) (by simp [fVar_succ]) hw1 (by decide) (by decide)
    refine ⟨d, w, hw, vb_mono (Nat.le_refl _) (by omega) (List.all_eq_true.mp oddL_ok d hd), ?_⟩
    simp [S_law_odd, e31, gTup_ev, gLst_ev, fVar_succ, hadd, h1, c, h2]
  · obtain ⟨n2, w2, hw2, c0, c1, h2⟩ := under0 (m := 4) (by decide) (by decide) hw1 false [some (.dat (.int 1)), some (.dat (.list oddL)), none, none]
    obtain ⟨r, w3, hw3, hl, hr, h3⟩ := odd_lc (odd0 (N_law_odd f)) false (some (.dat (.list oddL))) (intsD 0 n2.toNat) w2 hw2
    rw [intsD_length] at hl
    obtain ⟨n4, w4, hw4, d0, d1, h4⟩ := under0 (m := 3) (by decide) (by decide) hw3 false [some (.dat (.int 1)), some (.dat (.list oddL)), some (.dat (.list r)), none]
    have hr1 : asR1 [.int n2] [some (.own false (vs w2)), some (.dat (.int 1)), some (.dat (.list oddL)), none, none] = .ok (intsD 0 n2.toNat) [some (.own false (vs w2)), some (.dat (.int 1)), some (.dat (.list oddL)), none, none] := asR1_ev (by omega)
    have hsm : small r.length = true := decide_eq_true (by omega)
    have t1 : fLc (fRange1 (fCons (callV 2 0 N_law_under (aCons (fC (.int 4)) aNil)) fNil)) (gN 4) fYes (callV 2 0 (N_law_odd (f + 1)) (aCons (f2 subD (fVar 1) (fC (.int 1))) aNil)) [4] [some (.own false (vs w1)), some (.dat (.int 1)), some (.dat (.list oddL)), none, none] = .ok (.list r) [some (.own false (vs w3)), some (.dat (.int 1)), some (.dat (.list oddL)), none, none] := by
      unfold fLc
      simp only [fRange1_ev, fCons_ev, h2, R.bind_ok, fNil_ev, hr1]
      have e : wipeE [some (.own false (vs w2)), some (.dat (.int 1)), some (.dat (.list oddL)), none, none] [4] = [some (.own false (vs w2)), some (.dat (.int 1)), some (.dat (.list oddL)), none, none] := by simp
      rw [e]
      have h3' : lcS (gN 4) fYes (callV 2 0 (N_law_odd (f + 1)) (aCons (f2 subD (fVar 1) (fC (.int 1))) aNil)) [4] (intsD 0 n2.toNat) [some (.own false (vs w2)), some (.dat (.int 1)), some (.dat (.list oddL)), none, none] = _ := h3
      rw [h3']
      simp [hsm, keepS_s]
    have hrow : ∀ t : List Dt → Dt, (t = PyData.list ∨ t = PyData.tuple) → vb 0 4 (t r) = true := fun t ht => by
      have h5 : (decide (r.length ≤ 20 + 0) && r.all (vb 0 3)) = true := by
        rw [Bool.and_eq_true, decide_eq_true_eq, List.all_eq_true]
        exact ⟨by omega, hr⟩
      rcases ht with rfl | rfl <;> exact h5
    by_cases c4 : n4 = 0
    · subst c4
      refine ⟨.list r, w4, hw4, hrow _ (.inl rfl), ?_⟩
      simp [S_law_odd, e31, gTup_ev, gLst_ev, fVar_succ, hadd, h1, c, t1, h4]
    · refine ⟨.tuple r, w4, hw4, hrow _ (.inr rfl), ?_⟩
      have ht : tupleD [.list r] = some (.tuple r) := rfl
      simp [S_law_odd, e31, gTup_ev, gLst_ev, fVar_succ, hadd, h1, c, t1, h4, c4, ht]
end DL
namespace DL
open PySem L2
theorem asc_mem {s : Str} : asc s = true ↔ ∀ c ∈ s.cps.toList, c < 128 := by
  unfold asc
  rw [← Array.all_toList, List.all_eq_true]
  constructor
  · intro h c hc
    exact of_decide_eq_true (h c hc)
  · intro h c hc
    exact decide_eq_true (h c hc)
theorem upper128 : (List.range 128).all (fun c => (Unicode.upperOf c).all (· < 128) && decide ((Unicode.upperOf c).length ≤ 3)) = true := by decide +kernel
theorem upper_asc {s : Str} (h : asc s = true) : asc (Txt.upper s) = true := by
  rw [asc_mem] at h ⊢
  intro c hc
  have hc : c ∈ ((s.cps.mapIdx fun i c => (Unicode.upperOf c).toArray).flatten).toList := hc
  rw [Array.mem_toList_iff, Array.mem_flatten] at hc
  obtain ⟨xs, hx, hc⟩ := hc
  rw [Array.mem_mapIdx] at hx
  obtain ⟨i, hi, rfl⟩ := hx
  have h1 := h s.cps[i] (Array.mem_toList_iff.mpr (Array.getElem_mem hi))
  have h2 := List.all_eq_true.mp upper128 s.cps[i] (List.mem_range.mpr h1)
  rw [Bool.and_eq_true] at h2
  exact of_decide_eq_true (List.all_eq_true.mp h2.1 c (by simpa using hc))
theorem upper_len (s : Str) : (Txt.upper s).length ≤ 3 * s.length := PyProof.Rows.len_upper s
theorem int_asc (i : Int) : asc (Str.ofString (toString i)) = true := by
  rw [asc_mem]
  intro c hc
  by_cases h : c < 128
  · exact h
  · exact absurd hc (PyProof.Rows.int_text_free' c ⟨by omega, .inr (by omega)⟩ i)
theorem int_len {i : Int} (h : i.natAbs < 10 ^ 32) : (Str.ofString (toString i)).length ≤ 33 := by
  have h1 := int_text_length_le10 (a := i) (k := 32) (by decide) h
  have h2 : (Str.ofString (toString i)).cps.toList.length = (toString i).length := by
    rw [PyProof.Rows.signs_ofString, List.length_map]
    rfl
  have h3 : (Str.ofString (toString i)).length = (Str.ofString (toString i)).cps.toList.length := by simp [Str.length]
  omega
end DL
namespace DL
open PySem L2
/-! ### _law_bent -/
theorem odd1' {v : Int × Int} (hv : VOK v) (b : Bool) (r : En) : ∃ d w, VOK w ∧ vb 0 4 d = true ∧ callV 2 0 (N_law_odd 3) (aCons (fC (.int 1)) aNil) (some (.own b (vs v)) :: r) = .ok d (some (.own b (vs w)) :: r) := by
  obtain ⟨d, w, hw, hd, he⟩ := odd1 1 v hv
  exact ⟨d, w, hw, hd, callV_of (b := b) (xs := vs v) (b1 := b) (xs1 := vs v) (e1 := some (.own b (vs v)) :: r) (ss := [.dat (.int 1)]) rfl (by simp) rfl rfl he⟩
def beA : En → SO := (sSeq (sAsg (fA gLst (fCons (callV 2 0 (N_law_odd 3) (aCons (fC (.int 1)) aNil)) (fCons (callV 2 0 (N_law_odd 3) (aCons (fC (.int 1)) aNil)) fNil))) (gN 2)) (sSeq (sIf (fB (f1 (isiD "str") (fVar 1))) (sAsg (f2 addB (fVar 2) (fA gLst (fCons (fC (.str "any")) (fCons (fC (.str "told")) (fCons (fC (.str "plus")) (fCons (fC (.str "lesser")) (fCons (fSl (fVar 1) fNo (fPart (f1 negB (fC (.int 1))))) (fCons (fM0 upperD (fVar 1)) (fCons (fC (.str "ring")) fNil))))))))) (gN 2)) (sIf (fB (f1 (isiD "int") (fVar 1))) (sAsg (f2 addB (fVar 2) (fA gLst (fCons (f2 addB (fVar 1) (fC (.int 1))) (fCons (f2 subB (fVar 1) (fC (.int 1))) (fCons (f1 notB (fVar 1)) (fCons (fA strB (fCons (fVar 1) fNil)) (fCons (f1 negB (fVar 1)) fNil))))))) (gN 2)) sNx)) (sRet (callV 2 0 N_law_some (aCons (fVar 2) aNil)))))
theorem addB_list {xs ys : List Dt} (h : xs.length + ys.length ≤ 1000000) : addB (.list xs) (.list ys) = some (.list (xs ++ ys)) := addD_list h
theorem addB_tuple {xs ys : List Dt} (h : xs.length + ys.length ≤ 1000000) : addB (.tuple xs) (.tuple ys) = some (.tuple (xs ++ ys)) := addD_tuple h
@[simp] theorem addB_int {i j : Int} : addB (.int i) (.int j) = some (.int (i + j)) := rfl
@[simp] theorem subB_int {i j : Int} : subB (.int i) (.int j) = some (.int (i - j)) := rfl
@[simp] theorem negB_int {i : Int} : negB (.int i) = some (.int (-i)) := rfl
@[simp] theorem notB_int {i : Int} : notB (.int i) = some (.bool (i == 0)) := rfl
@[simp] theorem addB_bool {k : Bool} {j : Int} : addB (.bool k) (.int j) = some (.int (bi k + j)) := rfl
@[simp] theorem subB_bool {k : Bool} {j : Int} : subB (.bool k) (.int j) = some (.int (bi k - j)) := rfl
@[simp] theorem negB_bool {k : Bool} : negB (.bool k) = some (.int (-bi k)) := rfl
@[simp] theorem notB_bool {k : Bool} : notB (.bool k) = some (.bool (!k)) := rfl
theorem strB_int {i : Int} (h : i.natAbs.log2 < 1920) : strB [.int i] = some (.str (toString i)) := if_pos (decide_eq_true h)
@[simp] theorem strB_bool {k : Bool} : strB [.bool k] = some (.str (if k then "True" else "False")) := rfl
/-- what stands near a value -/
def near2 (d : Dt) : List Dt := match d with
  | .str s => [.str "any", .str "told", .str "plus", .str "lesser", .str (cutS s none (some (-1))), .str (Txt.upper s), .str "ring"]
  | .int i => [.int (i + 1), .int (i - 1), .bool (i == 0), .str (toString i), .int (-i)]
  | .bool k => [.int (bi k + 1), .int (bi k - 1), .bool (!k), .str (if k then "True" else "False"), .int (-bi k)]
  | _ => []
theorem log_of {i : Int} (h : i.natAbs < 10 ^ 32) : i.natAbs.log2 < 1920 := by
  by_cases z : i.natAbs = 0
  · rw [z]; decide
  · rw [Nat.log2_lt z]
    refine Nat.lt_of_lt_of_le h ?_
    decide +kernel
theorem near2_ok {k n : Nat} (hk : k ≤ 3) {d : Dt} (h : vb k n d = true) : ∀ x ∈ near2 d, vb (k + 1) (n + 4) x = true := by
  have lf : ∀ {x : Dt}, leafB (k + 1) x = true → vb (k + 1) (n + 4) x = true := fun hx => vb_leaf hx
  have l60 : 60 ≤ 60 * 3 ^ (k + 1) := Nat.le_mul_of_pos_right _ (Nat.pos_of_ne_zero (by simp))
  have lit : ∀ {s : Str}, asc s = true → s.length ≤ 60 → leafB (k + 1) (.str s) = true := fun h1 h2 => Bool.and_eq_true_iff.mpr ⟨h1, decide_eq_true (by omega)⟩
  cases d with
  | str s =>
    have hs : leafB k (.str s) = true := by cases n <;> exact h
    obtain ⟨h1, h2⟩ := Bool.and_eq_true_iff.mp hs
    have h3 := of_decide_eq_true h2
    have hp : (3 : Nat) ^ (k + 1) = 3 ^ k * 3 := Nat.pow_succ ..
    intro x hx
    simp only [near2, List.mem_cons, List.not_mem_nil, or_false] at hx
    rcases hx with rfl | rfl | rfl | rfl | rfl | rfl | rfl
    · exact lf (lit (by decide +kernel) (by decide +kernel))
    · exact lf (lit (by decide +kernel) (by decide +kernel))
    · exact lf (lit (by decide +kernel) (by decide +kernel))
    · exact lf (lit (by decide +kernel) (by decide +kernel))
    · refine lf (Bool.and_eq_true_iff.mpr ⟨?_, decide_eq_true ?_⟩)
      · rw [asc_mem] at h1 ⊢
        intro c hc
        have hc : c ∈ ((s.cps.toList.drop (HT.sIx s.length 0 none)).take (HT.sIx s.length s.length (some (-1)) - HT.sIx s.length 0 none)) := by simpa [cutS] using hc
        exact h1 c (List.mem_of_mem_drop (List.mem_of_mem_take hc))
      · have : (cutS s none (some (-1))).length ≤ s.length := by
          simp only [cutS, Str.length, List.size_toArray, List.length_take, List.length_drop, Array.length_toList]
          omega
        omega
    · refine lf (Bool.and_eq_true_iff.mpr ⟨upper_asc h1, decide_eq_true ?_⟩)
      have := upper_len s
      omega
    · exact lf (lit (by decide +kernel) (by decide +kernel))
  | int i =>
    have hs : leafB k (.int i) = true := by cases n <;> exact h
    have h3 := of_decide_eq_true hs
    have hlen := int_len (i := i) (by omega)
    intro x hx
    simp only [near2, List.mem_cons, List.not_mem_nil, or_false] at hx
    rcases hx with rfl | rfl | rfl | rfl | rfl
    · exact lf (decide_eq_true (by omega))
    · exact lf (decide_eq_true (by omega))
    · exact lf rfl
    · exact lf (lit (int_asc i) (by omega))
    · exact lf (decide_eq_true (by omega))
  | bool b =>
    intro x hx
    simp only [near2, List.mem_cons, List.not_mem_nil, or_false] at hx
    cases b <;> rcases hx with rfl | rfl | rfl | rfl | rfl
    all_goals first
      | exact lf (lit (by decide +kernel) (by decide +kernel))
      | exact lf rfl
      | exact lf (decide_eq_true (by simp [bi] <;> omega))
  | _ => intro x hx; simp [near2] at hx
theorem bentA {k n : Nat} (hk : k ≤ 3) {d : Dt} (h : vb k n d = true) {v : Int × Int} (hv : VOK v) (b : Bool) : ∃ x w o2, VOK w ∧ vb (k + 1) (n + 4) x = true ∧ beA [some (.own b (vs v)), some (.dat d), none, none, none] = .rt x [some (.own b (vs w)), some (.dat d), o2, none, none] := by
  obtain ⟨d1, w1, hw1, hd1, h1⟩ := odd1' hv b [some (.dat d), none, none, none]
  obtain ⟨d2, w2, hw2, hd2, h2⟩ := odd1' hw1 b [some (.dat d), none, none, none]
  have hn2 : (near2 d).length ≤ 7 := by cases d <;> simp [near2]
  have he := near2_ok hk h
  generalize hN : near2 d = L at he hn2
  obtain ⟨x, w, hw, hx, h3⟩ := some0 (b := b) (v := w2) (v1 := w2) (r := [some (.dat d), some (.dat (.list (d1 :: d2 :: L))), none, none]) (r1 := [some (.dat d), some (.dat (.list (d1 :: d2 :: L))), none, none]) (xs := d1 :: d2 :: L) (fr := (aCons (fVar 2) aNil)) (by simp [fVar_succ]) hw2 (by simp) (by simp; omega)
  refine ⟨x, w, some (.dat (.list (d1 :: d2 :: L))), hw, ?_, ?_⟩
  · rcases List.mem_cons.mp hx with rfl | hx
    · exact vb_mono (Nat.zero_le _) (by omega) hd1
    · rcases List.mem_cons.mp hx with rfl | hx
      · exact vb_mono (Nat.zero_le _) (by omega) hd2
      · exact he x hx
  · cases d with
    | str s =>
      have hs : leafB k (.str s) = true := by cases n <;> exact h
      obtain ⟨p1, p2⟩ := Bool.and_eq_true_iff.mp hs
      have p3 := of_decide_eq_true p2
      have p4 : (3 : Nat) ^ k ≤ 3 ^ 3 := Nat.pow_le_pow_right (by decide) hk
      have q1 : sliceD (.str s) none (some (-1)) = some (.str (cutS s none (some (-1)))) := if_pos (decide_eq_true (by omega))
      have q2 : upperD s = some (.str (Txt.upper s)) := if_pos (decide_eq_true (by omega))
      have q3 : addB (.list [d1, d2]) (.list [.str "any", .str "told", .str "plus", .str "lesser", .str (cutS s none (some (-1))), .str (Txt.upper s), .str "ring"]) = some (.list (d1 :: d2 :: L)) := by
        rw [addB_list (by simp), ← hN]
        rfl
      have q4 : ∀ r : En, fM0 upperD (fVar 1) (some (.own b (vs w2)) :: some (.dat (.str s)) :: r) = .ok (.str (Txt.upper s)) (some (.own b (vs w2)) :: some (.dat (.str s)) :: r) := fun r => by
        unfold fM0
        simp [fVar_succ, q2]
      simp [beA, h1, h2, gLst_ev, fVar_succ, q1, q3, q4, h3]
    | int i =>
      have hs : leafB k (.int i) = true := by cases n <;> exact h
      have p3 := of_decide_eq_true hs
      have q1 := strB_int (log_of (i := i) (by omega))
      have q3 : addB (.list [d1, d2]) (.list [.int (i + 1), .int (i - 1), .bool (i == 0), .str (toString i), .int (-i)]) = some (.list (d1 :: d2 :: L)) := by
        rw [addB_list (by simp), ← hN]
        rfl
      clear hN he
      generalize (Str.ofString (toString i)) = ts at q1 q3
      simp [beA, h1, h2, gLst_ev, fVar_succ, q1, q3, h3]
    | bool i =>
      have q3 : addB (.list [d1, d2]) (.list [.int (bi i + 1), .int (bi i - 1), .bool (!i), .str (if i then "True" else "False"), .int (-bi i)]) = some (.list (d1 :: d2 :: L)) := by
        rw [addB_list (by simp), ← hN]
        rfl
      simp [beA, h1, h2, gLst_ev, fVar_succ, q3, h3]
    | dict l => cases n <;> cases h
    | _ =>
      have hL : L = [] := by rw [← hN]; rfl
      subst hL
      simp [beA, h1, h2, gLst_ev, fVar_succ, h3]
/-! the places -/
theorem cut_to {α : Type} {xs : List α} {i : Nat} (h : i ≤ xs.length) : cutL xs none (some (i : Int)) = xs.take i := by
  unfold cutL
  rw [HT.sIx_none, HT.sIx_nat, List.drop_zero, Nat.sub_zero, Nat.min_eq_left h]
theorem cut_from {α : Type} {xs : List α} {i : Nat} (h : i ≤ xs.length) : cutL xs (some (i : Int)) none = xs.drop i := by
  unfold cutL
  rw [HT.sIx_none, HT.sIx_nat, Nat.min_eq_left h]
  exact List.take_of_length_le (by simp)
theorem slice_to {xs : List Dt} {i : Nat} (h : i ≤ xs.length) : sliceD (.tuple xs) none (some (i : Int)) = some (.tuple (xs.take i)) := by
  show some (PyData.tuple (cutL xs none (some (i : Int)))) = _
  rw [cut_to h]
theorem slice_from {xs : List Dt} {i : Nat} (h : i ≤ xs.length) : sliceD (.tuple xs) (some (i : Int)) none = some (.tuple (xs.drop i)) := by
  show some (PyData.tuple (cutL xs (some (i : Int)) none)) = _
  rw [cut_from h]
def beB (F : Fn) : En → SO := (sSeq (sPar2 3 4 (fCons (callV 2 0 N_law_under (aCons (fA lenD (fCons (fVar 1) fNil)) aNil)) (fCons (callV 2 0 N_law_under (aCons (fC (.int 9)) aNil)) fNil))) (sSeq (sIf (fB (f2 eqD (fVar 4) (fC (.int 0)))) (sRet (f2 addB (fSl (fVar 1) fNo (fPart (fVar 3))) (fSl (fVar 1) (fPart (f2 addB (fVar 3) (fC (.int 1)))) fNo))) sNx) (sSeq (sIf (fB (f2 eqD (fVar 4) (fC (.int 1)))) (sRet (f2 addB (fSl (fVar 1) fNo (fPart (f2 addB (fVar 3) (fC (.int 1))))) (fSl (fVar 1) (fPart (fVar 3)) fNo))) sNx) (sSeq (sIf (fB (f2 eqD (fVar 4) (fC (.int 2)))) (sRet (f1 revT (fVar 1))) sNx) (sSeq (sIf (fB (f2 eqD (fVar 4) (fC (.int 3)))) (sRet (fA listD (fCons (fVar 1) fNil))) sNx) (sRet (f2 addB (f2 addB (fSl (fVar 1) fNo (fPart (fVar 3))) (fA gTup (fCons (callV 2 0 F (aCons (f2 ixD (fVar 1) (fVar 3)) aNil)) fNil))) (fSl (fVar 1) (fPart (f2 addB (fVar 3) (fC (.int 1)))) fNo))))))))
theorem bentB {F : Fn} {k n : Nat} (hk : k ≤ 3) {xs : List Dt} (h : vb k (n + 1) (.tuple xs) = true) (h0 : xs ≠ []) (hF : ∀ d ∈ xs, Draws F [.dat d] (fun x => vb (k + 1) (n + 4) x = true)) {v : Int × Int} (hv : VOK v) (b : Bool) : ∃ x w e1, VOK w ∧ vb (k + 1) (n + 5) x = true ∧ beB F [some (.own b (vs v)), some (.dat (.tuple xs)), none, none, none] = .rt x (some (.own b (vs w)) :: some (.dat (.tuple xs)) :: e1) := by
  rw [vb_tuple, Bool.and_eq_true, decide_eq_true_eq, List.all_eq_true] at h
  obtain ⟨hl, ha⟩ := h
  have hp := List.length_pos_iff.mpr h0
  obtain ⟨d1, w1, hw1, ⟨na, rfl, a0, a1⟩, h1⟩ := law_under_ev xs.length (by omega) (by omega) v hv
  obtain ⟨i, rfl⟩ := Int.eq_ofNat_of_zero_le a0
  have c1 : callV 2 0 N_law_under (aCons (fA lenD (fCons (fVar 1) fNil)) aNil) [some (.own b (vs v)), some (.dat (.tuple xs)), none, none, none] = .ok (.int i) [some (.own b (vs w1)), some (.dat (.tuple xs)), none, none, none] :=
    callV_of (b := b) (xs := vs v) (b1 := b) (xs1 := vs v) (e1 := [some (.own b (vs v)), some (.dat (.tuple xs)), none, none, none]) (ss := [.dat (.int xs.length)]) rfl (by simp [fVar_succ]) rfl rfl h1
  obtain ⟨n2, w2, hw2, b0, b1, h2⟩ := under0 (m := 9) (by decide) (by decide) hw1 b [some (.dat (.tuple xs)), none, none, none]
  have hi : i < xs.length := by omega
  have s1 := slice_to (xs := xs) (i := i) (by omega)
  have s2 : sliceD (.tuple xs) (some ((i : Int) + 1)) none = some (.tuple (xs.drop (i + 1))) := slice_from (xs := xs) (i := i + 1) (by omega)
  have s3 : sliceD (.tuple xs) none (some ((i : Int) + 1)) = some (.tuple (xs.take (i + 1))) := slice_to (xs := xs) (i := i + 1) (by omega)
  have s4 := slice_from (xs := xs) (i := i) (by omega)
  have ok : ∀ {ys : List Dt}, ys.length ≤ 20 + (k + 1) → (∀ y ∈ ys, vb k n y = true) → (decide (ys.length ≤ 20 + (k + 1)) && ys.all (vb (k + 1) (n + 4))) = true := fun {ys} y1 y2 => by
    rw [Bool.and_eq_true, decide_eq_true_eq, List.all_eq_true]
    exact ⟨y1, fun y hy => vb_mono (by omega) (by omega) (y2 y hy)⟩
  have l1 : (xs.take i ++ xs.drop (i + 1)).length ≤ 20 + (k + 1) := by simp; omega
  have l2 : (xs.take (i + 1) ++ xs.drop i).length ≤ 20 + (k + 1) := by simp; omega
  have m1 : ∀ y ∈ xs.take i ++ xs.drop (i + 1), vb k n y = true := fun y hy => by
    rcases List.mem_append.mp hy with hy | hy
    · exact ha y (List.mem_of_mem_take hy)
    · exact ha y (List.mem_of_mem_drop hy)
  have m2 : ∀ y ∈ xs.take (i + 1) ++ xs.drop i, vb k n y = true := fun y hy => by
    rcases List.mem_append.mp hy with hy | hy
    · exact ha y (List.mem_of_mem_take hy)
    · exact ha y (List.mem_of_mem_drop hy)
  have ad1 := addB_tuple (xs := xs.take i) (ys := xs.drop (i + 1)) (by simp; omega)
  have ad2 := addB_tuple (xs := xs.take (i + 1)) (ys := xs.drop i) (by simp; omega)
  by_cases q0 : n2 = 0
  · subst q0
    refine ⟨.tuple (xs.take i ++ xs.drop (i + 1)), w2, [none, some (.dat (.int i)), some (.dat (.int 0))], hw2, ok l1 m1, ?_⟩
    simp [beB, c1, h2, fVar_succ, s1, s2, ad1]
  · by_cases q1 : n2 = 1
    · subst q1
      refine ⟨.tuple (xs.take (i + 1) ++ xs.drop i), w2, [none, some (.dat (.int i)), some (.dat (.int 1))], hw2, ok l2 m2, ?_⟩
      simp [beB, c1, h2, fVar_succ, s3, s4, ad2]
    · by_cases q2 : n2 = 2
      · subst q2
        refine ⟨.tuple xs.reverse, w2, [none, some (.dat (.int i)), some (.dat (.int 2))], hw2, ok (by simp; omega) (fun y hy => ha y (List.mem_reverse.mp hy)), ?_⟩
        simp [beB, c1, h2, fVar_succ, revT]
      · by_cases q3 : n2 = 3
        · subst q3
          refine ⟨.list xs, w2, [none, some (.dat (.int i)), some (.dat (.int 3))], hw2, ok (by omega) ha, ?_⟩
          simp [beB, c1, h2, fVar_succ, listD]
        · obtain ⟨x, w3, hw3, hx, h3⟩ := hF xs[i] (List.getElem_mem hi) w2 hw2
          have g := atI_nat (List.getElem?_eq_getElem hi)
          have c3 : callV 2 0 F (aCons (f2 ixD (fVar 1) (fVar 3)) aNil) [some (.own b (vs w2)), some (.dat (.tuple xs)), none, some (.dat (.int i)), some (.dat (.int n2))] = .ok x [some (.own b (vs w3)), some (.dat (.tuple xs)), none, some (.dat (.int i)), some (.dat (.int n2))] :=
            callV_of (b := b) (xs := vs w2) (b1 := b) (xs1 := vs w2) (e1 := [some (.own b (vs w2)), some (.dat (.tuple xs)), none, some (.dat (.int i)), some (.dat (.int n2))]) (ss := [.dat xs[i]]) rfl (by simp [fVar_succ, g]) rfl rfl h3
          have ad3 := addB_tuple (xs := xs.take i) (ys := [x]) (by simp; omega)
          have ad4 := addB_tuple (xs := xs.take i ++ [x]) (ys := xs.drop (i + 1)) (by simp; omega)
          refine ⟨.tuple ((xs.take i ++ [x]) ++ xs.drop (i + 1)), w3, [none, some (.dat (.int i)), some (.dat (.int n2))], hw3, ?_, ?_⟩
          · rw [show n + 5 = (n + 4) + 1 from rfl, vb_tuple, Bool.and_eq_true, decide_eq_true_eq, List.all_eq_true]
            refine ⟨by simp; omega, fun y hy => ?_⟩
            rcases List.mem_append.mp hy with hy | hy
            · rcases List.mem_append.mp hy with hy | hy
              · exact vb_mono (by omega) (by omega) (ha y (List.mem_of_mem_take hy))
              · rw [List.mem_singleton.mp hy]; exact hx
            · exact vb_mono (by omega) (by omega) (ha y (List.mem_of_mem_drop hy))
          · simp [-List.append_assoc, beB, c1, h2, fVar_succ, q0, q1, q2, q3, s1, s2, c3, gTup_ev, ad3, ad4]
end DL
namespace DL
open PySem L2
theorem eqD_tnil {xs : List Dt} (h : xs.all (fitN 63) = true) : eqD (.tuple xs) (.tuple []) = some (.bool xs.isEmpty) := by rw [eqD_of (by rw [fitN_tuple]; exact h) (by rw [fitN_tuple] <;> rfl), eqv_tnil]
theorem bent_ev : ∀ (n k : Nat) (d : Dt) (f : Nat), k ≤ 3 → n ≤ 60 → vb k n d = true → n < f → Draws (N_law_bent f) [.dat d] (fun x => vb (k + 1) (n + 4) x = true)
  | n, k, d, 0, _, _, _, hf => by omega
  | n, k, d, f + 1, hk, hn, h, hf => by
    intro v hv
    show ∃ x w, VOK w ∧ vb (k + 1) (n + 4) x = true ∧ runF _ (S_law_bent (N_law_bent f)) _ = _
    have hS : S_law_bent (N_law_bent f) = sSeq (sIf (gOr (gNot (fB (f1 (isiD "tuple") (fVar 1)))) (gOr (fB (f2 eqD (fVar 1) (fA gTup fNil))) (fB (f2 eqD (callV 2 0 N_law_under (aCons (fC (.int 7)) aNil)) (fC (.int 0)))))) beA sNx) (beB (N_law_bent f)) := rfl
    rw [hS]
    have leafCase : (∀ xs, d ≠ .tuple xs) → ∃ x w, VOK w ∧ vb (k + 1) (n + 4) x = true ∧ runF 5 (sSeq (sIf (gOr (gNot (fB (f1 (isiD "tuple") (fVar 1)))) (gOr (fB (f2 eqD (fVar 1) (fA gTup fNil))) (fB (f2 eqD (callV 2 0 N_law_under (aCons (fC (.int 7)) aNil)) (fC (.int 0)))))) beA sNx) (beB (N_law_bent f))) [.own false (vs v), .dat d] = .ok x [.own false (vs w), .dat d] := fun hd => by
      obtain ⟨x, w, o2, hw, hx, h1⟩ := bentA hk h hv false
      refine ⟨x, w, hw, hx, ?_⟩
      cases d with
      | tuple xs => exact absurd rfl (hd xs)
      | _ => simp [fVar_succ, h1]
    cases d with
    | tuple xs =>
      cases n with
      | zero => cases h
      | succ n =>
        have hfit := vb_fit h
        rw [fitN_tuple] at hfit
        have hfit : xs.all (fitN 63) = true := by
          rw [List.all_eq_true] at hfit ⊢
          exact fun x hx => fitN_mono (hfit x hx) (by omega)
        by_cases he : xs = []
        · subst he
          obtain ⟨x, w, o2, hw, hx, h1⟩ := bentA hk h hv false
          refine ⟨x, w, hw, hx, ?_⟩
          simp [fVar_succ, gTup_ev, eqD_tnil (xs := []) rfl, h1]
        · have hne : xs.isEmpty = false := by cases xs with
            | nil => exact absurd rfl he
            | cons a l => rfl
          obtain ⟨n1, w1, hw1, a0, a1, h1⟩ := under0 (m := 7) (by decide) (by decide) hv false [some (.dat (.tuple xs)), none, none, none]
          by_cases c : n1 = 0
          · subst c
            obtain ⟨x, w, o2, hw, hx, h2⟩ := bentA hk h hw1 false
            refine ⟨x, w, hw, hx, ?_⟩
            simp [fVar_succ, gTup_ev, eqD_tnil hfit, hne, h1, h2]
          · have hx2 := h
            rw [vb_tuple, Bool.and_eq_true, List.all_eq_true] at hx2
            obtain ⟨x, w, e1, hw, hx, h2⟩ := bentB (F := N_law_bent f) hk h he (fun d hd => bent_ev n k d f hk (by omega) (hx2.2 d hd) (by omega)) hw1 false
            refine ⟨x, w, hw, hx, ?_⟩
            simp [fVar_succ, gTup_ev, eqD_tnil hfit, hne, h1, c, h2]
    | _ => exact leafCase fun xs z => by cases z
/-! ### _law_vat -/
theorem scr_len {sc : Option (Addr × List Int)} {s : Slot} {ns : List Int} (h : Scr sc s ns) (r : En) : fLenS 0 sc (some s :: r) = .ok (.int ns.length) (some s :: r) := by
  rcases h with rfl | ⟨a, rfl, rfl⟩
  · simp [fLenS]
  · simp [fLenS]
theorem scr_ix {sc : Option (Addr × List Int)} {s : Slot} {ns : List Int} (h : Scr sc s ns) {fb : En → R Dt} {r : En} {k : Nat} (hb : fb (some s :: r) = .ok (.int k) (some s :: r)) (hk : k < ns.length) : fIxS 0 sc fb (some s :: r) = .ok (.int ns[k]) (some s :: r) := by
  have hi : atI (ns.map PyData.int) (k : Int) = some (.int ns[k]) := atI_nat (by rw [List.getElem?_map, List.getElem?_eq_getElem hk] <;> rfl)
  rcases h with rfl | ⟨a, rfl, rfl⟩
  · simp [-List.map_map, fIxS, hb, hi]
  · simp [fIxS, hb, hi]
theorem scr_fin {sc : Option (Addr × List Int)} {s : Slot} {ns : List Int} (h : Scr sc s ns) {F : En → Option (List Dt × En)} {d : Dt} {ds : List Dt} {r : En} {o : Option Slot} (hF : F [some s, some (.dat d), none] = some (ds, some s :: o :: r)) : defO 3 F [s, .dat d] = some ds := by
  have hn : noTrue s = true := by rcases h with rfl | ⟨a, _, rfl⟩ <;> rfl
  have ho : outs [s, .dat d] (some s :: o :: r) = some [s, .dat d] := by rcases h with rfl | ⟨a, _, rfl⟩ <;> rfl
  unfold defO
  rw [if_pos (by show (noTrue s && (noTrue (.dat d) && true)) = true; rw [hn] <;> rfl), show initE 3 [s, .dat d] = [some s, some (.dat d), none] from rfl, hF]
  dsimp only
  rw [ho]
  rfl
def cellE (s : Slot) (k : Nat) (c : Int) : En := [some s, some (.dat (.int k)), some (.dat (.int c))]
theorem law_vat_ev {sc : Option (Addr × List Int)} {s : Slot} {ns : List Int} (h : Scr sc s ns) (k : Nat) : ∃ v, VOK v ∧ N_law_vat sc [s, .dat (.int k)] = some (vs v) := by
  have e18 : powD (.int 10) (.int 18) = some (.int 1000000000000000000) := by rw [powD_int (by decide)] <;> rfl
  have key : ∀ c : Int, 0 ≤ c → ∃ v, VOK v ∧ oRet (fCons (fIf (fB (f2 geD (fVar 2) (f2 powD (fC (.int 10)) (fC (.int 18))))) (fVar 2) (fC (.int 0))) (fCons (f2 addD (f2 modD (fA intD (fCons (f2 addD (f2 addD (f2 mulD (fVar 2) (fC (.int 131071))) (f2 mulD (fC (.int 8191)) (fVar 1))) (fC (.int 5))) fNil)) (fC (.int 2147483629))) (fC (.int 1))) fNil)) (cellE s k c) = some (vs v, cellE s k c) := fun c hc => by
    have m1 := mulD_int (i := c) (j := 131071) (.inr (by decide))
    have m2 := mulD_int (i := 8191) (j := k) (.inl (by decide))
    have m3 := modD_int (i := c * 131071 + 8191 * k + 5) (j := 2147483629) (by decide)
    have q0 : 0 ≤ (c * 131071 + 8191 * (k : Int) + 5) % 2147483629 := Int.emod_nonneg _ (by decide)
    have q1 : (c * 131071 + 8191 * (k : Int) + 5) % 2147483629 < 2147483629 := Int.emod_lt_of_pos _ (by decide)
    have f1 : fVar 1 (cellE s k c) = .ok (.int k) (cellE s k c) := rfl
    have f2' : fVar 2 (cellE s k c) = .ok (.int c) (cellE s k c) := rfl
    have hz : szOk [.int (if 1000000000000000000 ≤ c then c else 0), .int ((c * 131071 + 8191 * (k : Int) + 5) % 2147483629 + 1)] = true := rfl
    refine ⟨(if 1000000000000000000 ≤ c then c else 0, (c * 131071 + 8191 * (k : Int) + 5) % 2147483629 + 1), ⟨?_, by dsimp only; omega, by dsimp only; omega⟩, ?_⟩
    · dsimp only
      split <;> omega
    · unfold oRet
      by_cases c1 : 1000000000000000000 ≤ c
      · rw [if_pos c1] at hz
        simp [f1, f2', e18, m1, m2, m3, c1, hz]
      · rw [if_neg c1] at hz
        simp [f1, f2', e18, m1, m2, m3, c1, hz]
  have m0 := mulD_int (i := 7919) (j := k) (.inl (by decide))
  have fin : ∀ c : Int, 0 ≤ c → (oSeq (sIf (fB (f2 ltD (fVar 1) (fLenS 0 sc))) (sAsg (fA absD (fCons (fA intD (fCons (fIxS 0 sc (fVar 1)) fNil)) fNil)) (gN 2)) sNx) (fun e => some ([], e))) (cellE s k (7919 * k + 43)) = some ([], cellE s k c) → ∃ v, VOK v ∧ N_law_vat sc [s, .dat (.int k)] = some (vs v) := fun c hc hh => by
    obtain ⟨v, hv, h1⟩ := key c hc
    refine ⟨v, hv, scr_fin (o := some (.dat (.int k))) (r := [some (.dat (.int c))]) h ?_⟩
    unfold S_law_vat
    have a1 : sAsg (f2 addD (f2 mulD (fC (.int 7919)) (fVar 1)) (fC (.int 43))) (gN 2) [some s, some (.dat (.int k)), none] = .nx (cellE s k (7919 * k + 43)) := by simp [fVar_succ, m0, cellE]
    unfold oSeq
    rw [a1]
    dsimp only
    unfold oSeq at hh
    split at hh
    · rename_i e1 he1
      injection hh with hh
      injection hh with _ hh
      subst hh
      exact h1
    · cases hh
  have fk : fVar 1 (cellE s k (7919 * k + 43)) = .ok (.int k) (cellE s k (7919 * k + 43)) := rfl
  have fl : fLenS 0 sc (cellE s k (7919 * k + 43)) = .ok (.int ns.length) (cellE s k (7919 * k + 43)) := scr_len h _
  by_cases c : k < ns.length
  · have fi : fIxS 0 sc (fVar 1) (cellE s k (7919 * k + 43)) = .ok (.int ns[k]) (cellE s k (7919 * k + 43)) := scr_ix h rfl c
    have fa : absD [.int ns[k]] = some (.int (if ns[k] < 0 then -ns[k] else ns[k])) := rfl
    refine fin (if ns[k] < 0 then -ns[k] else ns[k]) (by split <;> omega) ?_
    have c' : (k : Int) < ns.length := by omega
    unfold oSeq
    simp [fk, fl, c, fi, fa]
    rfl
  · refine fin (7919 * k + 43) (by omega) ?_
    unfold oSeq
    simp [fk, fl, c]
end DL
namespace DL
open PySem L2
theorem maxD2' {i j : Int} : maxD [.int i, .int j] = some (.int (if j > i then j else i)) := rfl
theorem minD2' {i j : Int} : minD [.int i, .int j] = some (.int (if j < i then j else i)) := rfl
/-! ### draws in any frame -/
theorem drawI {F : Fn} {P : Dt → Prop} {as : List Slot} {n : Nat} (hF : Draws F as P) (hn : as.length + 1 = n) {i : Nat} {b : Bool} {v : Int × Int} {e : En} {fr : En → R (List Slot)} (hi : e[i]? = some (some (.own b (vs v)))) (hv : VOK v) (hf : fr e = .ok as e) : ∃ d w, VOK w ∧ P d ∧ callV n i F fr e = .ok d (e.set i (some (.own b (vs w)))) := by
  obtain ⟨d, w, hw, hd, he⟩ := hF v hv
  exact ⟨d, w, hw, hd, callV_of (b := b) (xs := vs v) (b1 := b) (xs1 := vs v) hi hf hi hn he⟩
theorem unmark_back {e : En} {i j : Nat} {b : Bool} {xs ys : List Dt} {d : Dt} (hi : e[i]? = some (some (.own b xs))) (hj : e[j]? = some none) (hij : i ≠ j) : wipeE (unmark e (((mark e).set j (some (.dat d))).set i (some (.own false ys)))) [j] = e.set i (some (.own b ys)) := by
  have li : i < e.length := (List.getElem?_eq_some_iff.mp hi).1
  have lj : j < e.length := (List.getElem?_eq_some_iff.mp hj).1
  have lm : (mark e).length = e.length := by unfold mark; rw [List.length_map]
  apply List.ext_getElem?
  intro k
  rw [wipe_cons, wipe_nil]
  by_cases hkj : k = j
  · subst hkj
    rw [List.getElem?_set_self (by unfold unmark; rw [List.length_zipWith, List.length_set, List.length_set, lm]; omega), List.getElem?_set_ne hij, hj]
  · rw [List.getElem?_set_ne (Ne.symm hkj)]
    unfold unmark
    rw [List.getElem?_zipWith]
    by_cases hki : k = i
    · subst hki
      rw [List.getElem?_set_self (by rw [List.length_set, lm]; exact li), List.getElem?_set_self li, hi]
      rfl
    · rw [List.getElem?_set_ne (Ne.symm hki), List.getElem?_set_ne (Ne.symm hkj), List.getElem?_set_ne (Ne.symm hki), mark_get]
      cases e[k]? with
      | none => rfl
      | some s => simp
theorem lcS_under {m sub : Int} (h0 : 0 < m) (h1 : m < 1073741824) {i j : Nat} {b : Bool} (hij : i ≠ j) : ∀ (ds : List Dt) (e : En) (v : Int × Int), e[i]? = some (some (.own b (vs v))) → e[j]? = some none → VOK v → ∃ (r : List Int) (w : Int × Int), VOK w ∧ r.length = ds.length ∧ (∀ x ∈ r, -sub ≤ x ∧ x < m - sub) ∧
    lcS (gN j) fYes (f2 subD (callV 2 i N_law_under (aCons (fC (.int m)) aNil)) (fC (.int sub))) [j] ds e = .ok (r.map PyData.int) (e.set i (some (.own b (vs w))))
  | [], e, v, hi, hj, hv => ⟨[], v, hv, rfl, fun _ h => by simp at h, by
    show R.ok [] e = _
    congr 1
    apply List.ext_getElem?
    intro k
    by_cases hk : k = i
    · subst hk
      rw [List.getElem?_set_self (List.getElem?_eq_some_iff.mp hi).1, hi]
    · rw [List.getElem?_set_ne (Ne.symm hk)]⟩
  | d :: ds, e, v, hi, hj, hv => by
    have li : i < e.length := (List.getElem?_eq_some_iff.mp hi).1
    have lm : (mark e).length = e.length := by unfold mark; rw [List.length_map]
    have hi1 : ((mark e).set j (some (.dat d)))[i]? = some (some (.own false (vs v))) := by
      rw [List.getElem?_set_ne (Ne.symm hij), mark_get, hi]
      rfl
    obtain ⟨y, w, hw, ⟨n, rfl, n0, n1⟩, hc⟩ := drawI (law_under_ev m h0 h1) (n := 2) rfl (fr := aCons (fC (.int m)) aNil) hi1 hv (by simp)
    have hi2 : (e.set i (some (.own b (vs w))))[i]? = some (some (.own b (vs w))) := List.getElem?_set_self li
    have hj2 : (e.set i (some (.own b (vs w))))[j]? = some none := by rw [List.getElem?_set_ne hij]; exact hj
    obtain ⟨r, w2, hw2, hl, hr, h2⟩ := lcS_under h0 h1 hij ds (e.set i (some (.own b (vs w)))) w hi2 hj2 hw
    refine ⟨(n - sub) :: r, w2, hw2, by simp [hl], fun x hx => ?_, ?_⟩
    · rcases List.mem_cons.mp hx with rfl | hx
      · omega
      · exact hr x hx
    · rw [lcS_cons (e1 := (mark e).set j (some (.dat d))) rfl]
      have hfe : f2 subD (callV 2 i N_law_under (aCons (fC (.int m)) aNil)) (fC (.int sub)) ((mark e).set j (some (.dat d))) = .ok (.int (n - sub)) (((mark e).set j (some (.dat d))).set i (some (.own false (vs w)))) := by
        rw [f2_ev, hc]
        rfl
      simp only [fYes_ev, hfe]
      rw [unmark_back hi hj hij, h2]
      simp only [List.set_set, List.map_cons]
/-- a list of drawn numbers -/
theorem fLc_under {m sub : Int} (h0 : 0 < m) (h1 : m < 1073741824) {i j : Nat} {b : Bool} (hij : i ≠ j) {e : En} {v : Int × Int} {n : Nat} {fi : En → R (List Dt)} {ds : List Dt} {o : Option Slot} (hfi : fi e = .ok ds e) (hn : ds.length ≤ 1000) (hi : e[i]? = some (some (.own b (vs v)))) (hj : e[j]? = some o) (ho : ∀ b xs, o ≠ some (.own b xs)) (hv : VOK v) :
    ∃ (r : List Int) (w : Int × Int), VOK w ∧ r.length = ds.length ∧ (∀ x ∈ r, -sub ≤ x ∧ x < m - sub) ∧ fLc fi (gN j) fYes (f2 subD (callV 2 i N_law_under (aCons (fC (.int m)) aNil)) (fC (.int sub))) [j] e = .ok (.list (r.map PyData.int)) (e.set i (some (.own b (vs w)))) := by
  have lj : j < e.length := (List.getElem?_eq_some_iff.mp hj).1
  obtain ⟨r, w, hw, hl, hr, h⟩ := lcS_under (sub := sub) h0 h1 hij ds (wipeE e [j]) v (by rw [wipe_cons, wipe_nil, List.getElem?_set_ne (Ne.symm hij)]; exact hi) (by rw [wipe_cons, wipe_nil, List.getElem?_set_self lj]) hv
  refine ⟨r, w, hw, hl, hr, ?_⟩
  unfold fLc
  rw [hfi, R.bind_ok, h]
  dsimp only
  rw [if_pos (show small (r.map PyData.int).length = true from decide_eq_true (by simp; omega))]
  congr 1
  have hk : keepS e j = o := by
    unfold keepS
    rw [hj]
    cases o with
    | none => rfl
    | some s =>
      cases s with
      | dat d => rfl
      | raw w => rfl
      | own b xs => exact absurd rfl (ho b xs)
  rw [merge_cons, merge_nil, hk, wipe_cons, wipe_nil]
  apply List.ext_getElem?
  intro k
  by_cases hkj : k = j
  · subst hkj
    rw [List.getElem?_set_self (by simp only [List.length_set]; exact lj), List.getElem?_set_ne hij, hj]
  · rw [List.getElem?_set_ne (Ne.symm hkj), List.getElem?_set_ne (Ne.symm hkj)]
    by_cases hki : k = i
    · subst hki
      rw [List.getElem?_set_self (by simp only [List.length_set]; exact (List.getElem?_eq_some_iff.mp hi).1), List.getElem?_set_self (List.getElem?_eq_some_iff.mp hi).1]
    · rw [List.getElem?_set_ne (Ne.symm hki), List.getElem?_set_ne (Ne.symm hkj), List.getElem?_set_ne (Ne.symm hki)]
/-! ### spoilt values -/
theorem draw2 {F : Fn} {P : Dt → Prop} {x : Dt} (hF : Draws F [.dat x] P) {s k : Option Slot} {v : Int × Int} {r : En} {fr : En → R (List Slot)} (hv : VOK v) (hf : fr (s :: k :: some (.own true (vs v)) :: r) = .ok [.dat x] (s :: k :: some (.own true (vs v)) :: r)) : ∃ d w, VOK w ∧ P d ∧ callV 2 2 F fr (s :: k :: some (.own true (vs v)) :: r) = .ok d (s :: k :: some (.own true (vs w)) :: r) := by
  obtain ⟨d, w, hw, hd, he⟩ := hF v hv
  exact ⟨d, w, hw, hd, callV_of (b := true) (xs := vs v) (b1 := true) (xs1 := vs v) (e1 := s :: k :: some (.own true (vs v)) :: r) (ss := [.dat x]) rfl hf rfl rfl he⟩
theorem truly_ev (a : Bool) : N_law_truly [.dat (.bool a), .dat (.bool a)] = .ok (.bool true) [.dat (.bool a), .dat (.bool a)] := by
  show runF 2 S_law_truly [.dat (.bool a), .dat (.bool a)] = _
  simp [S_law_truly, fVar_succ]
def SpOk (c : Nat) (d : Dt) : Prop := vb 3 15 d = true ∧ (c % 3 = 1 → vb 1 7 d = true) ∧ (c % 3 = 2 → vb 2 11 d = true)
theorem SpOk.fit {c : Nat} {d : Dt} (h : SpOk c d) : fitN 60 d = true := fitN_mono (vb_fit h.1) (by omega)
theorem SpOk.zero {d : Dt} (h : vb 0 3 d = true) : SpOk 0 d := ⟨vb_mono (by decide) (by decide) h, fun z => by omega, fun z => by omega⟩
/-- spoilt = _law_bent(vat, st if c % 3 == 0 else sp): i the vat's place, a the place of st, b that of sp, t that of c -/
theorem bent_draw {i a b t : Nat} {bb : Bool} {st sp : Dt} (h3 : vb 0 3 st = true) {c : Nat} (hsp : SpOk c sp) {v : Int × Int} (hv : VOK v) {e : En} (hi : e[i]? = some (some (.own bb (vs v)))) (ha : fVar a e = .ok st e) (hb : fVar b e = .ok sp e) (ht : fVar t e = .ok (.int (c : Int)) e) :
    ∃ d w, VOK w ∧ SpOk (c + 1) d ∧ callV 2 i (N_law_bent 24) (aCons (fIf (fB (f2 eqD (f2 modD (fVar t) (fC (.int 3))) (fC (.int 0)))) (fVar a) (fVar b)) aNil) e = .ok d (e.set i (some (.own bb (vs w)))) := by
  have m3 := modD_int (i := (c : Int)) (j := 3) (by decide)
  have test : (fB (f2 eqD (f2 modD (fVar t) (fC (.int 3))) (fC (.int 0)))) e = .ok (decide ((c : Int) % 3 = 0)) e := by
    rw [fB_ev, f2_ev, f2_ev, ht]
    simp only [R.bind_ok, fC_ev, m3, ret1_some, eqD_int, asB_bool]
  have arg : ∀ {x : Dt}, (if decide ((c : Int) % 3 = 0) = true then fVar a e else fVar b e) = .ok x e → aCons (fIf (fB (f2 eqD (f2 modD (fVar t) (fC (.int 3))) (fC (.int 0)))) (fVar a) (fVar b)) aNil e = .ok [.dat x] e := fun {x} hx => by
    rw [aCons_ev, fIf_ev, test, R.bind_ok, hx]
    rfl
  by_cases c0 : c % 3 = 0
  · obtain ⟨d, w, hw, hd, he⟩ := drawI (bent_ev 3 0 st 24 (by decide) (by decide) h3 (by decide)) (n := 2) rfl hi hv (arg (by rw [if_pos (decide_eq_true (by omega)), ha]))
    exact ⟨d, w, hw, ⟨vb_mono (by decide) (by decide) hd, fun _ => hd, fun z => by omega⟩, he⟩
  · have hn : ¬ (decide ((c : Int) % 3 = 0) = true) := by simp; omega
    by_cases c1 : c % 3 = 1
    · obtain ⟨d, w, hw, hd, he⟩ := drawI (bent_ev 7 1 sp 24 (by decide) (by decide) (hsp.2.1 c1) (by decide)) (n := 2) rfl hi hv (arg (by rw [if_neg hn, hb]))
      exact ⟨d, w, hw, ⟨vb_mono (by decide) (by decide) hd, fun z => by omega, fun _ => hd⟩, he⟩
    · obtain ⟨d, w, hw, hd, he⟩ := drawI (bent_ev 11 2 sp 24 (by decide) (by decide) (hsp.2.2 (by omega)) (by decide)) (n := 2) rfl hi hv (arg (by rw [if_neg hn, hb]))
      exact ⟨d, w, hw, ⟨hd, fun z => by omega, fun z => by omega⟩, he⟩
theorem neD_str {x : Str} (h : PyData.strOk x = true) : neD (.str x) (.str x) = some (.bool false) := by
  rw [neD_of (by rw [fitN_str]; exact h) (by rw [fitN_str]; exact h), eqv_str]
  simp
theorem neD_same {x : Dt} {n : Nat} (h : fitN n x = true) (hn : n ≤ 64) : neD x x = some (.bool false) := by
  have h := fitN_mono h hn
  rw [neD_of h h, eqv_refl h]
  rfl
theorem eqD_same {x : Dt} {n : Nat} (h : fitN n x = true) (hn : n ≤ 64) : eqD x x = some (.bool true) := by
  have h := fitN_mono h hn
  rw [eqD_of h h, eqv_refl h]
theorem nm_stair : nmS "InvalidStair" = some "stair value" := by decide +kernel
theorem nm_number : nmS "InvalidNumber" = some "number value" := by decide +kernel
theorem nm_course : nmS "InvalidCourse" = some "course value" := by decide +kernel
theorem nm_given : nmS "InvalidGiven" = some "given value" := by decide +kernel
theorem nm_facts : nmS "InvalidFacts" = some "facts value" := by decide +kernel
theorem nm_index : nmS "InvalidIndex" = some "index value" := by decide +kernel
theorem nm_case : nmS "NoCase" = some "case value" := by decide +kernel
theorem nm_unlike : nmS "Unlike" = some "unlike value" := by decide +kernel
/-- the words of an error -/
theorem fLE_of {fb : En → R Dt} {e : En} {c t : Str} (h : fb e = .exc c e) (hn : nmS c = some t) : fLE nmS fb e = .ok (.str t) e := by
  unfold fLE
  rw [h]
  dsimp only
  rw [hn]
/-! ### the frame of a law -/
theorem lawI_ok {sc : Option (Addr × List Int)} {s : Slot} {ns : List Int} (h : Scr sc s ns) (hl : ns.length ≤ 63) (lo hi : Nat) (h1 : lo ≤ 100) (h2 : hi ≤ 100) (r : En) :
    ∃ n : Nat, n ≤ 100 ∧ fRange1 (fCons (fA maxD (fCons (fC (.int (lo : Int))) (fCons (fA minD (fCons (fC (.int (hi : Int))) (fCons (fLenS 0 sc) fNil))) fNil))) fNil) (some s :: r) = .ok (intsD 0 n) (some s :: r) := by
  have fl := scr_len h r
  have x1 : minD [.int (hi : Int), .int (ns.length : Int)] = some (.int ((min hi ns.length : Nat) : Int)) := by
    rw [minD2']
    congr 2
    split <;> omega
  have x2 : ∀ j : Nat, maxD [.int (lo : Int), .int (j : Int)] = some (.int ((max lo j : Nat) : Int)) := fun j => by
    rw [maxD2']
    congr 2
    split <;> omega
  refine ⟨max lo (min hi ns.length), by omega, fRange1_of ?_ (by omega)⟩
  rw [fCons_ev, fA_ev, fCons_ev, fC_ev, R.bind_ok, fCons_ev, fA_ev, fCons_ev, fC_ev, R.bind_ok, fCons_ev, fl]
  simp only [R.bind_ok, fNil_ev, x1, ret1_some, x2]
/-- a law: turns, then its end -/
theorem law_main {sc : Option (Addr × List Int)} {s : Slot} {ns : List Int} (h : Scr sc s ns) {N : Nat} {S B T : En → SO} {fi : En → R (List Dt)} {P : En → Prop} (hS : S = sSeq (sFor fi (gN 1) B) T) (hfi : ∃ n : Nat, n ≤ 100 ∧ fi (initE (N + 2) [s]) = .ok (intsD 0 n) (initE (N + 2) [s])) (hP : P (List.replicate N none))
    (hB : ∀ (k : Nat) (r : En), P r → ∃ o r', P r' ∧ B (some s :: some (.dat (.int (k : Int))) :: r) = .nx (some s :: o :: r')) (hT : ∀ o r, P r → ∃ o' e, T (some s :: o :: r) = .rt (.bool true) (o' :: e)) : ∃ as', defF (N + 2) S [s] = .ok (.bool true) as' := by
  have hn : noTrue s = true := by rcases h with rfl | ⟨a, _, rfl⟩ <;> rfl
  have loop : ∀ (m k : Nat) (o : Option Slot) (r : En), P r → ∃ o' r', P r' ∧ loopS (gN 1) B (intsD (k : Int) m) (some s :: o :: r) = .nx (some s :: o' :: r') := fun m => by
    induction m with
    | zero => exact fun k o r hr => ⟨o, r, hr, rfl⟩
    | succ m ih =>
      intro k o r hr
      obtain ⟨o1, r1, hr1, h1⟩ := hB k r hr
      obtain ⟨o2, r2, hr2, h2⟩ := ih (k + 1) o1 r1 hr1
      refine ⟨o2, r2, hr2, ?_⟩
      rw [intsD_succ, loopS_nx (e1 := some s :: some (.dat (.int (k : Int))) :: r) rfl h1]
      exact h2
  obtain ⟨n, _, hfi⟩ := hfi
  obtain ⟨o', r', hr', hl⟩ := loop n 0 none (List.replicate N none) hP
  obtain ⟨o2, e, he⟩ := hT o' r' hr'
  have h0 : initE (N + 2) [s] = some s :: none :: List.replicate N none := by
    unfold initE
    simp [List.replicate_succ]
  refine ⟨[s], run_rt (e := o2 :: e) (by show (noTrue s && true) = true; rw [hn] <;> rfl) ?_ ?_⟩
  · rw [hS, sSeq_ev, sFor_ev, hfi, RS_ok, h0]
    rw [show (0 : Int) = ((0 : Nat) : Int) from rfl, hl, seq_nx, he]
  · rcases h with rfl | ⟨a, _, rfl⟩ <;> rfl
end DL
namespace DL
open PySem L2
/-! ### facts -/
abbrev Fct := Nat × Nat × Int
def fctD (f : Fct) : Dt := .tuple [.int (f.1 : Int), .int (f.2.1 : Int), .int f.2.2]
def isFact (n : Nat) : Dt → Bool
  | .tuple [a, b, m] => isW (-50) 50 m && (isW 0 ((n : Int) - 1) a && (isW 0 ((n : Int) - 1) b && !PyData.eqv a b))
  | _ => false
structure FOk (n : Nat) (f : Fct) : Prop where
  a : f.1 < n
  b : f.2.1 < n
  ne : f.1 ≠ f.2.1
  m0 : -50 ≤ f.2.2
  m1 : f.2.2 ≤ 50
theorem isFact_ok {n : Nat} {v : Dt} (h : isFact n v = true) : ∃ f, v = fctD f ∧ FOk n f := by
  unfold isFact at h
  split at h
  · rename_i a b m
    simp only [Bool.and_eq_true, Bool.not_eq_true'] at h
    obtain ⟨h1, h2, h3, h4⟩ := h
    obtain ⟨m, rfl, m0, m1⟩ := isW_int h1
    obtain ⟨i, rfl, hi⟩ := isW_nat h2
    obtain ⟨j, rfl, hj⟩ := isW_nat h3
    refine ⟨(i, j, m), rfl, hi, hj, fun e => ?_, m0, m1⟩
    have e : i = j := e
    rw [eqv_int, e] at h4
    simp at h4
  · cases h
theorem isFact_of {n : Nat} {f : Fct} (h : FOk n f) : isFact n (fctD f) = true := by
  obtain ⟨h1, h2, h3, h4, h5⟩ := h
  have e : PyData.eqv (.int (f.1 : Int)) (.int (f.2.1 : Int)) = false := by
    rw [eqv_int]
    exact decide_eq_false (by omega)
  simp only [isFact, fctD, e, Bool.not_false, Bool.and_true, Bool.and_eq_true]
  exact ⟨isW_of ⟨h4, h5⟩, isW_of ⟨by omega, by omega⟩, isW_of ⟨by omega, by omega⟩⟩
theorem isFact_len {n : Nat} {xs : List Dt} (h : xs.length ≠ 3) : isFact n (.tuple xs) = false := by
  match xs, h with
  | [], _ => rfl
  | [_], _ => rfl
  | [_, _], _ => rfl
  | [_, _, _], h => exact absurd rfl h
  | _ :: _ :: _ :: _ :: _, _ => rfl
theorem len3 {α : Type} {xs : List α} (h : xs.length = 3) : ∃ a b c, xs = [a, b, c] := by
  match xs, h with
  | [a, b, c], _ => exact ⟨a, b, c, rfl⟩
theorem is_fact_ev {C : List Dt} (v : Dt) (hv : fitN 60 v = true) : N_is_fact [.dat (.tuple C), .dat v] = .ok (.bool (isFact C.length v)) [.dat (.tuple C), .dat v] := by
  refine run_rt (e := [some (.dat (.tuple C)), some (.dat v)]) rfl ?_ rfl
  show S_is_fact [some (.dat (.tuple C)), some (.dat v)] = _
  cases v with
  | tuple xs =>
    by_cases h : xs.length = 3
    · obtain ⟨a, b, m, rfl⟩ := len3 h
      have hab : neD a b = some (.bool (!PyData.eqv a b)) := neD_of (fitN_mono (fit_cons hv).1 (by decide)) (fitN_mono (fit_cons (fit_cons hv).2).1 (by decide))
      cases c1 : isW (-50) 50 m <;> cases c2 : isW 0 ((C.length : Int) - 1) a <;> cases c3 : isW 0 ((C.length : Int) - 1) b <;> simp [S_is_fact, fVar_succ, is_whole_ev, isFact, c1, c2, c3, hab]
    · have h2 : ¬ ((xs.length : Int) = 3) := by omega
      simp [S_is_fact, fVar_succ, isFact_len h, h2]
  | _ => simp [S_is_fact, fVar_succ, isFact]
theorem law_is_fact_ev {C : List Dt} (v : Dt) (hv : fitN 60 v = true) : N_law_is_fact [.dat (.tuple C), .dat v] = .ok (.bool (isFact C.length v)) [.dat (.tuple C), .dat v] := by
  have key : ∃ o, S_law_is_fact [some (.dat (.tuple C)), some (.dat v), none] = .rt (.bool (isFact C.length v)) [some (.dat (.tuple C)), some (.dat v), o] := by
    cases v with
    | tuple xs =>
      by_cases h : xs.length = 3
      · obtain ⟨a, b, m, rfl⟩ := len3 h
        have hab : neD a b = some (.bool (!PyData.eqv a b)) := neD_of (fitN_mono (fit_cons hv).1 (by decide)) (fitN_mono (fit_cons (fit_cons hv).2).1 (by decide))
        cases c1 : isW (-50) 50 m with
        | false => exact ⟨none, by simp [S_law_is_fact, fVar_succ, law_is_whole_ev, isFact, c1]⟩
        | true =>
          refine ⟨some (.dat (.int ((C.length : Int) - 1))), ?_⟩
          cases c2 : isW 0 ((C.length : Int) - 1) a <;> cases c3 : isW 0 ((C.length : Int) - 1) b <;> simp [S_law_is_fact, fVar_succ, law_is_whole_ev, isFact, c1, c2, c3, hab]
      · have h2 : ¬ ((xs.length : Int) = 3) := by omega
        exact ⟨none, by simp [S_law_is_fact, fVar_succ, isFact_len h, h2]⟩
    | _ => exact ⟨none, by simp [S_law_is_fact, fVar_succ, isFact]⟩
  obtain ⟨o, h⟩ := key
  exact run_rt rfl h rfl
/-- a filter's list that is empty -/
def dropIf (p : Dt → Bool) (d : Dt) : Option Dt := if p d = true then none else some d
theorem dropIf_empty {p : Dt → Bool} {ds : List Dt} : (ds.filterMap (dropIf p)).isEmpty = ds.all p := by
  rw [Bool.eq_iff_iff, List.isEmpty_iff, List.filterMap_eq_nil_iff, List.all_eq_true]
  constructor
  · intro h d hd
    have := h d hd
    unfold dropIf at this
    split at this
    · rename_i c; exact c
    · cases this
  · intro h d hd
    unfold dropIf
    rw [if_pos (h d hd)]
theorem dropIf_fit {n : Nat} {p : Dt → Bool} {ds : List Dt} (h : ds.all (fitN n) = true) (hn : n ≤ 63) : (ds.filterMap (dropIf p)).all (fitN 63) = true := fits_list fun d hd y hy => by
  unfold dropIf at hy
  split at hy
  · cases hy
  · cases hy
    exact fitN_mono (List.all_eq_true.mp h d hd) hn
def isFacts (n : Nat) : Dt → Bool
  | .tuple xs => decide (xs.length ≤ 5) && xs.all (isFact n)
  | _ => false
abbrev factsD (fs : List Fct) : Dt := .tuple (fs.map fctD)
structure FsOk (n : Nat) (fs : List Fct) : Prop where
  len : fs.length ≤ 5
  all : ∀ f ∈ fs, FOk n f
theorem isFacts_ok {n : Nat} {v : Dt} (h : isFacts n v = true) : ∃ fs, v = factsD fs ∧ FsOk n fs := by
  cases v with
  | tuple xs =>
    simp only [isFacts, Bool.and_eq_true, decide_eq_true_eq] at h
    obtain ⟨h1, h2⟩ := h
    have key : ∀ l : List Dt, l.all (isFact n) = true → ∃ fs : List Fct, l = fs.map fctD ∧ ∀ f ∈ fs, FOk n f := fun l => by
      induction l with
      | nil => exact fun _ => ⟨[], rfl, by simp⟩
      | cons a l ih =>
        intro hl
        rw [List.all_cons, Bool.and_eq_true] at hl
        obtain ⟨f, rfl, hf⟩ := isFact_ok hl.1
        obtain ⟨fs, rfl, hfs⟩ := ih hl.2
        exact ⟨f :: fs, rfl, fun x hx => by
          rcases List.mem_cons.mp hx with rfl | hx
          · exact hf
          · exact hfs x hx⟩
    obtain ⟨fs, rfl, hfs⟩ := key xs h2
    exact ⟨fs, rfl, by simpa using h1, hfs⟩
  | _ => cases h
theorem isFacts_of {n : Nat} {fs : List Fct} (h : FsOk n fs) : isFacts n (factsD fs) = true := by
  simp only [isFacts, List.length_map, Bool.and_eq_true, decide_eq_true_eq, List.all_map, List.all_eq_true]
  exact ⟨h.len, fun x hx => isFact_of (h.all x hx)⟩
theorem fit_fct {n : Nat} (f : Fct) : fitN (n + 1) (fctD f) = true := by simp [fctD]
theorem fit_facts {n : Nat} (fs : List Fct) : fitN (n + 2) (factsD fs) = true := by
  rw [fitN_tuple, List.all_eq_true]
  intro d hd
  obtain ⟨f, _, rfl⟩ := List.mem_map.mp hd
  exact fit_fct f
theorem has_facts_ev {C : List Dt} (v : Dt) (hv : fitN 61 v = true) : N_has_facts [.dat (.tuple C), .dat v] = .ok (.bool (isFacts C.length v)) [.dat (.tuple C), .dat v] := by
  refine run_rt (e := [some (.dat (.tuple C)), some (.dat v), none]) rfl ?_ rfl
  show S_has_facts [some (.dat (.tuple C)), some (.dat v), none] = _
  cases v with
  | tuple xs =>
    rw [fitN_tuple] at hv
    by_cases h5 : xs.length ≤ 5
    · have h6 : ¬ ((5 : Int) < (xs.length : Int)) := by omega
      have t1 : fLc (fSeq (fVar 1)) (gN 2) (gNot (fB (callD 2 N_is_fact (aCons (fVar 0) (aCons (fVar 2) aNil))))) (fVar 2) [2] [some (.dat (.tuple C)), some (.dat (.tuple xs)), none] = .ok (.list (xs.filterMap (dropIf (isFact C.length)))) [some (.dat (.tuple C)), some (.dat (.tuple xs)), none] :=
        fLc_id (o := none) rfl (fun _ _ z => nomatch z) rfl (by omega) fun d hd => by
          have e1 := is_fact_ev (C := C) d (List.all_eq_true.mp hv d hd)
          have v0 : fVar 0 (inTurn [some (.dat (.tuple C)), some (.dat (.tuple xs)), none] 2 d) = .ok (.tuple C) (inTurn [some (.dat (.tuple C)), some (.dat (.tuple xs)), none] 2 d) := rfl
          have v2 : fVar 2 (inTurn [some (.dat (.tuple C)), some (.dat (.tuple xs)), none] 2 d) = .ok d (inTurn [some (.dat (.tuple C)), some (.dat (.tuple xs)), none] 2 d) := rfl
          generalize inTurn [some (.dat (.tuple C)), some (.dat (.tuple xs)), none] 2 d = e at v0 v2 ⊢
          cases q : isFact C.length d with
          | true => exact .inl ⟨by simp [v0, v2, e1, q], by simp [dropIf, q]⟩
          | false => exact .inr ⟨by simp [v0, v2, e1, q], d, v2, by simp [dropIf, q]⟩
      have he := eqD_nil (dropIf_fit (p := isFact C.length) hv (by decide))
      rw [dropIf_empty] at he
      unfold S_has_facts
      rw [sSeq_ev]
      have a1 : (sIf (gOr (gNot (fB (f1 (isiD "tuple") (fVar 1)))) (fB (f2 gtD (fA lenD (fCons (fVar 1) fNil)) (fC (.int 5))))) (sRet (fC (.bool false))) sNx) [some (.dat (.tuple C)), some (.dat (.tuple xs)), none] = .nx [some (.dat (.tuple C)), some (.dat (.tuple xs)), none] := by
        simp [fVar_succ, h6]
      rw [a1, seq_nx, sRet_ev, f2_ev, t1, R.bind_ok]
      simp only [fA_ev, fNil_ev, R.bind_ok, show gLst [] = some (.list []) from rfl, ret1_some, he, RS_ok, isFacts, h5, decide_true, Bool.true_and]
    · have h6 : ((5 : Int) < (xs.length : Int)) := by omega
      have h7 : decide (xs.length ≤ 5) = false := decide_eq_false h5
      simp [-decide_eq_false_iff_not, S_has_facts, fVar_succ, h6, isFacts, h7]
  | _ => simp [S_has_facts, fVar_succ, isFacts]
theorem need_facts_ok {C : List Dt} {v : Dt} (hv : fitN 61 v = true) (h : isFacts C.length v = true) : N_need_facts [.dat (.tuple C), .dat v] = .ok .none [.dat (.tuple C), .dat v] := by
  refine run_nx (e := [some (.dat (.tuple C)), some (.dat v)]) rfl ?_ rfl
  show S_need_facts [some (.dat (.tuple C)), some (.dat v)] = _
  simp [S_need_facts, fVar_succ, has_facts_ev v hv, h]
theorem need_facts_no {C : List Dt} {v : Dt} (hv : fitN 61 v = true) (h : isFacts C.length v = false) : N_need_facts [.dat (.tuple C), .dat v] = .exc "InvalidFacts" [.dat (.tuple C), .dat v] := by
  refine run_exc (e := [some (.dat (.tuple C)), some (.dat v)]) rfl ?_ rfl
  show S_need_facts [some (.dat (.tuple C)), some (.dat v)] = _
  simp [S_need_facts, fVar_succ, has_facts_ev v hv, h]
theorem are_facts_ev {c : List Stp} (hc : Crs c) {v : Dt} (hv : fitN 61 v = true) : N_are_facts [.dat (courseD c), .dat v] = .ok (.bool (isFacts c.length v)) [.dat (courseD c), .dat v] := by
  refine run_rt (e := [some (.dat (courseD c)), some (.dat v)]) rfl ?_ rfl
  show S_are_facts [some (.dat (courseD c)), some (.dat v)] = _
  have e0 := nc hc
  have e1 := has_facts_ev (C := c.map Stp.d) v hv
  rw [List.length_map] at e1
  simp only [courseD] at *
  generalize c.map Stp.d = C at *
  simp [S_are_facts, fVar_succ, e0, e1]
theorem are_facts_no {v w : Dt} (hv : fitN 61 v = true) (h : isCourse v = false) : N_are_facts [.dat v, .dat w] = .exc "InvalidCourse" [.dat v, .dat w] := by
  refine run_exc (e := [some (.dat v), some (.dat w)]) rfl ?_ rfl
  show S_are_facts [some (.dat v), some (.dat w)] = _
  simp [S_are_facts, fVar_succ, need_course_no hv h]
/-! ### whether facts are so -/
def so1 (f : List Int) (x : Fct) : Bool := decide (f.getD x.1 0 ≤ f.getD x.2.1 0 + x.2.2)
def soB (f : List Int) (fs : List Fct) : Bool := fs.all (so1 f)
def so1D (f : List Int) : Dt → Bool
  | .tuple [.int i, .int j, .int m] => so1 f (i.toNat, j.toNat, m)
  | _ => false
theorem so1D_f {f : List Int} (x : Fct) : so1D f (fctD x) = so1 f x := rfl
theorem so_all {f : List Int} {fs : List Fct} : (fs.map fctD).all (so1D f) = soB f fs := by
  unfold soB
  rw [List.all_map]
  rfl
theorem are_so_ev {f : List Int} {fs : List Fct} {n : Nat} (hf : n ≤ f.length) (h : FsOk n fs) : N_are_so [.dat (.list (iL f)), .dat (factsD fs)] = .ok (.bool (soB f fs)) [.dat (.list (iL f)), .dat (factsD fs)] := by
  refine run_rt (e := [some (.dat (.list (iL f))), some (.dat (factsD fs)), none]) rfl ?_ rfl
  show S_are_so [some (.dat (.list (iL f))), some (.dat (factsD fs)), none] = _
  have hl := h.len
  have t1 : fLc (fSeq (fVar 1)) (gN 2) (fB (f2 gtD (f2 ixD (fVar 0) (f2 ixD (fVar 2) (fC (.int 0)))) (f2 addD (f2 ixD (fVar 0) (f2 ixD (fVar 2) (fC (.int 1)))) (f2 ixD (fVar 2) (fC (.int 2)))))) (fVar 2) [2] [some (.dat (.list (iL f))), some (.dat (factsD fs)), none] = .ok (.list ((fs.map fctD).filterMap (dropIf (so1D f)))) [some (.dat (.list (iL f))), some (.dat (factsD fs)), none] :=
    fLc_id (o := none) rfl (fun _ _ z => nomatch z) rfl (by simp; omega) fun d hd => by
      obtain ⟨x, hx, rfl⟩ := List.mem_map.mp hd
      have hx := h.all x hx
      have i1 := ix_ints (f := f) (i := x.1) (by have := hx.a; omega)
      have i2 := ix_ints (f := f) (i := x.2.1) (by have := hx.b; omega)
      have v0 : fVar 0 (inTurn [some (.dat (.list (iL f))), some (.dat (factsD fs)), none] 2 (fctD x)) = .ok (.list (iL f)) (inTurn [some (.dat (.list (iL f))), some (.dat (factsD fs)), none] 2 (fctD x)) := rfl
      have v2 : fVar 2 (inTurn [some (.dat (.list (iL f))), some (.dat (factsD fs)), none] 2 (fctD x)) = .ok (fctD x) (inTurn [some (.dat (.list (iL f))), some (.dat (factsD fs)), none] 2 (fctD x)) := rfl
      generalize inTurn [some (.dat (.list (iL f))), some (.dat (factsD fs)), none] 2 (fctD x) = e at v0 v2 ⊢
      have t : (fB (f2 gtD (f2 ixD (fVar 0) (f2 ixD (fVar 2) (fC (.int 0)))) (f2 addD (f2 ixD (fVar 0) (f2 ixD (fVar 2) (fC (.int 1)))) (f2 ixD (fVar 2) (fC (.int 2)))))) e = .ok (!so1 f x) e := by
        simp only [fB_ev, f2_ev, v0, v2, R.bind_ok, fC_ev, show ixD (fctD x) (.int 0) = some (.int (x.1 : Int)) from rfl, show ixD (fctD x) (.int 1) = some (.int (x.2.1 : Int)) from rfl, show ixD (fctD x) (.int 2) = some (.int x.2.2) from rfl, ret1_some, ixD_list, i1, i2, addD_int, cmpD_int, asB_bool]
        congr 1
        unfold so1
        rw [← decide_not]
        exact decide_eq_decide.mpr (by omega)
      cases q : so1 f x with
      | true => exact .inl ⟨by rw [t, q]; rfl, by simp [dropIf, so1D_f, q]⟩
      | false => exact .inr ⟨by rw [t, q]; rfl, fctD x, v2, by simp [dropIf, so1D_f, q]⟩
  have he := eqD_nil (dropIf_fit (p := so1D f) (n := 1) (ds := fs.map fctD) (by rw [List.all_map, List.all_eq_true]; exact fun x _ => fit_fct x) (by decide))
  rw [dropIf_empty, so_all] at he
  unfold S_are_so
  rw [sRet_ev, f2_ev, t1, R.bind_ok]
  simp only [fA_ev, fNil_ev, R.bind_ok, show gLst [] = some (.list []) from rfl, ret1_some, he, RS_ok]
theorem law_are_so_ev {f : List Int} {fs : List Fct} {n : Nat} (hf : n ≤ f.length) (h : FsOk n fs) : N_law_are_so [.dat (.list (iL f)), .dat (factsD fs)] = .ok (.bool (soB f fs)) [.dat (.list (iL f)), .dat (factsD fs)] := by
  have hl := h.len
  have t1 : fLc (fSeq (fVar 1)) (gN 3) (fB (f2 gtD (f2 subD (f2 ixD (fVar 0) (f2 ixD (fVar 3) (fC (.int 0)))) (f2 ixD (fVar 0) (f2 ixD (fVar 3) (fC (.int 1))))) (f2 ixD (fVar 3) (fC (.int 2))))) (fVar 3) [3] [some (.dat (.list (iL f))), some (.dat (factsD fs)), none, none] = .ok (.list ((fs.map fctD).filterMap (dropIf (so1D f)))) [some (.dat (.list (iL f))), some (.dat (factsD fs)), none, none] :=
    fLc_id (o := none) rfl (fun _ _ z => nomatch z) rfl (by simp; omega) fun d hd => by
      obtain ⟨x, hx, rfl⟩ := List.mem_map.mp hd
      have hx := h.all x hx
      have i1 := ix_ints (f := f) (i := x.1) (by have := hx.a; omega)
      have i2 := ix_ints (f := f) (i := x.2.1) (by have := hx.b; omega)
      have v0 : fVar 0 (inTurn [some (.dat (.list (iL f))), some (.dat (factsD fs)), none, none] 3 (fctD x)) = .ok (.list (iL f)) (inTurn [some (.dat (.list (iL f))), some (.dat (factsD fs)), none, none] 3 (fctD x)) := rfl
      have v2 : fVar 3 (inTurn [some (.dat (.list (iL f))), some (.dat (factsD fs)), none, none] 3 (fctD x)) = .ok (fctD x) (inTurn [some (.dat (.list (iL f))), some (.dat (factsD fs)), none, none] 3 (fctD x)) := rfl
      generalize inTurn [some (.dat (.list (iL f))), some (.dat (factsD fs)), none, none] 3 (fctD x) = e at v0 v2 ⊢
      have t : (fB (f2 gtD (f2 subD (f2 ixD (fVar 0) (f2 ixD (fVar 3) (fC (.int 0)))) (f2 ixD (fVar 0) (f2 ixD (fVar 3) (fC (.int 1))))) (f2 ixD (fVar 3) (fC (.int 2))))) e = .ok (!so1 f x) e := by
        simp only [fB_ev, f2_ev, v0, v2, R.bind_ok, fC_ev, show ixD (fctD x) (.int 0) = some (.int (x.1 : Int)) from rfl, show ixD (fctD x) (.int 1) = some (.int (x.2.1 : Int)) from rfl, show ixD (fctD x) (.int 2) = some (.int x.2.2) from rfl, ret1_some, ixD_list, i1, i2, subD_int, cmpD_int, asB_bool]
        congr 1
        unfold so1
        rw [← decide_not]
        exact decide_eq_decide.mpr (by omega)
      cases q : so1 f x with
      | true => exact .inl ⟨by rw [t, q]; rfl, by simp [dropIf, so1D_f, q]⟩
      | false => exact .inr ⟨by rw [t, q]; rfl, fctD x, v2, by simp [dropIf, so1D_f, q]⟩
  have he := eqD_nil (dropIf_fit (p := so1D f) (n := 1) (ds := fs.map fctD) (by rw [List.all_map, List.all_eq_true]; exact fun x _ => fit_fct x) (by decide))
  rw [dropIf_empty, so_all] at he
  refine run_rt (e := [some (.dat (.list (iL f))), some (.dat (factsD fs)), some (.dat (.list ((fs.map fctD).filterMap (dropIf (so1D f))))), none]) rfl ?_ rfl
  show S_law_are_so [some (.dat (.list (iL f))), some (.dat (factsD fs)), none, none] = _
  unfold S_law_are_so
  rw [sSeq_ev, sAsg_ev, t1, RS_ok]
  generalize (fs.map fctD).filterMap (dropIf (so1D f)) = Z at he ⊢
  simp [fVar_succ, gLst_ev, he]
/-! ### cases -/
def stairI : Dt → Int × List (Int × Int)
  | .tuple [.int b, .tuple st] => (b, st.filterMap pairI)
  | _ => (0, [])
def intI : Dt → Option Int
  | .int i => some i
  | _ => none
def givenI : Dt → List Int
  | .tuple xs => xs.filterMap intI
  | _ => []
theorem stairI_d {b : Int} {s : List (Int × Int)} : stairI (stD b s) = (b, s) := by
  show (b, (s.map pr).filterMap pairI) = _
  rw [pairI_map]
theorem givenI_d {g : List Int} : givenI (.tuple (iL g)) = g := by
  show (iL g).filterMap intI = g
  induction g with
  | nil => rfl
  | cons x g ih =>
    rw [show iL (x :: g) = PyData.int x :: iL g from rfl, List.filterMap_cons]
    simp only [intI]
    rw [ih]
theorem isStair_ok {v : Dt} (h : isStair v = true) : ∃ b s, v = stD b s ∧ Stair b s := by
  have h0 := h
  unfold isStair at h
  split at h
  · rename_i b steps
    simp only [Bool.and_eq_true, decide_eq_true_eq] at h
    obtain ⟨⟨⟨⟨h1, h2⟩, h3⟩, h4⟩, h5, h6⟩ := h
    obtain ⟨s, rfl⟩ := all_prs h4
    rw [pairI_map] at h5 h6
    exact ⟨b, s, rfl, ⟨⟨h5, h6⟩, by simpa using h3, h0⟩⟩
  · cases h
def isCase (c : List Stp) (fs : List Fct) : Dt → Bool
  | .tuple [a, g] => isStair a && (isGiven (anys c) g && soB (numsC (stairI a).1 (stairI a).2 c (givenI g)) fs)
  | _ => false
theorem isCase_len {c : List Stp} {fs : List Fct} {xs : List Dt} (h : xs.length ≠ 2) : isCase c fs (.tuple xs) = false := by
  match xs, h with
  | [], _ => rfl
  | [_], _ => rfl
  | [_, _], h => exact absurd rfl h
  | _ :: _ :: _ :: _, _ => rfl
theorem runC_len {b : Int} {s : List (Int × Int)} : ∀ {c : List Stp} {g f : List Int}, (runC b s c g f).length = f.length + c.length
  | [], g, f => by simp [runC]
  | st :: c, g, f => by
    by_cases e : st = .any
    · subst e
      rw [runC_any, runC_len]
      simp
      omega
    · rw [runC_not e, runC_len]
      simp
      omega
theorem numsC_len {b : Int} {s : List (Int × Int)} {c : List Stp} {g : List Int} : (numsC b s c g).length = c.length := by
  unfold numsC
  rw [runC_len]
  simp
section
variable {c : List Stp} (hc : Crs c) {fs : List Fct} (hf : FsOk c.length fs)
include hc hf
theorem is_case_ev {v : Dt} (hv : fitN 59 v = true) (hl : ∀ a xs, v = .tuple [a, .tuple xs] → xs.length ≤ 1000000) : N_is_case [.dat (courseD c), .dat (factsD fs), .dat v] = .ok (.bool (isCase c fs v)) [.dat (courseD c), .dat (factsD fs), .dat v] := by
  refine run_rt (e := [some (.dat (courseD c)), some (.dat (factsD fs)), some (.dat v)]) rfl ?_ rfl
  show S_is_case [some (.dat (courseD c)), some (.dat (factsD fs)), some (.dat v)] = _
  have e0 := nc hc
  have e1 : N_need_facts [.dat (courseD c), .dat (factsD fs)] = .ok .none [.dat (courseD c), .dat (factsD fs)] := need_facts_ok (C := c.map Stp.d) (fit_facts fs) (by rw [List.length_map]; exact isFacts_of hf)
  cases v with
  | tuple xs =>
    by_cases h : xs.length = 2
    · obtain ⟨a, g, rfl⟩ := len2 h
      obtain ⟨fa, fg⟩ := fit_cons hv
      have fg := (fit_cons fg).1
      have e2 := has_stair_ev a (fitN_mono fa (by decide))
      have e3 := have_given_ev hc.lt g (fitN_mono fg (by decide)) (fun xs e => hl a xs (by rw [e]))
      cases q1 : isStair a with
      | false =>
        rw [q1] at e2
        generalize courseD c = C at *
        generalize factsD fs = F at *
        simp [S_is_case, fVar_succ, e0, e1, e2, isCase, q1]
      | true =>
        cases q2 : isGiven (anys c) g with
        | false =>
          rw [q1] at e2
          rw [q2] at e3
          generalize courseD c = C at *
          generalize factsD fs = F at *
          simp [S_is_case, fVar_succ, e0, e1, e2, e3, isCase, q1, q2]
        | true =>
          obtain ⟨b, s, rfl, hs⟩ := isStair_ok q1
          obtain ⟨gl, rfl, hgl, hgb⟩ := isGiven_ok q2
          have e4 := all_numbers_ev (b := b) (s := s) (g := gl) hc.ok hc.lt (by omega)
          have e5 := are_so_ev (f := numsC b s c gl) (n := c.length) (by rw [numsC_len]; exact Nat.le_refl _) hf
          rw [q1] at e2
          rw [q2] at e3
          simp only [isCase, q1, q2, stairI_d, givenI_d, Bool.true_and]
          generalize soB (numsC b s c gl) fs = B at *
          generalize numsC b s c gl = NN at *
          generalize courseD c = C at *
          generalize factsD fs = F at *
          generalize stD b s = S at *
          simp [S_is_case, fVar_succ, e0, e1, e2, e3, e4, e5]
    · have h2 : ¬ ((xs.length : Int) = 2) := by omega
      rw [isCase_len h]
      generalize courseD c = C at *
      generalize factsD fs = F at *
      simp [S_is_case, fVar_succ, e0, e1, h2]
  | _ =>
    generalize courseD c = C at *
    generalize factsD fs = F at *
    simp [S_is_case, fVar_succ, e0, e1, isCase]
end
theorem is_case_noF {c : List Stp} (hc : Crs c) {v w : Dt} (hv : fitN 61 v = true) (h : isFacts c.length v = false) : N_is_case [.dat (courseD c), .dat v, .dat w] = .exc "InvalidFacts" [.dat (courseD c), .dat v, .dat w] := by
  refine run_exc (e := [some (.dat (courseD c)), some (.dat v), some (.dat w)]) rfl ?_ rfl
  show S_is_case [some (.dat (courseD c)), some (.dat v), some (.dat w)] = _
  have e0 := nc hc
  have e1 : N_need_facts [.dat (courseD c), .dat v] = .exc "InvalidFacts" [.dat (courseD c), .dat v] := need_facts_no (C := c.map Stp.d) hv (by rw [List.length_map]; exact h)
  generalize courseD c = C at *
  simp [S_is_case, fVar_succ, e0, e1]
end DL
namespace DL
open PySem L2
/-! ### lists of draws, in any frame -/
theorem set_get_eq {e : En} {i : Nat} {o : Option Slot} (h : e[i]? = some o) : e.set i o = e := by
  apply List.ext_getElem?
  intro k
  by_cases hk : k = i
  · subst hk
    rw [List.getElem?_set_self (List.getElem?_eq_some_iff.mp h).1, h]
  · rw [List.getElem?_set_ne (Ne.symm hk)]
/-- the frame with the vat v at i -/
abbrev atV (e : En) (i : Nat) (b : Bool) (v : Int × Int) : En := e.set i (some (.own b (vs v)))
theorem lcS_gen {fe : En → R Dt} {P : Dt → Prop} {i j : Nat} {b : Bool} (hij : i ≠ j) {e : En} {x0 : List Dt} (hi : e[i]? = some (some (.own b x0))) (hj : e[j]? = some none) (h : ∀ v d, VOK v → ∃ y w, VOK w ∧ P y ∧ fe (inTurn (atV e i b v) j d) = .ok y ((inTurn (atV e i b v) j d).set i (some (.own false (vs w))))) :
    ∀ (ds : List Dt) (v : Int × Int), VOK v → ∃ (r : List Dt) (w : Int × Int), VOK w ∧ r.length = ds.length ∧ (∀ x ∈ r, P x) ∧ lcS (gN j) fYes fe [j] ds (atV e i b v) = .ok r (atV e i b w)
  | [], v, hv => ⟨[], v, hv, rfl, fun _ h => by simp at h, rfl⟩
  | d :: ds, v, hv => by
    have li : i < e.length := (List.getElem?_eq_some_iff.mp hi).1
    have hi1 : (atV e i b v)[i]? = some (some (.own b (vs v))) := List.getElem?_set_self li
    have hj1 : (atV e i b v)[j]? = some none := by rw [List.getElem?_set_ne hij]; exact hj
    obtain ⟨y, w, hw, hy, hf⟩ := h v d hv
    obtain ⟨r, w2, hw2, hl, hr, h2⟩ := lcS_gen hij hi hj h ds w hw
    refine ⟨y :: r, w2, hw2, by simp [hl], fun x hx => ?_, ?_⟩
    · rcases List.mem_cons.mp hx with rfl | hx
      · exact hy
      · exact hr x hx
    · rw [lcS_cons (e1 := inTurn (atV e i b v) j d) rfl]
      simp only [fYes_ev, hf]
      rw [unmark_back hi1 hj1 hij]
      rw [show (atV e i b v).set i (some (.own b (vs w))) = atV e i b w from List.set_set ..]
      rw [h2]
/-- a list of draws -/
theorem fLc_gen {fe : En → R Dt} {fi : En → R (List Dt)} {P : Dt → Prop} {i j : Nat} {b : Bool} (hij : i ≠ j) {e e1 : En} {v : Int × Int} {ds : List Dt} (hv : VOK v) (hfi : fi e1 = .ok ds (atV e i b v)) (hn : ds.length ≤ 1000) {x0 : List Dt} (hi : e[i]? = some (some (.own b x0))) (hj : e[j]? = some none) (h : ∀ v d, VOK v → ∃ y w, VOK w ∧ P y ∧ fe (inTurn (atV e i b v) j d) = .ok y ((inTurn (atV e i b v) j d).set i (some (.own false (vs w))))) :
    ∃ (r : List Dt) (w : Int × Int), VOK w ∧ r.length = ds.length ∧ (∀ x ∈ r, P x) ∧ fLc fi (gN j) fYes fe [j] e1 = .ok (.list r) (atV e i b w) := by
  obtain ⟨r, w, hw, hl, hr, hs⟩ := lcS_gen hij hi hj h ds v hv
  have hj1 : ∀ v, (atV e i b v)[j]? = some none := fun v => by rw [List.getElem?_set_ne hij]; exact hj
  refine ⟨r, w, hw, hl, hr, ?_⟩
  unfold fLc
  have e0 : wipeE (atV e i b v) [j] = atV e i b v := by
    rw [wipe_cons, wipe_nil]
    exact set_get_eq (hj1 v)
  rw [hfi, R.bind_ok, e0, hs]
  dsimp only
  rw [if_pos (show small r.length = true from decide_eq_true (by omega))]
  congr 1
  have hk : keepS (atV e i b v) j = none := by
    unfold keepS
    rw [hj1 v]
  rw [merge_cons, merge_nil, hk, List.set_set]
  exact set_get_eq (hj1 w)
/-! ### drawn facts -/
theorem mod_ne {n i y : Nat} (hn : 2 ≤ n) (h8 : n ≤ 8) (hi : i < n) (hy : y + 1 < n) : i ≠ (i + 1 + y) % n := by
  have : n = 2 ∨ n = 3 ∨ n = 4 ∨ n = 5 ∨ n = 6 ∨ n = 7 ∨ n = 8 := by omega
  rcases this with rfl | rfl | rfl | rfl | rfl | rfl | rfl <;> omega
theorem law_fact_ev {c : List Stp} (h2 : 2 ≤ c.length) (h8 : c.length ≤ 8) : Draws N_law_fact [.dat (courseD c)] (fun d => ∃ f, d = fctD f ∧ FOk c.length f) := by
  intro v hv
  obtain ⟨d1, w1, hw1, ⟨n1, rfl, a0, a1⟩, h1⟩ := draw0 (law_under_ev c.length (by omega) (by omega)) (n := 2) rfl (b := false) (r := [some (.dat (courseD c)), none, none]) (fr := aCons (fA lenD (fCons (fVar 1) fNil)) aNil) hv (by simp [fVar_succ])
  obtain ⟨i, rfl⟩ := Int.eq_ofNat_of_zero_le a0
  obtain ⟨d2, w2, hw2, ⟨n2, rfl, b0, b1⟩, h2'⟩ := draw0 (law_under_ev ((c.length : Int) - 1) (by omega) (by omega)) (n := 2) rfl (b := false) (r := [some (.dat (courseD c)), some (.dat (.int (i : Nat))), none]) (fr := aCons (f2 subD (fA lenD (fCons (fVar 1) fNil)) (fC (.int 1))) aNil) hw1 (by simp [fVar_succ])
  obtain ⟨y, rfl⟩ := Int.eq_ofNat_of_zero_le b0
  obtain ⟨j, hj, hjl, hne⟩ : ∃ j : Nat, (((i : Int) + 1 + (y : Int)) % (c.length : Int)) = (j : Int) ∧ j < c.length ∧ i ≠ j := by
    refine ⟨(i + 1 + y) % c.length, ?_, Nat.mod_lt _ (by omega), mod_ne h2 h8 (by omega) (by omega)⟩
    rw [show ((i : Int) + 1 + (y : Int)) = ((i + 1 + y : Nat) : Int) by omega]
    rfl
  obtain ⟨d3, w3, hw3, ⟨n3, rfl, c0, c1⟩, h3⟩ := draw0 (law_under_ev 101 (by decide) (by decide)) (n := 2) rfl (b := false) (r := [some (.dat (courseD c)), some (.dat (.int (i : Nat))), some (.dat (.int (j : Nat)))]) (fr := aCons (fC (.int 101)) aNil) hw2 (by simp)
  obtain ⟨d4, w4, hw4, hd4, h4⟩ := law_some_ev [.int 0, .int 0, .int 0, .int (-1), .int 1, .int 3, .int (-4), .int (n3 - 50)] (by simp) (by simp) w3 hw3
  obtain ⟨m, rfl, m0, m1⟩ : ∃ m : Int, d4 = .int m ∧ -50 ≤ m ∧ m ≤ 50 := by
    simp only [List.mem_cons, List.not_mem_nil, or_false] at hd4
    rcases hd4 with rfl | rfl | rfl | rfl | rfl | rfl | rfl | rfl
    all_goals exact ⟨_, rfl, by omega, by omega⟩
  refine ⟨_, w4, hw4, ⟨(i, j, m), rfl, by show i < _; omega, hjl, hne, m0, m1⟩, ?_⟩
  have e5 : callV 2 0 N_law_some (aCons (fA gLst (fCons (fC (.int 0)) (fCons (fC (.int 0)) (fCons (fC (.int 0)) (fCons (f1 negD (fC (.int 1))) (fCons (fC (.int 1)) (fCons (fC (.int 3)) (fCons (f1 negD (fC (.int 4))) (fCons (f2 subD (callV 2 0 N_law_under (aCons (fC (.int 101)) aNil)) (fC (.int 50))) fNil))))))))) aNil) [some (.own false (vs w2)), some (.dat (courseD c)), some (.dat (.int (i : Nat))), some (.dat (.int (j : Nat)))] = .ok (.int m) [some (.own false (vs w4)), some (.dat (courseD c)), some (.dat (.int (i : Nat))), some (.dat (.int (j : Nat)))] :=
    callV_of (b := false) (xs := vs w2) (b1 := false) (xs1 := vs w3) (e1 := [some (.own false (vs w3)), some (.dat (courseD c)), some (.dat (.int (i : Nat))), some (.dat (.int (j : Nat)))]) rfl (by
      simp only [aCons_ev, fA_ev, fCons_ev, fC_ev, R.bind_ok, f1_ev, f2_ev, negD_int, ret1_some, h3, subD_int, fNil_ev, aNil_ev]
      rfl) rfl rfl h4
  refine run_rt (e := [some (.own false (vs w4)), some (.dat (courseD c)), some (.dat (.int (i : Nat))), some (.dat (.int (j : Nat)))]) rfl ?_ rfl
  show S_law_fact [some (.own false (vs v)), some (.dat (courseD c)), none, none] = _
  unfold S_law_fact
  rw [sSeq_ev, sAsg_ev, h1, RS_ok, gN_ev, ofOpt_some, seq_nx, sSeq_ev, sAsg_ev]
  have e6 : (f2 modD (f2 addD (f2 addD (fVar 2) (fC (.int 1))) (callV 2 0 N_law_under (aCons (f2 subD (fA lenD (fCons (fVar 1) fNil)) (fC (.int 1))) aNil))) (fA lenD (fCons (fVar 1) fNil))) [some (.own false (vs w1)), some (.dat (courseD c)), some (.dat (.int (i : Nat))), none] = .ok (.int (j : Nat)) [some (.own false (vs w2)), some (.dat (courseD c)), some (.dat (.int (i : Nat))), none] := by
    have md := modD_int (i := (i : Int) + 1 + (y : Int)) (j := (c.length : Int)) (by omega)
    rw [hj] at md
    rw [f2_ev, f2_ev, f2_ev]
    simp only [show fVar 2 [some (Slot.own false (vs w1)), some (.dat (courseD c)), some (.dat (.int (i : Nat))), none] = .ok (.int (i : Nat)) [some (Slot.own false (vs w1)), some (.dat (courseD c)), some (.dat (.int (i : Nat))), none] from rfl, R.bind_ok, fC_ev, addD_int, ret1_some, h2', fA_ev, fCons_ev, show fVar 1 [some (Slot.own false (vs w2)), some (.dat (courseD c)), some (.dat (.int (i : Nat))), none] = .ok (courseD c) [some (Slot.own false (vs w2)), some (.dat (courseD c)), some (.dat (.int (i : Nat))), none] from rfl, fNil_ev, lenD_tuple, List.length_map, md]
  rw [show List.set [some (Slot.own false (vs w1)), some (Slot.dat (courseD c)), none, none] 2 (some (Slot.dat (.int (i : Nat)))) = [some (.own false (vs w1)), some (.dat (courseD c)), some (.dat (.int (i : Nat))), none] from rfl, e6, RS_ok, gN_ev, ofOpt_some, seq_nx, sRet_ev, fA_ev, fCons_ev]
  rw [show List.set [some (Slot.own false (vs w2)), some (Slot.dat (courseD c)), some (Slot.dat (.int (i : Nat))), none] 3 (some (Slot.dat (.int (j : Nat)))) = [some (.own false (vs w2)), some (.dat (courseD c)), some (.dat (.int (i : Nat))), some (.dat (.int (j : Nat)))] from rfl]
  rw [show fVar 2 [some (Slot.own false (vs w2)), some (.dat (courseD c)), some (.dat (.int (i : Nat))), some (.dat (.int (j : Nat)))] = .ok (.int (i : Nat)) [some (.own false (vs w2)), some (.dat (courseD c)), some (.dat (.int (i : Nat))), some (.dat (.int (j : Nat)))] from rfl, R.bind_ok, fCons_ev]
  rw [show fVar 3 [some (Slot.own false (vs w2)), some (.dat (courseD c)), some (.dat (.int (i : Nat))), some (.dat (.int (j : Nat)))] = .ok (.int (j : Nat)) [some (.own false (vs w2)), some (.dat (courseD c)), some (.dat (.int (i : Nat))), some (.dat (.int (j : Nat)))] from rfl, R.bind_ok, fCons_ev, e5]
  rfl
theorem facts_map {n : Nat} : ∀ {r : List Dt}, (∀ x ∈ r, ∃ f, x = fctD f ∧ FOk n f) → ∃ fs : List Fct, r = fs.map fctD ∧ ∀ f ∈ fs, FOk n f
  | [], _ => ⟨[], rfl, by simp⟩
  | d :: r, h => by
    obtain ⟨f, rfl, hf⟩ := h d (by simp)
    obtain ⟨fs, rfl, hfs⟩ := facts_map (r := r) fun x hx => h x (by simp [hx])
    exact ⟨f :: fs, rfl, fun x hx => by
      rcases List.mem_cons.mp hx with rfl | hx
      · exact hf
      · exact hfs x hx⟩
theorem law_facts_ev {c : List Stp} (h2 : 2 ≤ c.length) (h8 : c.length ≤ 8) (m : Nat) (hm : m ≤ 5) : Draws N_law_facts [.dat (courseD c), .dat (.int (m : Nat))] (fun d => ∃ fs, d = factsD fs ∧ FsOk c.length fs ∧ fs.length ≤ m) := by
  intro v hv
  obtain ⟨d1, w1, hw1, ⟨n1, rfl, a0, a1⟩, h1⟩ := draw0 (law_under_ev ((m : Int) + 1) (by omega) (by omega)) (n := 2) rfl (b := false) (r := [some (.dat (courseD c)), some (.dat (.int (m : Nat))), none]) (fr := aCons (f2 addD (fVar 2) (fC (.int 1))) aNil) hv (by simp [fVar_succ])
  obtain ⟨n, rfl⟩ := Int.eq_ofNat_of_zero_le a0
  obtain ⟨r, w, hw, hl, hr, hh⟩ := fLc_gen (P := fun x => ∃ f, x = fctD f ∧ FOk c.length f) (fe := callV 2 0 N_law_fact (aCons (fVar 1) aNil)) (i := 0) (j := 3) (b := false) (by decide) (e := [some (.own false (vs w1)), some (.dat (courseD c)), some (.dat (.int (m : Nat))), none]) (e1 := [some (.own false (vs v)), some (.dat (courseD c)), some (.dat (.int (m : Nat))), none]) (fi := fRange1 (fCons (callV 2 0 N_law_under (aCons (f2 addD (fVar 2) (fC (.int 1))) aNil)) fNil)) (ds := intsD 0 n) hw1 (fRange1_of (by rw [fCons_ev, h1]; rfl) (by omega)) (by rw [intsD_length]; omega) rfl rfl fun v d hv => by
    obtain ⟨y, w, hw, hy, he⟩ := drawI (law_fact_ev h2 h8) (n := 2) rfl (i := 0) (b := false) (v := v) (fr := aCons (fVar 1) aNil) (e := inTurn (atV [some (.own false (vs w1)), some (.dat (courseD c)), some (.dat (.int (m : Nat))), none] 0 false v) 3 d) rfl hv rfl
    exact ⟨y, w, hw, hy, he⟩
  rw [intsD_length] at hl
  obtain ⟨fs, rfl, hfs⟩ := facts_map hr
  rw [List.length_map] at hl
  refine ⟨_, w, hw, ⟨fs, rfl, ⟨by omega, hfs⟩, by omega⟩, ?_⟩
  refine run_rt (e := [some (.own false (vs w)), some (.dat (courseD c)), some (.dat (.int (m : Nat))), none]) rfl ?_ rfl
  show S_law_facts [some (.own false (vs v)), some (.dat (courseD c)), some (.dat (.int (m : Nat))), none] = _
  unfold S_law_facts
  rw [sRet_ev, fA_ev, fCons_ev, hh]
  rfl
/-! ### _law_is_case -/
theorem lc_any {e : En} {i j : Nat} {o : Option Slot} {c : List Stp} (hl : c.length ≤ 1000) (hi : e[i]? = some (some (.dat (courseD c)))) (hj : e[j]? = some o) (ho : ∀ b xs, o ≠ some (.own b xs)) : fLc (fSeq (fVar i)) (gN j) (fB (f2 eqD (f2 ixD (fVar j) (fC (.int 0))) (fC (.str "any")))) (fVar j) [j] e = .ok (.list ((c.filter fun s => s.k == 0).map Stp.d)) e := by
  rw [fLc_id (G := fun d => if wordK d == 0 then some d else none) (ds := c.map Stp.d) hj ho (by rw [fSeq_ev, fVar_of hi]; rfl) (by simp; omega) fun d hd => ?_]
  · congr 2
    clear hi
    induction c with
    | nil => rfl
    | cons s c ih =>
      have ih := ih (by simp at hl; omega)
      rw [List.map_cons, List.filterMap_cons, List.filter_cons, wordK_d]
      by_cases h : s.k = 0
      · simp [h]
        simpa using ih
      · simp [h]
        simpa using ih
  · obtain ⟨s, _, rfl⟩ := List.mem_map.mp hd
    have e0 := eq_any (ok_w s)
    rw [kind_w] at e0
    have t : (fB (f2 eqD (f2 ixD (fVar j) (fC (.int 0))) (fC (.str "any")))) (inTurn e j s.d) = .ok (s.k == 0) (inTurn e j s.d) := by
      rw [fB_ev, f2_ev, f2_ev, in_var hj]
      simp only [R.bind_ok, fC_ev, ix0_d, ret1_some, e0, asB_bool]
    rw [wordK_d]
    cases q : s.k == 0 with
    | false => exact .inl ⟨by rw [t, q], by simp⟩
    | true => exact .inr ⟨by rw [t, q], s.d, in_var hj, by simp⟩
theorem any_len {c : List Stp} : ((c.filter fun s => s.k == 0).map Stp.d).length = anys c := by
  rw [List.length_map, ← List.countP_eq_length_filter]
  rfl
theorem p12 : powD (.int 10) (.int 12) = some (.int M12) := by rw [powD_int (by decide)] <;> rfl
section
variable {c : List Stp} (hc : Crs c) {fs : List Fct} (hf : FsOk c.length fs)
include hc hf
theorem law_is_case_ev {v : Dt} (hv : fitN 59 v = true) (hl : ∀ a xs, v = .tuple [a, .tuple xs] → xs.length ≤ 1000000) : N_law_is_case [.dat (courseD c), .dat (factsD fs), .dat v] = .ok (.bool (isCase c fs v)) [.dat (courseD c), .dat (factsD fs), .dat v] := by
  have key : ∃ o, S_law_is_case [some (.dat (courseD c)), some (.dat (factsD fs)), some (.dat v), none, none, none] = .rt (.bool (isCase c fs v)) [some (.dat (courseD c)), some (.dat (factsD fs)), some (.dat v), o, none, none] := by
    unfold S_law_is_case
    rw [sSeq_ev]
    cases v with
    | tuple xs =>
      by_cases h : xs.length = 2
      · obtain ⟨a, g, rfl⟩ := len2 h
        obtain ⟨fa, fg⟩ := fit_cons hv
        have fg := (fit_cons fg).1
        have e2 := law_is_stair_ev a
        cases q1 : isStair a with
        | false =>
          rw [q1] at e2
          exact ⟨none, by simp [fVar_succ, e2, isCase, q1]⟩
        | true =>
          rw [q1] at e2
          refine ⟨some (.dat (.int (anys c : Nat))), ?_⟩
          have a1 : (sIf (gOr (gNot (fB (f1 (isiD "tuple") (fVar 2)))) (gOr (fB (f2 neD (fA lenD (fCons (fVar 2) fNil)) (fC (.int 2)))) (gNot (fB (callD 1 N_law_is_stair (aCons (f2 ixD (fVar 2) (fC (.int 0))) aNil)))))) (sRet (fC (.bool false))) sNx) [some (.dat (courseD c)), some (.dat (factsD fs)), some (.dat (.tuple [a, g])), none, none, none] = .nx [some (.dat (courseD c)), some (.dat (factsD fs)), some (.dat (.tuple [a, g])), none, none, none] := by
            simp [fVar_succ, e2]
          rw [a1, seq_nx, sSeq_ev, sAsg_ev, fA_ev, fCons_ev, lc_any (c := c) (o := none) hc.lt rfl rfl (fun _ _ z => nomatch z)]
          simp only [R.bind_ok, fNil_ev, lenD_list, any_len, ret1_some, RS_ok, gN_ev, ofOpt_some, seq_nx]
          rw [show List.set [some (Slot.dat (courseD c)), some (Slot.dat (factsD fs)), some (Slot.dat (.tuple [a, g])), none, none, none] 3 (some (Slot.dat (.int (anys c : Nat)))) = [some (.dat (courseD c)), some (.dat (factsD fs)), some (.dat (.tuple [a, g])), some (.dat (.int (anys c : Nat))), none, none] from rfl, sSeq_ev]
          have v2 : fVar 2 [some (Slot.dat (courseD c)), some (.dat (factsD fs)), some (.dat (.tuple [a, g])), some (.dat (.int (anys c : Nat))), none, none] = .ok (.tuple [a, g]) [some (.dat (courseD c)), some (.dat (factsD fs)), some (.dat (.tuple [a, g])), some (.dat (.int (anys c : Nat))), none, none] := rfl
          have v3 : fVar 3 [some (Slot.dat (courseD c)), some (.dat (factsD fs)), some (.dat (.tuple [a, g])), some (.dat (.int (anys c : Nat))), none, none] = .ok (.int (anys c : Nat)) [some (.dat (courseD c)), some (.dat (factsD fs)), some (.dat (.tuple [a, g])), some (.dat (.int (anys c : Nat))), none, none] := rfl
          by_cases ht : ∃ gs, g = .tuple gs ∧ gs.length = anys c
          · obtain ⟨gs, rfl, hgl⟩ := ht
            have hd : decide ((gs.length : Int) = (anys c : Int)) = true := decide_eq_true (by omega)
            have fx : gs.all (fitN 57) = true := by rwa [fitN_tuple] at fg
            have t1 : fLc (fSeq (f2 ixD (fVar 2) (fC (.int 1)))) (gN 5) (gNot (fB (callD 3 N_law_is_whole (aCons (fVar 5) (aCons (f1 negD (f2 powD (fC (.int 10)) (fC (.int 12)))) (aCons (f2 powD (fC (.int 10)) (fC (.int 12))) aNil)))))) (fVar 5) [5] [some (.dat (courseD c)), some (.dat (factsD fs)), some (.dat (.tuple [a, .tuple gs])), some (.dat (.int (anys c : Nat))), none, none] = .ok (.list (gs.filterMap (dropIf (isW (-M12) M12)))) [some (.dat (courseD c)), some (.dat (factsD fs)), some (.dat (.tuple [a, .tuple gs])), some (.dat (.int (anys c : Nat))), none, none] :=
              fLc_id (o := none) rfl (fun _ _ z => nomatch z) rfl (hl a gs rfl) fun d hd => by
                have e1 := law_is_whole_ev d (-M12) M12
                have v5 : fVar 5 (inTurn [some (.dat (courseD c)), some (.dat (factsD fs)), some (.dat (.tuple [a, .tuple gs])), some (.dat (.int (anys c : Nat))), none, none] 5 d) = .ok d (inTurn [some (.dat (courseD c)), some (.dat (factsD fs)), some (.dat (.tuple [a, .tuple gs])), some (.dat (.int (anys c : Nat))), none, none] 5 d) := rfl
                generalize inTurn [some (.dat (courseD c)), some (.dat (factsD fs)), some (.dat (.tuple [a, .tuple gs])), some (.dat (.int (anys c : Nat))), none, none] 5 d = e at v5 ⊢
                have t : (fB (callD 3 N_law_is_whole (aCons (fVar 5) (aCons (f1 negD (f2 powD (fC (.int 10)) (fC (.int 12)))) (aCons (f2 powD (fC (.int 10)) (fC (.int 12))) aNil))))) e = .ok (isW (-M12) M12 d) e := by
                  simp only [fB_ev, callD_ev, aCons_ev, v5, R.bind_ok, f1_ev, f2_ev, fC_ev, p12, ret1_some, negD_int, aNil_ev, len3s, if_true, e1, ofFO_ok, asB_bool]
                cases q : isW (-M12) M12 d with
                | true => exact .inl ⟨by rw [gNot_ev, t, q]; rfl, by simp [dropIf, q]⟩
                | false => exact .inr ⟨by rw [gNot_ev, t, q]; rfl, d, v5, by simp [dropIf, q]⟩
            have hn := neD_nil (dropIf_fit (p := isW (-M12) M12) fx (by decide))
            rw [dropIf_empty] at hn
            have a2 : (sIf (gOr (gNot (fB (f1 (isiD "tuple") (f2 ixD (fVar 2) (fC (.int 1)))))) (fB (f2 neD (fA lenD (fCons (f2 ixD (fVar 2) (fC (.int 1))) fNil)) (fVar 3)))) (sRet (fC (.bool false))) sNx) [some (.dat (courseD c)), some (.dat (factsD fs)), some (.dat (.tuple [a, .tuple gs])), some (.dat (.int (anys c : Nat))), none, none] = .nx [some (.dat (courseD c)), some (.dat (factsD fs)), some (.dat (.tuple [a, .tuple gs])), some (.dat (.int (anys c : Nat))), none, none] := by
              simp [-decide_eq_true_eq, fVar_succ, hd]
            have hg : isGiven (anys c) (.tuple gs) = gs.all (isW (-M12) M12) := by simp [isGiven, hgl]
            rw [a2, seq_nx, sSeq_ev, sIf_ev, fB_ev, f2_ev, t1, R.bind_ok]
            simp only [fA_ev, fNil_ev, R.bind_ok, show gLst [] = some (.list []) from rfl, ret1_some, hn, asB_bool, RS_ok]
            cases q2 : gs.all (isW (-M12) M12) with
            | false =>
              simp [isCase, q1, hg, q2]
            | true =>
              obtain ⟨b, s, rfl, hs⟩ := isStair_ok q1
              obtain ⟨gl, hgl2, hgl3, hgb⟩ := isGiven_ok (n := anys c) (v := .tuple gs) (by rw [hg, q2])
              injection hgl2 with hgl2
              subst hgl2
              have e4 := law_numbers_ev (b := b) (s := s) (g := gl) (by have := hs.len; omega) hc.ok hc.lt (by omega)
              have e5 := law_are_so_ev (f := numsC b s c gl) (n := c.length) (by rw [numsC_len]; exact Nat.le_refl _) hf
              have hr : isCase c fs (.tuple [stD b s, .tuple (iL gl)]) = soB (numsC b s c gl) fs := by
                simp only [isCase, q1, hg, q2, stairI_d, givenI_d, Bool.true_and]
              rw [hr]
              clear hg hn t1 a2 v2 v3 a1 hr e2 q1
              generalize soB (numsC b s c gl) fs = B at *
              generalize numsC b s c gl = NN at *
              generalize courseD c = C at *
              generalize factsD fs = F at *
              generalize stD b s = S at *
              simp [fVar_succ, e4, e5]
          · have hfalse : isCase c fs (.tuple [a, g]) = false := by
              simp only [isCase, q1, Bool.true_and]
              have : isGiven (anys c) g = false := by
                cases g with
                | tuple gs =>
                  have : decide (gs.length = anys c) = false := decide_eq_false fun e => ht ⟨gs, rfl, e⟩
                  simp only [isGiven, this, Bool.false_and]
                | _ => rfl
              rw [this, Bool.false_and]
            have a2 : (sIf (gOr (gNot (fB (f1 (isiD "tuple") (f2 ixD (fVar 2) (fC (.int 1)))))) (fB (f2 neD (fA lenD (fCons (f2 ixD (fVar 2) (fC (.int 1))) fNil)) (fVar 3)))) (sRet (fC (.bool false))) sNx) [some (.dat (courseD c)), some (.dat (factsD fs)), some (.dat (.tuple [a, g])), some (.dat (.int (anys c : Nat))), none, none] = .rt (.bool false) [some (.dat (courseD c)), some (.dat (factsD fs)), some (.dat (.tuple [a, g])), some (.dat (.int (anys c : Nat))), none, none] := by
              cases g with
              | tuple gs =>
                have hd : decide ((gs.length : Int) = (anys c : Int)) = false := decide_eq_false fun e => ht ⟨gs, rfl, by omega⟩
                simp [-decide_eq_false_iff_not, fVar_succ, hd]
              | _ => simp [fVar_succ]
            rw [a2, seq_rt, hfalse]
      · have h2 : ¬ ((xs.length : Int) = 2) := by omega
        rw [isCase_len h]
        exact ⟨none, by simp [fVar_succ, h2]⟩
    | _ => exact ⟨none, by simp [fVar_succ, isCase]⟩
  obtain ⟨o, h⟩ := key
  exact run_rt (e := [some (.dat (courseD c)), some (.dat (factsD fs)), some (.dat v), o, none, none]) rfl h rfl
end
end DL
namespace DL
open PySem L2
def k15_1i (sc : Option (Addr × List Int)) : En → R (List Dt) := (fRange1 (fCons (fA maxD (fCons (fC (.int 5)) (fCons (fA minD (fCons (fC (.int 12)) (fCons (fLenS 0 sc) fNil))) fNil))) fNil))
def k15_1b1 (sc : Option (Addr × List Int)) : En → SO := (sVat 2 2 (N_law_vat sc) (aAny 0 (aCons (fVar 1) aNil)))
def k15_1b2 : En → SO := (sAsg (fA gTup (fCons (callV 2 2 N_law_course (aCons (fC (.int 5)) aNil)) (fCons (fA gTup (fCons (fA gTup (fCons (fC (.int 0)) (fCons (fC (.int 1)) (fCons (fC (.int 0)) fNil)))) fNil)) fNil))) (gT 2 (gsCons (gN 3) (gsCons (gN 4) gsNil))))
def k15_1b3 : En → SO := (sAsg (fA gLst (fCons (fC .none) (fCons (fA listD (fCons (fVar 3) fNil)) (fCons (f2 addD (fSl (fVar 3) (fPart (fC (.int 1))) fNo) (fA gTup (fCons (fA gTup (fCons (fC (.str "put")) (fCons (fC (.int 8)) fNil))) fNil))) (fCons (fA gTup (fCons (fVar 3) fNil)) (fCons (fA gTup fNil) (fCons (fC (.int 7)) fNil))))))) (gN 5))
def k15_1b4i : En → R (List Dt) := (fSeq (f2 addD (fVar 5) (fA gLst (fCons (callV 2 2 (N_law_bent 24) (aCons (fVar 3) aNil)) fNil))))
def k15_1b4b1 : En → SO := (sOwn 7 fNil)
def k15_1b4b2 (sc : Option (Addr × List Int)) (ad : Nat → Addr) : En → SO := (sIf (gNot (fB (callD 1 N_law_is_course (aCons (fVar 6) aNil)))) (sAsg (callD 1 (N_law_course_calls sc ad) (aCons (fVar 6) aNil)) (gN 7)) sNx)
def k15_1b4b3 : En → SO := (sIf (fB (f2 neD (fLc (fSeq (fVar 7)) (gN 10) (fB (f2 neD (fVar 10) (fC (.str "course value")))) (fVar 10) [10]) (fA gLst fNil))) (sRet (fC (.bool false))) sNx)
def k15_1b4b (sc : Option (Addr × List Int)) (ad : Nat → Addr) : En → SO := (sSeq k15_1b4b1 (sSeq (k15_1b4b2 sc ad) k15_1b4b3))
def k15_1b4 (sc : Option (Addr × List Int)) (ad : Nat → Addr) : En → SO := (sFor k15_1b4i (gN 6) (k15_1b4b sc ad))
def k15_1b5i : En → R (List Dt) := (fSeq (fA gLst (fCons (fC .none) (fCons (fA listD (fCons (fVar 4) fNil)) (fCons (f2 mulD (fVar 4) (fC (.int 6))) (fCons (f2 ixD (fVar 4) (fC (.int 0))) (fCons (fA gTup (fCons (fA gTup (fCons (fC (.int 0)) (fCons (fC (.int 0)) (fCons (fC (.int 0)) fNil)))) fNil)) fNil)))))))
def k15_1b5b (sc : Option (Addr × List Int)) (ad : Nat → Addr) : En → SO := (sIf (fB (f2 neD (fLc (fSeq (callD 2 (N_law_facts_calls sc ad) (aCons (fVar 3) (aCons (fVar 6) aNil)))) (gN 10) (fB (f2 neD (fVar 10) (fC (.str "facts value")))) (fVar 10) [10]) (fA gLst fNil))) (sRet (fC (.bool false))) sNx)
def k15_1b5 (sc : Option (Addr × List Int)) (ad : Nat → Addr) : En → SO := (sFor k15_1b5i (gN 6) (k15_1b5b sc ad))
def k15_1b6 (ad : Nat → Addr) : En → SO := (sForF 8 [(ad 9, (sIf (fB (f2 neD (fLE nmS (fCallX 8 (ad 9) 3 N_follows (aCons (fVar 3) (aCons (fVar 4) (aCons (fVar 4) aNil))))) (fC (.str "facts value")))) (sRet (fC (.bool false))) sNx)), (ad 10, (sIf (fB (f2 neD (fLE nmS (fCallX 8 (ad 10) 3 N_breaking (aCons (fVar 3) (aCons (fVar 4) (aCons (fVar 4) aNil))))) (fC (.str "facts value")))) (sRet (fC (.bool false))) sNx)), (ad 11, (sIf (fB (f2 neD (fLE nmS (fCallX 8 (ad 11) 3 N_paper_for (aCons (fVar 3) (aCons (fVar 4) (aCons (fVar 4) aNil))))) (fC (.str "facts value")))) (sRet (fC (.bool false))) sNx)), (ad 12, (sIf (fB (f2 neD (fLE nmS (fCallX 8 (ad 12) 3 N_least_lots (aCons (fVar 3) (aCons (fVar 4) (aCons (fVar 4) aNil))))) (fC (.str "facts value")))) (sRet (fC (.bool false))) sNx))])
def k15_1b7 : En → SO := (sOwn 7 (fCons (fLE nmS (callD 5 N_case_with (aCons (fVar 3) (aCons (fVar 4) (aCons (fC .none) (aCons (fC .none) (aCons (fC .none) aNil))))))) fNil))
def k15_1b8 : En → SO := (sApp 7 (fLE nmS (callD 5 N_case_with (aCons (fVar 3) (aCons (fVar 4) (aCons (fC (.int 0)) (aCons (fC (.int 0)) (aCons (fC .none) aNil))))))))
def k15_1b9 : En → SO := (sApp 7 (fLE nmS (callD 4 N_gap_range (aCons (fVar 3) (aCons (fVar 4) (aCons (fC (.int 0)) (aCons (fA lenD (fCons (fVar 3) fNil)) aNil)))))))
def k15_1b10 : En → SO := (sIf (fB (f2 neD (fVar 7) (f2 mulD (fA gLst (fCons (fC (.str "index value")) fNil)) (fC (.int 3))))) (sRet (fC (.bool false))) sNx)
def k15_1b (sc : Option (Addr × List Int)) (ad : Nat → Addr) : En → SO := (sSeq (k15_1b1 sc) (sSeq k15_1b2 (sSeq k15_1b3 (sSeq (k15_1b4 sc ad) (sSeq (k15_1b5 sc ad) (sSeq (k15_1b6 ad) (sSeq k15_1b7 (sSeq k15_1b8 (sSeq k15_1b9 k15_1b10)))))))))
def k15_1 (sc : Option (Addr × List Int)) (ad : Nat → Addr) : En → SO := (sFor (k15_1i sc) (gN 1) (k15_1b sc ad))
def k15_2 : En → SO := (sAsg (fA gTup (fCons (fA gTup (fCons (fC (.str "any")) fNil)) (fCons (fA gTup (fCons (fC (.str "any")) fNil)) fNil))) (gN 9))
def k15_3 (sc : Option (Addr × List Int)) (ad : Nat → Addr) : En → SO := (sRet (fAnd (f2 eqD (callD 3 (N_law_by sc (ad 5) N_alike) (aVal (V.ref (ad 5)) (aCons (fVar 9) (aCons (fSl (fVar 9) fNo (fPart (fC (.int 1)))) aNil)))) (fC (.str "unlike value"))) (f2 eqD (callD 3 (N_law_by sc (ad 6) N_parting) (aVal (V.ref (ad 6)) (aCons (fSl (fVar 9) fNo (fPart (fC (.int 1)))) (aCons (fVar 9) aNil)))) (fC (.str "unlike value")))))
theorem k15_eq (sc : Option (Addr × List Int)) (ad : Nat → Addr) : S_law sc ad = (sSeq (k15_1 sc ad) (sSeq k15_2 (k15_3 sc ad))) := rfl
end DL
namespace DL
open PySem L2
/-! ### what MK2 and MK10 hold too, for laws that do not import them -/
section
variable {c : List Stp}
theorem vb_course (hc : Crs c) : vb 0 3 (courseD c) = true := by
  have h8 := hc.l8
  have key : ∀ st : Stp, (∃ n, n ≤ 8 ∧ st.ok n) → vb 0 1 st.d = true := fun st hst => by
    obtain ⟨n, hn, hok⟩ := hst
    have aw : ∀ {w : Str} {r : List Dt}, leafB 0 (.str w) = true → r.length ≤ 10 → r.all (vb 0 0) = true → vb 0 1 (.tuple (.str w :: r)) = true := fun {w r} h1 h2 h3 => by
      rw [show (1 : Nat) = 0 + 1 from rfl, vb_tuple, List.all_cons, h3, vb_leaf h1]
      simp
      omega
    have li : ∀ {i : Int}, i.natAbs ≤ 1000 → vb 0 0 (.int i) = true := fun {i} h => by
      apply vb_leaf
      exact decide_eq_true (by omega)
    cases st with
    | any => exact aw (by decide +kernel) (by simp) rfl
    | told m => exact aw (by decide +kernel) (by simp) (by simp [li (show m.natAbs ≤ 1000 by have := hok.1; have := hok.2; omega)])
    | put i => exact aw (by decide +kernel) (by simp) (by simp [li (show (i : Int).natAbs ≤ 1000 by have : i < n := hok; omega)])
    | plus i m => exact aw (by decide +kernel) (by simp) (by simp [li (show (i : Int).natAbs ≤ 1000 by have := hok.1; omega), li (show m.natAbs ≤ 1000 by have := hok.2; omega)])
    | great i j => exact aw (by decide +kernel) (by simp) (by simp [li (show (i : Int).natAbs ≤ 1000 by have := hok.1; omega), li (show (j : Int).natAbs ≤ 1000 by have := hok.2.1; omega)])
    | less i j => exact aw (by decide +kernel) (by simp) (by simp [li (show (i : Int).natAbs ≤ 1000 by have := hok.1; omega), li (show (j : Int).natAbs ≤ 1000 by have := hok.2.1; omega)])
  have all : ∀ (l : List Stp) (n : Nat), okFrom n l → n + l.length ≤ 8 → ∀ st ∈ l, vb 0 1 st.d = true := fun l => by
    induction l with
    | nil => intro n _ _ st h; simp at h
    | cons x l ih =>
      intro n h1 h2 st hst
      rw [List.length_cons] at h2
      rcases List.mem_cons.mp hst with rfl | hst
      · exact key _ ⟨n, by omega, h1.1⟩
      · exact ih (n + 1) h1.2 (by omega) st hst
  have h1 : (c.map Stp.d).all (vb 0 1) = true := by
    rw [List.all_eq_true]
    intro d hd
    obtain ⟨st, hst, rfl⟩ := List.mem_map.mp hd
    exact all c 0 hc.ok (by omega) st hst
  have h2 : (c.map Stp.d).all (vb 0 2) = true := by
    rw [List.all_eq_true] at h1 ⊢
    exact fun x hx => vb_mono (by omega) (by omega) (h1 x hx)
  rw [show (3 : Nat) = 2 + 1 from rfl, courseD, vb_tuple, h2]
  simp
  omega
end
theorem course_snoc_no {c : List Stp} (hc : Crs c) {m : Nat} (hm : 8 ≤ m) : isCourse (.tuple (c.map Stp.d ++ [(Stp.put m).d])) = false := by
  cases q : isCourse (.tuple (c.map Stp.d ++ [(Stp.put m).d])) with
  | false => rfl
  | true =>
    exfalso
    simp only [isCourse, Bool.and_eq_true, decide_eq_true_eq] at q
    have h := stepsB_iff.mp q.2.2.1 c.length (by simp)
    have l8 := hc.l8
    have e : (c.map Stp.d ++ [(Stp.put m).d]).getD c.length .none = (Stp.put m).d := by
      rw [List.getD, List.getElem?_append_right (by simp)]
      simp
    rw [e] at h
    obtain ⟨st, hst, hok⟩ := isStepB_ok h
    have := d_inj hst
    subst this
    have hok : m < 0 + c.length := hok
    omega
end DL
namespace DL
open PySem L2
/-! ### law k15: what is refused first -/
section
variable {v w x y z : Dt} {c : Str}
theorem case_for_xc (h0 : N_need_course [.dat v] = .exc c [.dat v]) : N_case_for [.dat v, .dat w] = .exc c [.dat v, .dat w] := by
  refine run_exc (e := [some (.dat v), some (.dat w)]) rfl ?_ rfl
  show S_case_for [some (.dat v), some (.dat w)] = _
  simp [S_case_for, fVar_succ, h0]
theorem needless_facts_xc (h0 : N_need_course [.dat v] = .exc c [.dat v]) : N_needless_facts [.dat v, .dat w] = .exc c [.dat v, .dat w] := by
  refine run_exc (e := [some (.dat v), some (.dat w), none]) rfl ?_ rfl
  show S_needless_facts [some (.dat v), some (.dat w), none] = _
  simp [S_needless_facts, fVar_succ, h0]
theorem quarrels_xc (h0 : N_need_course [.dat v] = .exc c [.dat v]) : N_quarrels [.dat v, .dat w] = .exc c [.dat v, .dat w] := by
  refine run_exc (e := [some (.dat v), some (.dat w), none, none, none]) rfl ?_ rfl
  show S_quarrels [some (.dat v), some (.dat w), none, none, none] = _
  simp [S_quarrels, fVar_succ, h0]
theorem need_all_xc (h0 : N_need_course [.dat v] = .exc c [.dat v]) : N_need_all [.dat v, .dat w, .dat x] = .exc c [.dat v, .dat w, .dat x] := by
  refine run_exc (e := [some (.dat v), some (.dat w), some (.dat x)]) rfl ?_ rfl
  show S_need_all [some (.dat v), some (.dat w), some (.dat x)] = _
  simp [S_need_all, fVar_succ, h0]
theorem need_two_xc (h0 : N_need_course [.dat v] = .exc c [.dat v]) : N_need_two [.dat v, .dat w, .dat x, .dat y] = .exc c [.dat v, .dat w, .dat x, .dat y] := by
  refine run_exc (e := [some (.dat v), some (.dat w), some (.dat x), some (.dat y)]) rfl ?_ rfl
  show S_need_two [some (.dat v), some (.dat w), some (.dat x), some (.dat y)] = _
  simp [S_need_two, fVar_succ, h0]
theorem need_like_xc (h0 : N_need_course [.dat v] = .exc c [.dat v]) : N_need_like [.dat v, .dat w] = .exc c [.dat v, .dat w] := by
  refine run_exc (e := [some (.dat v), some (.dat w)]) rfl ?_ rfl
  show S_need_like [some (.dat v), some (.dat w)] = _
  simp [S_need_like, fVar_succ, h0]
theorem is_case_xc (h0 : N_need_course [.dat v] = .exc c [.dat v]) : N_is_case [.dat v, .dat w, .dat x] = .exc c [.dat v, .dat w, .dat x] := by
  refine run_exc (e := [some (.dat v), some (.dat w), some (.dat x)]) rfl ?_ rfl
  show S_is_case [some (.dat v), some (.dat w), some (.dat x)] = _
  simp [S_is_case, fVar_succ, h0]
theorem numbers_xc (h0 : N_need_course [.dat v] = .exc c [.dat v]) : N_numbers [.dat v, .dat w, .dat x] = .exc c [.dat v, .dat w, .dat x] := by
  refine run_exc (e := [some (.dat v), some (.dat w), some (.dat x)]) rfl ?_ rfl
  show S_numbers [some (.dat v), some (.dat w), some (.dat x)] = _
  simp [S_numbers, fVar_succ, h0]
theorem are_given_xc (h0 : N_need_course [.dat v] = .exc c [.dat v]) : N_are_given [.dat v, .dat w] = .exc c [.dat v, .dat w] := by
  refine run_exc (e := [some (.dat v), some (.dat w)]) rfl ?_ rfl
  show S_are_given [some (.dat v), some (.dat w)] = _
  simp [S_are_given, fVar_succ, h0]
theorem are_facts_xc (h0 : N_need_course [.dat v] = .exc c [.dat v]) : N_are_facts [.dat v, .dat w] = .exc c [.dat v, .dat w] := by
  refine run_exc (e := [some (.dat v), some (.dat w)]) rfl ?_ rfl
  show S_are_facts [some (.dat v), some (.dat w)] = _
  simp [S_are_facts, fVar_succ, h0]
theorem course_text_xc (h0 : N_need_course [.dat v] = .exc c [.dat v]) : N_course_text [.dat v] = .exc c [.dat v] := by
  refine run_exc (e := [some (.dat v)]) rfl ?_ rfl
  show S_course_text [some (.dat v)] = _
  simp [S_course_text, fVar_succ, h0]
theorem case_for_xf (h0 : N_need_course [.dat v] = .ok .none [.dat v]) (h1 : N_need_facts [.dat v, .dat w] = .exc c [.dat v, .dat w]) : N_case_for [.dat v, .dat w] = .exc c [.dat v, .dat w] := by
  refine run_exc (e := [some (.dat v), some (.dat w)]) rfl ?_ rfl
  show S_case_for [some (.dat v), some (.dat w)] = _
  simp [S_case_for, fVar_succ, h0, h1]
theorem needless_facts_xf (h0 : N_need_course [.dat v] = .ok .none [.dat v]) (h1 : N_need_facts [.dat v, .dat w] = .exc c [.dat v, .dat w]) : N_needless_facts [.dat v, .dat w] = .exc c [.dat v, .dat w] := by
  refine run_exc (e := [some (.dat v), some (.dat w), none]) rfl ?_ rfl
  show S_needless_facts [some (.dat v), some (.dat w), none] = _
  simp [S_needless_facts, fVar_succ, h0, h1]
theorem quarrels_xf (h0 : N_need_course [.dat v] = .ok .none [.dat v]) (h1 : N_need_facts [.dat v, .dat w] = .exc c [.dat v, .dat w]) : N_quarrels [.dat v, .dat w] = .exc c [.dat v, .dat w] := by
  refine run_exc (e := [some (.dat v), some (.dat w), none, none, none]) rfl ?_ rfl
  show S_quarrels [some (.dat v), some (.dat w), none, none, none] = _
  simp [S_quarrels, fVar_succ, h0, h1]
theorem need_all_xf (h0 : N_need_course [.dat v] = .ok .none [.dat v]) (h1 : N_need_facts [.dat v, .dat w] = .exc c [.dat v, .dat w]) : N_need_all [.dat v, .dat w, .dat x] = .exc c [.dat v, .dat w, .dat x] := by
  refine run_exc (e := [some (.dat v), some (.dat w), some (.dat x)]) rfl ?_ rfl
  show S_need_all [some (.dat v), some (.dat w), some (.dat x)] = _
  simp [S_need_all, fVar_succ, h0, h1]
theorem need_two_xf (h0 : N_need_course [.dat v] = .ok .none [.dat v]) (h1 : N_need_facts [.dat v, .dat w] = .exc c [.dat v, .dat w]) : N_need_two [.dat v, .dat w, .dat x, .dat y] = .exc c [.dat v, .dat w, .dat x, .dat y] := by
  refine run_exc (e := [some (.dat v), some (.dat w), some (.dat x), some (.dat y)]) rfl ?_ rfl
  show S_need_two [some (.dat v), some (.dat w), some (.dat x), some (.dat y)] = _
  simp [S_need_two, fVar_succ, h0, h1]
theorem is_case_xf (h0 : N_need_course [.dat v] = .ok .none [.dat v]) (h1 : N_need_facts [.dat v, .dat w] = .exc c [.dat v, .dat w]) : N_is_case [.dat v, .dat w, .dat x] = .exc c [.dat v, .dat w, .dat x] := by
  refine run_exc (e := [some (.dat v), some (.dat w), some (.dat x)]) rfl ?_ rfl
  show S_is_case [some (.dat v), some (.dat w), some (.dat x)] = _
  simp [S_is_case, fVar_succ, h0, h1]
theorem need_all_xk (h0 : N_need_course [.dat v] = .ok .none [.dat v]) (h1 : N_need_facts [.dat v, .dat w] = .ok .none [.dat v, .dat w]) (h2 : N_need_fact [.dat v, .dat x] = .exc c [.dat v, .dat x]) : N_need_all [.dat v, .dat w, .dat x] = .exc c [.dat v, .dat w, .dat x] := by
  refine run_exc (e := [some (.dat v), some (.dat w), some (.dat x)]) rfl ?_ rfl
  show S_need_all [some (.dat v), some (.dat w), some (.dat x)] = _
  simp [S_need_all, fVar_succ, h0, h1, h2]
theorem need_two_xi (h0 : N_need_course [.dat v] = .ok .none [.dat v]) (h1 : N_need_facts [.dat v, .dat w] = .ok .none [.dat v, .dat w]) (h2 : N_need_indices [.dat v, .dat x, .dat y] = .exc c [.dat v, .dat x, .dat y]) : N_need_two [.dat v, .dat w, .dat x, .dat y] = .exc c [.dat v, .dat w, .dat x, .dat y] := by
  refine run_exc (e := [some (.dat v), some (.dat w), some (.dat x), some (.dat y)]) rfl ?_ rfl
  show S_need_two [some (.dat v), some (.dat w), some (.dat x), some (.dat y)] = _
  simp [S_need_two, fVar_succ, h0, h1, h2]
theorem follows_x (h0 : N_need_all [.dat v, .dat w, .dat x] = .exc c [.dat v, .dat w, .dat x]) : N_follows [.dat v, .dat w, .dat x] = .exc c [.dat v, .dat w, .dat x] := by
  refine run_exc (e := [some (.dat v), some (.dat w), some (.dat x)]) rfl ?_ rfl
  show S_follows [some (.dat v), some (.dat w), some (.dat x)] = _
  simp [S_follows, fVar_succ, h0]
theorem breaking_x (h0 : N_need_all [.dat v, .dat w, .dat x] = .exc c [.dat v, .dat w, .dat x]) : N_breaking [.dat v, .dat w, .dat x] = .exc c [.dat v, .dat w, .dat x] := by
  refine run_exc (e := [some (.dat v), some (.dat w), some (.dat x)]) rfl ?_ rfl
  show S_breaking [some (.dat v), some (.dat w), some (.dat x)] = _
  simp [S_breaking, fVar_succ, h0]
theorem paper_for_x (h0 : N_need_all [.dat v, .dat w, .dat x] = .exc c [.dat v, .dat w, .dat x]) : N_paper_for [.dat v, .dat w, .dat x] = .exc c [.dat v, .dat w, .dat x] := by
  refine run_exc (e := [some (.dat v), some (.dat w), some (.dat x)]) rfl ?_ rfl
  show S_paper_for [some (.dat v), some (.dat w), some (.dat x)] = _
  simp [S_paper_for, fVar_succ, h0]
theorem least_lots_x (h0 : N_need_all [.dat v, .dat w, .dat x] = .exc c [.dat v, .dat w, .dat x]) : N_least_lots [.dat v, .dat w, .dat x] = .exc c [.dat v, .dat w, .dat x] := by
  refine run_exc (e := [some (.dat v), some (.dat w), some (.dat x), none, none, none]) rfl ?_ rfl
  show S_least_lots [some (.dat v), some (.dat w), some (.dat x), none, none, none] = _
  simp [S_least_lots, fVar_succ, h0]
theorem is_paper_x (h0 : N_need_all [.dat v, .dat w, .dat x] = .exc c [.dat v, .dat w, .dat x]) : N_is_paper [.dat v, .dat w, .dat x, .dat y] = .exc c [.dat v, .dat w, .dat x, .dat y] := by
  refine run_exc (e := [some (.dat v), some (.dat w), some (.dat x), some (.dat y)]) rfl ?_ rfl
  show S_is_paper [some (.dat v), some (.dat w), some (.dat x), some (.dat y)] = _
  simp [S_is_paper, fVar_succ, h0]
theorem stretches_x (h0 : N_need_two [.dat v, .dat w, .dat x, .dat y] = .exc c [.dat v, .dat w, .dat x, .dat y]) : N_stretches [.dat v, .dat w, .dat x, .dat y] = .exc c [.dat v, .dat w, .dat x, .dat y] := by
  refine run_exc (e := [some (.dat v), some (.dat w), some (.dat x), some (.dat y)]) rfl ?_ rfl
  show S_stretches [some (.dat v), some (.dat w), some (.dat x), some (.dat y)] = _
  simp [S_stretches, fVar_succ, h0]
theorem gap_range_x (h0 : N_need_two [.dat v, .dat w, .dat x, .dat y] = .exc c [.dat v, .dat w, .dat x, .dat y]) : N_gap_range [.dat v, .dat w, .dat x, .dat y] = .exc c [.dat v, .dat w, .dat x, .dat y] := by
  refine run_exc (e := [some (.dat v), some (.dat w), some (.dat x), some (.dat y), none]) rfl ?_ rfl
  show S_gap_range [some (.dat v), some (.dat w), some (.dat x), some (.dat y), none] = _
  simp [S_gap_range, fVar_succ, h0]
theorem case_with_x (h0 : N_need_two [.dat v, .dat w, .dat x, .dat y] = .exc c [.dat v, .dat w, .dat x, .dat y]) : N_case_with [.dat v, .dat w, .dat x, .dat y, .dat z] = .exc c [.dat v, .dat w, .dat x, .dat y, .dat z] := by
  refine run_exc (e := [some (.dat v), some (.dat w), some (.dat x), some (.dat y), some (.dat z)]) rfl ?_ rfl
  show S_case_with [some (.dat v), some (.dat w), some (.dat x), some (.dat y), some (.dat z)] = _
  simp [S_case_with, fVar_succ, h0]
theorem alike_x (h0 : N_need_like [.dat v, .dat w] = .exc c [.dat v, .dat w]) : N_alike [.dat v, .dat w] = .exc c [.dat v, .dat w] := by
  refine run_exc (e := [some (.dat v), some (.dat w)]) rfl ?_ rfl
  show S_alike [some (.dat v), some (.dat w)] = _
  simp [S_alike, fVar_succ, h0]
theorem parting_x (h0 : N_need_like [.dat v, .dat w] = .exc c [.dat v, .dat w]) : N_parting [.dat v, .dat w] = .exc c [.dat v, .dat w] := by
  refine run_exc (e := [some (.dat v), some (.dat w)]) rfl ?_ rfl
  show S_parting [some (.dat v), some (.dat w)] = _
  simp [S_parting, fVar_succ, h0]
end
/-! ### what _law_error tells -/
section
variable {e : En} {i n : Nat} {g : Addr} {F : Fn} {fs : En → R (List Slot)} {ss ss' : List Slot} {c t : Str}
theorem callD_exc (hf : fs e = .ok ss e) (hn : ss.length = n) (hF : F ss = .exc c ss') : callD n F fs e = .exc c e := by
  rw [callD_ev, hf, R.bind_ok, if_pos hn, hF]
  rfl
theorem byD (hf : fs e = .ok ss e) (hn : ss.length = n) (hF : F ss = .exc c ss') (ht : nmS c = some t) : fLE nmS (callD n F fs) e = .ok (.str t) e := fLE_of (callD_exc hf hn hF) ht
theorem fCallX_of (hi : e[i]? = some (some (.raw (.ref g)))) : fCallX i g n F fs e = callD n F fs e := by
  unfold fCallX
  rw [hi]
  exact if_pos rfl
theorem byX (hi : e[i]? = some (some (.raw (.ref g)))) (hf : fs e = .ok ss e) (hn : ss.length = n) (hF : F ss = .exc c ss') (ht : nmS c = some t) : fLE nmS (fCallX i g n F fs) e = .ok (.str t) e := fLE_of ((fCallX_of hi).trans (callD_exc hf hn hF)) ht
theorem law_by_ev {sc : Option (Addr × List Int)} {a b : Dt} (hF : F [.dat a, .dat b] = .exc c [.dat a, .dat b]) (ht : nmS c = some t) : N_law_by sc g F [.raw (.ref g), .dat a, .dat b] = .ok (.str t) [.raw (.ref g), .dat a, .dat b] := by
  refine run_rt (e := [some (.raw (.ref g)), some (.dat a), some (.dat b)]) rfl ?_ rfl
  show S_law_by sc g F [some (.raw (.ref g)), some (.dat a), some (.dat b)] = _
  unfold S_law_by
  have e1 := byX (e := [some (.raw (.ref g)), some (.dat a), some (.dat b)]) (i := 0) (n := 2) (g := g) (F := F) (fs := aCons (fVar 1) (aCons (fVar 2) aNil)) (ss := [.dat a, .dat b]) rfl rfl rfl hF ht
  rw [sRet_ev, e1]
  rfl
theorem byL {sc : Option (Addr × List Int)} {a b : Dt} (hi : e[i]? = some (some (.raw (.ref g)))) (hf : fs e = .ok [.dat a, .dat b] e) (hF : F [.dat a, .dat b] = .exc c [.dat a, .dat b]) (ht : nmS c = some t) : callD 3 (N_law_by sc g F) (aAny i fs) e = .ok (.str t) e := by
  have e1 : aAny i fs e = .ok [.raw (.ref g), .dat a, .dat b] e := by
    unfold aAny
    rw [hi]
    show (fs e).bind _ = _
    rw [hf]
    rfl
  rw [callD_ev, e1, R.bind_ok, if_pos (show [Slot.raw (V.ref g), Slot.dat a, Slot.dat b].length = 3 from rfl), law_by_ev hF ht]
  rfl
/-- a loop over functions, every turn of which puts the same word behind a list -/
def lastF : List (Addr × (En → SO)) → Option Slot → Option Slot
  | [], o => o
  | (g, _) :: r, _ => lastF r (some (.raw (.ref g)))
theorem forF_app {j : Nat} {E : Nat → Option Slot → En} (hE : ∀ n o x, (E n o).set j x = E n x) : ∀ {l : List (Addr × (En → SO))} {n : Nat} {o : Option Slot}, (∀ p ∈ l, ∀ n, n ≤ 100 → p.2 (E n (some (.raw (.ref p.1)))) = .nx (E (n + 1) (some (.raw (.ref p.1))))) → n + l.length ≤ 100 → sForF j l (E n o) = .nx (E (n + l.length) (lastF l o))
  | [], n, o, _, _ => rfl
  | (g, f) :: r, n, o, h, hn => by
    have hn' : n + (r.length + 1) ≤ 100 := hn
    have h1 := h (g, f) List.mem_cons_self n (by omega)
    have h2 := forF_app (n := n + 1) (o := some (.raw (.ref g))) hE (fun p hp => h p (List.mem_cons_of_mem _ hp)) (by omega)
    show (match f ((E n o).set j (some (.raw (.ref g)))) with
      | .nx e2 => sForF j r e2
      | .ct e2 => sForF j r e2
      | .bk e2 => .nx e2
      | o => o) = _
    rw [hE, show f (E n (some (.raw (.ref g)))) = .nx (E (n + 1) (some (.raw (.ref g)))) from h1]
    show sForF j r (E (n + 1) (some (.raw (.ref g)))) = _
    rw [h2, List.length_cons, Nat.add_assoc, Nat.add_comm 1]
    rfl
theorem forF_to {j : Nat} {E : Nat → Option Slot → En} (m : Nat) (w : Option Slot) (hE : ∀ n o x, (E n o).set j x = E n x) {l : List (Addr × (En → SO))} {n : Nat} {o : Option Slot} (h : ∀ p ∈ l, ∀ n, n ≤ 100 → p.2 (E n (some (.raw (.ref p.1)))) = .nx (E (n + 1) (some (.raw (.ref p.1))))) (hl : n + l.length = m ∧ lastF l o = w) (hm : m ≤ 100) : sForF j l (E n o) = .nx (E m w) := by
  obtain ⟨rfl, rfl⟩ := hl
  exact forF_app hE h hm
end
end DL
namespace DL
open PySem L2
/-! ### law k15: the calls with a value that is no course -/
def cv : Dt := .str "course value"
def fv : Dt := .str "facts value"
def ccE (v : Dt) (n : Nat) (o : Option Slot) : En := [some (.dat v), some (.own true (List.replicate n cv)), o]
theorem ccE_set {v : Dt} (n : Nat) (o x : Option Slot) : (ccE v n o).set 2 x = ccE v n x := rfl
theorem rep_snoc {α : Type} (x : α) (n : Nat) : List.replicate n x ++ [x] = List.replicate (n + 1) x := by
  rw [List.replicate_succ']
theorem ccE_app {v : Dt} {n : Nat} (hn : n ≤ 1000) {o : Option Slot} {fa : En → R Dt} (h : fa (ccE v n o) = .ok cv (ccE v n o)) : sApp 1 fa (ccE v n o) = .nx (ccE v (n + 1) o) := by
  rw [sApp_of (i := 1) (e := ccE v n o) (b := true) rfl h rfl (by rw [List.length_replicate]; omega), rep_snoc]
  rfl
section
variable {sc : Option (Addr × List Int)} {ad : Nat → Addr} {v : Dt}
theorem law_course_calls_ev (nc : N_need_course [.dat v] = .exc "InvalidCourse" [.dat v]) : N_law_course_calls sc ad [.dat v] = .ok (.list (List.replicate 18 cv)) [.dat v] := by
  have al : ∀ {w x : Dt}, N_need_all [.dat v, .dat w, .dat x] = .exc "InvalidCourse" [.dat v, .dat w, .dat x] := need_all_xc nc
  have tw : ∀ {w x y : Dt}, N_need_two [.dat v, .dat w, .dat x, .dat y] = .exc "InvalidCourse" [.dat v, .dat w, .dat x, .dat y] := need_two_xc nc
  have li : ∀ {w : Dt}, N_need_like [.dat v, .dat w] = .exc "InvalidCourse" [.dat v, .dat w] := need_like_xc nc
  have h0 : fLE nmS (callD 1 N_course_text (aCons (fVar 0) aNil)) [some (.dat v), none, none] = .ok cv [some (.dat v), none, none] := byD (ss := [.dat v]) rfl rfl (course_text_xc nc) nm_course
  have e0 : sOwn 1 (fCons (fLE nmS (callD 1 N_course_text (aCons (fVar 0) aNil))) fNil) [some (.dat v), none, none] = .nx (ccE v 1 none) := by
    rw [sOwn_of (e := [some (.dat v), none, none]) (e1 := [some (.dat v), none, none]) (ds := [cv]) (by rw [fCons_ev, h0]; rfl) (by decide)]
    rfl
  have bL : ∀ {F : Fn} {n g}, n ≤ 100 → F [.dat v, .dat .none] = .exc "InvalidCourse" [.dat v, .dat .none] → sApp 1 (callD 3 (N_law_by sc g F) (aAny 2 (aCons (fVar 0) (aCons (fC .none) aNil)))) (ccE v n (some (.raw (.ref g)))) = .nx (ccE v (n + 1) (some (.raw (.ref g)))) := fun hn hF => ccE_app (by omega) (byL rfl rfl hF nm_course)
  have b3 : ∀ {F : Fn} {n g}, n ≤ 100 → F [.dat v, .dat .none, .dat .none] = .exc "InvalidCourse" [.dat v, .dat .none, .dat .none] → sApp 1 (fLE nmS (fCallX 2 g 3 F (aCons (fVar 0) (aCons (fC .none) (aCons (fC .none) aNil))))) (ccE v n (some (.raw (.ref g)))) = .nx (ccE v (n + 1) (some (.raw (.ref g)))) := fun hn hF => ccE_app (by omega) (byX rfl rfl rfl hF nm_course)
  have b4 : ∀ {F : Fn} {n g}, n ≤ 100 → F [.dat v, .dat .none, .dat .none, .dat .none] = .exc "InvalidCourse" [.dat v, .dat .none, .dat .none, .dat .none] → sApp 1 (fLE nmS (fCallX 2 g 4 F (aCons (fVar 0) (aCons (fC .none) (aCons (fC .none) (aCons (fC .none) aNil)))))) (ccE v n (some (.raw (.ref g)))) = .nx (ccE v (n + 1) (some (.raw (.ref g)))) := fun hn hF => ccE_app (by omega) (byX rfl rfl rfl hF nm_course)
  refine run_rt (e := [some (.dat v), some (.dat (.list (List.replicate 17 cv))), some (.raw (.ref (ad 15)))]) rfl ?_ rfl
  show S_law_course_calls sc ad [some (.dat v), none, none] = _
  unfold S_law_course_calls
  rw [sSeq_ev, e0, seq_nx, sSeq_ev]
  have c1 := fun {F : Fn} {g : Addr} (h : F [.dat v, .dat .none] = .exc "InvalidCourse" [.dat v, .dat .none]) (n : Nat) (hn : n ≤ 100) => bL (n := n) (g := g) hn h
  have c3 := fun {F : Fn} {g : Addr} (h : F [.dat v, .dat .none, .dat .none] = .exc "InvalidCourse" [.dat v, .dat .none, .dat .none]) (n : Nat) (hn : n ≤ 100) => b3 (n := n) (g := g) hn h
  have c4 := fun {F : Fn} {g : Addr} (h : F [.dat v, .dat .none, .dat .none, .dat .none] = .exc "InvalidCourse" [.dat v, .dat .none, .dat .none, .dat .none]) (n : Nat) (hn : n ≤ 100) => b4 (n := n) (g := g) hn h
  rw [forF_to (j := 2) (E := ccE v) 8 (some (.raw (.ref (ad 6)))) ccE_set ?h0 ?l0 (by decide), seq_nx, sSeq_ev]
  rw [forF_to (j := 2) (E := ccE v) 14 (some (.raw (.ref (ad 12)))) ccE_set ?h1 ?l1 (by decide), seq_nx, sSeq_ev]
  rw [forF_to (j := 2) (E := ccE v) 17 (some (.raw (.ref (ad 15)))) ccE_set ?h2 ?l2 (by decide), seq_nx]
  have h5 : fLE nmS (callD 5 N_case_with (aCons (fVar 0) (aCons (fC .none) (aCons (fC .none) (aCons (fC .none) (aCons (fC .none) aNil)))))) [some (.dat v), some (.dat (.list (List.replicate 17 cv))), some (.raw (.ref (ad 15)))] = .ok cv [some (.dat v), some (.dat (.list (List.replicate 17 cv))), some (.raw (.ref (ad 15)))] := byD (ss := [.dat v, .dat .none, .dat .none, .dat .none, .dat .none]) rfl rfl (case_with_x tw) nm_course
  rw [sRet_ev, f2_ev, show fVar 1 (ccE v 17 (some (.raw (.ref (ad 15))))) = .ok (.list (List.replicate 17 cv)) [some (.dat v), some (.dat (.list (List.replicate 17 cv))), some (.raw (.ref (ad 15)))] from rfl, R.bind_ok, fA_ev, fCons_ev, h5]
  rfl
  case h0 => exact (List.forall_mem_cons.mpr ⟨c1 (are_given_xc nc), List.forall_mem_cons.mpr ⟨c1 (are_facts_xc nc), List.forall_mem_cons.mpr ⟨c1 (case_for_xc nc), List.forall_mem_cons.mpr ⟨c1 (needless_facts_xc nc), List.forall_mem_cons.mpr ⟨c1 (quarrels_xc nc), List.forall_mem_cons.mpr ⟨c1 (alike_x li), List.forall_mem_cons.mpr ⟨c1 (parting_x li), fun _ z => nomatch z⟩⟩⟩⟩⟩⟩⟩)
  case l0 => exact ⟨rfl, rfl⟩
  case h1 => exact (List.forall_mem_cons.mpr ⟨c3 (numbers_xc nc), List.forall_mem_cons.mpr ⟨c3 (is_case_xc nc), List.forall_mem_cons.mpr ⟨c3 (follows_x al), List.forall_mem_cons.mpr ⟨c3 (breaking_x al), List.forall_mem_cons.mpr ⟨c3 (paper_for_x al), List.forall_mem_cons.mpr ⟨c3 (least_lots_x al), fun _ z => nomatch z⟩⟩⟩⟩⟩⟩)
  case l1 => exact ⟨rfl, rfl⟩
  case h2 => exact (List.forall_mem_cons.mpr ⟨c4 (is_paper_x al), List.forall_mem_cons.mpr ⟨c4 (stretches_x tw), List.forall_mem_cons.mpr ⟨c4 (gap_range_x tw), fun _ z => nomatch z⟩⟩⟩)
  case l2 => exact ⟨rfl, rfl⟩
end
def fcE (C v : Dt) (n : Nat) (o : Option Slot) : En := [some (.dat C), some (.dat v), some (.own true (List.replicate n fv)), o]
theorem fcE_set {C v : Dt} (n : Nat) (o x : Option Slot) : (fcE C v n o).set 3 x = fcE C v n x := rfl
theorem fcE_app {C v : Dt} {n : Nat} (hn : n ≤ 1000) {o : Option Slot} {fa : En → R Dt} (h : fa (fcE C v n o) = .ok fv (fcE C v n o)) : sApp 2 fa (fcE C v n o) = .nx (fcE C v (n + 1) o) := by
  rw [sApp_of (i := 2) (e := fcE C v n o) (b := true) rfl h rfl (by rw [List.length_replicate]; omega), rep_snoc]
  rfl
section
variable {sc : Option (Addr × List Int)} {ad : Nat → Addr} {C v : Dt}
theorem law_facts_calls_ev (nc : N_need_course [.dat C] = .ok .none [.dat C]) (nf : N_need_facts [.dat C, .dat v] = .exc "InvalidFacts" [.dat C, .dat v]) : N_law_facts_calls sc ad [.dat C, .dat v] = .ok (.list (List.replicate 12 fv)) [.dat C, .dat v] := by
  have al : ∀ {x : Dt}, N_need_all [.dat C, .dat v, .dat x] = .exc "InvalidFacts" [.dat C, .dat v, .dat x] := need_all_xf nc nf
  have tw : ∀ {x y : Dt}, N_need_two [.dat C, .dat v, .dat x, .dat y] = .exc "InvalidFacts" [.dat C, .dat v, .dat x, .dat y] := need_two_xf nc nf
  have c1 : ∀ {F : Fn} {g}, F [.dat C, .dat v] = .exc "InvalidFacts" [.dat C, .dat v] → ∀ n, n ≤ 100 → sApp 2 (callD 3 (N_law_by sc g F) (aAny 3 (aCons (fVar 0) (aCons (fVar 1) aNil)))) (fcE C v n (some (.raw (.ref g)))) = .nx (fcE C v (n + 1) (some (.raw (.ref g)))) := fun hF n hn => fcE_app (by omega) (byL rfl rfl hF nm_facts)
  have c3 : ∀ {F : Fn} {g}, F [.dat C, .dat v, .dat .none] = .exc "InvalidFacts" [.dat C, .dat v, .dat .none] → ∀ n, n ≤ 100 → sApp 2 (fLE nmS (fCallX 3 g 3 F (aCons (fVar 0) (aCons (fVar 1) (aCons (fC .none) aNil))))) (fcE C v n (some (.raw (.ref g)))) = .nx (fcE C v (n + 1) (some (.raw (.ref g)))) := fun hF n hn => fcE_app (by omega) (byX rfl rfl rfl hF nm_facts)
  have c4 : ∀ {F : Fn} {g}, F [.dat C, .dat v, .dat .none, .dat .none] = .exc "InvalidFacts" [.dat C, .dat v, .dat .none, .dat .none] → ∀ n, n ≤ 100 → sApp 2 (fLE nmS (fCallX 3 g 4 F (aCons (fVar 0) (aCons (fVar 1) (aCons (fC .none) (aCons (fC .none) aNil)))))) (fcE C v n (some (.raw (.ref g)))) = .nx (fcE C v (n + 1) (some (.raw (.ref g)))) := fun hF n hn => fcE_app (by omega) (byX rfl rfl rfl hF nm_facts)
  refine run_rt (e := [some (.dat C), some (.dat v), some (.dat (.list (List.replicate 11 fv))), some (.raw (.ref (ad 15)))]) rfl ?_ rfl
  show S_law_facts_calls sc ad [some (.dat C), some (.dat v), none, none] = _
  unfold S_law_facts_calls
  rw [sSeq_ev, show sOwn 2 fNil [some (.dat C), some (.dat v), none, none] = .nx (fcE C v 0 none) from rfl, seq_nx, sSeq_ev]
  rw [forF_to (j := 3) (E := fcE C v) 3 (some (.raw (.ref (ad 4)))) fcE_set ?h0 ?l0 (by decide), seq_nx, sSeq_ev]
  rw [forF_to (j := 3) (E := fcE C v) 8 (some (.raw (.ref (ad 12)))) fcE_set ?h1 ?l1 (by decide), seq_nx, sSeq_ev]
  rw [forF_to (j := 3) (E := fcE C v) 11 (some (.raw (.ref (ad 15)))) fcE_set ?h2 ?l2 (by decide), seq_nx]
  have h5 : fLE nmS (callD 5 N_case_with (aCons (fVar 0) (aCons (fVar 1) (aCons (fC .none) (aCons (fC .none) (aCons (fC .none) aNil)))))) [some (.dat C), some (.dat v), some (.dat (.list (List.replicate 11 fv))), some (.raw (.ref (ad 15)))] = .ok fv [some (.dat C), some (.dat v), some (.dat (.list (List.replicate 11 fv))), some (.raw (.ref (ad 15)))] := byD (ss := [.dat C, .dat v, .dat .none, .dat .none, .dat .none]) rfl rfl (case_with_x tw) nm_facts
  rw [sRet_ev, f2_ev, show fVar 2 (fcE C v 11 (some (.raw (.ref (ad 15))))) = .ok (.list (List.replicate 11 fv)) [some (.dat C), some (.dat v), some (.dat (.list (List.replicate 11 fv))), some (.raw (.ref (ad 15)))] from rfl, R.bind_ok, fA_ev, fCons_ev, h5]
  rfl
  case h0 => exact (List.forall_mem_cons.mpr ⟨c1 (case_for_xf nc nf), List.forall_mem_cons.mpr ⟨c1 (needless_facts_xf nc nf), List.forall_mem_cons.mpr ⟨c1 (quarrels_xf nc nf), fun _ z => nomatch z⟩⟩⟩)
  case l0 => exact ⟨rfl, rfl⟩
  case h1 => exact (List.forall_mem_cons.mpr ⟨c3 (is_case_xf nc nf), List.forall_mem_cons.mpr ⟨c3 (follows_x al), List.forall_mem_cons.mpr ⟨c3 (breaking_x al), List.forall_mem_cons.mpr ⟨c3 (paper_for_x al), List.forall_mem_cons.mpr ⟨c3 (least_lots_x al), fun _ z => nomatch z⟩⟩⟩⟩⟩)
  case l1 => exact ⟨rfl, rfl⟩
  case h2 => exact (List.forall_mem_cons.mpr ⟨c4 (is_paper_x al), List.forall_mem_cons.mpr ⟨c4 (stretches_x tw), List.forall_mem_cons.mpr ⟨c4 (gap_range_x tw), fun _ z => nomatch z⟩⟩⟩)
  case l2 => exact ⟨rfl, rfl⟩
end
/-! ### what is told apart -/
theorem fLc_frz {fi : En → R (List Dt)} {g : Dt → En → Option En} {ft : En → R Bool} {fe : En → R Dt} {l : List Nat} {ds : List Dt} {e e1 : En} (h1 : fi e = .ok ds e1) (h2 : fi e1 = .ok ds e1) : fLc fi g ft fe l e = fLc fi g ft fe l e1 := by
  unfold fLc
  rw [h1, h2]
theorem flt_ev {fi : En → R (List Dt)} {e : En} {n : Nat} {w : Str} (hw : PyData.strOk w = true) (hfi : fi e = .ok (List.replicate n (.str w)) e) (hj : e[10]? = some none) (hn : n ≤ 100) : fLc fi (gN 10) (fB (f2 neD (fVar 10) (fC (.str w)))) (fVar 10) [10] e = .ok (.list []) e := by
  have h := fLc_id (o := none) (fi := fi) (ft := fB (f2 neD (fVar 10) (fC (.str w)))) (fe := fVar 10) (G := fun _ => none) hj (fun _ _ z => nomatch z) hfi (by rw [List.length_replicate]; omega) fun d hd => by
    obtain rfl := List.eq_of_mem_replicate hd
    refine .inl ⟨?_, rfl⟩
    rw [fB_ev, f2_ev, in_var hj, R.bind_ok, fC_ev, R.bind_ok, neD_str hw]
    rfl
  rw [h, show (List.replicate n (PyData.str w)).filterMap (fun _ => (none : Option Dt)) = [] from by simp]
def E15 (s k : Option Slot) (v : Int × Int) (C F od : Dt) (x f cl : Option Slot) : En := [s, k, some (.own true (vs v)), some (.dat C), some (.dat F), some (.dat od), x, f, cl, none, none]
theorem ok_cv : PyData.strOk "course value" = true := by decide +kernel
theorem ok_fv : PyData.strOk "facts value" = true := by decide +kernel
theorem ok_iv : PyData.strOk "index value" = true := by decide +kernel
section
variable {sc : Option (Addr × List Int)} {ad : Nat → Addr} {s k : Option Slot} {v : Int × Int} {C F od x : Dt} {f cl : Option Slot}
theorem k15_b3 {n : Nat} (hn : n ≤ 100) : k15_1b4b3 (E15 s k v C F od (some (.dat x)) (some (.dat (.list (List.replicate n cv)))) cl) = .nx (E15 s k v C F od (some (.dat x)) (some (.dat (.list (List.replicate n cv)))) cl) := by
  unfold k15_1b4b3
  have h := flt_ev (fi := fSeq (fVar 7)) (e := E15 s k v C F od (some (.dat x)) (some (.dat (.list (List.replicate n cv)))) cl) (w := "course value") (n := n) ok_cv rfl rfl hn
  rw [sIf_ev, fB_ev, f2_ev, h, R.bind_ok]
  rfl
theorem k15_odd (hx : fitN 61 x = true) : ∃ f', k15_1b4b sc ad (E15 s k v C F od (some (.dat x)) f cl) = .nx (E15 s k v C F od (some (.dat x)) f' cl) := by
  have e1 := law_is_course_ev x hx
  have t1 : ∀ {f1}, (gNot (fB (callD 1 N_law_is_course (aCons (fVar 6) aNil)))) (E15 s k v C F od (some (.dat x)) f1 cl) = .ok (!isCourse x) (E15 s k v C F od (some (.dat x)) f1 cl) := by
    intro f1
    rw [gNot_ev, fB_ev, callD_ev, aCons_ev, show fVar 6 (E15 s k v C F od (some (.dat x)) f1 cl) = .ok x (E15 s k v C F od (some (.dat x)) f1 cl) from rfl, R.bind_ok, aNil_ev, R.bind_ok, R.bind_ok, if_pos (show [Slot.dat x].length = 1 from rfl), e1, ofFO_ok, R.bind_ok, asB_bool, R.bind_ok]
  unfold k15_1b4b
  rw [sSeq_ev, show k15_1b4b1 (E15 s k v C F od (some (.dat x)) f cl) = .nx (E15 s k v C F od (some (.dat x)) (some (.own true [])) cl) from rfl, seq_nx, sSeq_ev]
  unfold k15_1b4b2
  rw [sIf_ev, t1, RS_ok]
  cases q : isCourse x with
  | true =>
    refine ⟨some (.dat (.list (List.replicate 0 cv))), ?_⟩
    rw [if_neg (by simp), sNx_ev, seq_nx, ← k15_b3 (n := 0) (by decide)]
    unfold k15_1b4b3
    rw [sIf_ev, sIf_ev, fB_ev, fB_ev, f2_ev, f2_ev, fLc_frz (fi := fSeq (fVar 7)) (e := E15 s k v C F od (some (.dat x)) (some (.own true [])) cl) (ds := []) (e1 := E15 s k v C F od (some (.dat x)) (some (.dat (.list (List.replicate 0 cv)))) cl) rfl rfl]
  | false =>
    refine ⟨some (.dat (.list (List.replicate 18 cv))), ?_⟩
    have e2 := law_course_calls_ev (sc := sc) (ad := ad) (need_course_no hx q)
    rw [if_pos (by simp), sAsg_ev, callD_ev, aCons_ev, show fVar 6 (E15 s k v C F od (some (.dat x)) (some (.own true [])) cl) = .ok x (E15 s k v C F od (some (.dat x)) (some (.own true [])) cl) from rfl, R.bind_ok, aNil_ev, R.bind_ok, R.bind_ok, if_pos (show [Slot.dat x].length = 1 from rfl), e2, ofFO_ok, RS_ok, gN_ev]
    show (match SO.nx (E15 s k v C F od (some (.dat x)) (some (.dat (.list (List.replicate 18 cv)))) cl) with | _ => _) = _
    exact k15_b3 (by decide)
theorem k15_odds : ∀ (ds : List Dt) (x f : Option Slot), (∀ d ∈ ds, fitN 61 d = true) → ∃ x' f', loopS (gN 6) (k15_1b4b sc ad) ds (E15 s k v C F od x f cl) = .nx (E15 s k v C F od x' f' cl)
  | [], x, f, _ => ⟨x, f, rfl⟩
  | d :: ds, x, f, h => by
    obtain ⟨f1, h1⟩ := k15_odd (sc := sc) (ad := ad) (s := s) (k := k) (v := v) (C := C) (F := F) (od := od) (f := f) (cl := cl) (h d (by simp))
    obtain ⟨x2, f2, h2⟩ := k15_odds ds (some (.dat d)) f1 fun y hy => h y (by simp [hy])
    exact ⟨x2, f2, by rw [loopS_nx (e1 := E15 s k v C F od (some (.dat d)) f cl) rfl h1]; exact h2⟩
theorem k15_fact {x : Dt} (nc : N_need_course [.dat C] = .ok .none [.dat C]) (nf : N_need_facts [.dat C, .dat x] = .exc "InvalidFacts" [.dat C, .dat x]) : k15_1b5b sc ad (E15 s k v C F od (some (.dat x)) f cl) = .nx (E15 s k v C F od (some (.dat x)) f cl) := by
  have e1 := law_facts_calls_ev (sc := sc) (ad := ad) nc nf
  have hfi : fSeq (callD 2 (N_law_facts_calls sc ad) (aCons (fVar 3) (aCons (fVar 6) aNil))) (E15 s k v C F od (some (.dat x)) f cl) = .ok (List.replicate 12 fv) (E15 s k v C F od (some (.dat x)) f cl) := by
    rw [fSeq_ev, callD_ev, aCons_ev, show fVar 3 (E15 s k v C F od (some (.dat x)) f cl) = .ok C (E15 s k v C F od (some (.dat x)) f cl) from rfl, R.bind_ok, aCons_ev, show fVar 6 (E15 s k v C F od (some (.dat x)) f cl) = .ok x (E15 s k v C F od (some (.dat x)) f cl) from rfl, R.bind_ok, aNil_ev, R.bind_ok, R.bind_ok, R.bind_ok, if_pos (show [Slot.dat C, Slot.dat x].length = 2 from rfl), e1, ofFO_ok, R.bind_ok]
    rfl
  have h := flt_ev (fi := fSeq (callD 2 (N_law_facts_calls sc ad) (aCons (fVar 3) (aCons (fVar 6) aNil)))) (e := E15 s k v C F od (some (.dat x)) f cl) (w := "facts value") (n := 12) ok_fv hfi rfl (by decide)
  unfold k15_1b5b
  rw [sIf_ev, fB_ev, f2_ev, h, R.bind_ok]
  rfl
theorem k15_facts (nc : N_need_course [.dat C] = .ok .none [.dat C]) : ∀ (ds : List Dt) (x : Option Slot), (∀ d ∈ ds, N_need_facts [.dat C, .dat d] = .exc "InvalidFacts" [.dat C, .dat d]) → ∃ x', loopS (gN 6) (k15_1b5b sc ad) ds (E15 s k v C F od x f cl) = .nx (E15 s k v C F od x' f cl)
  | [], x, _ => ⟨x, rfl⟩
  | d :: ds, x, h => by
    have h1 := k15_fact (sc := sc) (ad := ad) (s := s) (k := k) (v := v) (C := C) (F := F) (od := od) (f := f) (cl := cl) nc (h d (by simp))
    obtain ⟨x2, h2⟩ := k15_facts nc ds (some (.dat d)) fun y hy => h y (by simp [hy])
    exact ⟨x2, by rw [loopS_nx (e1 := E15 s k v C F od (some (.dat d)) f cl) rfl h1]; exact h2⟩
/-! the claims -/
theorem k15_claims {x : Option Slot} (al : N_need_all [.dat C, .dat F, .dat F] = .exc "InvalidFacts" [.dat C, .dat F, .dat F]) : ∃ cl', k15_1b6 ad (E15 s k v C F od x f cl) = .nx (E15 s k v C F od x f cl') := by
  have t : ∀ {G : Fn} {g : Addr}, G [.dat C, .dat F, .dat F] = .exc "InvalidFacts" [.dat C, .dat F, .dat F] → ∀ n, n ≤ 100 → (sIf (fB (f2 neD (fLE nmS (fCallX 8 g 3 G (aCons (fVar 3) (aCons (fVar 4) (aCons (fVar 4) aNil))))) (fC (.str "facts value")))) (sRet (fC (.bool false))) sNx) (E15 s k v C F od x f (some (.raw (.ref g)))) = .nx (E15 s k v C F od x f (some (.raw (.ref g)))) := fun {G g} hG n _ => by
    have h := byX (e := E15 s k v C F od x f (some (.raw (.ref g)))) (i := 8) (n := 3) (g := g) (F := G) (fs := aCons (fVar 3) (aCons (fVar 4) (aCons (fVar 4) aNil))) (ss := [.dat C, .dat F, .dat F]) rfl rfl rfl hG nm_facts
    rw [sIf_ev, fB_ev, f2_ev, h, R.bind_ok, fC_ev, R.bind_ok, neD_str ok_fv]
    rfl
  refine ⟨some (.raw (.ref (ad 12))), ?_⟩
  unfold k15_1b6
  exact forF_to (j := 8) (E := fun _ o => E15 s k v C F od x f o) (n := 0) 4 (some (.raw (.ref (ad 12)))) (fun _ _ _ => rfl) (List.forall_mem_cons.mpr ⟨t (follows_x al), List.forall_mem_cons.mpr ⟨t (breaking_x al), List.forall_mem_cons.mpr ⟨t (paper_for_x al), List.forall_mem_cons.mpr ⟨t (least_lots_x al), fun _ z => nomatch z⟩⟩⟩⟩) ⟨rfl, rfl⟩ (by decide)
end
/-! indices -/
theorem need_indices_a {xs : List Dt} {a b : Dt} (h : isW 0 ((xs.length : Int) - 1) a = false) : N_need_indices [.dat (.tuple xs), .dat a, .dat b] = .exc "InvalidIndex" [.dat (.tuple xs), .dat a, .dat b] := by
  refine run_exc (e := [some (.dat (.tuple xs)), some (.dat a), some (.dat b), some (.dat a)]) rfl ?_ rfl
  show S_need_indices [some (.dat (.tuple xs)), some (.dat a), some (.dat b), none] = _
  have e1 := is_whole_ev a 0 ((xs.length : Int) - 1)
  have g2 : ∀ {p q : Dt}, gTup [p, q] = some (.tuple [p, q]) := rfl
  have sq : ∀ {xs : List Dt} {e : En}, asSeq (.tuple xs) e = .ok xs e := rfl
  simp [S_need_indices, fVar_succ, loopS, g2, sq, e1, h]
theorem need_indices_b {xs : List Dt} {a b : Dt} (h : isW 0 ((xs.length : Int) - 1) a = true) (h2 : isW 0 ((xs.length : Int) - 1) b = false) : N_need_indices [.dat (.tuple xs), .dat a, .dat b] = .exc "InvalidIndex" [.dat (.tuple xs), .dat a, .dat b] := by
  refine run_exc (e := [some (.dat (.tuple xs)), some (.dat a), some (.dat b), some (.dat b)]) rfl ?_ rfl
  show S_need_indices [some (.dat (.tuple xs)), some (.dat a), some (.dat b), none] = _
  have e1 := is_whole_ev a 0 ((xs.length : Int) - 1)
  have e2 := is_whole_ev b 0 ((xs.length : Int) - 1)
  have g2 : ∀ {p q : Dt}, gTup [p, q] = some (.tuple [p, q]) := rfl
  have sq : ∀ {xs : List Dt} {e : En}, asSeq (.tuple xs) e = .ok xs e := rfl
  simp [S_need_indices, fVar_succ, loopS, g2, sq, e1, h, e2, h2]
theorem need_indices_c {xs : List Dt} (h : isW 0 ((xs.length : Int) - 1) (.int 0) = true) : N_need_indices [.dat (.tuple xs), .dat (.int 0), .dat (.int 0)] = .exc "InvalidIndex" [.dat (.tuple xs), .dat (.int 0), .dat (.int 0)] := by
  refine run_exc (e := [some (.dat (.tuple xs)), some (.dat (.int 0)), some (.dat (.int 0)), some (.dat (.int 0))]) rfl ?_ rfl
  show S_need_indices [some (.dat (.tuple xs)), some (.dat (.int 0)), some (.dat (.int 0)), none] = _
  have e1 := is_whole_ev (.int 0) 0 ((xs.length : Int) - 1)
  have g2 : ∀ {p q : Dt}, gTup [p, q] = some (.tuple [p, q]) := rfl
  have sq : ∀ {xs : List Dt} {e : En}, asSeq (.tuple xs) e = .ok xs e := rfl
  simp [S_need_indices, fVar_succ, loopS, g2, sq, e1, h]
/-! the end -/
def isL15 : SO → Bool
  | .rt (.bool true) (_ :: _) => true
  | _ => false
def twoD : Dt := .tuple [.tuple [.str "any"], .tuple [.str "any"]]
def oneD : Dt := .tuple [.tuple [.str "any"]]
def exUn (F : Fn) (a b : Dt) : Bool := match F [.dat a, .dat b] with
  | .exc c [.dat x, .dat y] => c == "Unlike"
  | _ => false
theorem like_a : N_need_like [.dat twoD, .dat oneD] = .exc "Unlike" [.dat twoD, .dat oneD] := by kernel_rfl
theorem like_b : N_need_like [.dat oneD, .dat twoD] = .exc "Unlike" [.dat oneD, .dat twoD] := by kernel_rfl
theorem k15_tail {sc : Option (Addr × List Int)} {ad : Nat → Addr} (o0 o1 o2 o3 o4 o5 o6 o7 o8 o9 o10 : Option Slot) : ∃ o e, (sSeq k15_2 (k15_3 sc ad)) [o0, o1, o2, o3, o4, o5, o6, o7, o8, o9, o10] = .rt (.bool true) (o :: e) := by
  refine ⟨o0, [o1, o2, o3, o4, o5, o6, o7, o8, some (.dat twoD), o10], ?_⟩
  rw [sSeq_ev, show k15_2 [o0, o1, o2, o3, o4, o5, o6, o7, o8, o9, o10] = .nx [o0, o1, o2, o3, o4, o5, o6, o7, o8, some (.dat twoD), o10] from rfl, seq_nx]
  have ok_u : PyData.strOk "unlike value" = true := by decide +kernel
  have eu : eqD (.str "unlike value") (.str "unlike value") = some (.bool true) := by rw [eqD_str ok_u ok_u]; simp
  have lb : ∀ {F : Fn} {g : Addr} {a b : Dt} {fs : En → R (List Slot)} {e : En}, fs e = .ok [.dat a, .dat b] e → F [.dat a, .dat b] = .exc "Unlike" [.dat a, .dat b] → callD 3 (N_law_by sc g F) (aVal (V.ref g) fs) e = .ok (.str "unlike value") e := fun {F g a b fs e} hf hF => by
    have e1 : aVal (V.ref g) fs e = .ok [.raw (.ref g), .dat a, .dat b] e := by
      unfold aVal
      rw [hf]
      rfl
    rw [callD_ev, e1, R.bind_ok, if_pos (show [Slot.raw (V.ref g), Slot.dat a, Slot.dat b].length = 3 from rfl), law_by_ev hF nm_unlike]
    rfl
  have l1 := lb (F := N_alike) (g := ad 5) (fs := aCons (fVar 9) (aCons (fSl (fVar 9) fNo (fPart (fC (.int 1)))) aNil)) (e := [o0, o1, o2, o3, o4, o5, o6, o7, o8, some (.dat twoD), o10]) (a := twoD) (b := oneD) rfl (alike_x like_a)
  have l2 := lb (F := N_parting) (g := ad 6) (fs := aCons (fSl (fVar 9) fNo (fPart (fC (.int 1)))) (aCons (fVar 9) aNil)) (e := [o0, o1, o2, o3, o4, o5, o6, o7, o8, some (.dat twoD), o10]) (a := oneD) (b := twoD) rfl (parting_x like_b)
  unfold k15_3
  rw [sRet_ev, fAnd_ev, f2_ev, l1, R.bind_ok, fC_ev, R.bind_ok, eu]
  simp only [ret1_some, R.bind_ok]
  rw [f2_ev, l2, R.bind_ok, fC_ev, R.bind_ok, eu]
  rfl
/-! a turn -/
def F15 : Dt := .tuple [.tuple [.int 0, .int 1, .int 0]]
def iv : Dt := .str "index value"
theorem f15_ok {n : Nat} (h : 2 ≤ n) : isFacts n F15 = true := by
  have h1 : isW 0 ((n : Int) - 1) (.int 0) = true := isW_of ⟨by omega, by omega⟩
  have h2 : isW 0 ((n : Int) - 1) (.int 1) = true := isW_of ⟨by omega, by omega⟩
  have h3 : isW (-50) 50 (.int 0) = true := isW_of ⟨by omega, by omega⟩
  have h4 : PyData.eqv (.int 0) (.int 1) = false := by decide +kernel
  simp [isFacts, F15, isFact, h1, h2, h3, h4]
theorem same0 {n : Nat} : isFact n (.tuple [.int 0, .int 0, .int 0]) = false := by
  have h4 : PyData.eqv (.int 0) (.int 0) = true := by decide +kernel
  simp [isFact, h4]
theorem need_fact_no {C : List Dt} {v : Dt} (hv : fitN 60 v = true) (h : isFact C.length v = false) : N_need_fact [.dat (.tuple C), .dat v] = .exc "InvalidFacts" [.dat (.tuple C), .dat v] := by
  refine run_exc (e := [some (.dat (.tuple C)), some (.dat v)]) rfl ?_ rfl
  show S_need_fact [some (.dat (.tuple C)), some (.dat v)] = _
  have e1 := is_fact_ev (C := C) v hv
  simp [S_need_fact, fVar_succ, e1, h]
theorem k15_turn {sc : Option (Addr × List Int)} {ad : Nat → Addr} {s : Slot} {ns : List Int} (h : Scr sc s ns) (k : Nat) (o2 o3 o4 o5 o6 o7 o8 : Option Slot) : ∃ p2 p3 p4 p5 p6 p7 p8, k15_1b sc ad [some s, some (.dat (.int (k : Int))), o2, o3, o4, o5, o6, o7, o8, none, none] = .nx [some s, some (.dat (.int (k : Int))), p2, p3, p4, p5, p6, p7, p8, none, none] := by
  obtain ⟨v, hv, h1⟩ := law_vat_ev h k
  have a1 : k15_1b1 sc [some s, some (.dat (.int (k : Int))), o2, o3, o4, o5, o6, o7, o8, none, none] = .nx [some s, some (.dat (.int (k : Int))), some (.own true (vs v)), o3, o4, o5, o6, o7, o8, none, none] := by
    unfold k15_1b1 sVat
    have e : aAny 0 (aCons (fVar 1) aNil) [some s, some (.dat (.int (k : Int))), o2, o3, o4, o5, o6, o7, o8, none, none] = .ok [s, .dat (.int (k : Int))] [some s, some (.dat (.int (k : Int))), o2, o3, o4, o5, o6, o7, o8, none, none] := by
      rcases h with rfl | ⟨a, _, rfl⟩ <;> rfl
    rw [e, RS_ok, h1]
    rfl
  obtain ⟨d2, w2, hw2, ⟨c, rfl, hd⟩, h2⟩ := drawI (law_course_ev 5 (by decide) (by decide)) (n := 2) rfl (i := 2) (fr := aCons (fC (.int 5)) aNil) (e := [some s, some (.dat (.int (k : Int))), some (.own true (vs v)), o3, o4, o5, o6, o7, o8, none, none]) rfl hv (by simp)
  have hc := hd.toCrs
  have l8 := hc.l8
  have l2 := hd.two
  have a2 : k15_1b2 [some s, some (.dat (.int (k : Int))), some (.own true (vs v)), o3, o4, o5, o6, o7, o8, none, none] = .nx [some s, some (.dat (.int (k : Int))), some (.own true (vs w2)), some (.dat (courseD c)), some (.dat F15), o5, o6, o7, o8, none, none] := by
    unfold k15_1b2
    rw [sAsg_ev, fA_ev, fCons_ev, h2]
    rfl
  have hs : sliceD (courseD c) (some 1) none = some (.tuple ((c.map Stp.d).drop 1)) := slice_from (xs := c.map Stp.d) (i := 1) (by simp; omega)
  have ha : addD (.tuple ((c.map Stp.d).drop 1)) (.tuple [(Stp.put 8).d]) = some (.tuple ((c.map Stp.d).drop 1 ++ [(Stp.put 8).d])) := addD_tuple (by simp; omega)
  have fs : ∀ st : Stp, fitN 60 st.d = true := fun st => fitN_mono (fit_d st) (by decide)
  have fall : (c.map Stp.d).all (fitN 60) = true := by
    rw [List.all_eq_true]
    intro x hx
    obtain ⟨y, _, rfl⟩ := List.mem_map.mp hx
    exact fs y
  have a3 : k15_1b3 [some s, some (.dat (.int (k : Int))), some (.own true (vs w2)), some (.dat (courseD c)), some (.dat F15), o5, o6, o7, o8, none, none] = .nx (E15 (some s) (some (.dat (.int (k : Int)))) w2 (courseD c) F15 (.list [.none, .list (c.map Stp.d), .tuple ((c.map Stp.d).drop 1 ++ [(Stp.put 8).d]), .tuple [courseD c], .tuple [], .int 7]) o6 o7 o8) := by
    have v3 : fVar 3 [some s, some (.dat (.int (k : Int))), some (.own true (vs w2)), some (.dat (courseD c)), some (.dat F15), o5, o6, o7, o8, none, none] = .ok (courseD c) [some s, some (.dat (.int (k : Int))), some (.own true (vs w2)), some (.dat (courseD c)), some (.dat F15), o5, o6, o7, o8, none, none] := rfl
    have p1 : ∀ {e : En}, fPart (fC (.int 1)) e = .ok (some 1) e := rfl
    have p0 : ∀ {e : En}, fNo e = .ok none e := rfl
    have ls : listD [courseD c] = some (.list (c.map Stp.d)) := rfl
    have g1 : ∀ {x : Dt}, gTup [x] = some (.tuple [x]) := rfl
    have g2 : gTup [.str "put", .int 8] = some (Stp.put 8).d := rfl
    have g0 : gTup [] = some (.tuple []) := rfl
    have g6 : ∀ {a b c d e f : Dt}, gLst [a, b, c, d, e, f] = some (.list [a, b, c, d, e, f]) := rfl
    unfold k15_1b3
    simp only [sAsg_ev, fA_ev, fCons_ev, fNil_ev, fC_ev, v3, R.bind_ok, ls, ret1_some, f2_ev, fSl_ev, p1, p0, hs, g1, g2, g0, ha, g6, RS_ok, gN_ev, ofOpt_some]
    rfl
  obtain ⟨d4, w4, hw4, hd4, h4⟩ := drawI (bent_ev 3 0 (courseD c) 24 (by decide) (by decide) (vb_course hc) (by decide)) (n := 2) rfl (i := 2) (fr := aCons (fVar 3) aNil) (e := E15 (some s) (some (.dat (.int (k : Int)))) w2 (courseD c) F15 (.list [.none, .list (c.map Stp.d), .tuple ((c.map Stp.d).drop 1 ++ [(Stp.put 8).d]), .tuple [courseD c], .tuple [], .int 7]) o6 o7 o8) rfl hw2 rfl
  have i4 : k15_1b4i (E15 (some s) (some (.dat (.int (k : Int)))) w2 (courseD c) F15 (.list [.none, .list (c.map Stp.d), .tuple ((c.map Stp.d).drop 1 ++ [(Stp.put 8).d]), .tuple [courseD c], .tuple [], .int 7]) o6 o7 o8) = .ok [.none, .list (c.map Stp.d), .tuple ((c.map Stp.d).drop 1 ++ [(Stp.put 8).d]), .tuple [courseD c], .tuple [], .int 7, d4] (E15 (some s) (some (.dat (.int (k : Int)))) w4 (courseD c) F15 (.list [.none, .list (c.map Stp.d), .tuple ((c.map Stp.d).drop 1 ++ [(Stp.put 8).d]), .tuple [courseD c], .tuple [], .int 7]) o6 o7 o8) := by
    unfold k15_1b4i
    rw [fSeq_ev, f2_ev, show fVar 5 (E15 (some s) (some (.dat (.int (k : Int)))) w2 (courseD c) F15 (.list [.none, .list (c.map Stp.d), .tuple ((c.map Stp.d).drop 1 ++ [(Stp.put 8).d]), .tuple [courseD c], .tuple [], .int 7]) o6 o7 o8) = .ok (.list [.none, .list (c.map Stp.d), .tuple ((c.map Stp.d).drop 1 ++ [(Stp.put 8).d]), .tuple [courseD c], .tuple [], .int 7]) _ from rfl, R.bind_ok, fA_ev, fCons_ev, h4]
    rfl
  have hfit : ∀ d ∈ [PyData.none, .list (c.map Stp.d), .tuple ((c.map Stp.d).drop 1 ++ [(Stp.put 8).d]), .tuple [courseD c], .tuple [], .int 7, d4], fitN 61 d = true := by
    intro d hd'
    simp only [List.mem_cons, List.not_mem_nil, or_false] at hd'
    rcases hd' with rfl | rfl | rfl | rfl | rfl | rfl | rfl
    · rfl
    · rw [fitN_list]; exact fall
    · rw [fitN_tuple, List.all_append, Bool.and_eq_true]
      refine ⟨?_, by simp [fs]⟩
      rw [List.all_eq_true] at fall ⊢
      exact fun x hx => fall x (List.mem_of_mem_drop hx)
    · rw [fitN_tuple]; simp only [List.all_cons, List.all_nil, Bool.and_true]; exact fit_course c
    · rfl
    · rfl
    · exact fitN_mono (vb_fit hd4) (by decide)
  generalize PyData.list [.none, .list (c.map Stp.d), .tuple ((c.map Stp.d).drop 1 ++ [(Stp.put 8).d]), .tuple [courseD c], .tuple [], .int 7] = od at *
  generalize [PyData.none, .list (c.map Stp.d), .tuple ((c.map Stp.d).drop 1 ++ [(Stp.put 8).d]), .tuple [courseD c], .tuple [], .int 7, d4] = ods at *
  obtain ⟨x5, f5, h5⟩ := k15_odds (sc := sc) (ad := ad) (s := some s) (k := some (.dat (.int (k : Int)))) (v := w4) (C := courseD c) (F := F15) (od := od) (cl := o8) ods o6 o7 hfit
  have a4 : k15_1b4 sc ad (E15 (some s) (some (.dat (.int (k : Int)))) w2 (courseD c) F15 od o6 o7 o8) = .nx (E15 (some s) (some (.dat (.int (k : Int)))) w4 (courseD c) F15 od x5 f5 o8) := by
    unfold k15_1b4
    rw [sFor_ev, i4, RS_ok, h5]
  have nc0 := nc hc
  have nfo : ∀ {v : Dt}, fitN 61 v = true → isFacts c.length v = false → N_need_facts [.dat (courseD c), .dat v] = .exc "InvalidFacts" [.dat (courseD c), .dat v] := fun hv hf => need_facts_no (C := c.map Stp.d) hv (by rw [List.length_map]; exact hf)
  have nf1 : N_need_facts [.dat (courseD c), .dat F15] = .ok .none [.dat (courseD c), .dat F15] := need_facts_ok (C := c.map Stp.d) rfl (by rw [List.length_map]; exact f15_ok l2)
  obtain ⟨x6, h6⟩ := k15_facts (sc := sc) (ad := ad) (s := some s) (k := some (.dat (.int (k : Int)))) (v := w4) (C := courseD c) (F := F15) (od := od) (f := f5) (cl := o8) nc0 [.none, .list [.tuple [.int 0, .int 1, .int 0]], .tuple [.tuple [.int 0, .int 1, .int 0], .tuple [.int 0, .int 1, .int 0], .tuple [.int 0, .int 1, .int 0], .tuple [.int 0, .int 1, .int 0], .tuple [.int 0, .int 1, .int 0], .tuple [.int 0, .int 1, .int 0]], .tuple [.int 0, .int 1, .int 0], .tuple [.tuple [.int 0, .int 0, .int 0]]] x5 (by
    intro d hd'
    simp only [List.mem_cons, List.not_mem_nil, or_false] at hd'
    rcases hd' with rfl | rfl | rfl | rfl | rfl
    · exact nfo rfl rfl
    · exact nfo rfl rfl
    · exact nfo rfl rfl
    · exact nfo rfl rfl
    · exact nfo rfl (by simp [isFacts, same0]))
  have a5 : k15_1b5 sc ad (E15 (some s) (some (.dat (.int (k : Int)))) w4 (courseD c) F15 od x5 f5 o8) = .nx (E15 (some s) (some (.dat (.int (k : Int)))) w4 (courseD c) F15 od x6 f5 o8) := by
    unfold k15_1b5
    rw [sFor_ev]
    exact h6
  have nk : N_need_fact [.dat (courseD c), .dat F15] = .exc "InvalidFacts" [.dat (courseD c), .dat F15] := need_fact_no (C := c.map Stp.d) rfl rfl
  obtain ⟨cl7, a6⟩ := k15_claims (ad := ad) (s := some s) (k := some (.dat (.int (k : Int)))) (v := w4) (C := courseD c) (F := F15) (od := od) (f := f5) (cl := o8) (x := x6) (need_all_xk nc0 nf1 nk)
  have e0 : isW 0 (((c.map Stp.d).length : Int) - 1) (.int 0) = true := isW_of ⟨by omega, by simp; omega⟩
  have e1 : isW 0 (((c.map Stp.d).length : Int) - 1) (.int ((c.map Stp.d).length : Nat)) = false := by
    simp [isW]
    omega
  have q7 : fLE nmS (callD 5 N_case_with (aCons (fVar 3) (aCons (fVar 4) (aCons (fC .none) (aCons (fC .none) (aCons (fC .none) aNil)))))) (E15 (some s) (some (.dat (.int (k : Int)))) w4 (courseD c) F15 od x6 f5 cl7) = .ok iv (E15 (some s) (some (.dat (.int (k : Int)))) w4 (courseD c) F15 od x6 f5 cl7) := byD (ss := [.dat (courseD c), .dat F15, .dat .none, .dat .none, .dat .none]) rfl rfl (case_with_x (need_two_xi nc0 nf1 (need_indices_a (xs := c.map Stp.d) rfl))) nm_index
  have a7 : k15_1b7 (E15 (some s) (some (.dat (.int (k : Int)))) w4 (courseD c) F15 od x6 f5 cl7) = .nx (E15 (some s) (some (.dat (.int (k : Int)))) w4 (courseD c) F15 od x6 (some (.own true [iv])) cl7) := by
    unfold k15_1b7
    rw [sOwn_of (e1 := E15 (some s) (some (.dat (.int (k : Int)))) w4 (courseD c) F15 od x6 f5 cl7) (ds := [iv]) (by rw [fCons_ev, q7]; rfl) (by decide)]
    rfl
  have q8 : fLE nmS (callD 5 N_case_with (aCons (fVar 3) (aCons (fVar 4) (aCons (fC (.int 0)) (aCons (fC (.int 0)) (aCons (fC .none) aNil)))))) (E15 (some s) (some (.dat (.int (k : Int)))) w4 (courseD c) F15 od x6 (some (.own true [iv])) cl7) = .ok iv (E15 (some s) (some (.dat (.int (k : Int)))) w4 (courseD c) F15 od x6 (some (.own true [iv])) cl7) := byD (ss := [.dat (courseD c), .dat F15, .dat (.int 0), .dat (.int 0), .dat .none]) rfl rfl (case_with_x (need_two_xi nc0 nf1 (need_indices_c (xs := c.map Stp.d) e0))) nm_index
  have a8 : k15_1b8 (E15 (some s) (some (.dat (.int (k : Int)))) w4 (courseD c) F15 od x6 (some (.own true [iv])) cl7) = .nx (E15 (some s) (some (.dat (.int (k : Int)))) w4 (courseD c) F15 od x6 (some (.own true [iv, iv])) cl7) := by
    unfold k15_1b8
    rw [sApp_of (b := true) (xs := [iv]) rfl q8 rfl (by decide)]
    rfl
  have q9 : fLE nmS (callD 4 N_gap_range (aCons (fVar 3) (aCons (fVar 4) (aCons (fC (.int 0)) (aCons (fA lenD (fCons (fVar 3) fNil)) aNil))))) (E15 (some s) (some (.dat (.int (k : Int)))) w4 (courseD c) F15 od x6 (some (.own true [iv, iv])) cl7) = .ok iv (E15 (some s) (some (.dat (.int (k : Int)))) w4 (courseD c) F15 od x6 (some (.own true [iv, iv])) cl7) := byD (ss := [.dat (courseD c), .dat F15, .dat (.int 0), .dat (.int ((c.map Stp.d).length : Nat))]) rfl rfl (gap_range_x (need_two_xi nc0 nf1 (need_indices_b (xs := c.map Stp.d) e0 e1))) nm_index
  have a9 : k15_1b9 (E15 (some s) (some (.dat (.int (k : Int)))) w4 (courseD c) F15 od x6 (some (.own true [iv, iv])) cl7) = .nx (E15 (some s) (some (.dat (.int (k : Int)))) w4 (courseD c) F15 od x6 (some (.own true [iv, iv, iv])) cl7) := by
    unfold k15_1b9
    rw [sApp_of (b := true) (xs := [iv, iv]) rfl q9 rfl (by decide)]
    rfl
  have ne : neD (.list [iv, iv, iv]) (.list [iv, iv, iv]) = some (.bool false) := by kernel_rfl
  have a10 : k15_1b10 (E15 (some s) (some (.dat (.int (k : Int)))) w4 (courseD c) F15 od x6 (some (.own true [iv, iv, iv])) cl7) = .nx (E15 (some s) (some (.dat (.int (k : Int)))) w4 (courseD c) F15 od x6 (some (.dat (.list [iv, iv, iv]))) cl7) := by
    unfold k15_1b10
    rw [sIf_ev, fB_ev, f2_ev, show fVar 7 (E15 (some s) (some (.dat (.int (k : Int)))) w4 (courseD c) F15 od x6 (some (.own true [iv, iv, iv])) cl7) = .ok (.list [iv, iv, iv]) (E15 (some s) (some (.dat (.int (k : Int)))) w4 (courseD c) F15 od x6 (some (.dat (.list [iv, iv, iv]))) cl7) from rfl, R.bind_ok, f2_ev, show fA gLst (fCons (fC (.str "index value")) fNil) (E15 (some s) (some (.dat (.int (k : Int)))) w4 (courseD c) F15 od x6 (some (.dat (.list [iv, iv, iv]))) cl7) = .ok (.list [iv]) (E15 (some s) (some (.dat (.int (k : Int)))) w4 (courseD c) F15 od x6 (some (.dat (.list [iv, iv, iv]))) cl7) from rfl, R.bind_ok, fC_ev, R.bind_ok, show mulD (.list [iv]) (.int 3) = some (.list [iv, iv, iv]) from rfl, ret1_some, R.bind_ok, ne]
    rfl
  refine ⟨some (.own true (vs w4)), some (.dat (courseD c)), some (.dat F15), some (.dat od), x6, some (.dat (.list [iv, iv, iv])), cl7, ?_⟩
  unfold k15_1b
  rw [sSeq_ev, a1, seq_nx, sSeq_ev, a2, seq_nx, sSeq_ev, a3, seq_nx, sSeq_ev, a4, seq_nx, sSeq_ev, a5, seq_nx, sSeq_ev, a6, seq_nx, sSeq_ev, a7, seq_nx, sSeq_ev, a8, seq_nx, sSeq_ev, a9, seq_nx, a10]
  rfl
theorem main_ok : ∀ (sc : Option (Addr × List Int)) (ad : Nat → Addr) s ns, ns.length ≤ 63 → Scr sc s ns → ∃ as', N_law sc ad [s] = .ok (.bool true) as' := by
  intro sc ad s ns hl h
  refine law_main (N := 9) (P := fun r => ∃ o2 o3 o4 o5 o6 o7 o8, r = [o2, o3, o4, o5, o6, o7, o8, none, none]) h (k15_eq sc ad) (lawI_ok h hl 5 12 (by decide) (by decide) _) ⟨none, none, none, none, none, none, none, rfl⟩ ?_ ?_
  · rintro k r ⟨o2, o3, o4, o5, o6, o7, o8, rfl⟩
    obtain ⟨p2, p3, p4, p5, p6, p7, p8, hp⟩ := k15_turn (ad := ad) h k o2 o3 o4 o5 o6 o7 o8
    exact ⟨_, _, ⟨p2, p3, p4, p5, p6, p7, p8, rfl⟩, hp⟩
  · rintro o r ⟨o2, o3, o4, o5, o6, o7, o8, rfl⟩
    exact k15_tail _ _ _ _ _ _ _ _ _ _ _
end DL
namespace DL
open PySem PySem.Spec PyProof.Rows L2
theorem tx_of {w : World} {K : PySem.W.Frag} {h : Heap} {mg : Str → Option Value} (X : K.In h) (G : h.Ns mainGlobals mg) (c : He.SaysX faL fnL [] tfL exL w h K) : ∃ T : Tx K mg, T.cs = tfL.map (He.cT K) ∧ ∀ (s : Shared) (v : Value), BindsTo s T.d_law ⟨[v], []⟩ [("script", v)] := by
  obtain ⟨d0, F0⟩ := c.t.d.def_ 0 (d := D_is_whole) rfl
  obtain ⟨d1, F1⟩ := c.t.d.def_ 1 (d := D_is_rising) rfl
  obtain ⟨d2, F2⟩ := c.t.d.def_ 2 (d := D_level_at) rfl
  obtain ⟨d3, F3⟩ := c.t.d.def_ 3 (d := D_steps_with) rfl
  obtain ⟨d4, F4⟩ := c.t.d.def_ 4 (d := D_are_so) rfl
  obtain ⟨d5, F5⟩ := c.t.d.def_ 5 (d := D_step_line) rfl
  obtain ⟨d6, F6⟩ := c.t.d.def_ 6 (d := D_law_vat) rfl
  obtain ⟨d7, F7⟩ := c.t.d.def_ 7 (d := D_law_under) rfl
  obtain ⟨d8, F8⟩ := c.t.d.def_ 8 (d := D_law_is_whole) rfl
  obtain ⟨d9, F9⟩ := c.t.d.def_ 9 (d := D_law_names) rfl
  obtain ⟨d10, F10⟩ := c.t.d.def_ 10 (d := D_is_pair) rfl
  obtain ⟨d11, F11⟩ := c.t.d.def_ 11 (d := D_need_number) rfl
  obtain ⟨d12, F12⟩ := c.t.d.def_ 12 (d := D_is_step) rfl
  obtain ⟨d13, F13⟩ := c.t.d.def_ 13 (d := D_have_given) rfl
  obtain ⟨d14, F14⟩ := c.t.d.def_ 14 (d := D_need_indices) rfl
  obtain ⟨d15, F15⟩ := c.t.d.def_ 15 (d := D_number_of) rfl
  obtain ⟨d16, F16⟩ := c.t.d.def_ 16 (d := D_is_fact) rfl
  obtain ⟨d17, F17⟩ := c.t.d.def_ 17 (d := D_text_of) rfl
  obtain ⟨d18, F18⟩ := c.t.d.def_ 18 (d := D_law_some) rfl
  obtain ⟨d19, F19⟩ := c.t.d.def_ 19 (d := D_law_is_step) rfl
  obtain ⟨d20, F20⟩ := c.t.d.def_ 20 (d := D_law_error) rfl
  obtain ⟨d21, F21⟩ := c.t.d.def_ 21 (d := D_has_stair) rfl
  obtain ⟨d22, F22⟩ := c.t.d.def_ 22 (d := D_has_course) rfl
  obtain ⟨d23, F23⟩ := c.t.d.def_ 23 (d := D_need_given) rfl
  obtain ⟨d24, F24⟩ := c.t.d.def_ 24 (d := D_all_numbers) rfl
  obtain ⟨d25, F25⟩ := c.t.d.def_ 25 (d := D_has_facts) rfl
  obtain ⟨d26, F26⟩ := c.t.d.def_ 26 (d := D_need_fact) rfl
  obtain ⟨d27, F27⟩ := c.t.d.def_ 27 (d := D_law_is_course) rfl
  obtain ⟨d28, F28⟩ := c.t.d.def_ 28 (d := D_law_odd) rfl
  obtain ⟨d29, F29⟩ := c.t.d.def_ 29 (d := D_law_by) rfl
  obtain ⟨d30, F30⟩ := c.t.d.def_ 30 (d := D_need_stair) rfl
  obtain ⟨d31, F31⟩ := c.t.d.def_ 31 (d := D_need_course) rfl
  obtain ⟨d32, F32⟩ := c.t.d.def_ 32 (d := D_need_facts) rfl
  obtain ⟨d33, F33⟩ := c.t.d.def_ 33 (d := D_law_course) rfl
  obtain ⟨d34, F34⟩ := c.t.d.def_ 34 (d := D_law_bent) rfl
  obtain ⟨d35, F35⟩ := c.t.d.def_ 35 (d := D_are_given) rfl
  obtain ⟨d36, F36⟩ := c.t.d.def_ 36 (d := D_numbers) rfl
  obtain ⟨d37, F37⟩ := c.t.d.def_ 37 (d := D_are_facts) rfl
  obtain ⟨d38, F38⟩ := c.t.d.def_ 38 (d := D_is_case) rfl
  obtain ⟨d39, F39⟩ := c.t.d.def_ 39 (d := D_case_for) rfl
  obtain ⟨d40, F40⟩ := c.t.d.def_ 40 (d := D_need_all) rfl
  obtain ⟨d41, F41⟩ := c.t.d.def_ 41 (d := D_need_two) rfl
  obtain ⟨d42, F42⟩ := c.t.d.def_ 42 (d := D_need_like) rfl
  obtain ⟨d43, F43⟩ := c.t.d.def_ 43 (d := D_needless_facts) rfl
  obtain ⟨d44, F44⟩ := c.t.d.def_ 44 (d := D_quarrels) rfl
  obtain ⟨d45, F45⟩ := c.t.d.def_ 45 (d := D_course_text) rfl
  obtain ⟨d46, F46⟩ := c.t.d.def_ 46 (d := D_follows) rfl
  obtain ⟨d47, F47⟩ := c.t.d.def_ 47 (d := D_breaking) rfl
  obtain ⟨d48, F48⟩ := c.t.d.def_ 48 (d := D_stretches) rfl
  obtain ⟨d49, F49⟩ := c.t.d.def_ 49 (d := D_gap_range) rfl
  obtain ⟨d50, F50⟩ := c.t.d.def_ 50 (d := D_case_with) rfl
  obtain ⟨d51, F51⟩ := c.t.d.def_ 51 (d := D_alike) rfl
  obtain ⟨d52, F52⟩ := c.t.d.def_ 52 (d := D_parting) rfl
  obtain ⟨d53, F53⟩ := c.t.d.def_ 53 (d := D_paper_for) rfl
  obtain ⟨d54, F54⟩ := c.t.d.def_ 54 (d := D_is_paper) rfl
  obtain ⟨d55, F55⟩ := c.t.d.def_ 55 (d := D_least_lots) rfl
  obtain ⟨d56, F56⟩ := c.t.d.def_ 56 (d := D_law_course_calls) rfl
  obtain ⟨d57, F57⟩ := c.t.d.def_ 57 (d := D_law_facts_calls) rfl
  obtain ⟨d58, F58⟩ := c.t.d.def_ 58 (d := D_law) rfl
  have er := fun {x : Str} (hx : x ∈ errL) => errB_ok (es := errL) (cs := clsL) (K := K) (He.ba c.more).1 hx
  exact ⟨{
    f_is_whole := He.fAd K ("is_whole", none)
    d_is_whole := d0
    F_is_whole := funOf F0
    g_is_whole := He.glo_ok X G (c.t.d.fact 0 (f := .glo "is_whole") rfl)
    b_is_whole := F0.bindsN (ps := ["value", "low", "high"]) fun _ _ _ _ _ _ us hl => match us, hl with | [_, _, _], _ => rfl
    f_is_rising := He.fAd K ("is_rising", none)
    d_is_rising := d1
    F_is_rising := funOf F1
    g_is_rising := He.glo_ok X G (c.t.d.fact 1 (f := .glo "is_rising") rfl)
    b_is_rising := F1.bindsN (ps := ["line"]) fun _ _ _ _ _ _ us hl => match us, hl with | [_], _ => rfl
    f_level_at := He.fAd K ("level_at", none)
    d_level_at := d2
    F_level_at := funOf F2
    g_level_at := He.glo_ok X G (c.t.d.fact 2 (f := .glo "level_at") rfl)
    b_level_at := F2.bindsN (ps := ["stair", "number"]) fun _ _ _ _ _ _ us hl => match us, hl with | [_, _], _ => rfl
    f_steps_with := He.fAd K ("steps_with", none)
    d_steps_with := d3
    F_steps_with := funOf F3
    g_steps_with := He.glo_ok X G (c.t.d.fact 3 (f := .glo "steps_with") rfl)
    b_steps_with := F3.bindsN (ps := ["course", "words"]) fun _ _ _ _ _ _ us hl => match us, hl with | [_, _], _ => rfl
    f_are_so := He.fAd K ("are_so", none)
    d_are_so := d4
    F_are_so := funOf F4
    g_are_so := He.glo_ok X G (c.t.d.fact 4 (f := .glo "are_so") rfl)
    b_are_so := F4.bindsN (ps := ["told", "facts"]) fun _ _ _ _ _ _ us hl => match us, hl with | [_, _], _ => rfl
    f_step_line := He.fAd K ("step_line", none)
    d_step_line := d5
    F_step_line := funOf F5
    g_step_line := He.glo_ok X G (c.t.d.fact 5 (f := .glo "step_line") rfl)
    b_step_line := F5.bindsN (ps := ["step"]) fun _ _ _ _ _ _ us hl => match us, hl with | [_], _ => rfl
    f_law_vat := He.fAd K ("_law_vat", none)
    d_law_vat := d6
    F_law_vat := funOf F6
    g_law_vat := He.glo_ok X G (c.t.d.fact 6 (f := .glo "_law_vat") rfl)
    b_law_vat := F6.bindsN (ps := ["script", "k"]) fun _ _ _ _ _ _ us hl => match us, hl with | [_, _], _ => rfl
    f_law_under := He.fAd K ("_law_under", none)
    d_law_under := d7
    F_law_under := funOf F7
    g_law_under := He.glo_ok X G (c.t.d.fact 7 (f := .glo "_law_under") rfl)
    b_law_under := F7.bindsN (ps := ["vat", "many"]) fun _ _ _ _ _ _ us hl => match us, hl with | [_, _], _ => rfl
    f_law_is_whole := He.fAd K ("_law_is_whole", none)
    d_law_is_whole := d8
    F_law_is_whole := funOf F8
    g_law_is_whole := He.glo_ok X G (c.t.d.fact 8 (f := .glo "_law_is_whole") rfl)
    b_law_is_whole := F8.bindsN (ps := ["value", "low", "high"]) fun _ _ _ _ _ _ us hl => match us, hl with | [_, _, _], _ => rfl
    f_law_names := He.fAd K ("_law_names", none)
    d_law_names := d9
    F_law_names := funOf F9
    g_law_names := He.glo_ok X G (c.t.d.fact 9 (f := .glo "_law_names") rfl)
    b_law_names := F9.bindsN (ps := ["e"]) fun _ _ _ _ _ _ us hl => match us, hl with | [_], _ => rfl
    f_is_pair := He.fAd K ("is_pair", none)
    d_is_pair := d10
    F_is_pair := funOf F10
    g_is_pair := He.glo_ok X G (c.t.d.fact 10 (f := .glo "is_pair") rfl)
    b_is_pair := F10.bindsN (ps := ["value", "most"]) fun _ _ _ _ _ _ us hl => match us, hl with | [_, _], _ => rfl
    f_need_number := He.fAd K ("need_number", none)
    d_need_number := d11
    F_need_number := funOf F11
    g_need_number := He.glo_ok X G (c.t.d.fact 11 (f := .glo "need_number") rfl)
    b_need_number := F11.bindsN (ps := ["number"]) fun _ _ _ _ _ _ us hl => match us, hl with | [_], _ => rfl
    f_is_step := He.fAd K ("is_step", none)
    d_is_step := d12
    F_is_step := funOf F12
    g_is_step := He.glo_ok X G (c.t.d.fact 12 (f := .glo "is_step") rfl)
    b_is_step := F12.bindsN (ps := ["value", "ahead"]) fun _ _ _ _ _ _ us hl => match us, hl with | [_, _], _ => rfl
    f_have_given := He.fAd K ("have_given", none)
    d_have_given := d13
    F_have_given := funOf F13
    g_have_given := He.glo_ok X G (c.t.d.fact 13 (f := .glo "have_given") rfl)
    b_have_given := F13.bindsN (ps := ["course", "value"]) fun _ _ _ _ _ _ us hl => match us, hl with | [_, _], _ => rfl
    f_need_indices := He.fAd K ("need_indices", none)
    d_need_indices := d14
    F_need_indices := funOf F14
    g_need_indices := He.glo_ok X G (c.t.d.fact 14 (f := .glo "need_indices") rfl)
    b_need_indices := F14.bindsN (ps := ["course", "one", "other"]) fun _ _ _ _ _ _ us hl => match us, hl with | [_, _, _], _ => rfl
    f_number_of := He.fAd K ("number_of", none)
    d_number_of := d15
    F_number_of := funOf F15
    g_number_of := He.glo_ok X G (c.t.d.fact 15 (f := .glo "number_of") rfl)
    b_number_of := F15.bindsN (ps := ["step", "stair", "ahead"]) fun _ _ _ _ _ _ us hl => match us, hl with | [_, _, _], _ => rfl
    f_is_fact := He.fAd K ("is_fact", none)
    d_is_fact := d16
    F_is_fact := funOf F16
    g_is_fact := He.glo_ok X G (c.t.d.fact 16 (f := .glo "is_fact") rfl)
    b_is_fact := F16.bindsN (ps := ["course", "value"]) fun _ _ _ _ _ _ us hl => match us, hl with | [_, _], _ => rfl
    f_text_of := He.fAd K ("text_of", none)
    d_text_of := d17
    F_text_of := funOf F17
    g_text_of := He.glo_ok X G (c.t.d.fact 17 (f := .glo "text_of") rfl)
    b_text_of := F17.bindsN (ps := ["course"]) fun _ _ _ _ _ _ us hl => match us, hl with | [_], _ => rfl
    f_law_some := He.fAd K ("_law_some", none)
    d_law_some := d18
    F_law_some := funOf F18
    g_law_some := He.glo_ok X G (c.t.d.fact 18 (f := .glo "_law_some") rfl)
    b_law_some := F18.bindsN (ps := ["vat", "things"]) fun _ _ _ _ _ _ us hl => match us, hl with | [_, _], _ => rfl
    f_law_is_step := He.fAd K ("_law_is_step", none)
    d_law_is_step := d19
    F_law_is_step := funOf F19
    g_law_is_step := He.glo_ok X G (c.t.d.fact 19 (f := .glo "_law_is_step") rfl)
    b_law_is_step := F19.bindsN (ps := ["value", "ahead"]) fun _ _ _ _ _ _ us hl => match us, hl with | [_, _], _ => rfl
    f_law_error := He.fAd K ("_law_error", none)
    d_law_error := d20
    F_law_error := funOf F20
    g_law_error := He.glo_ok X G (c.t.d.fact 20 (f := .glo "_law_error") rfl)
    b_law_error := F20.bindsN (ps := ["call"]) fun _ _ _ _ _ _ us hl => match us, hl with | [_], _ => rfl
    f_has_stair := He.fAd K ("has_stair", none)
    d_has_stair := d21
    F_has_stair := funOf F21
    g_has_stair := He.glo_ok X G (c.t.d.fact 21 (f := .glo "has_stair") rfl)
    b_has_stair := F21.bindsN (ps := ["value"]) fun _ _ _ _ _ _ us hl => match us, hl with | [_], _ => rfl
    f_has_course := He.fAd K ("has_course", none)
    d_has_course := d22
    F_has_course := funOf F22
    g_has_course := He.glo_ok X G (c.t.d.fact 22 (f := .glo "has_course") rfl)
    b_has_course := F22.bindsN (ps := ["value"]) fun _ _ _ _ _ _ us hl => match us, hl with | [_], _ => rfl
    f_need_given := He.fAd K ("need_given", none)
    d_need_given := d23
    F_need_given := funOf F23
    g_need_given := He.glo_ok X G (c.t.d.fact 23 (f := .glo "need_given") rfl)
    b_need_given := F23.bindsN (ps := ["course", "given"]) fun _ _ _ _ _ _ us hl => match us, hl with | [_, _], _ => rfl
    f_all_numbers := He.fAd K ("all_numbers", none)
    d_all_numbers := d24
    F_all_numbers := funOf F24
    g_all_numbers := He.glo_ok X G (c.t.d.fact 24 (f := .glo "all_numbers") rfl)
    b_all_numbers := F24.bindsN (ps := ["course", "stair", "given"]) fun _ _ _ _ _ _ us hl => match us, hl with | [_, _, _], _ => rfl
    f_has_facts := He.fAd K ("has_facts", none)
    d_has_facts := d25
    F_has_facts := funOf F25
    g_has_facts := He.glo_ok X G (c.t.d.fact 25 (f := .glo "has_facts") rfl)
    b_has_facts := F25.bindsN (ps := ["course", "value"]) fun _ _ _ _ _ _ us hl => match us, hl with | [_, _], _ => rfl
    f_need_fact := He.fAd K ("need_fact", none)
    d_need_fact := d26
    F_need_fact := funOf F26
    g_need_fact := He.glo_ok X G (c.t.d.fact 26 (f := .glo "need_fact") rfl)
    b_need_fact := F26.bindsN (ps := ["course", "fact"]) fun _ _ _ _ _ _ us hl => match us, hl with | [_, _], _ => rfl
    f_law_is_course := He.fAd K ("_law_is_course", none)
    d_law_is_course := d27
    F_law_is_course := funOf F27
    g_law_is_course := He.glo_ok X G (c.t.d.fact 27 (f := .glo "_law_is_course") rfl)
    b_law_is_course := F27.bindsN (ps := ["value"]) fun _ _ _ _ _ _ us hl => match us, hl with | [_], _ => rfl
    f_law_odd := He.fAd K ("_law_odd", none)
    d_law_odd := d28
    F_law_odd := funOf F28
    g_law_odd := He.glo_ok X G (c.t.d.fact 28 (f := .glo "_law_odd") rfl)
    b_law_odd := F28.bindsN (ps := ["vat", "depth"]) fun _ _ _ _ _ _ us hl => match us, hl with | [_, _], _ => rfl
    f_law_by := He.fAd K ("_law_by", none)
    d_law_by := d29
    F_law_by := funOf F29
    g_law_by := He.glo_ok X G (c.t.d.fact 29 (f := .glo "_law_by") rfl)
    b_law_by := F29.bindsN (ps := ["call", "one", "other"]) fun _ _ _ _ _ _ us hl => match us, hl with | [_, _, _], _ => rfl
    c_law_by := He.codeOf K ("_law_by", none)
    p_law_by := He.tabOf K (He.codeOf K ("_law_by", none))
    h_law_by := code_of (p := ("_law_by", none)) (show Fun K "_law_by" "_law_by" s_law_by (He.fAd K ("_law_by", none)) d29 from funOf F29)
    f_need_stair := He.fAd K ("need_stair", none)
    d_need_stair := d30
    F_need_stair := funOf F30
    g_need_stair := He.glo_ok X G (c.t.d.fact 30 (f := .glo "need_stair") rfl)
    b_need_stair := F30.bindsN (ps := ["stair"]) fun _ _ _ _ _ _ us hl => match us, hl with | [_], _ => rfl
    f_need_course := He.fAd K ("need_course", none)
    d_need_course := d31
    F_need_course := funOf F31
    g_need_course := He.glo_ok X G (c.t.d.fact 31 (f := .glo "need_course") rfl)
    b_need_course := F31.bindsN (ps := ["course"]) fun _ _ _ _ _ _ us hl => match us, hl with | [_], _ => rfl
    f_need_facts := He.fAd K ("need_facts", none)
    d_need_facts := d32
    F_need_facts := funOf F32
    g_need_facts := He.glo_ok X G (c.t.d.fact 32 (f := .glo "need_facts") rfl)
    b_need_facts := F32.bindsN (ps := ["course", "facts"]) fun _ _ _ _ _ _ us hl => match us, hl with | [_, _], _ => rfl
    f_law_course := He.fAd K ("_law_course", none)
    d_law_course := d33
    F_law_course := funOf F33
    g_law_course := He.glo_ok X G (c.t.d.fact 33 (f := .glo "_law_course") rfl)
    b_law_course := F33.bindsN (ps := ["vat", "most"]) fun _ _ _ _ _ _ us hl => match us, hl with | [_, _], _ => rfl
    f_law_bent := He.fAd K ("_law_bent", none)
    d_law_bent := d34
    F_law_bent := funOf F34
    g_law_bent := He.glo_ok X G (c.t.d.fact 34 (f := .glo "_law_bent") rfl)
    b_law_bent := F34.bindsN (ps := ["vat", "value"]) fun _ _ _ _ _ _ us hl => match us, hl with | [_, _], _ => rfl
    f_are_given := He.fAd K ("are_given", none)
    d_are_given := d35
    F_are_given := funOf F35
    g_are_given := He.glo_ok X G (c.t.d.fact 35 (f := .glo "are_given") rfl)
    b_are_given := F35.bindsN (ps := ["course", "value"]) fun _ _ _ _ _ _ us hl => match us, hl with | [_, _], _ => rfl
    f_numbers := He.fAd K ("numbers", none)
    d_numbers := d36
    F_numbers := funOf F36
    g_numbers := He.glo_ok X G (c.t.d.fact 36 (f := .glo "numbers") rfl)
    b_numbers := F36.bindsN (ps := ["course", "stair", "given"]) fun _ _ _ _ _ _ us hl => match us, hl with | [_, _, _], _ => rfl
    f_are_facts := He.fAd K ("are_facts", none)
    d_are_facts := d37
    F_are_facts := funOf F37
    g_are_facts := He.glo_ok X G (c.t.d.fact 37 (f := .glo "are_facts") rfl)
    b_are_facts := F37.bindsN (ps := ["course", "value"]) fun _ _ _ _ _ _ us hl => match us, hl with | [_, _], _ => rfl
    f_is_case := He.fAd K ("is_case", none)
    d_is_case := d38
    F_is_case := funOf F38
    g_is_case := He.glo_ok X G (c.t.d.fact 38 (f := .glo "is_case") rfl)
    b_is_case := F38.bindsN (ps := ["course", "facts", "value"]) fun _ _ _ _ _ _ us hl => match us, hl with | [_, _, _], _ => rfl
    f_case_for := He.fAd K ("case_for", none)
    d_case_for := d39
    F_case_for := funOf F39
    g_case_for := He.glo_ok X G (c.t.d.fact 39 (f := .glo "case_for") rfl)
    b_case_for := F39.bindsN (ps := ["course", "facts"]) fun _ _ _ _ _ _ us hl => match us, hl with | [_, _], _ => rfl
    f_need_all := He.fAd K ("need_all", none)
    d_need_all := d40
    F_need_all := funOf F40
    g_need_all := He.glo_ok X G (c.t.d.fact 40 (f := .glo "need_all") rfl)
    b_need_all := F40.bindsN (ps := ["course", "facts", "claim"]) fun _ _ _ _ _ _ us hl => match us, hl with | [_, _, _], _ => rfl
    f_need_two := He.fAd K ("need_two", none)
    d_need_two := d41
    F_need_two := funOf F41
    g_need_two := He.glo_ok X G (c.t.d.fact 41 (f := .glo "need_two") rfl)
    b_need_two := F41.bindsN (ps := ["course", "facts", "one", "other"]) fun _ _ _ _ _ _ us hl => match us, hl with | [_, _, _, _], _ => rfl
    f_need_like := He.fAd K ("need_like", none)
    d_need_like := d42
    F_need_like := funOf F42
    g_need_like := He.glo_ok X G (c.t.d.fact 42 (f := .glo "need_like") rfl)
    b_need_like := F42.bindsN (ps := ["one_course", "other_course"]) fun _ _ _ _ _ _ us hl => match us, hl with | [_, _], _ => rfl
    f_needless_facts := He.fAd K ("needless_facts", none)
    d_needless_facts := d43
    F_needless_facts := funOf F43
    g_needless_facts := He.glo_ok X G (c.t.d.fact 43 (f := .glo "needless_facts") rfl)
    b_needless_facts := F43.bindsN (ps := ["course", "facts"]) fun _ _ _ _ _ _ us hl => match us, hl with | [_, _], _ => rfl
    f_quarrels := He.fAd K ("quarrels", none)
    d_quarrels := d44
    F_quarrels := funOf F44
    g_quarrels := He.glo_ok X G (c.t.d.fact 44 (f := .glo "quarrels") rfl)
    b_quarrels := F44.bindsN (ps := ["course", "facts"]) fun _ _ _ _ _ _ us hl => match us, hl with | [_, _], _ => rfl
    f_course_text := He.fAd K ("course_text", none)
    d_course_text := d45
    F_course_text := funOf F45
    g_course_text := He.glo_ok X G (c.t.d.fact 45 (f := .glo "course_text") rfl)
    b_course_text := F45.bindsN (ps := ["course"]) fun _ _ _ _ _ _ us hl => match us, hl with | [_], _ => rfl
    f_follows := He.fAd K ("follows", none)
    d_follows := d46
    F_follows := funOf F46
    g_follows := He.glo_ok X G (c.t.d.fact 46 (f := .glo "follows") rfl)
    b_follows := F46.bindsN (ps := ["course", "facts", "claim"]) fun _ _ _ _ _ _ us hl => match us, hl with | [_, _, _], _ => rfl
    f_breaking := He.fAd K ("breaking", none)
    d_breaking := d47
    F_breaking := funOf F47
    g_breaking := He.glo_ok X G (c.t.d.fact 47 (f := .glo "breaking") rfl)
    b_breaking := F47.bindsN (ps := ["course", "facts", "claim"]) fun _ _ _ _ _ _ us hl => match us, hl with | [_, _, _], _ => rfl
    f_stretches := He.fAd K ("stretches", none)
    d_stretches := d48
    F_stretches := funOf F48
    g_stretches := He.glo_ok X G (c.t.d.fact 48 (f := .glo "stretches") rfl)
    b_stretches := F48.bindsN (ps := ["course", "facts", "one", "other"]) fun _ _ _ _ _ _ us hl => match us, hl with | [_, _, _, _], _ => rfl
    f_gap_range := He.fAd K ("gap_range", none)
    d_gap_range := d49
    F_gap_range := funOf F49
    g_gap_range := He.glo_ok X G (c.t.d.fact 49 (f := .glo "gap_range") rfl)
    b_gap_range := F49.bindsN (ps := ["course", "facts", "one", "other"]) fun _ _ _ _ _ _ us hl => match us, hl with | [_, _, _, _], _ => rfl
    f_case_with := He.fAd K ("case_with", none)
    d_case_with := d50
    F_case_with := funOf F50
    g_case_with := He.glo_ok X G (c.t.d.fact 50 (f := .glo "case_with") rfl)
    b_case_with := F50.bindsN (ps := ["course", "facts", "one", "other", "number"]) fun _ _ _ _ _ _ us hl => match us, hl with | [_, _, _, _, _], _ => rfl
    f_alike := He.fAd K ("alike", none)
    d_alike := d51
    F_alike := funOf F51
    g_alike := He.glo_ok X G (c.t.d.fact 51 (f := .glo "alike") rfl)
    b_alike := F51.bindsN (ps := ["one_course", "other_course"]) fun _ _ _ _ _ _ us hl => match us, hl with | [_, _], _ => rfl
    f_parting := He.fAd K ("parting", none)
    d_parting := d52
    F_parting := funOf F52
    g_parting := He.glo_ok X G (c.t.d.fact 52 (f := .glo "parting") rfl)
    b_parting := F52.bindsN (ps := ["one_course", "other_course"]) fun _ _ _ _ _ _ us hl => match us, hl with | [_, _], _ => rfl
    f_paper_for := He.fAd K ("paper_for", none)
    d_paper_for := d53
    F_paper_for := funOf F53
    g_paper_for := He.glo_ok X G (c.t.d.fact 53 (f := .glo "paper_for") rfl)
    b_paper_for := F53.bindsN (ps := ["course", "facts", "claim"]) fun _ _ _ _ _ _ us hl => match us, hl with | [_, _, _], _ => rfl
    f_is_paper := He.fAd K ("is_paper", none)
    d_is_paper := d54
    F_is_paper := funOf F54
    g_is_paper := He.glo_ok X G (c.t.d.fact 54 (f := .glo "is_paper") rfl)
    b_is_paper := F54.bindsN (ps := ["course", "facts", "claim", "value"]) fun _ _ _ _ _ _ us hl => match us, hl with | [_, _, _, _], _ => rfl
    f_least_lots := He.fAd K ("least_lots", none)
    d_least_lots := d55
    F_least_lots := funOf F55
    g_least_lots := He.glo_ok X G (c.t.d.fact 55 (f := .glo "least_lots") rfl)
    b_least_lots := F55.bindsN (ps := ["course", "facts", "claim"]) fun _ _ _ _ _ _ us hl => match us, hl with | [_, _, _], _ => rfl
    f_law_course_calls := He.fAd K ("_law_course_calls", none)
    d_law_course_calls := d56
    F_law_course_calls := funOf F56
    g_law_course_calls := He.glo_ok X G (c.t.d.fact 56 (f := .glo "_law_course_calls") rfl)
    b_law_course_calls := F56.bindsN (ps := ["odd"]) fun _ _ _ _ _ _ us hl => match us, hl with | [_], _ => rfl
    c_law_course_calls := He.codeOf K ("_law_course_calls", none)
    p_law_course_calls := He.tabOf K (He.codeOf K ("_law_course_calls", none))
    h_law_course_calls := code_of (p := ("_law_course_calls", none)) (show Fun K "_law_course_calls" "_law_course_calls" s_law_course_calls (He.fAd K ("_law_course_calls", none)) d56 from funOf F56)
    f_law_facts_calls := He.fAd K ("_law_facts_calls", none)
    d_law_facts_calls := d57
    F_law_facts_calls := funOf F57
    g_law_facts_calls := He.glo_ok X G (c.t.d.fact 57 (f := .glo "_law_facts_calls") rfl)
    b_law_facts_calls := F57.bindsN (ps := ["course", "odd"]) fun _ _ _ _ _ _ us hl => match us, hl with | [_, _], _ => rfl
    c_law_facts_calls := He.codeOf K ("_law_facts_calls", none)
    p_law_facts_calls := He.tabOf K (He.codeOf K ("_law_facts_calls", none))
    h_law_facts_calls := code_of (p := ("_law_facts_calls", none)) (show Fun K "_law_facts_calls" "_law_facts_calls" s_law_facts_calls (He.fAd K ("_law_facts_calls", none)) d57 from funOf F57)
    f_law := He.fAd K ("law", none)
    d_law := d58
    F_law := funOf F58
    g_law := He.glo_ok X G (c.t.d.fact 58 (f := .glo "law") rfl)
    b_law := F58.bindsN (ps := ["script"]) fun _ _ _ _ _ _ us hl => match us, hl with | [_], _ => rfl
    c_law := He.codeOf K ("law", none)
    p_law := He.tabOf K (He.codeOf K ("law", none))
    h_law := code_of (p := ("law", none)) (show Fun K "law" "law" s_law (He.fAd K ("law", none)) d58 from funOf F58)
    n_ValueError := He.free_ok X G (c.t.d.fact 59 (f := .free "ValueError") rfl)
    n_abs := He.free_ok X G (c.t.d.fact 60 (f := .free "abs") rfl)
    n_bool := He.free_ok X G (c.t.d.fact 61 (f := .free "bool") rfl)
    n_int := He.free_ok X G (c.t.d.fact 62 (f := .free "int") rfl)
    n_isinstance := He.free_ok X G (c.t.d.fact 63 (f := .free "isinstance") rfl)
    n_len := He.free_ok X G (c.t.d.fact 64 (f := .free "len") rfl)
    n_list := He.free_ok X G (c.t.d.fact 65 (f := .free "list") rfl)
    n_max := He.free_ok X G (c.t.d.fact 66 (f := .free "max") rfl)
    n_min := He.free_ok X G (c.t.d.fact 67 (f := .free "min") rfl)
    n_range := He.free_ok X G (c.t.d.fact 68 (f := .free "range") rfl)
    n_str := He.free_ok X G (c.t.d.fact 69 (f := .free "str") rfl)
    n_tuple := He.free_ok X G (c.t.d.fact 70 (f := .free "tuple") rfl)
    n_zip := He.free_ok X G (c.t.d.fact 71 (f := .free "zip") rfl)
    c_InvalidCourse := He.glo_ok X G (c.t.d.fact 72 (f := .glo "InvalidCourse") rfl)
    x_InvalidCourse := (He.exc_ok (c.t.d.fact 73 (f := .exc "InvalidCourse") rfl)).1
    k_InvalidCourse := (He.exc_ok (c.t.d.fact 73 (f := .exc "InvalidCourse") rfl)).2.1
    sb_InvalidCourse := (He.exc_ok (c.t.d.fact 73 (f := .exc "InvalidCourse") rfl)).2.2.1
    ty_InvalidCourse := (He.exc_ok (c.t.d.fact 73 (f := .exc "InvalidCourse") rfl)).2.2.2
    c_InvalidFacts := He.glo_ok X G (c.t.d.fact 74 (f := .glo "InvalidFacts") rfl)
    x_InvalidFacts := (He.exc_ok (c.t.d.fact 75 (f := .exc "InvalidFacts") rfl)).1
    k_InvalidFacts := (He.exc_ok (c.t.d.fact 75 (f := .exc "InvalidFacts") rfl)).2.1
    sb_InvalidFacts := (He.exc_ok (c.t.d.fact 75 (f := .exc "InvalidFacts") rfl)).2.2.1
    ty_InvalidFacts := (He.exc_ok (c.t.d.fact 75 (f := .exc "InvalidFacts") rfl)).2.2.2
    c_InvalidGiven := He.glo_ok X G (c.t.d.fact 76 (f := .glo "InvalidGiven") rfl)
    x_InvalidGiven := (He.exc_ok (c.t.d.fact 77 (f := .exc "InvalidGiven") rfl)).1
    k_InvalidGiven := (He.exc_ok (c.t.d.fact 77 (f := .exc "InvalidGiven") rfl)).2.1
    sb_InvalidGiven := (He.exc_ok (c.t.d.fact 77 (f := .exc "InvalidGiven") rfl)).2.2.1
    ty_InvalidGiven := (He.exc_ok (c.t.d.fact 77 (f := .exc "InvalidGiven") rfl)).2.2.2
    c_InvalidIndex := He.glo_ok X G (c.t.d.fact 78 (f := .glo "InvalidIndex") rfl)
    x_InvalidIndex := (He.exc_ok (c.t.d.fact 79 (f := .exc "InvalidIndex") rfl)).1
    k_InvalidIndex := (He.exc_ok (c.t.d.fact 79 (f := .exc "InvalidIndex") rfl)).2.1
    sb_InvalidIndex := (He.exc_ok (c.t.d.fact 79 (f := .exc "InvalidIndex") rfl)).2.2.1
    ty_InvalidIndex := (He.exc_ok (c.t.d.fact 79 (f := .exc "InvalidIndex") rfl)).2.2.2
    c_InvalidNumber := He.glo_ok X G (c.t.d.fact 80 (f := .glo "InvalidNumber") rfl)
    x_InvalidNumber := (He.exc_ok (c.t.d.fact 81 (f := .exc "InvalidNumber") rfl)).1
    k_InvalidNumber := (He.exc_ok (c.t.d.fact 81 (f := .exc "InvalidNumber") rfl)).2.1
    sb_InvalidNumber := (He.exc_ok (c.t.d.fact 81 (f := .exc "InvalidNumber") rfl)).2.2.1
    ty_InvalidNumber := (He.exc_ok (c.t.d.fact 81 (f := .exc "InvalidNumber") rfl)).2.2.2
    c_InvalidStair := He.glo_ok X G (c.t.d.fact 82 (f := .glo "InvalidStair") rfl)
    x_InvalidStair := (He.exc_ok (c.t.d.fact 83 (f := .exc "InvalidStair") rfl)).1
    k_InvalidStair := (He.exc_ok (c.t.d.fact 83 (f := .exc "InvalidStair") rfl)).2.1
    sb_InvalidStair := (He.exc_ok (c.t.d.fact 83 (f := .exc "InvalidStair") rfl)).2.2.1
    ty_InvalidStair := (He.exc_ok (c.t.d.fact 83 (f := .exc "InvalidStair") rfl)).2.2.2
    c_NoCase := He.glo_ok X G (c.t.d.fact 84 (f := .glo "NoCase") rfl)
    x_NoCase := (He.exc_ok (c.t.d.fact 85 (f := .exc "NoCase") rfl)).1
    k_NoCase := (He.exc_ok (c.t.d.fact 85 (f := .exc "NoCase") rfl)).2.1
    sb_NoCase := (He.exc_ok (c.t.d.fact 85 (f := .exc "NoCase") rfl)).2.2.1
    ty_NoCase := (He.exc_ok (c.t.d.fact 85 (f := .exc "NoCase") rfl)).2.2.2
    c_Unlike := He.glo_ok X G (c.t.d.fact 86 (f := .glo "Unlike") rfl)
    x_Unlike := (He.exc_ok (c.t.d.fact 87 (f := .exc "Unlike") rfl)).1
    k_Unlike := (He.exc_ok (c.t.d.fact 87 (f := .exc "Unlike") rfl)).2.1
    sb_Unlike := (He.exc_ok (c.t.d.fact 87 (f := .exc "Unlike") rfl)).2.2.1
    ty_Unlike := (He.exc_ok (c.t.d.fact 87 (f := .exc "Unlike") rfl)).2.2.2
    v_HIGH := He.int_ok X G (c.t.d.fact 88 (f := .int "HIGH" 1000000000000) rfl)
    v_MOST_PUTS := He.int_ok X G (c.t.d.fact 89 (f := .int "MOST_PUTS" 4) rfl)
    v_MOST_STEPS := He.int_ok X G (c.t.d.fact 90 (f := .int "MOST_STEPS" 8) rfl)
    v_NUMBERS := He.int_ok X G (c.t.d.fact 91 (f := .int "NUMBERS" 1000000000) rfl)
    cd := fun x hx => by
      simp only [clsL, List.mem_cons, List.not_mem_nil, or_false] at hx
      rcases hx with rfl | rfl | rfl | rfl | rfl | rfl | rfl | rfl | rfl | rfl | rfl | rfl
      · exact He.glo_ok X G (c.t.d.fact 82 (f := .glo "InvalidStair") rfl)
      · exact He.glo_ok X G (c.t.d.fact 72 (f := .glo "InvalidCourse") rfl)
      · exact He.glo_ok X G (c.t.d.fact 76 (f := .glo "InvalidGiven") rfl)
      · exact He.glo_ok X G (c.t.d.fact 74 (f := .glo "InvalidFacts") rfl)
      · exact He.glo_ok X G (c.t.d.fact 78 (f := .glo "InvalidIndex") rfl)
      · exact He.glo_ok X G (c.t.d.fact 80 (f := .glo "InvalidNumber") rfl)
      · exact He.glo_ok X G (c.t.d.fact 84 (f := .glo "NoCase") rfl)
      · exact He.glo_ok X G (c.t.d.fact 86 (f := .glo "Unlike") rfl)
      · exact He.glo_ok X G (c.t.d.fact 92 (f := .glo "Quarrel") rfl)
      · exact He.glo_ok X G (c.t.d.fact 93 (f := .glo "NothingToUndo") rfl)
      · exact He.glo_ok X G (c.t.d.fact 94 (f := .glo "InvalidText") rfl)
      · exact He.glo_ok X G (c.t.d.fact 95 (f := .glo "TooMany") rfl)
    kit := fun x hx => (er hx).1
    kve := fun x hx => (er hx).2.1
    exC := fun x hx => (er hx).2.2.1
    exS := fun x hx => (er hx).2.2.2
    cS := He.glo_ok X G (c.t.d.fact 96 (f := .glo "StairError") rfl)
    pn_law_by_law_course_calls := of_decide_eq_true (He.ba (He.ba c.more).2).1
    pn_law_by_law_facts_calls := of_decide_eq_true (He.ba (He.ba (He.ba c.more).2).2).1
    pn_law_by_law := of_decide_eq_true (He.ba (He.ba (He.ba (He.ba c.more).2).2).2).1
    pn_law_course_calls_law_facts_calls := of_decide_eq_true (He.ba (He.ba (He.ba (He.ba (He.ba c.more).2).2).2).2).1
    pn_law_course_calls_law := of_decide_eq_true (He.ba (He.ba (He.ba (He.ba (He.ba (He.ba c.more).2).2).2).2).2).1
    pn_law_facts_calls_law := of_decide_eq_true (He.ba (He.ba (He.ba (He.ba (He.ba (He.ba c.more).2).2).2).2).2).2
  }, rfl, fun s v => FunD.bindsA (ps := ["script"]) F58 (fun _ _ _ _ _ _ us hl => match us, hl with | [_], _ => rfl) s [v] rfl⟩
theorem tabs_ok {K : PySem.W.Frag} {mg : Str → Option Value} (T : Tx K mg) {H : Hp} (h : ∀ p ∈ T.cs, H p.2 = some (.tbl #[])) : LamX.Tabs T.tabs H := List.forall_mem_cons.mpr ⟨LamX.TabS.nil (h (T.c_law_by, T.p_law_by) (by simp [Tx.cs])), List.forall_mem_cons.mpr ⟨LamX.TabS.nil (h (T.c_law_course_calls, T.p_law_course_calls) (by simp [Tx.cs])), List.forall_mem_cons.mpr ⟨LamX.TabS.nil (h (T.c_law_facts_calls, T.p_law_facts_calls) (by simp [Tx.cs])), List.forall_mem_cons.mpr ⟨LamX.TabS.nil (h (T.c_law, T.p_law) (by simp [Tx.cs])), fun _ z => nomatch z⟩⟩⟩⟩
end DL
open PySem PySem.W PySem.Calls PyProof.Rows
theorem PySem.Challenge.cw_anystair_k15_errors_in_order_holds : PySem.Challenge.rw_anystair_k15_errors_in_order.Holds := by
  w_on; o_law
  refine HandSHeadRun.head_any (r := DL.RR) (q := DL.QQ) (H := DL.hkL) (ob := DL.obL) (M := 15000) (loose := DL.looseL) (d := DL.dL) (kwd := []) DL.obL_eq DL.hc1 DL.hc2 HandSHeadRun.runL DL.hc3 DL.hc4 DL.hc5 DL.hc6 DL.hc7 DL.hc8 DL.hc9 DL.hc10 ?hc
  case hc =>
    refine LamX.walk_ofTsE (l := PySem.Challenge.rw_anystair_k15_errors_in_order) (n := 63) (k := 42) (x := "script") (CX := fun w => L2N.CX (PySem.Challenge.rw_anystair_k15_errors_in_order).prog w) rfl (by decide) DL.hc12 ⟨rfl, by decide, by decide⟩ ?F ?E
    case E =>
      intro w H s e s' z
      obtain ⟨_, _, _, _, _, _, _, _, _, _, _, _, z⟩ := z
      exact z
    case F =>
      intro w mg fa h Y G hmg0
      obtain ⟨K, KX, c⟩ := Y
      have hmg : mg ("law" : PySem.Str) = some (.ref fa) := by
        have e : DL.dL.name = ("law" : PySem.Str) := DL.hc11
        rw [← e]
        exact hmg0
      obtain ⟨T, hcs, hbl⟩ := DL.tx_of KX G c
      have e2 : fa = T.f_law := PySem.Value.ref.inj (Option.some.inj (hmg.symm.trans T.g_law))
      subst e2
      refine ⟨K, KX, T.d_law, T.cs, DL.spScr K T.tabs, ?_, ?_, ?_, ?_, ?_, ?_⟩
      · intro p hp
        rw [hcs] at hp
        obtain ⟨q, hq, rfl⟩ := List.mem_map.mp hp
        exact c.empty q hq
      · intro p hp
        rw [hcs] at hp
        obtain ⟨q, hq, rfl⟩ := List.mem_map.mp hp
        exact c.out q hq
      · intro p hp
        rw [hcs] at hp
        obtain ⟨q, hq, rfl⟩ := List.mem_map.mp hp
        exact codeHd_of_K KX (c.hd q hq)
      · exact hbl
      · intro H a ns hl hb hT hS
        exact ⟨a, ns, rfl, hl, DL.tabs_ok T hT, hS, fun _ => rfl⟩
      · intro base kb gb TB
        exact DL.fn_script (N := fun sc => DL.N_law sc T.ad) (fun sc => DL.ok_law T TB sc) (fun sc s ns hl h => DL.main_ok sc T.ad s ns hl h)
