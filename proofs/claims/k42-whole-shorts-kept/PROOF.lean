import PyProof.Rows.All
import Wide.All
import OpenK.AllK
import Wide.FinOn
import HandS.ForMost
import HandS.Exc
import HandS.Defaults
import HandS.HeadHook1
import HandS.HeadHook2
import HandS.HeadHook4
import HandS.ClsMeth
import HandS.ExcIs
import HandS.ExcField
import HandS.Lambda
import HandS.OwnEq
import HandS.Deep
import HandS.Wide
import HandS.TupAny
import KE.KStateDown
import Lean
import HandS.Head0
import HandS.Head1
import HandS.Head2
import HandS.HeadEnd
import HandS.NestedK
import KE.SortKeyHeap
import HandS.IsInst
import HandS.Walk
import HandS.Text
import HandS.StrMore
import HandS.Style
import HandS.FStr
import HandS.More
import HandS.MakeKw
import HandS.Steps
import HandS.Evl
import KE.DataCmp
import PyProof.InstNe
import HandS.SortKw
import HandS.ListEq
import PyProof.NeKinds
import KE.KCallOwn
import KE.GoesEnum
import HandS.ExcInit
import HandS.TryMany
import HandS.ExcCtx
import KE.KExcInit
import PyProof.StrBlock2
import PyProof.Rows.StrMul
import HandS.DeepEq
import HandS.HotCalls
import HandS.HeadWalk
import HandS.EndTab
import PySem.Challenge.RW_spinemarks_k42_whole_shorts_kept
set_option Elab.async false
set_option linter.all false
set_option maxRecDepth 100000
set_option maxHeartbeats 4000000
namespace K42
open PySem PySem.Spec PyProof.Rows L2
def top (i : Nat) : Stmt := PySem.Challenge.pw_spinemarks_k42_whole_shorts_kept.main.body.getD i (.Pass ⟨0, 0, 0, 0⟩)
def dd (a : Str × Option Str) (n q : Str) (s : Stmt) (d : List He.Dv) : He.DefD := ⟨a, n, q, defArgs s, defBody s, defScope s, d, []⟩
abbrev S_TooLong_init : Stmt := inClass (top 11) 0
abbrev S_There_init : Stmt := inClass (top 12) 0
abbrev S_Full_init : Stmt := inClass (top 15) 0
abbrev S_NotThere_init : Stmt := inClass (top 16) 0
abbrev S_is_whole : Stmt := top 22
abbrev S_figures_of : Stmt := top 23
abbrev S_is_name : Stmt := top 24
abbrev S_is_figures : Stmt := top 25
abbrev S_is_points : Stmt := top 26
abbrev S_is_maker : Stmt := top 27
abbrev S_is_letters : Stmt := top 28
abbrev S_need_year : Stmt := top 34
abbrev S_need_copy : Stmt := top 35
abbrev S_makers_in : Stmt := top 36
abbrev S_Mark_init : Stmt := inClass (top 37) 0
abbrev S_Mark_text_of : Stmt := inClass (top 37) 1
abbrev S_Mark_eq : Stmt := inClass (top 37) 2
abbrev S_Mark_str : Stmt := inClass (top 37) 3
abbrev S_Mark_len : Stmt := inClass (top 37) 5
abbrev S_Mark_letters : Stmt := inClass (top 37) 6
abbrev S_Mark_number : Stmt := inClass (top 37) 7
abbrev S_Mark_points : Stmt := inClass (top 37) 8
abbrev S_Mark_makers : Stmt := inClass (top 37) 9
abbrev S_Mark_year : Stmt := inClass (top 37) 10
abbrev S_Mark_copy_number : Stmt := inClass (top 37) 11
abbrev S_Mark_parts : Stmt := inClass (top 37) 12
abbrev S_Mark_key : Stmt := inClass (top 37) 13
abbrev S_Mark_ahead : Stmt := inClass (top 37) 14
abbrev S_in_order : Stmt := top 39
abbrev S_first_wrong : Stmt := top 40
abbrev S_need_rising : Stmt := top 41
abbrev S_place_in : Stmt := top 42
abbrev S_beginnings : Stmt := top 46
abbrev S_maker_cuts : Stmt := top 47
abbrev S_or_none : Stmt := top 48
abbrev S_need_few : Stmt := top 49
abbrev S_cuts_of : Stmt := top 50
abbrev S_need_marks : Stmt := top 51
abbrev S_with_sums : Stmt := top 52
abbrev S_sums_of : Stmt := top 53
abbrev S_least_in : Stmt := top 54
abbrev S_short_row : Stmt := top 55
abbrev S_Shorts_init : Stmt := inClass (top 56) 0
abbrev S_Shorts_work : Stmt := inClass (top 56) 1
abbrev S_Shorts_len : Stmt := inClass (top 56) 2
abbrev S_Shorts_marks : Stmt := inClass (top 56) 3
abbrev S_Shorts_row : Stmt := inClass (top 56) 4
abbrev S_Shorts_signs : Stmt := inClass (top 56) 5
abbrev S_Shorts_short_of : Stmt := inClass (top 56) 6
abbrev S_Shorts_meant : Stmt := inClass (top 56) 7
abbrev S_Shorts_put : Stmt := inClass (top 56) 8
abbrev S_Shorts_take : Stmt := inClass (top 56) 9
abbrev S_Shorts_paper : Stmt := inClass (top 56) 10
abbrev S__law_cell_at : Stmt := top 58
abbrev S__law_pool : Stmt := top 59
abbrev S__law_take : Stmt := top 60
abbrev S__law_figures : Stmt := top 61
abbrev S__law_maker : Stmt := top 62
abbrev S__law_mark : Stmt := top 63
abbrev S__law_key : Stmt := top 64
abbrev S__law_text : Stmt := top 66
abbrev S__law_few : Stmt := top 67
abbrev S__law_small : Stmt := top 68
abbrev S__law_beside : Stmt := top 69
abbrev S__law_shelf : Stmt := top 70
abbrev S__law_hands_cut : Stmt := top 71
abbrev S__law_cuts : Stmt := top 72
abbrev S__law_sums : Stmt := top 73
abbrev S__law_least : Stmt := top 74
abbrev S__law_did : Stmt := top 75
abbrev S__law_due : Stmt := top 76
abbrev S__law_is_cut : Stmt := top 77
abbrev S__law_stands : Stmt := top 78
abbrev S__law_meant : Stmt := top 79
abbrev S__law_gone : Stmt := top 80
abbrev S__law_drawn : Stmt := top 81
abbrev S__law_held : Stmt := top 82
abbrev S__law_asked : Stmt := top 83
abbrev S__law_step : Stmt := top 84
abbrev S__law_filled : Stmt := top 85
abbrev S_law : Stmt := top 86
def fn : List He.DefD := [
  dd ("TooLong", some "__init__") "__init__" "TooLong.__init__" S_TooLong_init [],
  dd ("There", some "__init__") "__init__" "There.__init__" S_There_init [],
  dd ("Full", some "__init__") "__init__" "Full.__init__" S_Full_init [],
  dd ("NotThere", some "__init__") "__init__" "NotThere.__init__" S_NotThere_init [],
  dd ("is_whole", none) "is_whole" "is_whole" S_is_whole [.non],
  dd ("figures_of", none) "figures_of" "figures_of" S_figures_of [],
  dd ("is_name", none) "is_name" "is_name" S_is_name [],
  dd ("is_figures", none) "is_figures" "is_figures" S_is_figures [],
  dd ("is_points", none) "is_points" "is_points" S_is_points [],
  dd ("is_maker", none) "is_maker" "is_maker" S_is_maker [],
  dd ("is_letters", none) "is_letters" "is_letters" S_is_letters [],
  dd ("need_year", none) "need_year" "need_year" S_need_year [],
  dd ("need_copy", none) "need_copy" "need_copy" S_need_copy [],
  dd ("makers_in", none) "makers_in" "makers_in" S_makers_in [],
  dd ("Mark", some "__init__") "__init__" "Mark.__init__" S_Mark_init [.str "", .non, .non, .non],
  dd ("Mark", some "text_of") "text_of" "Mark.text_of" S_Mark_text_of [],
  dd ("Mark", some "__eq__") "__eq__" "Mark.__eq__" S_Mark_eq [],
  dd ("Mark", some "__str__") "__str__" "Mark.__str__" S_Mark_str [],
  dd ("Mark", some "__len__") "__len__" "Mark.__len__" S_Mark_len [],
  dd ("Mark", some "letters") "letters" "Mark.letters" S_Mark_letters [],
  dd ("Mark", some "number") "number" "Mark.number" S_Mark_number [],
  dd ("Mark", some "points") "points" "Mark.points" S_Mark_points [],
  dd ("Mark", some "makers") "makers" "Mark.makers" S_Mark_makers [],
  dd ("Mark", some "year") "year" "Mark.year" S_Mark_year [],
  dd ("Mark", some "copy_number") "copy_number" "Mark.copy_number" S_Mark_copy_number [],
  dd ("Mark", some "parts") "parts" "Mark.parts" S_Mark_parts [],
  dd ("Mark", some "key") "key" "Mark.key" S_Mark_key [],
  dd ("Mark", some "ahead") "ahead" "Mark.ahead" S_Mark_ahead [],
  dd ("in_order", none) "in_order" "in_order" S_in_order [.bl false],
  dd ("first_wrong", none) "first_wrong" "first_wrong" S_first_wrong [],
  dd ("need_rising", none) "need_rising" "need_rising" S_need_rising [],
  dd ("place_in", none) "place_in" "place_in" S_place_in [],
  dd ("beginnings", none) "beginnings" "beginnings" S_beginnings [],
  dd ("maker_cuts", none) "maker_cuts" "maker_cuts" S_maker_cuts [],
  dd ("or_none", none) "or_none" "or_none" S_or_none [],
  dd ("need_few", none) "need_few" "need_few" S_need_few [],
  dd ("cuts_of", none) "cuts_of" "cuts_of" S_cuts_of [],
  dd ("need_marks", none) "need_marks" "need_marks" S_need_marks [],
  dd ("with_sums", none) "with_sums" "with_sums" S_with_sums [],
  dd ("sums_of", none) "sums_of" "sums_of" S_sums_of [],
  dd ("least_in", none) "least_in" "least_in" S_least_in [],
  dd ("short_row", none) "short_row" "short_row" S_short_row [],
  dd ("Shorts", some "__init__") "__init__" "Shorts.__init__" S_Shorts_init [],
  dd ("Shorts", some "work") "work" "Shorts.work" S_Shorts_work [],
  dd ("Shorts", some "__len__") "__len__" "Shorts.__len__" S_Shorts_len [],
  dd ("Shorts", some "marks") "marks" "Shorts.marks" S_Shorts_marks [],
  dd ("Shorts", some "row") "row" "Shorts.row" S_Shorts_row [],
  dd ("Shorts", some "signs") "signs" "Shorts.signs" S_Shorts_signs [],
  dd ("Shorts", some "short_of") "short_of" "Shorts.short_of" S_Shorts_short_of [],
  dd ("Shorts", some "meant") "meant" "Shorts.meant" S_Shorts_meant [],
  dd ("Shorts", some "put") "put" "Shorts.put" S_Shorts_put [],
  dd ("Shorts", some "take") "take" "Shorts.take" S_Shorts_take [],
  dd ("Shorts", some "paper") "paper" "Shorts.paper" S_Shorts_paper [],
  dd ("_law_cell_at", none) "_law_cell_at" "_law_cell_at" S__law_cell_at [],
  dd ("_law_pool", none) "_law_pool" "_law_pool" S__law_pool [],
  dd ("_law_take", none) "_law_take" "_law_take" S__law_take [],
  dd ("_law_figures", none) "_law_figures" "_law_figures" S__law_figures [],
  dd ("_law_maker", none) "_law_maker" "_law_maker" S__law_maker [],
  dd ("_law_mark", none) "_law_mark" "_law_mark" S__law_mark [],
  dd ("_law_key", none) "_law_key" "_law_key" S__law_key [],
  dd ("_law_text", none) "_law_text" "_law_text" S__law_text [],
  dd ("_law_few", none) "_law_few" "_law_few" S__law_few [],
  dd ("_law_small", none) "_law_small" "_law_small" S__law_small [],
  dd ("_law_beside", none) "_law_beside" "_law_beside" S__law_beside [],
  dd ("_law_shelf", none) "_law_shelf" "_law_shelf" S__law_shelf [],
  dd ("_law_hands_cut", none) "_law_hands_cut" "_law_hands_cut" S__law_hands_cut [],
  dd ("_law_cuts", none) "_law_cuts" "_law_cuts" S__law_cuts [],
  dd ("_law_sums", none) "_law_sums" "_law_sums" S__law_sums [],
  dd ("_law_least", none) "_law_least" "_law_least" S__law_least [],
  dd ("_law_did", none) "_law_did" "_law_did" S__law_did [],
  dd ("_law_due", none) "_law_due" "_law_due" S__law_due [],
  dd ("_law_is_cut", none) "_law_is_cut" "_law_is_cut" S__law_is_cut [],
  dd ("_law_stands", none) "_law_stands" "_law_stands" S__law_stands [],
  dd ("_law_meant", none) "_law_meant" "_law_meant" S__law_meant [],
  dd ("_law_gone", none) "_law_gone" "_law_gone" S__law_gone [],
  dd ("_law_drawn", none) "_law_drawn" "_law_drawn" S__law_drawn [],
  dd ("_law_held", none) "_law_held" "_law_held" S__law_held [],
  dd ("_law_asked", none) "_law_asked" "_law_asked" S__law_asked [],
  dd ("_law_step", none) "_law_step" "_law_step" S__law_step [],
  dd ("_law_filled", none) "_law_filled" "_law_filled" S__law_filled [],
  dd ("law", none) "law" "law" S_law []]
def fa : List He.Fa := [
  .glo "MarkError",
  .glo "Missing",
  .glo "NoLetters",
  .glo "NoNumber",
  .glo "NoPoints",
  .glo "NoMakers",
  .glo "NoMaker",
  .glo "NoYear",
  .glo "NoCopy",
  .glo "TooLong",
  .glo "There",
  .glo "NoRow",
  .glo "NotRising",
  .glo "Full",
  .glo "NotThere",
  .glo "is_whole",
  .glo "figures_of",
  .glo "is_name",
  .glo "is_figures",
  .glo "is_points",
  .glo "is_maker",
  .glo "is_letters",
  .glo "need_year",
  .glo "need_copy",
  .glo "makers_in",
  .glo "Mark",
  .glo "in_order",
  .glo "first_wrong",
  .glo "need_rising",
  .glo "place_in",
  .glo "beginnings",
  .glo "maker_cuts",
  .glo "or_none",
  .glo "need_few",
  .glo "cuts_of",
  .glo "need_marks",
  .glo "with_sums",
  .glo "sums_of",
  .glo "least_in",
  .glo "short_row",
  .glo "Shorts",
  .glo "_law_cell_at",
  .glo "_law_pool",
  .glo "_law_take",
  .glo "_law_figures",
  .glo "_law_maker",
  .glo "_law_mark",
  .glo "_law_key",
  .glo "_law_text",
  .glo "_law_few",
  .glo "_law_small",
  .glo "_law_beside",
  .glo "_law_shelf",
  .glo "_law_hands_cut",
  .glo "_law_cuts",
  .glo "_law_sums",
  .glo "_law_least",
  .glo "_law_did",
  .glo "_law_due",
  .glo "_law_is_cut",
  .glo "_law_stands",
  .glo "_law_meant",
  .glo "_law_gone",
  .glo "_law_drawn",
  .glo "_law_held",
  .glo "_law_asked",
  .glo "_law_step",
  .glo "_law_filled",
  .glo "law",
  .free "isinstance",
  .free "len",
  .free "all",
  .free "int",
  .free "bool",
  .free "str",
  .free "list",
  .free "tuple",
  .free "sorted",
  .free "range",
  .free "enumerate",
  .free "sum",
  .free "min",
  .free "max",
  .free "zip",
  .free "divmod",
  .free "LookupError",
  .free "ValueError",
  .int "LONGEST" 6,
  .int "PART" 60,
  .int "MOST_MAKERS" 3,
  .int "FIRST_YEAR" 1000,
  .int "LAST_YEAR" 2999,
  .int "GREATEST" 9999,
  .int "MOST_SIGNS" 24,
  .int "MOST_MARKS" 12,
  .str "LETTERS" "abcdefghijklmnopqrstuvwxyz",
  .str "FIGURES" "0123456789",
  .cls "Mark",
  .mkr "Mark",
  .cls "Shorts",
  .mkr "Shorts",
  .noat "Mark" "kept_makers",
  .noat "Mark" "kept_letters",
  .noat "Mark" "kept_number",
  .noat "Mark" "kept_points",
  .noat "Mark" "kept_year",
  .noat "Mark" "kept_copy",
  .noat "Mark" "kept_text",
  .noat "Shorts" "kept_marks",
  .noat "Shorts" "kept_sums",
  .noat "Shorts" "kept_row",
  .meth "Mark" "__init__",
  .meth "Mark" "text_of",
  .meth "Mark" "__eq__",
  .meth "Mark" "__str__",
  .meth "Mark" "__len__",
  .meth "Mark" "letters",
  .meth "Mark" "number",
  .meth "Mark" "points",
  .meth "Mark" "makers",
  .meth "Mark" "year",
  .meth "Mark" "copy_number",
  .meth "Mark" "parts",
  .meth "Mark" "key",
  .meth "Mark" "ahead",
  .meth "Shorts" "__init__",
  .meth "Shorts" "work",
  .meth "Shorts" "__len__",
  .meth "Shorts" "marks",
  .meth "Shorts" "row",
  .meth "Shorts" "signs",
  .meth "Shorts" "short_of",
  .meth "Shorts" "meant",
  .meth "Shorts" "put",
  .meth "Shorts" "take",
  .meth "Shorts" "paper"]
def loose0 : List Str := ["_wall", "MarkError", "Missing", "NoLetters", "NoNumber", "NoPoints", "NoMakers", "NoMaker", "NoYear", "NoCopy", "TooLong", "There", "NoRow", "NotRising", "Full", "NotThere", "LETTERS", "FIGURES", "LONGEST", "PART", "is_whole", "figures_of", "is_name", "is_figures", "is_points", "is_maker", "is_letters", "MOST_MAKERS", "FIRST_YEAR", "LAST_YEAR"]
def loose1 : List Str := ["GREATEST", "need_year", "need_copy", "makers_in", "Mark", "in_order", "first_wrong", "need_rising", "place_in", "MOST_SIGNS", "MOST_MARKS", "beginnings", "maker_cuts", "or_none", "need_few", "cuts_of", "need_marks", "with_sums", "sums_of", "least_in", "short_row", "Shorts", "_law_cell_at", "_law_pool", "_law_take", "_law_figures", "_law_maker", "_law_mark", "_law_key", "_law_order"]
def loose2 : List Str := ["_law_text", "_law_few", "_law_small", "_law_beside", "_law_shelf", "_law_hands_cut", "_law_cuts", "_law_sums", "_law_least", "_law_did", "_law_due", "_law_is_cut", "_law_stands", "_law_meant", "_law_gone", "_law_drawn", "_law_held", "_law_asked", "_law_step", "_law_filled"]
def loose : List Str := loose0 ++ loose1 ++ loose2
end K42
set_option Elab.async false
set_option linter.all false
set_option maxRecDepth 100000
set_option maxHeartbeats 4000000
/-! facts of the exception classes, as truths that the head tells -/
namespace K42
open PySem PySem.Spec PyProof.Rows L2
abbrev veTl : List Value := [.type "ValueError", .type "Exception", .type "BaseException", .type "object"]
abbrev leTl : List Value := [.type "LookupError", .type "Exception", .type "BaseException", .type "object"]
/-- own classes, then tail -/
def refsT (tail : List Value) : List Value → Bool
  | .ref _ :: r => refsT tail r
  | l => l == tail
/-- the class's object -/
def oexB (K : PySem.W.Frag) (C : Addr) (tail : List Value) (newId : String) : Bool := match K.lookup C with
  | some ⟨.type "type", _, .cls cd, sl⟩ => (match cd.mro, sl.toList with
    | .ref D :: bm, [_, _, _, _, some (.builtin n), _] => D == C && n == newId && !cd.hasDel && cd.hasDict && refsT tail bm
    | _, _ => false)
  | _ => false
theorem oexB_ok {K : PySem.W.Frag} {C : Addr} {tail : List Value} {newId : String} (q : oexB K C tail newId = true) :
    ∃ nm qn N bs bm sn sub ab col dd k0 k1 k2 k3 k5, K.lookup C = some (excClassObj nm qn C N bs bm true sn sub ab col dd k0 k1 k2 k3 k5 newId) ∧ refsT tail bm = true := by
  unfold oexB at q
  split at q
  · rename_i dd cd sl ho
    split at q
    · rename_i D bm k0 k1 k2 k3 n k5 hm hs
      simp only [Bool.and_eq_true, beq_iff_eq, Bool.not_eq_true'] at q
      obtain ⟨⟨⟨⟨rfl, rfl⟩, hdel⟩, hhd⟩, ht⟩ := q
      obtain ⟨nm, bs, mro, ns, qn, hd, sn, sub, ab, col, del⟩ := cd
      dsimp only at hm hdel hhd
      subst hm hdel hhd
      have hsl : sl = #[k0, k1, k2, k3, some (.builtin n), k5] := by
        obtain ⟨l⟩ := sl
        simp only at hs
        rw [hs]
      subst hsl
      exact ⟨nm, qn, ns, bs, bm, sn, sub, ab, col, dd, k0, k1, k2, k3, k5, ho, ht⟩
    · cases q
  · cases q
def valB (o : Option PySem.W.CFound) (id : String) : Bool := match o with
  | some (.val (.builtin n)) => n == id
  | _ => false
theorem valB_ok {o : Option PySem.W.CFound} {id : String} (h : valB o id = true) : o = some (.val (.builtin id)) := by
  unfold valB at h
  split at h
  · rename_i n
    rw [beq_iff_eq.mp h]
  · cases h
/-- all that is asked of an exception class of the text: its object, its field -/
def excB (K : PySem.W.Frag) (x : Str) (tail : List Value) (newId : String) (f : Str) : Bool :=
  let C := He.ga K x
  oexB K C tail newId && (He.eqO (PySem.W.findIn K (.ref C) "__setattr__") (some (some (.builtin "object.__setattr__"))) && (decide (PySem.W.subIn K (.ref C) (.type "BaseException") = some true) && (decide (PySem.W.typeIn K (.ref C) = some (.type "type")) && (PySem.W.keepIn K (.ref C) &&
  (He.eqO (PySem.W.findIn K (.ref C) "__init__") (some (some (.ref (He.ma K C "__init__")))) && (decide (PySem.W.typeIn K (.ref (He.ma K C "__init__")) = some (.type "function")) && (He.eqO (PySem.W.findIn K (.ref C) f) (some none) && (xfB K C &&
  (He.eqO (PySem.W.findIn K (.ref C) "__class__") (some (some (.builtin "object.__class__"))) && decide (PySem.W.mroIn K C (.type "object") = some true))))))))))
structure ExcF (K : PySem.W.Frag) (x : Str) (tail : List Value) (newId : String) (f : Str) : Prop where
  cls : oexB K (He.ga K x) tail newId = true
  sa : PySem.W.findIn K (.ref (He.ga K x)) "__setattr__" = some (some (.builtin "object.__setattr__"))
  exC : PySem.W.subIn K (.ref (He.ga K x)) (.type "BaseException") = some true
  tyC : PySem.W.typeIn K (.ref (He.ga K x)) = some (.type "type")
  kC : PySem.W.keepIn K (.ref (He.ga K x)) = true
  iC : PySem.W.findIn K (.ref (He.ga K x)) "__init__" = some (some (.ref (He.ma K (He.ga K x) "__init__")))
  tI : PySem.W.typeIn K (.ref (He.ma K (He.ga K x) "__init__")) = some (.type "function")
  no : PySem.W.findIn K (.ref (He.ga K x)) f = some none
  xf : XfC K (He.ga K x)
  ccl : PySem.W.findIn K (.ref (He.ga K x)) "__class__" = some (some (.builtin "object.__class__"))
  mro : PySem.W.mroIn K (He.ga K x) (.type "object") = some true
theorem excB_ok {K : PySem.W.Frag} {x : Str} {tail : List Value} {newId : String} {f : Str} (h : excB K x tail newId f = true) : ExcF K x tail newId f := by
  unfold excB at h
  simp only [Bool.and_eq_true, decide_eq_true_eq] at h
  obtain ⟨h1, h2, h3, h4, h5, h6, h7, h8, h9, h10, h11⟩ := h
  exact ⟨h1, He.eqO_ok h2, h3, h4, h5, He.eqO_ok h6, h7, He.eqO_ok h8, xfB_ok h9, He.eqO_ok h10, h11⟩
/-- a base of the text whose __init__ is a built-in one -/
def baseB (K : PySem.W.Frag) (x : Str) (initId : String) : Bool :=
  PySem.W.readsIn K (He.ga K x) (.type "type") && (He.eqO (PySem.W.specialIn K (.ref (He.ga K x)) "__getattribute__") (some (some (.builtin "type.__getattribute__"))) && valB (PySem.W.findCls K (.ref (He.ga K x)) (.type "type") "__init__") initId)
theorem baseB_ok {K : PySem.W.Frag} {x : Str} {initId : String} (h : baseB K x initId = true) : ClX.CRead K (He.ga K x) (.type "type") ∧ PySem.W.findCls K (.ref (He.ga K x)) (.type "type") "__init__" = some (.val (.builtin initId)) := by
  unfold baseB at h
  simp only [Bool.and_eq_true] at h
  exact ⟨⟨h.1, He.eqO_ok h.2.1⟩, valB_ok h.2.2⟩
/-- y is the class of the except clause, x the exception's -/
def exmB (K : PySem.W.Frag) (x y : Str) (b : Bool) : Bool := decide (PySem.W.exmOne K (.ref (He.ga K x)) (.ref (He.ga K y)) = some b)
/-- isinstance of an exception of x -/
def kitB (K : PySem.W.Frag) (x y : Str) (b : Bool) : Bool := decide (PySem.W.kitOne K (.ref (He.ga K x)) (.ref (He.ga K y)) = some b)
end K42
set_option Elab.async false
set_option linter.all false
set_option maxRecDepth 100000
set_option maxHeartbeats 4000000
namespace K42
open PySem PySem.Spec PyProof.Rows L2
/-- further facts of the text, as truths -/
def exs : List (PySem.W.Frag → Bool) := [
  fun K => He.eqO (PySem.W.findIn K (.ref (He.ga K "Mark")) "__class__") (some (some (.builtin "object.__class__"))),
  fun K => He.eqO (PySem.W.specialIn K (.builtin "object.__class__") "__get__") (some (some (.builtin "getset_descriptor.__get__"))),
  fun K => decide (PySem.W.takesIn K (.builtin "object.__class__") = some true),
  fun K => decide (PySem.W.mroIn K (He.ga K "Mark") (.type "object") = some true),
  fun K => He.eqO (PySem.W.findIn K (.ref (He.ga K "Mark")) "__ne__") (some (some (.builtin "object.__ne__"))),
  fun K => decide (PySem.W.subIn K (.ref (He.ga K "Mark")) (.type "object") = some true),
  fun K => excB K "TooLong" veTl "ValueError.__new__" "found", fun K => excB K "There" veTl "ValueError.__new__" "found", fun K => excB K "Full" veTl "ValueError.__new__" "many", fun K => excB K "NotThere" leTl "LookupError.__new__" "found",
  fun K => baseB K "MarkError" "ValueError.__init__", fun K => baseB K "Missing" "LookupError.__init__",
  fun K => exmB K "TooLong" "TooLong" true, fun K => exmB K "There" "TooLong" false, fun K => exmB K "Full" "TooLong" false, fun K => exmB K "NotThere" "TooLong" false,
  fun K => exmB K "TooLong" "There" false, fun K => exmB K "There" "There" true, fun K => exmB K "Full" "There" false, fun K => exmB K "NotThere" "There" false,
  fun K => exmB K "Full" "Full" true, fun K => exmB K "NotThere" "Full" false, fun K => exmB K "NotThere" "NotThere" true,
  fun K => kitB K "TooLong" "TooLong" true, fun K => kitB K "There" "TooLong" false, fun K => kitB K "TooLong" "There" false, fun K => kitB K "TooLong" "MarkError" true, fun K => kitB K "There" "MarkError" true, fun K => kitB K "Full" "MarkError" true, fun K => kitB K "NotThere" "Missing" true]
/-- what the head tells -/
structure Tx (K : PySem.W.Frag) (mg : Str → Option Value) (base : Heap) : Prop where
  c : He.SaysD fa fn K
  kin : K.In base
  ns : base.Ns mainGlobals mg
  e : ∀ f ∈ exs, f K = true
  tb : LamX.TabB base mg (He.cT K ("in_order", none)).1 (He.cT K ("in_order", none)).2
theorem ifT {c : Prop} [Decidable c] {A B : Prop} (hc : c) (h : A) : if decide c = true then A else B := by rw [if_pos (decide_eq_true hc)]; exact h
theorem ifF {c : Prop} [Decidable c] {A B : Prop} (hc : ¬ c) (h : B) : if decide c = true then A else B := by rw [if_neg (by simpa using hc)]; exact h
theorem ifC {c : Prop} [Decidable c] {A B : Prop} (h1 : c → A) (h2 : ¬ c → B) : if decide c = true then A else B := by
  by_cases c' : c
  · exact ifT c' (h1 c')
  · exact ifF c' (h2 c')
theorem ifN {c : Prop} [Decidable c] {A B : Prop} (h1 : ¬ c → A) (h2 : c → B) : if (!decide c) = true then A else B := by
  by_cases c' : c
  · rw [if_neg (by simpa using c')]; exact h2 c'
  · rw [if_pos (by simpa using c')]; exact h1 c'
theorem ifB {b : Bool} {A B : Prop} (h1 : b = true → A) (h2 : b = false → B) : if b = true then A else B := by
  cases b
  · exact h2 rfl
  · exact h1 rfl
section
variable {P : Program} {w : World} {K : PySem.W.Frag} {mg : Str → Option Value} {base : Heap} {CX : CXT} {lvl : Nat} {N ps : List Str} {sp : Sp}
theorem Tx.glo (T : Tx K mg base) (j : Nat) {x : Str} (h : fa[j]? = some (.glo x)) : mg x = some (.ref (He.ga K x)) := He.glo_ok T.kin T.ns (T.c.fact j h)
theorem Tx.free (T : Tx K mg base) (j : Nat) {x : Str} (h : fa[j]? = some (.free x)) : mg x = none := He.free_ok T.kin T.ns (T.c.fact j h)
theorem Tx.ex (T : Tx K mg base) (i : Nat) {f : PySem.W.Frag → Bool} (h : exs[i]? = some f) : f K = true := T.e f (List.mem_of_getElem? h)
theorem Tx.cM (T : Tx K mg base) : Cls K (He.ga K "Mark") := He.cls_ok (T.c.fact 97 rfl)
theorem Tx.nM_makers (T : Tx K mg base) : NoAttr K (He.ga K "Mark") "kept_makers" := He.noat_ok (T.c.fact 101 rfl)
theorem Tx.nM_letters (T : Tx K mg base) : NoAttr K (He.ga K "Mark") "kept_letters" := He.noat_ok (T.c.fact 102 rfl)
theorem Tx.nM_number (T : Tx K mg base) : NoAttr K (He.ga K "Mark") "kept_number" := He.noat_ok (T.c.fact 103 rfl)
theorem Tx.nM_points (T : Tx K mg base) : NoAttr K (He.ga K "Mark") "kept_points" := He.noat_ok (T.c.fact 104 rfl)
theorem Tx.nM_year (T : Tx K mg base) : NoAttr K (He.ga K "Mark") "kept_year" := He.noat_ok (T.c.fact 105 rfl)
theorem Tx.nM_copy (T : Tx K mg base) : NoAttr K (He.ga K "Mark") "kept_copy" := He.noat_ok (T.c.fact 106 rfl)
theorem Tx.nM_text (T : Tx K mg base) : NoAttr K (He.ga K "Mark") "kept_text" := He.noat_ok (T.c.fact 107 rfl)
theorem Tx.cS (T : Tx K mg base) : Cls K (He.ga K "Shorts") := He.cls_ok (T.c.fact 99 rfl)
theorem Tx.nS_marks (T : Tx K mg base) : NoAttr K (He.ga K "Shorts") "kept_marks" := He.noat_ok (T.c.fact 108 rfl)
theorem Tx.nS_sums (T : Tx K mg base) : NoAttr K (He.ga K "Shorts") "kept_sums" := He.noat_ok (T.c.fact 109 rfl)
theorem Tx.nS_row (T : Tx K mg base) : NoAttr K (He.ga K "Shorts") "kept_row" := He.noat_ok (T.c.fact 110 rfl)
theorem Tx.f_isinstance (T : Tx K mg base) : mg "isinstance" = none := T.free 69 rfl
theorem Tx.f_len (T : Tx K mg base) : mg "len" = none := T.free 70 rfl
theorem Tx.f_all (T : Tx K mg base) : mg "all" = none := T.free 71 rfl
theorem Tx.f_int (T : Tx K mg base) : mg "int" = none := T.free 72 rfl
theorem Tx.f_bool (T : Tx K mg base) : mg "bool" = none := T.free 73 rfl
theorem Tx.f_str (T : Tx K mg base) : mg "str" = none := T.free 74 rfl
theorem Tx.f_list (T : Tx K mg base) : mg "list" = none := T.free 75 rfl
theorem Tx.f_tuple (T : Tx K mg base) : mg "tuple" = none := T.free 76 rfl
theorem Tx.f_sorted (T : Tx K mg base) : mg "sorted" = none := T.free 77 rfl
theorem Tx.f_range (T : Tx K mg base) : mg "range" = none := T.free 78 rfl
theorem Tx.f_enumerate (T : Tx K mg base) : mg "enumerate" = none := T.free 79 rfl
theorem Tx.f_sum (T : Tx K mg base) : mg "sum" = none := T.free 80 rfl
theorem Tx.f_min (T : Tx K mg base) : mg "min" = none := T.free 81 rfl
theorem Tx.f_max (T : Tx K mg base) : mg "max" = none := T.free 82 rfl
theorem Tx.f_zip (T : Tx K mg base) : mg "zip" = none := T.free 83 rfl
theorem Tx.gi_LONGEST {X : Cx} {pos : Pos} (T : Tx X.K X.mg X.base) (hg : Gl X "LONGEST" := by rfl) : PE X (.Name "LONGEST" pos) (tC (.int 6)) := by
  obtain ⟨t, e⟩ := He.int_ok T.kin T.ns (T.c.fact 87 rfl)
  exact pe_glob hg e ⟨t, rfl⟩
theorem Tx.gi_PART {X : Cx} {pos : Pos} (T : Tx X.K X.mg X.base) (hg : Gl X "PART" := by rfl) : PE X (.Name "PART" pos) (tC (.int 60)) := by
  obtain ⟨t, e⟩ := He.int_ok T.kin T.ns (T.c.fact 88 rfl)
  exact pe_glob hg e ⟨t, rfl⟩
theorem Tx.gi_MOST_MAKERS {X : Cx} {pos : Pos} (T : Tx X.K X.mg X.base) (hg : Gl X "MOST_MAKERS" := by rfl) : PE X (.Name "MOST_MAKERS" pos) (tC (.int 3)) := by
  obtain ⟨t, e⟩ := He.int_ok T.kin T.ns (T.c.fact 89 rfl)
  exact pe_glob hg e ⟨t, rfl⟩
theorem Tx.gi_FIRST_YEAR {X : Cx} {pos : Pos} (T : Tx X.K X.mg X.base) (hg : Gl X "FIRST_YEAR" := by rfl) : PE X (.Name "FIRST_YEAR" pos) (tC (.int 1000)) := by
  obtain ⟨t, e⟩ := He.int_ok T.kin T.ns (T.c.fact 90 rfl)
  exact pe_glob hg e ⟨t, rfl⟩
theorem Tx.gi_LAST_YEAR {X : Cx} {pos : Pos} (T : Tx X.K X.mg X.base) (hg : Gl X "LAST_YEAR" := by rfl) : PE X (.Name "LAST_YEAR" pos) (tC (.int 2999)) := by
  obtain ⟨t, e⟩ := He.int_ok T.kin T.ns (T.c.fact 91 rfl)
  exact pe_glob hg e ⟨t, rfl⟩
theorem Tx.gi_GREATEST {X : Cx} {pos : Pos} (T : Tx X.K X.mg X.base) (hg : Gl X "GREATEST" := by rfl) : PE X (.Name "GREATEST" pos) (tC (.int 9999)) := by
  obtain ⟨t, e⟩ := He.int_ok T.kin T.ns (T.c.fact 92 rfl)
  exact pe_glob hg e ⟨t, rfl⟩
theorem Tx.gi_MOST_SIGNS {X : Cx} {pos : Pos} (T : Tx X.K X.mg X.base) (hg : Gl X "MOST_SIGNS" := by rfl) : PE X (.Name "MOST_SIGNS" pos) (tC (.int 24)) := by
  obtain ⟨t, e⟩ := He.int_ok T.kin T.ns (T.c.fact 93 rfl)
  exact pe_glob hg e ⟨t, rfl⟩
theorem Tx.gi_MOST_MARKS {X : Cx} {pos : Pos} (T : Tx X.K X.mg X.base) (hg : Gl X "MOST_MARKS" := by rfl) : PE X (.Name "MOST_MARKS" pos) (tC (.int 12)) := by
  obtain ⟨t, e⟩ := He.int_ok T.kin T.ns (T.c.fact 94 rfl)
  exact pe_glob hg e ⟨t, rfl⟩
theorem Tx.gs_LETTERS {X : Cx} {pos : Pos} (T : Tx X.K X.mg X.base) (hg : Gl X "LETTERS" := by rfl) : PE X (.Name "LETTERS" pos) (tC (.str "abcdefghijklmnopqrstuvwxyz")) := by
  obtain ⟨t, e⟩ := He.str_ok T.kin T.ns (T.c.fact 95 rfl)
  exact pe_glob hg e ⟨t, rfl⟩
theorem Tx.gs_FIGURES {X : Cx} {pos : Pos} (T : Tx X.K X.mg X.base) (hg : Gl X "FIGURES" := by rfl) : PE X (.Name "FIGURES" pos) (tC (.str "0123456789")) := by
  obtain ⟨t, e⟩ := He.str_ok T.kin T.ns (T.c.fact 96 rfl)
  exact pe_glob hg e ⟨t, rfl⟩
/-- a def of the module, its promise -/
structure Kn (P : Program) (w : World) (K : PySem.W.Frag) (mg : Str → Option Value) (base : Heap) (CX : CXT) (lvl : Nat) (x : Str) (ps : List Str) (sp : Sp) : Prop where
  g : mg x = some (.ref (He.ga K x))
  kp : PySem.W.keepIn K (.ref (He.ga K x)) = true
  ok : ∃ fd, FnOk P w K mg base CX lvl (He.ga K x) fd ps sp ∧ Binds K fd ps []
theorem kn_of (x : Str) (T : Tx K mg base) (i j : Nat) (st : Stmt) (hfn : fn[i]? = some (dd (x, none) x x st [])) (hfa : fa[j]? = some (.glo x)) (S : FnScope N ps (defScope st))
    (len : ∀ vs H Q E, sp vs H Q E → vs.length = ps.length)
    (hb : ∀ (kV doc pm : Value) (an : Option Addr) (cdv ct : Value) (us : List Value), us.length = ps.length → bindArgs (PySem.W.fnOf x x (defArgs st) (defBody st) (defScope st) .none kV doc pm an cdv ct) ⟨us, []⟩ = pure (ps.zip us))
    (hbody : ∀ (cdv : Value) (A : Around) (outer : List Env) (s : Shared) (H : Hp) (vs : List V) (Q : VK) (E : XK), Room lvl (A.deeper (envOfC x (defScope st) s.heap.objs.size (He.ga K x) cdv)) → sp vs H Q E →
      ∃ t, PSs (cxOf CX P w K mg base N x (defScope st) (He.ga K x) cdv A outer s H E) (defBody st) t ∧ t { nx := fun _ H' => Q .non H', rt := Q } (start N vs) H) : Kn P w K mg base CX (lvl + 1) x ps sp := by
  obtain ⟨fd, F⟩ := T.c.def_ i hfn
  exact ⟨T.glo j hfa, F.kp, fd, F.ok S len hbody, F.bindsN hb⟩
theorem pe_fn {X : Cx} {x : Str} {p pos : Pos} {e : Expr} {es : List Expr} {t : TA} (c : Kn X.prog X.w X.K X.mg X.base CX0 lvl x ps sp) (hr : Room lvl X.A) (ha : PA X (e :: es) t) (hg : Gl X x := by rfl)
    (hdb : (x == ("__debug__" : Str)) = false := by decide) (he : starEach (e :: es) X.env = (false, eval e X.env) :: starEach es X.env := by rfl) (hpl : (backTo pos (starEach es X.env)).any (·.1) = false := by rfl) :
    PE X (.Call (.Name x p) (e :: es) [] pos) (tCall sp [] E0 t) := by
  obtain ⟨fd, F, b⟩ := c.ok
  exact pe_call F hr hg c.g c.kp b .nil pass0 ha hdb he hpl
/-- .. of one default -/
structure Kd (P : Program) (w : World) (K : PySem.W.Frag) (mg : Str → Option Value) (base : Heap) (CX : CXT) (lvl : Nat) (x : Str) (ps : List Str) (sp : Sp) (d : He.Dv) : Prop where
  g : mg x = some (.ref (He.ga K x))
  kp : PySem.W.keepIn K (.ref (He.ga K x)) = true
  ok : ∃ fd, FnOk P w K mg base CX lvl (He.ga K x) fd ps sp ∧ Binds K fd ps [] ∧ ∃ ds, Vals [d.v K] ds ∧ Binds K fd ps ds
theorem Kd.kn {x : Str} {d : He.Dv} (k : Kd P w K mg base CX lvl x ps sp d) : Kn P w K mg base CX lvl x ps sp := by
  obtain ⟨fd, F, b, _⟩ := k.ok
  exact ⟨k.g, k.kp, fd, F, b⟩
theorem kd_of (x : Str) (T : Tx K mg base) (i j : Nat) (st : Stmt) (d : He.Dv) (hfn : fn[i]? = some (dd (x, none) x x st [d])) (hfa : fa[j]? = some (.glo x)) (S : FnScope N ps (defScope st))
    (len : ∀ vs H Q E, sp vs H Q E → vs.length = ps.length)
    (h0 : ∀ (T : Addr) (kV doc pm : Value) (an : Option Addr) (cdv ct : Value) (us its : List Value), us.length = ps.length → its.length = 1 →
      ∃ k, bindArgs (PySem.W.fnOf x x (defArgs st) (defBody st) (defScope st) (.ref T) kV doc pm an cdv ct) ⟨us, []⟩ = seqItems? (.ref T) >>= k ∧ k (some its.toArray) = pure (ps.zip (us ++ its.drop 1)))
    (h1 : ∀ (T : Addr) (kV doc pm : Value) (an : Option Addr) (cdv ct : Value) (us its : List Value), us.length = ps.length - 1 → its.length = 1 →
      ∃ k, bindArgs (PySem.W.fnOf x x (defArgs st) (defBody st) (defScope st) (.ref T) kV doc pm an cdv ct) ⟨us, []⟩ = seqItems? (.ref T) >>= k ∧ k (some its.toArray) = pure (ps.zip (us ++ its.drop 0)))
    (hbody : ∀ (cdv : Value) (A : Around) (outer : List Env) (s : Shared) (H : Hp) (vs : List V) (Q : VK) (E : XK), Room lvl (A.deeper (envOfC x (defScope st) s.heap.objs.size (He.ga K x) cdv)) → sp vs H Q E →
      ∃ t, PSs (cxOf CX P w K mg base N x (defScope st) (He.ga K x) cdv A outer s H E) (defBody st) t ∧ t { nx := fun _ H' => Q .non H', rt := Q } (start N vs) H) (hp : 1 ≤ ps.length := by decide) : Kd P w K mg base CX (lvl + 1) x ps sp d := by
  obtain ⟨fd, F⟩ := T.c.def_ i hfn
  have F' : FunD K x x (defArgs st) (defBody st) (defScope st) [d.v K] [] (He.ga K x) fd := F
  obtain ⟨ds0, v0, b0⟩ := F'.binds1 ps.length 1 (by simp) (by simp) h0
  obtain ⟨ds1, v1, b1⟩ := F'.binds1 (ps.length - 1) 0 (by simp) (by simp; omega) h1
  cases v0
  exact ⟨T.glo j hfa, F.kp, fd, F.ok S len hbody, b0, ds1, v1, b1⟩
/-- f(e, ..), the default fills up -/
theorem pe_fnD {X : Cx} {x : Str} {p pos : Pos} {e : Expr} {es : List Expr} {t : TA} {d : He.Dv} (c : Kd X.prog X.w X.K X.mg X.base CX0 lvl x ps sp d) (hr : Room lvl X.A) (ha : PA X (e :: es) t) (hg : Gl X x := by rfl)
    (hdb : (x == ("__debug__" : Str)) = false := by decide) (he : starEach (e :: es) X.env = (false, eval e X.env) :: starEach es X.env := by rfl) (hpl : (backTo pos (starEach es X.env)).any (·.1) = false := by rfl) :
    PE X (.Call (.Name x p) (e :: es) [] pos) (tCall sp [d.v X.K] E0 t) := by
  obtain ⟨fd, F, _, ds, hv, b⟩ := c.ok
  exact pe_call F hr hg c.g c.kp b hv pass0 ha hdb he hpl
/-- a class of the text as a value -/
theorem Tx.cl {X : Cx} {x : Str} {pos : Pos} (T : Tx X.K X.mg X.base) (j : Nat) (h : fa[j]? = some (.glo x)) (hg : Gl X x := by rfl) (hd : (x == ("__debug__" : Str)) = false := by decide) : PE X (.Name x pos) (tC (.ref (He.ga X.K x))) := pe_glob hg (T.glo j h) rfl hd
/-- a class's __init__ -/
theorem init_of (C : Str) {q : Str} (T : Tx K mg base) (i : Nat) (st : Stmt) (dfl : List He.Dv) (hfn : fn[i]? = some (dd (C, some "__init__") "__init__" q st dfl)) (S : FnScope N ps (defScope st))
    (len : ∀ vs H Q E, sp vs H Q E → vs.length = ps.length)
    (hbody : ∀ (cdv : Value) (A : Around) (outer : List Env) (s : Shared) (H : Hp) (vs : List V) (Q : VK) (E : XK), Room lvl (A.deeper (envOfC q (defScope st) s.heap.objs.size (He.ma K (He.ga K C) "__init__") cdv)) → sp vs H Q E →
      ∃ t, PSs (cxOf CX P w K mg base N q (defScope st) (He.ma K (He.ga K C) "__init__") cdv A outer s H E) (defBody st) t ∧ t { nx := fun _ H' => Q .non H', rt := Q } (start N vs) H) :
    ∃ fd, FunD K "__init__" q (defArgs st) (defBody st) (defScope st) (dfl.map (He.Dv.v K)) [] (He.ma K (He.ga K C) "__init__") fd ∧ FnOk P w K mg base CX (lvl + 1) (He.ma K (He.ga K C) "__init__") fd ps sp := by
  obtain ⟨fd, F⟩ := T.c.def_ i hfn
  exact ⟨fd, F, F.ok S len hbody⟩
/-- a class's __init__ -/
theorem init_ofB (C : Str) {q : Str} (T : Tx K mg base) (i : Nat) (st : Stmt) (_ : List He.Dv) (hfn : fn[i]? = some (dd (C, some "__init__") "__init__" q st [])) (S : FnScope N ps (defScope st))
    (len : ∀ vs H Q E, sp vs H Q E → vs.length = ps.length)
    (hb : ∀ (kV doc pm : Value) (an : Option Addr) (cdv ct : Value) (us : List Value), us.length = ps.length → bindArgs (PySem.W.fnOf "__init__" q (defArgs st) (defBody st) (defScope st) .none kV doc pm an cdv ct) ⟨us, []⟩ = pure (ps.zip us))
    (hbody : ∀ (cdv : Value) (A : Around) (outer : List Env) (s : Shared) (H : Hp) (vs : List V) (Q : VK) (E : XK), Room lvl (A.deeper (envOfC q (defScope st) s.heap.objs.size (He.ma K (He.ga K C) "__init__") cdv)) → sp vs H Q E →
      ∃ t, PSs (cxOf CX P w K mg base N q (defScope st) (He.ma K (He.ga K C) "__init__") cdv A outer s H E) (defBody st) t ∧ t { nx := fun _ H' => Q .non H', rt := Q } (start N vs) H) :
    ∃ fd, FunD K "__init__" q (defArgs st) (defBody st) (defScope st) (([] : List He.Dv).map (He.Dv.v K)) [] (He.ma K (He.ga K C) "__init__") fd ∧ FnOk P w K mg base CX (lvl + 1) (He.ma K (He.ga K C) "__init__") fd ps sp ∧ Binds K fd ps [] := by
  obtain ⟨fd, F⟩ := T.c.def_ i hfn
  have Fn : FunD K "__init__" q (defArgs st) (defBody st) (defScope st) (([] : List He.Dv).map (He.Dv.v K)) [] (He.ma K (He.ga K C) "__init__") fd := F
  exact ⟨fd, F, F.ok S len hbody, FunD.bindsN Fn hb⟩
theorem Tx.cl_Mark {X : Cx} {pos : Pos} (T : Tx X.K X.mg X.base) (hg : Gl X "Mark" := by rfl) : PE X (.Name "Mark" pos) (tC (.ref (He.ga X.K "Mark"))) := T.cl 25 rfl hg
theorem Tx.cl_MarkError {X : Cx} {pos : Pos} (T : Tx X.K X.mg X.base) (hg : Gl X "MarkError" := by rfl) : PE X (.Name "MarkError" pos) (tC (.ref (He.ga X.K "MarkError"))) := T.cl 0 rfl hg
theorem Tx.cl_Missing {X : Cx} {pos : Pos} (T : Tx X.K X.mg X.base) (hg : Gl X "Missing" := by rfl) : PE X (.Name "Missing" pos) (tC (.ref (He.ga X.K "Missing"))) := T.cl 1 rfl hg
theorem Tx.cl_TooLong {X : Cx} {pos : Pos} (T : Tx X.K X.mg X.base) (hg : Gl X "TooLong" := by rfl) : PE X (.Name "TooLong" pos) (tC (.ref (He.ga X.K "TooLong"))) := T.cl 9 rfl hg
theorem Tx.cl_There {X : Cx} {pos : Pos} (T : Tx X.K X.mg X.base) (hg : Gl X "There" := by rfl) : PE X (.Name "There" pos) (tC (.ref (He.ga X.K "There"))) := T.cl 10 rfl hg
/-- a method of an own class, its promise -/
structure Km (P : Program) (w : World) (K : PySem.W.Frag) (mg : Str → Option Value) (base : Heap) (CX : CXT) (lvl : Nat) (C m : Str) (ps : List Str) (sp : Sp) : Prop where
  cl : Cls K (He.ga K C)
  me : Meth K (He.ga K C) m (He.ma K (He.ga K C) m)
  ok : ∃ fd, FnOk P w K mg base CX lvl (He.ma K (He.ga K C) m) fd ps sp ∧ Binds K fd ps []
theorem km_of (C m : Str) {q : Str} (T : Tx K mg base) (i j k : Nat) (st : Stmt) (hfn : fn[i]? = some (dd (C, some m) m q st [])) (hfa : fa[j]? = some (.meth C m)) (hfc : fa[k]? = some (.cls C)) (S : FnScope N ps (defScope st))
    (len : ∀ vs H Q E, sp vs H Q E → vs.length = ps.length)
    (hb : ∀ (kV doc pm : Value) (an : Option Addr) (cdv ct : Value) (us : List Value), us.length = ps.length → bindArgs (PySem.W.fnOf m q (defArgs st) (defBody st) (defScope st) .none kV doc pm an cdv ct) ⟨us, []⟩ = pure (ps.zip us))
    (hbody : ∀ (cdv : Value) (A : Around) (outer : List Env) (s : Shared) (H : Hp) (vs : List V) (Q : VK) (E : XK), Room lvl (A.deeper (envOfC q (defScope st) s.heap.objs.size (He.ma K (He.ga K C) m) cdv)) → sp vs H Q E →
      ∃ t, PSs (cxOf CX P w K mg base N q (defScope st) (He.ma K (He.ga K C) m) cdv A outer s H E) (defBody st) t ∧ t { nx := fun _ H' => Q .non H', rt := Q } (start N vs) H) : Km P w K mg base CX (lvl + 1) C m ps sp := by
  obtain ⟨fd, F⟩ := T.c.def_ i hfn
  exact ⟨He.cls_ok (T.c.fact k hfc), He.meth_ok (T.c.fact j hfa), fd, F.ok S len hbody, F.bindsN hb⟩
theorem pe_km {X : Cx} {C m : Str} {o e : Expr} {es : List Expr} {ta : TE} {t : TA} {pos apos : Pos} {pl : Sem Bool} (c : Km X.prog X.w X.K X.mg X.base CX0 lvl C m ps sp) (hr : Room lvl X.A) (he : PE X o ta) (ha : PA X (e :: es) t)
    (hst : starEach (e :: es) X.env = (false, eval e X.env) :: starEach es X.env := by rfl) (hpl : (backTo pos (starEach es X.env)).any (·.1) = false := by rfl)
    (ht : eval (.Call (.Attribute o m apos) (e :: es) [] pos) X.env = (do
      let ov ← eval o X.env
      standAt apos.atName
      let (f, first) ← holding [ov] (getMethod ov m pl)
      callWith pos f first (backTo pos (starEach (e :: es) X.env)) (backToKw pos (keywordEach [] X.env))) := by rfl) :
    PE X (.Call (.Attribute o m apos) (e :: es) [] pos) (tMeth (He.ga X.K C) m sp [] E0 ta t) := by
  obtain ⟨fd, F, b⟩ := c.ok
  exact pe_meth he c.cl c.me F hr b .nil pass0 ha hst hpl ht
theorem pe_km0 {X : Cx} {C m : Str} {o : Expr} {ta : TE} {pos apos : Pos} {pl : Sem Bool} (c : Km X.prog X.w X.K X.mg X.base CX0 lvl C m ps sp) (hr : Room lvl X.A) (he : PE X o ta)
    (ht : eval (.Call (.Attribute o m apos) [] [] pos) X.env = (do
      let ov ← eval o X.env
      standAt apos.atName
      let (f, first) ← holding [ov] (getMethod ov m pl)
      callWith pos f first (backTo pos (starEach [] X.env)) (backToKw pos (keywordEach [] X.env))) := by rfl) :
    PE X (.Call (.Attribute o m apos) [] [] pos) (tMeth (He.ga X.K C) m sp [] E0 ta tNil) := by
  obtain ⟨fd, F, b⟩ := c.ok
  exact pe_meth0 he c.cl c.me F hr b .nil pass0 ht
end
end K42
set_option Elab.async false
set_option linter.all false
set_option maxRecDepth 100000
set_option maxHeartbeats 0
/-! the head: what the top has left, told by names -/
namespace K42
open PySem PySem.Spec PyProof.Rows L2
abbrev R : PySem.W.OpenRow := PySem.W.OpenLaw.row PySem.Challenge.rw_spinemarks_k42_whole_shorts_kept
abbrev tfs : List He.Defn := [("in_order", none)]
/-- those not met yet, each once; the mask of all met -/
def fresh : List Addr → Nat → List Addr × Nat
  | [], m => ([], m)
  | a :: r, m => match Nat.beq (Nat.land (Nat.shiftRight m a) 1) 0 with
    | true => match fresh r (Nat.lor m (Nat.shiftLeft 1 a)) with
      | (l, n) => (a :: l, n)
    | false => fresh r m
def outsY (g : Addr → Option Obj) (a : Addr) : List Addr := match g a with
  | some o => He.refsD o
  | none => []
/-- what n steps from the front reach -/
def reach (g : Addr → Option Obj) : Nat → List Addr → Nat → List Addr
  | 0, fr, _ => fr
  | n + 1, fr, m => match fresh (fr.flatMap (outsY g)) m with
    | (l, m') => fr ++ reach g n l m'
def KY (g : Addr → Option Obj) : PySem.W.Frag := He.frT g (reach g 4 [mainGlobals] (Nat.shiftLeft 1 mainGlobals) ++ [cStatics])
abbrev AlY : Type := He.AlD × Bool
def obsY (g : Addr → Option Obj) : AlY := (He.obsD fa fn (KY g), (exs.all fun f => f (KY g)) && He.tabsB g tfs (KY g))
structure SaysY (h : Heap) (K : PySem.W.Frag) : Prop where
  d : He.SaysD fa fn K
  ex : ∀ f ∈ exs, f K = true
  hd : PySem.W.codeHdIn K (He.cT K ("in_order", none)).1 (He.cT K ("in_order", none)).2 = true
  out : K.lookup (He.cT K ("in_order", none)).2 = none
  empty : h.get? (He.cT K ("in_order", none)).2 = some { cls := .none, data := .fields #[] }
theorem saysY_of {h : Heap} (e : obsY h.get? = (He.valD fn, true)) : SaysY h (KY h.get?) := by
  have e2 : ((exs.all fun f => f (KY h.get?)) && He.tabsB h.get? tfs (KY h.get?)) = true := congrArg (fun z : AlY => z.2) e
  obtain ⟨h1, h2⟩ := Bool.and_eq_true_iff.mp e2
  obtain ⟨h3, h4⟩ := Bool.and_eq_true_iff.mp (List.all_eq_true.mp h2 ("in_order", none) List.mem_cons_self)
  have key : ∃ o, h.get? (He.cT (KY h.get?) ("in_order", none)).2 = some o ∧ He.emptyTab o = true := by
    cases q : h.get? (He.cT (KY h.get?) ("in_order", none)).2 with
    | none => rw [q] at h4; cases h4
    | some o => rw [q] at h4; exact ⟨o, rfl, h4⟩
  obtain ⟨o, q, z⟩ := key
  exact ⟨congrArg (fun z : AlY => z.1) e, fun f hf => List.all_eq_true.mp h1 f hf, h3, He.frT_none q z, by rw [q, He.emptyTab_eq z]⟩
def hookY : PySem.W.Hook where
  α := AlY
  obs := fun s => obsY s.heap.get?
  val := fun _ => (He.valD fn, true)
  says := fun _ h => ∃ K : PySem.W.Frag, K.In h ∧ SaysY h K
  of := fun _ _ e => ⟨_, He.frT_in, saysY_of e⟩
  keeps := fun _ _ _ ⟨K, hK, c⟩ k => ⟨K, PySem.W.Frag.In.keeps hK k, ⟨c.d, c.ex, c.hd, c.out, k _ _ c.empty⟩⟩
def obY (s : PySem.W.SharedT) : AlY := obsY (HandSHeadRun.getT s)
theorem obY_eq (s : PySem.W.SharedT) : obY s = hookY.obs s.abs := congrArg obsY (funext (HandSHeadRun.getT_eq s))
section
open PySem.W PySem.Calls HandSHeadRun
variable (w : World) (os : OsState)
/-- the run's end, what is looked at there -/
noncomputable abbrev told {α : Type} (f : PySem.W.SharedT → α) : Option α := (endF (stepQ (denQ tabQ) R.prog w) 20000 R.prog w os).map f
theorem run_top : told w os (fun s => (looksF R.prog (boot_heap w.params) s.abs, seenQ (view R.prog [86]) loose (importedModules R.prog.main.body) (fun s => xlAt (view R.prog [86]) [] s && recOk R.toRowW.records s) s.abs)) = some (true, openGood (view R.prog [86]) loose) := by kernel_rfl
theorem run_defs : told w os (fun s => He.obsD fa fn (KY (getT s))) = some (He.valD fn) := by kernel_rfl
theorem run_more : told w os (fun s => (exs.all fun f => f (KY (getT s))) && He.tabsB (getT s) tfs (KY (getT s))) = some true := by kernel_rfl
end
end K42
set_option Elab.async false
set_option linter.all false
set_option maxRecDepth 100000
set_option maxHeartbeats 400000
namespace K42
open PySem PySem.Spec PyProof.Rows L2
section
open PySem.W PySem.Calls HandSHeadRun
/-- three looks at one end -/
theorem three {σ α β γ : Type} {x : Option σ} {f : σ → α} {g : σ → β} {h : σ → γ} {a : α} {b : β} {c : γ} (h1 : x.map f = some a) (h2 : x.map g = some b) (h3 : x.map h = some c) : ∃ s, x = some s ∧ f s = a ∧ g s = b ∧ h s = c := by
  cases x with
  | none => cases h1
  | some s => exact ⟨s, rfl, Option.some.inj h1, Option.some.inj h2, Option.some.inj h3⟩
theorem join3 {σ α α' β γ : Type} {x : Option σ} {f : σ → α × α'} {g : σ → β} {h : σ → γ} {a : α} {a' : α'} {b : β} {c : γ} (h1 : x.map f = some (a, a')) (h2 : x.map g = some b) (h3 : x.map h = some c) : x.map (fun s => ((f s).1, (f s).2, (g s, h s))) = some (a, a', (b, c)) := by
  obtain ⟨s, rfl, e1, e2, e3⟩ := three h1 h2 h3
  show some ((f s).1, (f s).2, (g s, h s)) = _
  rw [e1, e2, e3]
theorem run (w : World) : RunEq R (view R.prog [86]) hookY obY 20000 loose w := by
  intro os
  have h := join3 (run_top w os) (run_defs w os) (run_more w os)
  exact h
end
end K42
set_option Elab.async false
set_option linter.all false
set_option maxRecDepth 100000
set_option maxHeartbeats 4000000
namespace K42
open PySem PySem.Spec PyProof.Rows L2
open LamX (Tabs TabS CodeO)
/-- nothing but lists, tuples, dicts, instances: what may be written here, what may be frozen -/
def Pl : HO → Prop
  | .lst _ => True
  | .tup _ => True
  | .dK _ => True
  | .ins _ _ _ => True
  | _ => False
theorem Pl.tbl {o : HO} (h : Pl o) (ps : Array Value) : o ≠ .tbl ps := by intro e; subst e; exact h
theorem Pl.code {o : HO} (h : Pl o) (c : Addr) (q : Str) : o ≠ CodeO c q := by intro e; subst e; exact h
/-- the lambda's code table -/
def Tq (K : PySem.W.Frag) : List (Addr × Str) := [((He.cT K ("in_order", none)).2, "in_order.<locals>.<lambda>")]
/-- the frozen part G of the heap H -/
def Sb (G H : Hp) : Prop := ∀ b o, G b = some o → H b = some o ∧ ∀ ps, o ≠ .tbl ps
def Le (G G' : Hp) : Prop := ∀ b o, G b = some o → G' b = some o
theorem Le.refl (G : Hp) : Le G G := fun _ _ e => e
theorem Le.trans {G G1 G2 : Hp} (a : Le G G1) (b : Le G1 G2) : Le G G2 := fun x o e => b x o (a x o e)
theorem Sb.le {G H : Hp} (h : Sb G H) : Le G H := fun b o e => (h b o e).1
theorem Sb.no {G H : Hp} (h : Sb G H) {p : Addr} (e : H p = none) : G p = none := by
  cases q : G p with
  | none => rfl
  | some o => rw [(h p o q).1] at e; cases e
/-- from (G, H) to (G', H'): only S is written, only new things are frozen -/
structure GR (K : PySem.W.Frag) (S : Addr → Prop) (G H G' H' : Hp) : Prop where
  gg : Le G G'
  sb : Sb G' H'
  hh : ∀ b o, ¬ S b → H b = some o → (∀ ps, o ≠ .tbl ps) → H' b = some o
  pr : ∀ b o, H b = some o → (∀ ps, o ≠ .tbl ps) → G' b = G b
  al : ∀ b o, H b = some o → (∀ ps, o ≠ .tbl ps) → ∃ o', H' b = some o' ∧ ∀ ps, o' ≠ .tbl ps
  tb : Tabs (Tq K) H → Tabs (Tq K) H'
section
variable {K : PySem.W.Frag} {S S' : Addr → Prop} {G0 H0 G H G' H' : Hp} {p : Addr} {o o' : HO}
theorem GR.refl (h : Sb G H) : GR K S G H G H := ⟨Le.refl G, h, fun _ _ _ e _ => e, fun _ _ _ _ => rfl, fun _ o e n => ⟨o, e, n⟩, fun t => t⟩
theorem GR.call (g : GR K S G0 H0 G H) (c : GR K S' G H G' H') (hs : ∀ b, S' b → S b ∨ H0 b = none) : GR K S G0 H0 G' H' where
  gg := g.gg.trans c.gg
  sb := c.sb
  hh := fun b o n e nt => c.hh b o (fun q => (hs b q).elim n fun z => by rw [e] at z; cases z) (g.hh b o n e nt) nt
  pr := fun b o e n => by
    obtain ⟨o', e', n'⟩ := g.al b o e n
    exact (c.pr b o' e' n').trans (g.pr b o e n)
  al := fun b o e n => by
    obtain ⟨o', e', n'⟩ := g.al b o e n
    exact c.al b o' e' n'
  tb := fun t => c.tb (g.tb t)
theorem GR.trans (g : GR K S G0 H0 G H) (c : GR K S G H G' H') : GR K S G0 H0 G' H' := g.call c fun _ q => .inl q
abbrev S0 : Addr → Prop := fun _ => False
abbrev S1 (p : Addr) : Addr → Prop := fun b => b = p
theorem GR.call0 (g : GR K S G0 H0 G H) (c : GR K S0 G H G' H') : GR K S G0 H0 G' H' := g.call c fun _ q => q.elim
theorem GR.weak (g : GR K S0 G H G' H') : GR K S G H G' H' := ⟨g.gg, g.sb, fun b o _ e n => g.hh b o (fun q => q) e n, g.pr, g.al, g.tb⟩
theorem Sb.up (h : Sb G H) (hp : H p = none) : Sb G (upd H p o) := fun b u e => by
  have q := h b u e
  refine ⟨?_, q.2⟩
  rw [upd_ne (ne_of_none q.1 hp)]
  exact q.1
theorem tabs_new (t : Tabs (Tq K) H) (hp : H p = none) : Tabs (Tq K) (upd H p o) := t.ext fun b u e => by rw [upd_ne (ne_of_none e hp)]; exact e
theorem tabs_wr (t : Tabs (Tq K) H) (e : H p = some o) (h : Pl o) : Tabs (Tq K) (upd H p o') := by
  intro q hq
  obtain ⟨ps, h1, h2, h3⟩ := t q hq
  refine ⟨ps, ?_, h2, fun pos cv hc => ?_⟩
  · rw [upd_ne (ne_of h1 e fun z => h.tbl ps z.symm)]; exact h1
  · obtain ⟨c, h4, h5⟩ := h3 pos cv hc
    refine ⟨c, h4, ?_⟩
    rw [upd_ne (ne_of h5 e fun z => h.code _ _ z.symm)]; exact h5
/-- a new object, frozen at once -/
theorem GR.new (g : GR K S G0 H0 G H) (hp : H p = none) (h : Pl o) : GR K S G0 H0 (upd G p o) (upd H p o) where
  gg := g.gg.trans fun b u e => by rw [upd_ne (ne_of_none e (g.sb.no hp))]; exact e
  sb := fun b u e => by
    by_cases z : b = p
    · subst z
      rw [upd_same] at e ⊢
      exact ⟨e, fun ps => by injection e with e; rw [← e]; exact h.tbl ps⟩
    · rw [upd_ne z] at e ⊢
      exact g.sb b u e
  hh := fun b u n e nt => by
    have q := g.hh b u n e nt
    rw [upd_ne (ne_of_none q hp)]; exact q
  pr := fun b o e n => by
    obtain ⟨o', e', n'⟩ := g.al b o e n
    rw [upd_ne (ne_of_none e' hp)]; exact g.pr b o e n
  al := fun b o e n => by
    obtain ⟨o', e', n'⟩ := g.al b o e n
    exact ⟨o', by rw [upd_ne (ne_of_none e' hp)]; exact e', n'⟩
  tb := fun t => tabs_new (g.tb t) hp
/-- a new object that may change -/
theorem GR.newM (g : GR K S G0 H0 G H) (hp : H p = none) : GR K S G0 H0 G (upd H p o) where
  gg := g.gg
  sb := g.sb.up hp
  hh := fun b u n e nt => by
    have q := g.hh b u n e nt
    rw [upd_ne (ne_of_none q hp)]; exact q
  pr := g.pr
  al := fun b o e n => by
    obtain ⟨o', e', n'⟩ := g.al b o e n
    exact ⟨o', by rw [upd_ne (ne_of_none e' hp)]; exact e', n'⟩
  tb := fun t => tabs_new (g.tb t) hp
/-- a thing that may change is written -/
theorem GR.wr (g : GR K S G0 H0 G H) (hs : S p ∨ H0 p = none) (gp : G p = none) (e : H p = some o) (h : Pl o) (h' : Pl o' := by trivial) : GR K S G0 H0 G (upd H p o') where
  gg := g.gg
  sb := fun b u q => by
    have z := g.sb b u q
    rw [upd_ne (fun y => by rw [y, gp] at q; cases q)]; exact z
  hh := fun b u n q nt => by
    have z := g.hh b u n q nt
    rw [upd_ne (fun y => hs.elim (fun sp => n (by rw [y]; exact sp)) fun w => by rw [y, w] at q; cases q)]; exact z
  pr := g.pr
  al := fun b u q n => by
    by_cases z : b = p
    · subst z; exact ⟨o', upd_same, h'.tbl⟩
    · rw [upd_ne z]; exact g.al b u q n
  tb := fun t => tabs_wr (g.tb t) e h
/-- a new thing is frozen -/
theorem GR.freeze (g : GR K S G0 H0 G H) (h0 : H0 p = none) (e : H p = some o) (h : Pl o) : GR K S G0 H0 (upd G p o) H where
  gg := fun b u q => by
    have z := g.gg b u q
    by_cases y : b = p
    · subst y
      have z2 := (g.sb b u z).1
      rw [e] at z2
      rw [upd_same]; exact z2
    · rw [upd_ne y]; exact z
  sb := fun b u q => by
    by_cases y : b = p
    · subst y
      rw [upd_same] at q
      injection q with q
      subst q
      exact ⟨e, fun ps => h.tbl ps⟩
    · rw [upd_ne y] at q; exact g.sb b u q
  hh := g.hh
  pr := fun b u q n => by rw [upd_ne (ne_of_none q h0)]; exact g.pr b u q n
  al := g.al
  tb := g.tb
theorem Le.up (h : G p = none) : Le G (upd G p o) := fun b u e => by rw [upd_ne (ne_of_none e h)]; exact e
/-- nothing stood at p but a table -/
def Nw (H : Hp) (p : Addr) : Prop := ∀ o, H p = some o → (∀ ps, o ≠ .tbl ps) → False
theorem Nw.of (h : H p = none) : Nw H p := fun o e _ => by rw [h] at e; cases e
theorem GR.nw (g : GR K S G H G' H') (h : Nw H' p) : Nw H p := fun o e n => by
  obtain ⟨o', e', n'⟩ := g.al p o e n
  exact h o' e' n'
theorem GR.callN (g : GR K S G0 H0 G H) (c : GR K S' G H G' H') (hs : ∀ b, S' b → S b ∨ Nw H0 b) : GR K S G0 H0 G' H' where
  gg := g.gg.trans c.gg
  sb := c.sb
  hh := fun b o n e nt => c.hh b o (fun q => (hs b q).elim n fun z => z o e nt) (g.hh b o n e nt) nt
  pr := fun b o e n => by
    obtain ⟨o', e', n'⟩ := g.al b o e n
    exact (c.pr b o' e' n').trans (g.pr b o e n)
  al := fun b o e n => by
    obtain ⟨o', e', n'⟩ := g.al b o e n
    exact c.al b o' e' n'
  tb := fun t => c.tb (g.tb t)
theorem GR.wrN (g : GR K S G0 H0 G H) (hs : Nw H0 p) (gp : G p = none) (e : H p = some o) (h : Pl o) (h' : Pl o' := by trivial) : GR K S G0 H0 G (upd H p o') where
  gg := g.gg
  sb := (GR.wr (GR.refl (K := K) (S := fun _ => True) g.sb) (.inl trivial) gp e h h').sb
  hh := fun b u n q nt => by
    have z := g.hh b u n q nt
    rw [upd_ne (fun (y : b = p) => hs u (by rw [← y]; exact q) nt)]; exact z
  pr := g.pr
  al := fun b u q n => by
    by_cases z : b = p
    · subst z; exact ⟨o', upd_same, h'.tbl⟩
    · rw [upd_ne z]; exact g.al b u q n
  tb := fun t => tabs_wr (g.tb t) e h
theorem GR.freezeN (g : GR K S G0 H0 G H) (h0 : Nw H0 p) (e : H p = some o) (h : Pl o) : GR K S G0 H0 (upd G p o) H where
  gg := fun b u q => by
    have z := g.gg b u q
    by_cases y : b = p
    · subst y
      have z2 := (g.sb b u z).1
      rw [e] at z2
      rw [upd_same]; exact z2
    · rw [upd_ne y]; exact z
  sb := fun b u q => by
    by_cases y : b = p
    · subst y
      rw [upd_same] at q
      injection q with q
      subst q
      exact ⟨e, fun ps => h.tbl ps⟩
    · rw [upd_ne y] at q; exact g.sb b u q
  hh := g.hh
  pr := fun b u q n => by rw [upd_ne (fun (z : b = p) => h0 u (by rw [← z]; exact q) n)]; exact g.pr b u q n
  al := g.al
  tb := g.tb
/-- what is not frozen and stands outside S stands -/
theorem GR.keep (g : GR K S G H G' H') (e : H p = some o) (h : Pl o) (n : ¬ S p) : H' p = some o := g.hh p o n e h.tbl
theorem GR.nofrz (g : GR K S G H G' H') (e : H p = some o) (gp : G p = none) (h : Pl o := by trivial) : G' p = none := (g.pr p o e h.tbl).trans gp
/-- all but tables stays, the lambda's table is told anew -/
theorem GR.ext (sb : Sb G H) (e : LamX.ExtN H H') (t : Tabs (Tq K) H') : GR K S G H G H' where
  gg := Le.refl G
  sb := fun b o q => ⟨e b o (sb b o q).1 (sb b o q).2, (sb b o q).2⟩
  hh := fun b o _ q n => e b o q n
  pr := fun _ _ _ _ => rfl
  al := fun b o q n => ⟨o, e b o q n, n⟩
  tb := fun _ => t
end
/-! ### texts -/
/-- the text of these codes -/
def S (l : List Nat) : Str := ⟨l.toArray⟩
theorem S_len (l : List Nat) : (S l).length = l.length := by simp [S, Str.length]
theorem S_cps (l : List Nat) : (S l).cps.toList = l := rfl
theorem S_app (a b : List Nat) : S a ++ S b = S (a ++ b) := by
  show (⟨a.toArray ++ b.toArray⟩ : Str) = ⟨(a ++ b).toArray⟩
  simp
theorem S_inj {a b : List Nat} (h : S a = S b) : a = b := by
  have q : (S a).cps.toList = (S b).cps.toList := by rw [h]
  exact q
theorem S_of {x : Str} : S x.cps.toList = x := by cases x; simp [S]
end K42
set_option Elab.async false
set_option linter.all false
set_option maxRecDepth 100000
set_option maxHeartbeats 4000000
namespace K42
open PySem PySem.Spec PyProof.Rows L2
open TL (numL)
/-! ### marks as plain data -/
structure Mk where
  l : List Nat
  n : Nat
  p : List Nat
  ms : List (List Nat)
  y : Option Nat
  c : Option Nat
  deriving DecidableEq
def isLet (c : Nat) : Bool := decide (97 ≤ c) && decide (c ≤ 122)
def isFig (c : Nat) : Bool := decide (48 ≤ c) && decide (c ≤ 57)
/-- figures that end with no nought -/
def figs (l : List Nat) : Bool := !l.isEmpty && l.all isFig && (l.getLast? != some 48)
def mkr : List Nat → Bool
  | [] => false
  | a :: r => isLet a && figs r
structure Ok (m : Mk) : Prop where
  l1 : 1 ≤ m.l.length
  l3 : m.l.length ≤ 3
  la : ∀ c ∈ m.l, isLet c = true
  n1 : 1 ≤ m.n
  n9 : m.n ≤ 9999
  pt : m.p = [] ∨ figs m.p = true
  pz : m.p.length ≤ 1000
  mo : ∀ k ∈ m.ms, mkr k = true
  mz : ∀ k ∈ m.ms, k.length ≤ 1000
  m3 : m.ms.length ≤ 3
  yr : ∀ y, m.y = some y → 1000 ≤ y ∧ y ≤ 2999
  cp : ∀ c, m.c = some c → 2 ≤ c ∧ c ≤ 99999
def wordsY : Option Nat → List (List Nat)
  | none => []
  | some y => [numL y]
def wordsC : Option Nat → List (List Nat)
  | none => []
  | some c => [99 :: 46 :: numL c]
/-- what stands behind the head, word by word -/
def wordsOf (m : Mk) : List (List Nat) := m.ms ++ wordsY m.y ++ wordsC m.c
def pts (p : List Nat) : List Nat := if p = [] then [] else 46 :: p
def glue (ws : List (List Nat)) : List Nat := ws.flatMap fun w => 32 :: w
def text (m : Mk) : List Nat := m.l ++ (numL m.n ++ (pts m.p ++ glue (wordsOf m)))
/-! ### unlike marks have unlike texts -/
theorem pre_inj {p : Nat → Bool} : ∀ {a b x y : List Nat}, (∀ c ∈ a, p c = true) → (∀ c ∈ b, p c = true) → (∀ c, x.head? = some c → p c = false) → (∀ c, y.head? = some c → p c = false) → a ++ x = b ++ y → a = b ∧ x = y
  | [], [], _, _, _, _, _, _, h => ⟨rfl, h⟩
  | [], b :: r, x, y, _, hb, hx, _, h => by
    have e : x = b :: (r ++ y) := h
    have q := hx b (by rw [e]; rfl)
    rw [hb b (List.mem_cons_self ..)] at q
    cases q
  | a :: r, [], x, y, ha, _, _, hy, h => by
    have e : y = a :: (r ++ x) := h.symm
    have q := hy a (by rw [e]; rfl)
    rw [ha a (List.mem_cons_self ..)] at q
    cases q
  | a :: r, b :: t, x, y, ha, hb, hx, hy, h => by
    have e : a :: (r ++ x) = b :: (t ++ y) := h
    injection e with e1 e2
    obtain ⟨q1, q2⟩ := pre_inj (fun c hc => ha c (List.mem_cons_of_mem _ hc)) (fun c hc => hb c (List.mem_cons_of_mem _ hc)) hx hy e2
    exact ⟨by rw [e1, q1], q2⟩
theorem glue_cons (w : List Nat) (ws : List (List Nat)) : glue (w :: ws) = 32 :: (w ++ glue ws) := rfl
theorem glue_nil : glue [] = [] := rfl
theorem glue_head : ∀ (ws : List (List Nat)) (c : Nat), (glue ws).head? = some c → c = 32
  | [], c, h => by cases h
  | w :: ws, c, h => by
    have e : some 32 = some c := h
    injection e with e
    exact e.symm
theorem glue_inj : ∀ {ws vs : List (List Nat)}, (∀ w ∈ ws, 32 ∉ w) → (∀ w ∈ vs, 32 ∉ w) → glue ws = glue vs → ws = vs
  | [], [], _, _, _ => rfl
  | [], v :: vs, _, _, h => by cases h
  | w :: ws, [], _, _, h => by cases h
  | w :: ws, v :: vs, hw, hv, h => by
    rw [glue_cons, glue_cons] at h
    injection h with _ h
    have q := pre_inj (p := fun c => c != 32) (fun c hc => bne_iff_ne.mpr fun (e : c = 32) => hw w (List.mem_cons_self ..) (e ▸ hc)) (fun c hc => bne_iff_ne.mpr fun (e : c = 32) => hv v (List.mem_cons_self ..) (e ▸ hc))
      (fun c hc => by simpa using glue_head _ _ hc) (fun c hc => by simpa using glue_head _ _ hc) h
    rw [q.1, glue_inj (fun u hu => hw u (List.mem_cons_of_mem _ hu)) (fun u hu => hv u (List.mem_cons_of_mem _ hu)) q.2]
theorem isFig_numL (n : Nat) : ∀ c ∈ numL n, isFig c = true := fun c hc => by
  have := TL.numL_digits n c hc
  simp only [isFig, Bool.and_eq_true, decide_eq_true_eq]
  omega
theorem let_fig {c : Nat} (h : isFig c = true) : isLet c = false := by
  simp only [isFig, Bool.and_eq_true, decide_eq_true_eq] at h
  simp only [isLet, Bool.and_eq_false_iff, decide_eq_false_iff_not]
  omega
theorem figs_all {l : List Nat} (h : figs l = true) : l ≠ [] ∧ (∀ c ∈ l, isFig c = true) ∧ l.getLast? ≠ some 48 := by
  simp only [figs, Bool.and_eq_true, Bool.not_eq_true', List.all_eq_true, bne_iff_ne] at h
  exact ⟨fun e => by rw [e] at h; simp at h, h.1.2, h.2⟩
theorem figs_of {l : List Nat} (h1 : l ≠ []) (h2 : ∀ c ∈ l, isFig c = true) (h3 : l.getLast? ≠ some 48) : figs l = true := by
  simp only [figs, Bool.and_eq_true, Bool.not_eq_true', List.all_eq_true, bne_iff_ne]
  exact ⟨⟨by cases l with | nil => exact (h1 rfl).elim | cons _ _ => rfl, h2⟩, h3⟩
theorem mkr_cons {k : List Nat} (h : mkr k = true) : ∃ a r, k = a :: r ∧ isLet a = true ∧ figs r = true := by
  cases k with
  | nil => cases h
  | cons a r => exact ⟨a, r, rfl, Bool.and_eq_true_iff.mp h⟩
/-- what kind of word it is -/
def kindOf : List Nat → Nat
  | a :: b :: _ => if isLet a then (if b = 46 then 2 else 0) else 1
  | _ => 1
theorem kind_mkr {k : List Nat} (h : mkr k = true) : kindOf k = 0 := by
  obtain ⟨a, r, rfl, ha, hr⟩ := mkr_cons h
  obtain ⟨h1, h2, _⟩ := figs_all hr
  cases r with
  | nil => exact (h1 rfl).elim
  | cons b t =>
    have hb := h2 b (List.mem_cons_self ..)
    have : b ≠ 46 := fun e => by rw [e] at hb; exact absurd hb (by decide)
    simp [kindOf, ha, this]
theorem kind_num (n : Nat) : kindOf (numL n) = 1 := by
  have h := isFig_numL n
  cases e : numL n with
  | nil => rfl
  | cons a r =>
    rw [e] at h
    cases r with
    | nil => rfl
    | cons b t => simp [kindOf, let_fig (h a (List.mem_cons_self ..))]
theorem kind_copy (l : List Nat) : kindOf (99 :: 46 :: l) = 2 := rfl
theorem no32 {m : Mk} (o : Ok m) : ∀ w ∈ wordsOf m, 32 ∉ w := by
  intro w hw h32
  simp only [wordsOf, List.mem_append] at hw
  rcases hw with (hw | hw) | hw
  · obtain ⟨a, r, rfl, ha, hr⟩ := mkr_cons (o.mo w hw)
    rcases List.mem_cons.mp h32 with e | e
    · rw [← e] at ha; exact absurd ha (by decide)
    · exact absurd ((figs_all hr).2.1 _ e) (by decide)
  · cases hy : m.y with
    | none => rw [hy] at hw; cases hw
    | some y =>
      rw [hy] at hw
      rw [List.mem_singleton.mp hw] at h32
      exact TL.numL_free (Or.inl (by decide)) h32
  · cases hc : m.c with
    | none => rw [hc] at hw; cases hw
    | some c =>
      rw [hc] at hw
      rw [List.mem_singleton.mp hw] at h32
      simp only [List.mem_cons] at h32
      rcases h32 with e | e | e
      · cases e
      · cases e
      · exact TL.numL_free (Or.inl (by decide)) e
theorem filter_kind {m : Mk} (o : Ok m) : (wordsOf m).filter (fun w => kindOf w == 0) = m.ms ∧ (wordsOf m).filter (fun w => kindOf w == 1) = wordsY m.y ∧ (wordsOf m).filter (fun w => kindOf w == 2) = wordsC m.c := by
  have h0 : ∀ w ∈ m.ms, kindOf w = 0 := fun w hw => kind_mkr (o.mo w hw)
  have h1 : ∀ w ∈ wordsY m.y, kindOf w = 1 := by
    intro w hw
    cases hy : m.y with
    | none => rw [hy] at hw; cases hw
    | some y => rw [hy] at hw; rw [List.mem_singleton.mp hw]; exact kind_num y
  have h2 : ∀ w ∈ wordsC m.c, kindOf w = 2 := by
    intro w hw
    cases hc : m.c with
    | none => rw [hc] at hw; cases hw
    | some c => rw [hc] at hw; rw [List.mem_singleton.mp hw]; rfl
  have all {l : List (List Nat)} {k : Nat} (h : ∀ w ∈ l, kindOf w = k) : l.filter (fun w => kindOf w == k) = l := List.filter_eq_self.mpr fun w hw => by simp [h w hw]
  have non {l : List (List Nat)} {k j : Nat} (h : ∀ w ∈ l, kindOf w = k) (hj : k ≠ j) : l.filter (fun w => kindOf w == j) = [] := List.filter_eq_nil_iff.mpr fun w hw => by simp [h w hw, hj]
  simp only [wordsOf, List.filter_append]
  rw [all h0, all h1, all h2, non h0 (by decide), non h0 (by decide), non h1 (by decide), non h1 (by decide), non h2 (by decide), non h2 (by decide)]
  simp
theorem wordsY_inj {a b : Option Nat} (h : wordsY a = wordsY b) : a = b := by
  cases a with
  | none => cases b with
    | none => rfl
    | some _ => cases h
  | some x => cases b with
    | none => cases h
    | some z => rw [TL.numL_inj (List.head_eq_of_cons_eq h)]
theorem wordsC_inj {a b : Option Nat} (h : wordsC a = wordsC b) : a = b := by
  cases a with
  | none => cases b with
    | none => rfl
    | some _ => cases h
  | some x => cases b with
    | none => cases h
    | some z =>
      have e : (99 :: 46 :: numL x) = (99 :: 46 :: numL z) := List.head_eq_of_cons_eq h
      injection e with _ e
      injection e with _ e
      rw [TL.numL_inj e]
theorem words_inj {a b : Mk} (oa : Ok a) (ob : Ok b) (h : wordsOf a = wordsOf b) : a.ms = b.ms ∧ a.y = b.y ∧ a.c = b.c := by
  obtain ⟨a0, a1, a2⟩ := filter_kind oa
  obtain ⟨b0, b1, b2⟩ := filter_kind ob
  rw [h] at a0 a1 a2
  exact ⟨a0.symm.trans b0, wordsY_inj (a1.symm.trans b1), wordsC_inj (a2.symm.trans b2)⟩
theorem head_app {x y : List Nat} {c : Nat} (h : (x ++ y).head? = some c) : x.head? = some c ∨ (x = [] ∧ y.head? = some c) := by
  cases x with
  | nil => exact .inr ⟨rfl, h⟩
  | cons a r => exact .inl h
theorem numL_head (n : Nat) (y : List Nat) (c : Nat) (h : (numL n ++ y).head? = some c) : isFig c = true := by
  rcases head_app h with h | ⟨h, _⟩
  · exact isFig_numL n c (List.mem_of_head? h)
  · exact absurd h (TL.numL_ne n)
theorem pts_head (p : List Nat) (ws : List (List Nat)) (c : Nat) (h : (pts p ++ glue ws).head? = some c) : c = 46 ∨ c = 32 := by
  rcases head_app h with h | ⟨_, h⟩
  · unfold pts at h
    by_cases e : p = []
    · rw [if_pos e] at h; cases h
    · rw [if_neg e] at h
      have q : some 46 = some c := h
      injection q with q
      exact .inl q.symm
  · exact .inr (glue_head _ _ h)
theorem text_inj {a b : Mk} (oa : Ok a) (ob : Ok b) (h : text a = text b) : a = b := by
  unfold text at h
  obtain ⟨e1, h⟩ := pre_inj oa.la ob.la (fun c hc => let_fig (numL_head _ _ _ hc)) (fun c hc => let_fig (numL_head _ _ _ hc)) h
  have nf : ∀ c, c = 46 ∨ c = 32 → isFig c = false := by rintro c (rfl | rfl) <;> decide
  obtain ⟨e2, h⟩ := pre_inj (isFig_numL _) (isFig_numL _) (fun c hc => nf c (pts_head _ _ _ hc)) (fun c hc => nf c (pts_head _ _ _ hc)) h
  have e2 := TL.numL_inj e2
  have g32 : ∀ ws c, (glue ws).head? = some c → isFig c = false := fun ws c hc => nf c (.inr (glue_head _ _ hc))
  have e3 : a.p = b.p ∧ glue (wordsOf a) = glue (wordsOf b) := by
    unfold pts at h
    by_cases pa : a.p = []
    · by_cases pb : b.p = []
      · rw [if_pos pa, if_pos pb] at h
        exact ⟨pa.trans pb.symm, h⟩
      · rw [if_pos pa, if_neg pb] at h
        have h' : glue (wordsOf a) = 46 :: (b.p ++ glue (wordsOf b)) := h
        exact absurd (glue_head _ 46 (by rw [h']; rfl)) (by decide)
    · by_cases pb : b.p = []
      · rw [if_neg pa, if_pos pb] at h
        have h' : 46 :: (a.p ++ glue (wordsOf a)) = glue (wordsOf b) := h
        exact absurd (glue_head _ 46 (by rw [← h']; rfl)) (by decide)
      · rw [if_neg pa, if_neg pb] at h
        have h' : 46 :: (a.p ++ glue (wordsOf a)) = 46 :: (b.p ++ glue (wordsOf b)) := h
        injection h' with _ h'
        exact pre_inj (figs_all (oa.pt.resolve_left pa)).2.1 (figs_all (ob.pt.resolve_left pb)).2.1 (fun c hc => g32 _ c hc) (fun c hc => g32 _ c hc) h'
  obtain ⟨e4, e5, e6⟩ := words_inj oa ob (glue_inj (no32 oa) (no32 ob) e3.2)
  cases a; cases b
  simp only [Mk.mk.injEq]
  exact ⟨e1, e2, e3.1, e4, e5, e6⟩
end K42
set_option Elab.async false
set_option linter.all false
set_option maxRecDepth 100000
set_option maxHeartbeats 4000000
namespace K42
open PySem PySem.Spec PyProof.Rows L2
/-! ### the order of marks -/
def oi : Option Nat → Int
  | none => 0
  | some n => n
def msD (ms : List (List Nat)) : List PyData := ms.map fun k => .str (S k)
def keyD (m : Mk) : PyData := .tuple [.str (S m.l), .int m.n, .str (S m.p), .tuple (msD m.ms), .int (oi m.y), .int (oi m.c)]
def kLt (a b : Mk) : Bool := PySem.W.dataLt (keyD a) (keyD b)
def kLe (a b : Mk) : Bool := PySem.W.dataLe false keyD a b
open PySem.W (alike alikeAll keyToks keyToksAll dataLt dataLe)
theorem alike_ms : ∀ ms ns : List (List Nat), alikeAll (msD ms) (msD ns) = true
  | [], _ => by simp [msD, alikeAll]
  | _ :: _, [] => by simp [msD, alikeAll]
  | k :: ms, l :: ns => by
    have q := alike_ms ms ns
    simp only [msD, List.map_cons, alikeAll, alike, Bool.true_and] at q ⊢
    exact q
theorem alike_key (a b : Mk) : alike (keyD a) (keyD b) = true := by
  have q := alike_ms a.ms b.ms
  simp only [keyD, alike, alikeAll, Bool.true_and, Bool.and_true, Bool.and_self]
  exact q
theorem toks_ms (ms : List (List Nat)) : keyToksAll (msD ms) = (ms.flatMap fun k => [Sum.inl 1, Sum.inr k]) ++ [Sum.inl 0] := by
  induction ms with
  | nil => rfl
  | cons k ms ih =>
    have e : keyToksAll (msD (k :: ms)) = Sum.inl 1 :: ([Sum.inr k] ++ keyToksAll (msD ms)) := by
      simp only [msD, List.map_cons, keyToksAll, keyToks]
      rfl
    rw [e, ih]
    rfl
theorem toks_key (m : Mk) : keyToks (keyD m) = Sum.inl 1 :: Sum.inr m.l :: Sum.inl 1 :: Sum.inl (m.n : Int) :: Sum.inl 1 :: Sum.inr m.p :: Sum.inl 1 :: (keyToksAll (msD m.ms) ++ [Sum.inl 1, Sum.inl (oi m.y), Sum.inl 1, Sum.inl (oi m.c), Sum.inl 0]) := by
  simp only [keyD, keyToks, keyToksAll, List.cons_append, List.nil_append]
  rfl
theorem ms_toks_inj : ∀ {a b : List (List Nat)} {x y : List (Int ⊕ List Nat)}, keyToksAll (msD a) ++ x = keyToksAll (msD b) ++ y → a = b ∧ x = y
  | [], [], x, y, h => ⟨rfl, by simpa [toks_ms] using h⟩
  | [], k :: b, x, y, h => by simp [toks_ms] at h
  | k :: a, [], x, y, h => by simp [toks_ms] at h
  | k :: a, l :: b, x, y, h => by
    rw [toks_ms, toks_ms] at h
    simp only [List.flatMap_cons, List.cons_append, List.nil_append, List.append_assoc, List.cons.injEq, Sum.inr.injEq, true_and] at h
    obtain ⟨e, h⟩ := h
    have q := @ms_toks_inj a b x y (by rw [toks_ms, toks_ms]; simpa using h)
    exact ⟨by rw [e, q.1], q.2⟩
theorem oi_y {a b : Option Nat} (ha : ∀ n, a = some n → 1 ≤ n) (hb : ∀ n, b = some n → 1 ≤ n) (h : oi a = oi b) : a = b := by
  cases a with
  | none => cases b with
    | none => rfl
    | some n => have := hb n rfl; simp only [oi] at h; omega
  | some n => cases b with
    | none => have := ha n rfl; simp only [oi] at h; omega
    | some k => simp only [oi] at h; rw [Int.ofNat_inj.mp h]
theorem toks_inj {a b : Mk} (oa : Ok a) (ob : Ok b) (h : keyToks (keyD a) = keyToks (keyD b)) : a = b := by
  rw [toks_key, toks_key] at h
  simp only [List.cons.injEq, Sum.inr.injEq, Sum.inl.injEq, true_and] at h
  obtain ⟨e1, e2, e3, h⟩ := h
  obtain ⟨e4, h⟩ := ms_toks_inj h
  simp only [List.cons.injEq, Sum.inl.injEq, true_and, and_true] at h
  have e5 := oi_y (fun n e => Nat.le_trans (by decide) (oa.yr n e).1) (fun n e => Nat.le_trans (by decide) (ob.yr n e).1) h.1
  have e6 := oi_y (fun n e => Nat.le_trans (by decide) (oa.cp n e).1) (fun n e => Nat.le_trans (by decide) (ob.cp n e).1) h.2
  cases a; cases b
  simp only [Mk.mk.injEq]
  exact ⟨e1, Int.ofNat_inj.mp e2, e3, e4, e5, e6⟩
theorem kLt_irr (a : Mk) : kLt a a = false := lex_irrefl (O := itemOrd) _
theorem kLt_tr {a b c : Mk} (h1 : kLt a b = true) (h2 : kLt b c = true) : kLt a c = true := lex_trans (O := itemOrd) _ _ _ h1 h2
theorem kLt_neg {a b c : Mk} (h : kLt a c = true) : kLt a b = true ∨ kLt b c = true := lex_negTrans (O := itemOrd) _ _ _ h
theorem kLt_tot {a b : Mk} (oa : Ok a) (ob : Ok b) (h1 : kLt a b = false) (h2 : kLt b a = false) : a = b := toks_inj oa ob (lex_total (O := itemOrd) _ _ h1 h2)
theorem kLt_asym {a b : Mk} (h : kLt a b = true) : kLt b a = false := by
  cases e : kLt b a with
  | false => rfl
  | true => have q := kLt_tr h e; rw [kLt_irr] at q; cases q
theorem kLe_eq (a b : Mk) : kLe a b = !kLt b a := rfl
theorem kLe_tot : PySem.W.TotalLe kLe := PySem.W.sortLe_total (listOrd itemOrd) false (fun b => keyToks (keyD b))
/-- == of marks' keys -/
theorem key_eqv {a b : Mk} (oa : Ok a) (ob : Ok b) : PyData.eqv (keyD a) (keyD b) = decide (a = b) := by
  by_cases e : a = b
  · rw [decide_eq_true e, e]
    exact PySem.W.eqv_refl_alike _ (alike_key b b)
  · rw [decide_eq_false e]
    cases q : PyData.eqv (keyD a) (keyD b) with
    | false => rfl
    | true => exact (e (toks_inj oa ob ((PySem.W.toks_eqv _ _ (alike_key a b)).1 q))).elim
/-- the empty tuple is ahead of each key -/
theorem nil_lt (m : Mk) : dataLt (.tuple []) (keyD m) = true := rfl
theorem nil_alike (m : Mk) : alike (.tuple []) (keyD m) = true := rfl
/-- the marks in order, each once -/
def Rise (l : List Mk) : Prop := l.Pairwise fun a b => kLt a b = true
def kSort (l : List Mk) : List Mk := l.mergeSort kLe
theorem kSort_perm (l : List Mk) : (kSort l).Perm l := List.mergeSort_perm l kLe
theorem kSort_pw (l : List Mk) : (kSort l).Pairwise fun a b => kLe a b = true := PySem.W.sort_pairwise kLe_tot l
theorem kSort_rise {l : List Mk} (ho : ∀ m ∈ l, Ok m) (hn : l.Nodup) : Rise (kSort l) := by
  have hp := kSort_perm l
  have h1 := kSort_pw l
  have h2 : (kSort l).Nodup := hp.nodup_iff.mpr hn
  have h3 : ∀ m ∈ kSort l, Ok m := fun m hm => ho m (hp.mem_iff.mp hm)
  revert h1 h2 h3
  generalize kSort l = r
  intro h1 h2 h3
  induction r with
  | nil => exact List.Pairwise.nil
  | cons a r ih =>
    rw [List.pairwise_cons] at h1
    rw [List.nodup_cons] at h2
    refine List.pairwise_cons.mpr ⟨fun b hb => ?_, ih h1.2 h2.2 fun m hm => h3 m (List.mem_cons_of_mem _ hm)⟩
    have q := h1.1 b hb
    rw [kLe_eq] at q
    cases e : kLt a b with
    | true => rfl
    | false => exact (h2.1 (kLt_tot (h3 a (List.mem_cons_self ..)) (h3 b (List.mem_cons_of_mem _ hb)) e (by simpa using q) ▸ hb)).elim
theorem rise_sorted {l : List Mk} (h : Rise l) : kSort l = l := List.mergeSort_of_pairwise (h.imp fun {a b} q => by rw [kLe_eq, kLt_asym q]; rfl)
theorem rise_nodup {l : List Mk} (h : Rise l) : l.Nodup := h.imp fun {a b} q e => by rw [e, kLt_irr] at q; cases q
end K42
set_option Elab.async false
set_option linter.all false
set_option maxRecDepth 100000
set_option maxHeartbeats 4000000
namespace K42
open PySem PySem.Spec PyProof.Rows L2
section
variable {P : Program} {w : World} {K : PySem.W.Frag} {mg : Str → Option Value} {base : Heap}
/-! ### comprehensions and the frozen heap -/
theorem qV {Q : VK} {H : Hp} {v v' : V} (e : v = v') (h : Q v' H) : Q v H := by rw [e]; exact h
theorem qT {Q : VK} {H : Hp} {c : Prop} [Decidable c] (hc : c) (h : Q (.bl true) H) : Q (.bl (decide c)) H := by rw [decide_eq_true hc]; exact h
theorem qF {Q : VK} {H : Hp} {c : Prop} [Decidable c] (hc : ¬ c) (h : Q (.bl false) H) : Q (.bl (decide c)) H := by rw [decide_eq_false hc]; exact h
/-! ### isinstance, the answers -/
theorem k_ii {K : PySem.W.Frag} : PySem.W.kitOne K (.type "int") (.type "int") = some true := kit_ty (by decide +kernel)
theorem k_ib {K : PySem.W.Frag} : PySem.W.kitOne K (.type "int") (.type "bool") = some false := kit_ty (by decide +kernel)
theorem k_ss {K : PySem.W.Frag} : PySem.W.kitOne K (.type "str") (.type "str") = some true := kit_ty (by decide +kernel)
theorem k_ll {K : PySem.W.Frag} : PySem.W.kitOne K (.type "list") (.type "list") = some true := kit_ty (by decide +kernel)
theorem k_tl {K : PySem.W.Frag} : PySem.W.kitOne K (.type "tuple") (.type "list") = some false := kit_ty (by decide +kernel)
theorem k_tt {K : PySem.W.Frag} : PySem.W.kitOne K (.type "tuple") (.type "tuple") = some true := kit_ty (by decide +kernel)
/-! ### is_whole -/
def spWhole : Sp := fun vs H Q _ => ∃ (n a : Int) (h : V), vs = [.int n, .int a, h] ∧ a ≤ n ∧ (h = .non ∨ ∃ b, h = .int b ∧ n ≤ b) ∧ Q (.bl true) H
abbrev N_is_whole : List Str := ["thing", "low", "high"]
theorem sc_is_whole : FnScope N_is_whole ["thing", "low", "high"] (defScope S_is_whole) := ⟨rfl, rfl, rfl, by decide +kernel, rfl, by decide +kernel, by decide +kernel⟩
theorem kn_is_whole (T : Tx K mg base) : Kd P w K mg base CX0 2 "is_whole" ["thing", "low", "high"] spWhole (.non) := by
  refine kd_of "is_whole" T 4 15 S_is_whole (.non) rfl rfl sc_is_whole (fun vs H Q E h => by obtain ⟨_, _, _, rfl, _⟩ := h; rfl) (fun _ _ _ _ _ _ _ us its hu hi => match us, hu, its, hi with | [_, _, _], _, [_], _ => ⟨_, rfl, rfl⟩) (fun _ _ _ _ _ _ _ us its hu hi => match us, hu, its, hi with | [_, _], _, [_], _ => ⟨_, rfl, rfl⟩) (fun cdv A outer s H vs Q E hr h => ⟨_, PSs.nox (pss_cons (ps_if (PW.pt (pw_or (pt_not (pt_val (pe_callB call_isi (by rfl) T.f_isinstance (by decide +kernel) (pa_cons (pv 0) (pa_cons (pe_bltn (v := .ty "int") (by rfl) T.f_int (by decide +kernel) rfl) pa_nil))))) (pw_or (pt_val (pe_callB call_isi (by rfl) T.f_isinstance (by decide +kernel) (pa_cons (pv 0) (pa_cons (pe_bltn (v := .ty "bool") (by rfl) T.f_bool (by decide +kernel) rfl) pa_nil)))) (pw_or1 (pt_cmpR op_lt (pv 0) (pv 1) (nomark _)))))) (pss_one (ps_ret pe_bl)) pss_nil)
    (pss_one (ps_ret (pe_or (pe_cmpR op_isN (pv 2) pe_non (nomark _)) (pe_one (pe_cmpR op_le (pv 0) (pv 2) (nomark _))))))), ?_⟩)
  obtain ⟨n, a, h, rfl, h1, h2, q⟩ := h
  refine ⟨_, rfl, _, _, _, _, _, rfl, .ty _, .base (.int _), k_ii, _, rfl, iteF ?_⟩
  refine ⟨_, rfl, _, _, _, _, _, rfl, .ty _, .base (.int _), k_ib, _, rfl, iteF ?_⟩
  refine ⟨_, rfl, _, rfl, _, _, rfl, rfl, _, rfl, ifF (by omega) ?_⟩
  refine ⟨_, rfl, rfl, _, rfl, ?_⟩
  rcases h2 with rfl | ⟨b, rfl, h2⟩
  · exact ifT rfl q
  · refine ifF (by intro e; cases e) ⟨_, rfl, _, rfl, _, _, rfl, rfl, ?_⟩
    exact qT h2 q
/-- a comprehension's word: from (G1, H1); the new list at D stays free -/
theorem lcG (K : PySem.W.Frag) {J : It} {n : Nat} {Gc : Hp → Prop} {Y : Nat → Hp → V → Hp → Prop} (wk : Walk J n Gc Y) {g : TG} {tt : TT} {te : TE} {vs : List Nat} {σ : L2.St} {G1 H1 : Hp} {D : Addr} {Qd : Hp → Prop}
    (sb : Sb G1 H1) (hD : H1 D = none) (Rp : Hp → List V → Nat → Prop) (h0 : Rp G1 [] 0) (hn : n ≤ sizeLine) (hz : ∀ G acc i, Rp G acc i → acc.length ≤ i) (hG : ∀ G H, GR K S0 G1 H1 G H → Gc H)
    (hs : ∀ i x G H H' acc (N : Hp → Prop), i < n → GR K S0 G1 H1 G H → G D = none → H D = some (.lst acc) → Rp G acc i → Y i H x H' →
      (∀ G4 H4 y, GR K S0 G H G4 H4 → Rp G4 (acc ++ [y]) (i + 1) → ∃ acc', H4 D = some (.lst acc') ∧ acc'.length < sizeLine ∧ N (upd H4 D (.lst (acc' ++ [y])))) → (∀ G3 H3, GR K S0 G H G3 H3 → Rp G3 acc (i + 1) → N H3) →
      g x (wipe σ vs) H' fun σ2 H2 => wipe σ2 vs = wipe σ vs ∧ tt σ2 H2 fun b H3 => if b = true then te σ2 H3 fun y H4 => ∃ acc, H4 D = some (.lst acc) ∧ acc.length < sizeLine ∧ N (upd H4 D (.lst (acc ++ [y]))) else N H3)
    (hd : ∀ G H acc, GR K S0 G1 H1 G H → H D = some (.lst acc) → G D = none → Rp G acc n → Qd H) :
    ∃ W : Nat → Nat → Hp → Prop, (∃ m, W 0 m (upd H1 D (.lst []))) ∧ ∀ i m H, W i m H →
      (J.stop i H ∧ Qd H) ∨ (J.go i H ∧ ∃ Nx : Hp → Prop, (∀ H', Nx H' → ∃ m', m' < m ∧ W (i + 1) m' H') ∧ ∀ x H', J.yld i H x H' → g x (wipe σ vs) H' fun σ2 H2 => wipe σ2 vs = wipe σ vs ∧ tt σ2 H2 fun b H3 =>
        if b = true then te σ2 H3 fun y H4 => ∃ acc, H4 D = some (.lst acc) ∧ acc.length < sizeLine ∧ Nx (upd H4 D (.lst (acc ++ [y]))) else Nx H3) := by
  refine lc_it wk (Pv := fun i H => ∃ G acc, GR K S0 G1 H1 G H ∧ G D = none ∧ H D = some (.lst acc) ∧ Rp G acc i) ?_ ?_ ?_ ?_
  · exact ⟨G1, [], (GR.refl sb).newM hD, sb.no hD, upd_same, h0⟩
  · rintro i H hi ⟨G, acc, g, _, _, _⟩
    exact hG G H g
  · rintro i x H H' hi ⟨G, acc, gr, gD, hD', rp⟩ y
    refine hs i x G H H' acc _ hi gr gD hD' rp y (fun G4 H4 v g4 r4 => ?_) fun G3 H3 g3 r3 => ?_
    · refine ⟨acc, g4.keep hD' trivial id, Nat.lt_of_le_of_lt (hz G acc i rp) (Nat.lt_of_lt_of_le hi hn), G4, acc ++ [v], ?_, g4.nofrz hD' gD, upd_same, r4⟩
      exact (gr.trans g4).wr (.inr hD) (g4.nofrz hD' gD) (g4.keep hD' trivial id) trivial
    · exact ⟨G3, acc, gr.trans g3, g3.nofrz hD' gD, g3.keep hD' trivial id, r3⟩
  · rintro H ⟨G, acc, gr, gD, hD', rp⟩
    exact hd G H acc gr hD' gD rp
theorem tyes {σ : L2.St} {H : Hp} {Q : Bool → Hp → Prop} (h : Q true H) : tYes σ H Q := h
/-! ### letters and figures -/
theorem at_S {l : List Nat} {i : Nat} {c : Nat} (h : (S l).cps[i]? = some c) : l[i]? = some c := by simpa [S] using h
theorem letters_in {c : Nat} (h : isLet c = true) : c ∈ ("abcdefghijklmnopqrstuvwxyz" : Str).cps.toList := by
  have e : ("abcdefghijklmnopqrstuvwxyz" : Str).cps.toList = (List.range 26).map (· + 97) := by decide +kernel
  simp only [isLet, Bool.and_eq_true, decide_eq_true_eq] at h
  rw [e]
  exact List.mem_map.mpr ⟨c - 97, List.mem_range.mpr (by omega), by omega⟩
theorem figures_in {c : Nat} (h : isFig c = true) : c ∈ ("0123456789" : Str).cps.toList := by
  have e : ("0123456789" : Str).cps.toList = (List.range 10).map (· + 48) := by decide +kernel
  simp only [isFig, Bool.and_eq_true, decide_eq_true_eq] at h
  rw [e]
  exact List.mem_map.mpr ⟨c - 48, List.mem_range.mpr (by omega), by omega⟩
theorem size_of {n : Nat} (h : n ≤ 16000000) : n ≤ sizeLine := by rw [sizeLine_eq]; omega
theorem all_true (n : Nat) : (List.replicate n true).all id = true := by simp
/-- all signs pass: the list is of Trues -/
theorem rp_true {b : Bool} (n : Nat) (hb : b = true) : (List.replicate n (V.bl true)) ++ [V.bl b] = List.replicate (n + 1) (V.bl true) := by rw [hb, List.replicate_succ']
def spName (K : PySem.W.Frag) : Sp := fun vs H Q _ => ∃ (G : Hp) (l : List Nat), vs = [.str (S l)] ∧ Sb G H ∧ 1 ≤ l.length ∧ l.length ≤ 6 ∧ (∀ c ∈ l, isLet c = true) ∧ ∀ H', GR K S0 G H G H' → Q (.bl true) H'
abbrev N_is_name : List Str := ["thing", "sign"]
theorem sc_is_name : FnScope N_is_name ["thing"] (defScope S_is_name) := ⟨rfl, rfl, rfl, by decide +kernel, rfl, by decide +kernel, by decide +kernel⟩
theorem kn_is_name (T : Tx K mg base) : Kn P w K mg base CX0 2 "is_name" ["thing"] (spName K) := by
  refine kn_of "is_name" T 6 17 S_is_name rfl rfl sc_is_name (fun vs H Q E h => by obtain ⟨_, _, rfl, _⟩ := h; rfl) (fun _ _ _ _ _ _ us hl => match us, hl with | [_], _ => rfl) (fun cdv A outer s H vs Q E hr h => ⟨_, PSs.nox (pss_cons (ps_if (PW.pt (pw_or (pt_not (pt_val (pe_callB call_isi (by rfl) T.f_isinstance (by decide +kernel) (pa_cons (pv 0) (pa_cons (pe_bltn (v := .ty "str") (by rfl) T.f_str (by decide +kernel) rfl) pa_nil))))) (pw_or1 (pt_not (pt_chain op_le op_le pe_int (pe_callB call_len_str (by rfl) T.f_len (by decide +kernel) (pa_cons (pv 0) pa_nil)) (T.gi_LONGEST)))))) (pss_one (ps_ret pe_bl)) pss_nil)
    (pss_one (ps_ret (pe_callB (cr_all rfl) (by rfl) T.f_all (by decide +kernel) (pa_cons (pe_lc (own := [("sign", 1)]) rfl sc_is_name.nd (pi_str (pv 0)) (blkOk_by (N := N_is_name) (sc := defScope S_is_name) (by decide +kernel)) (fun _ _ _ _ _ => (pg_name (i := 1) sc_is_name.nd rfl (Or.inl rfl))) (fun _ _ _ _ _ => pts_nil) (fun _ _ _ _ _ => (pe_cmpR op_in_sign (pv 1) (T.gs_LETTERS) (by with_unfolding_all rfl)))) pa_nil))))), ?_⟩)
  obtain ⟨G, l, rfl, sb, h1, h2, h3, q⟩ := h
  have hl : (S l).length ≤ sizeLine := by rw [S_len]; exact size_of (by omega)
  refine ⟨_, rfl, _, _, _, _, _, rfl, .ty _, .base (.str _), k_ss, _, rfl, iteF ?_⟩
  refine ⟨_, rfl, _, rfl, hl, _, _, rfl, rfl, _, rfl, ifT (by rw [S_len]; omega) ⟨_, _, rfl, rfl, _, rfl, ?_⟩⟩
  rw [decide_eq_true (show ((S l).length : Int) ≤ 6 by rw [S_len]; omega)]
  refine iteF ?_
  refine ⟨_, rfl, _, rfl, fun D hD => lcG K (G1 := G) walk_str sb hD (fun G' acc i => G' = G ∧ acc = List.replicate i (.bl true)) ⟨rfl, rfl⟩ hl (fun G' acc i e => by rw [e.2]; simp) (fun _ _ _ => trivial)
    (fun i x G' H1 H' acc N hi gr gD hD' rp y ky kn => ?_) (fun G' H' acc gr hD' gD rp => ?_)⟩
  · obtain ⟨rfl, c, hc, rfl⟩ := y
    obtain ⟨rfl, rfl⟩ := rp
    have hm := letters_in (h3 c (List.mem_of_getElem? (at_S hc)))
    refine ⟨rfl, ?_⟩
    refine tyes (iteT ⟨_, rfl, _, _, rfl, rfl, ?_⟩)
    exact ky G' _ _ (GR.refl gr.sb) ⟨rfl, rp_true _ (decide_eq_true hm)⟩
  · obtain ⟨rfl, rfl⟩ := rp
    refine ⟨_, List.replicate (S l).cps.size true, rfl, SqL.of (by rw [hD']; simp), ?_⟩
    rw [all_true]
    exact q _ gr
theorem qN {Q : VK} {H : Hp} {c : Prop} [Decidable c] (hc : ¬ c) (h : Q (.bl true) H) : Q (.bl (!decide c)) H := by rw [decide_eq_false hc]; exact h
theorem str0 : ("0" : Str) = ⟨#[48]⟩ := by decide +kernel
theorem strE : ("" : Str) = S [] := by decide +kernel
theorem ne_zero {c : Nat} (h : c ≠ 48) : V.str ⟨#[c]⟩ ≠ V.str "0" := by
  rw [str0]
  intro e
  injection e with e
  injection e with e
  have : [c] = [48] := congrArg Array.toList e
  injection this with this
  exact h this
theorem ne_empty {l : List Nat} (h : l ≠ []) : V.str (S l) ≠ V.str "" := by
  rw [strE]
  intro e
  injection e with e
  exact h (S_inj e)
theorem last_at {l : List Nat} {c : Nat} (h : l.getLast? = some c) : atI l (-1) = some c := by
  obtain ⟨a, rfl⟩ := List.getLast?_eq_some_iff.mp h
  exact atI_last _ _
def spFigs (K : PySem.W.Frag) : Sp := fun vs H Q _ => ∃ (G : Hp) (l : List Nat), vs = [.str (S l)] ∧ Sb G H ∧ l.length ≤ 1000 ∧ figs l = true ∧ ∀ H', GR K S0 G H G H' → Q (.bl true) H'
abbrev N_is_figures : List Str := ["thing", "sign"]
theorem sc_is_figures : FnScope N_is_figures ["thing"] (defScope S_is_figures) := ⟨rfl, rfl, rfl, by decide +kernel, rfl, by decide +kernel, by decide +kernel⟩
theorem kn_is_figures (T : Tx K mg base) : Kn P w K mg base CX0 2 "is_figures" ["thing"] (spFigs K) := by
  refine kn_of "is_figures" T 7 18 S_is_figures rfl rfl sc_is_figures (fun vs H Q E h => by obtain ⟨_, _, rfl, _⟩ := h; rfl) (fun _ _ _ _ _ _ us hl => match us, hl with | [_], _ => rfl) (fun cdv A outer s H vs Q E hr h => ⟨_, PSs.nox (pss_one (ps_ret (pe_and (pe_cmpR op_ne (pv 0) pe_str (nomark _)) (pe_and (pe_callB (cr_all rfl) (by rfl) T.f_all (by decide +kernel) (pa_cons (pe_lc (own := [("sign", 1)]) rfl sc_is_figures.nd (pi_str (pv 0)) (blkOk_by (N := N_is_figures) (sc := defScope S_is_figures) (by decide +kernel)) (fun _ _ _ _ _ => (pg_name (i := 1) sc_is_figures.nd rfl (Or.inl rfl))) (fun _ _ _ _ _ => pts_nil) (fun _ _ _ _ _ => (pe_cmpR op_in_sign (pv 1) (T.gs_FIGURES) (by with_unfolding_all rfl)))) pa_nil)) (pe_one (pe_cmpR op_ne (pe_ix ix_str (pv 0) (pe_un un_neg pe_int) (fun _ _ => rfl)) pe_str (nomark _))))))), ?_⟩)
  obtain ⟨G, l, rfl, sb, h2, h3, q⟩ := h
  obtain ⟨f1, f2, f3⟩ := figs_all h3
  have hl : (S l).length ≤ sizeLine := by rw [S_len]; exact size_of (by omega)
  refine ⟨_, rfl, rfl, _, rfl, ifN (fun _ => ?_) fun e => (ne_empty f1 e).elim⟩
  refine ⟨_, rfl, _, rfl, fun D hD => lcG K (G1 := G) walk_str sb hD (fun G' acc i => G' = G ∧ acc = List.replicate i (.bl true)) ⟨rfl, rfl⟩ hl (fun G' acc i e => by rw [e.2]; simp) (fun _ _ _ => trivial)
    (fun i x G' H1 H' acc N hi gr gD hD' rp y ky kn => ?_) (fun G' H' acc gr hD' gD rp => ?_)⟩
  · obtain ⟨rfl, c, hc, rfl⟩ := y
    obtain ⟨rfl, rfl⟩ := rp
    have hm := figures_in (f2 c (List.mem_of_getElem? (at_S hc)))
    exact ⟨rfl, tyes (iteT ⟨_, rfl, _, _, rfl, rfl, ky G' _ _ (GR.refl gr.sb) ⟨rfl, rp_true _ (decide_eq_true hm)⟩⟩)⟩
  · obtain ⟨rfl, rfl⟩ := rp
    refine ⟨_, List.replicate (S l).cps.size true, rfl, SqL.of (by rw [hD']; simp), ?_⟩
    rw [all_true]
    refine ⟨_, rfl, iteT ?_⟩
    cases e : l.getLast? with
    | none => exact (f1 (List.getLast?_eq_none_iff.mp e)).elim
    | some c =>
      refine ⟨_, rfl, _, rfl, _, _, c, rfl, rfl, hl, last_at e, rfl, ?_⟩
      exact qN (ne_zero fun z => f3 (by rw [e, z])) (q _ gr)
def spPoints (K : PySem.W.Frag) : Sp := fun vs H Q _ => ∃ (G : Hp) (l : List Nat), vs = [.str (S l)] ∧ Sb G H ∧ l.length ≤ 1000 ∧ (l = [] ∨ figs l = true) ∧ ∀ H', GR K S0 G H G H' → Q (.bl true) H'
abbrev N_is_points : List Str := ["thing"]
theorem sc_is_points : FnScope N_is_points ["thing"] (defScope S_is_points) := ⟨rfl, rfl, rfl, by decide +kernel, rfl, by decide +kernel, by decide +kernel⟩
theorem kn_is_points (T : Tx K mg base) : Kn P w K mg base CX0 3 "is_points" ["thing"] (spPoints K) := by
  refine kn_of "is_points" T 8 19 S_is_points rfl rfl sc_is_points (fun vs H Q E h => by obtain ⟨_, _, rfl, _⟩ := h; rfl) (fun _ _ _ _ _ _ us hl => match us, hl with | [_], _ => rfl) (fun cdv A outer s H vs Q E hr h => ⟨_, PSs.nox (pss_one (ps_ret (pe_and (pe_callB call_isi (by rfl) T.f_isinstance (by decide +kernel) (pa_cons (pv 0) (pa_cons (pe_bltn (v := .ty "str") (by rfl) T.f_str (by decide +kernel) rfl) pa_nil))) (pe_one (pe_or (pe_cmpR op_eq (pv 0) pe_str (nomark _)) (pe_one (pe_fn (kn_is_figures T) (hr.mono (by decide)) (pa_cons (pv 0) pa_nil)))))))), ?_⟩)
  obtain ⟨G, l, rfl, sb, h2, h3, q⟩ := h
  refine ⟨_, rfl, _, _, _, _, _, rfl, .ty _, .base (.str _), k_ss, _, rfl, iteT ?_⟩
  refine ⟨_, rfl, rfl, _, rfl, ?_⟩
  rcases h3 with rfl | h3
  · refine ifT (by rw [strE]) ?_
    exact q _ (GR.refl sb)
  · refine ifF (ne_empty (figs_all h3).1) ?_
    exact ⟨_, rfl, G, l, rfl, sb, h2, h3, q⟩
theorem sl_tail (a : Nat) (r : List Nat) : cutS (S (a :: r)) (some 1) none = S r := by
  have e : HT.sIx (S (a :: r)).length 0 (some 1) = 1 := by
    rw [show (1 : Int) = ((1 : Nat) : Int) from rfl, HT.sIx_nat, S_len]
    simp
  unfold cutS
  rw [HT.sIx_none, e, S_len, S_cps]
  show (⟨_⟩ : Str) = ⟨_⟩
  simp
def spMaker (K : PySem.W.Frag) : Sp := fun vs H Q _ => ∃ (G : Hp) (l : List Nat), vs = [.str (S l)] ∧ Sb G H ∧ l.length ≤ 1000 ∧ mkr l = true ∧ ∀ H', GR K S0 G H G H' → Q (.bl true) H'
abbrev N_is_maker : List Str := ["thing"]
theorem sc_is_maker : FnScope N_is_maker ["thing"] (defScope S_is_maker) := ⟨rfl, rfl, rfl, by decide +kernel, rfl, by decide +kernel, by decide +kernel⟩
theorem kn_is_maker (T : Tx K mg base) : Kn P w K mg base CX0 3 "is_maker" ["thing"] (spMaker K) := by
  refine kn_of "is_maker" T 9 20 S_is_maker rfl rfl sc_is_maker (fun vs H Q E h => by obtain ⟨_, _, rfl, _⟩ := h; rfl) (fun _ _ _ _ _ _ us hl => match us, hl with | [_], _ => rfl) (fun cdv A outer s H vs Q E hr h => ⟨_, PSs.nox (pss_cons (ps_if (PW.pt (pw_or (pt_not (pt_val (pe_callB call_isi (by rfl) T.f_isinstance (by decide +kernel) (pa_cons (pv 0) (pa_cons (pe_bltn (v := .ty "str") (by rfl) T.f_str (by decide +kernel) rfl) pa_nil))))) (pw_or1 (pt_cmpR op_eq (pv 0) pe_str (nomark _))))) (pss_one (ps_ret pe_bl)) pss_nil)
    (pss_one (ps_ret (pe_and (pe_cmpR op_in_sign (pe_ix ix_str (pv 0) pe_int (fun _ _ => rfl)) (T.gs_LETTERS) (by with_unfolding_all rfl)) (pe_one (pe_fn (kn_is_figures T) (hr.mono (by decide)) (pa_cons (pe_slice sl_str (pv 0) (po_some pe_int) po_none) pa_nil))))))), ?_⟩)
  obtain ⟨G, l, rfl, sb, h2, h3, q⟩ := h
  obtain ⟨a, r, rfl, ha, hr'⟩ := mkr_cons h3
  have hl : (S (a :: r)).length ≤ sizeLine := by rw [S_len]; exact size_of (by omega)
  refine ⟨_, rfl, _, _, _, _, _, rfl, .ty _, .base (.str _), k_ss, _, rfl, iteF ?_⟩
  refine ⟨_, rfl, rfl, _, rfl, ifF (ne_empty (by simp)) ?_⟩
  refine ⟨_, rfl, _, _, a, rfl, rfl, hl, atI_nat (j := 0) rfl, _, _, rfl, rfl, _, rfl, ifT (letters_in ha) ?_⟩
  refine ⟨_, rfl, _, rfl, _, rfl, hl, ?_⟩
  refine ⟨G, r, ?_, sb, by simp at h2; omega, hr', q⟩
  rw [sl_tail]; rfl
def spLetters (K : PySem.W.Frag) : Sp := fun vs H Q _ => ∃ (G : Hp) (l : List Nat), vs = [.str (S l)] ∧ Sb G H ∧ 1 ≤ l.length ∧ l.length ≤ 3 ∧ (∀ c ∈ l, isLet c = true) ∧ ∀ H', GR K S0 G H G H' → Q (.bl true) H'
abbrev N_is_letters : List Str := ["thing"]
theorem sc_is_letters : FnScope N_is_letters ["thing"] (defScope S_is_letters) := ⟨rfl, rfl, rfl, by decide +kernel, rfl, by decide +kernel, by decide +kernel⟩
theorem kn_is_letters (T : Tx K mg base) : Kn P w K mg base CX0 3 "is_letters" ["thing"] (spLetters K) := by
  refine kn_of "is_letters" T 10 21 S_is_letters rfl rfl sc_is_letters (fun vs H Q E h => by obtain ⟨_, _, rfl, _⟩ := h; rfl) (fun _ _ _ _ _ _ us hl => match us, hl with | [_], _ => rfl) (fun cdv A outer s H vs Q E hr h => ⟨_, PSs.nox (pss_one (ps_ret (pe_and (pe_fn (kn_is_name T) (hr.mono (by decide)) (pa_cons (pv 0) pa_nil)) (pe_one (pe_cmpR op_le (pe_callB call_len_str (by rfl) T.f_len (by decide +kernel) (pa_cons (pv 0) pa_nil)) pe_int (nomark _)))))), ?_⟩)
  obtain ⟨G, l, rfl, sb, h1, h2, h3, q⟩ := h
  have hl : (S l).length ≤ sizeLine := by rw [S_len]; exact size_of (by omega)
  refine ⟨_, rfl, G, l, rfl, sb, h1, by omega, h3, fun H' gr => ?_⟩
  refine ⟨_, rfl, iteT ?_⟩
  refine ⟨_, rfl, _, rfl, hl, _, _, rfl, rfl, ?_⟩
  exact qT (by rw [S_len]; omega) (q _ gr)
def oV : Option Nat → V
  | none => .non
  | some n => .int (n : Int)
def spYear : Sp := fun vs H Q _ => ∃ (y : Option Nat), vs = [oV y] ∧ (∀ n, y = some n → 1000 ≤ n ∧ n ≤ 2999) ∧ Q .non H
abbrev N_need_year : List Str := ["year"]
theorem sc_need_year : FnScope N_need_year ["year"] (defScope S_need_year) := ⟨rfl, rfl, rfl, by decide +kernel, rfl, by decide +kernel, by decide +kernel⟩
theorem kn_need_year (T : Tx K mg base) : Kn P w K mg base CX0 3 "need_year" ["year"] spYear := by
  refine kn_of "need_year" T 11 22 S_need_year rfl rfl sc_need_year (fun vs H Q E h => by obtain ⟨_, rfl, _⟩ := h; rfl) (fun _ _ _ _ _ _ us hl => match us, hl with | [_], _ => rfl) (fun cdv A outer s H vs Q E hr h => ⟨_, PSs.nox (pss_one (ps_if (PW.pt (pw_and (pt_cmpR op_notN (pv 0) pe_non (nomark _)) (pw_and1 (pt_not (pt_val (pe_fn (kn_is_whole T).kn (hr.mono (by decide)) (pa_cons (pv 0) (pa_cons (T.gi_FIRST_YEAR) (pa_cons (T.gi_LAST_YEAR) pa_nil))))))))) (pss_one ps_never) pss_nil)), ?_⟩)
  obtain ⟨y, rfl, h, q⟩ := h
  refine ⟨_, rfl, rfl, _, rfl, ?_⟩
  cases y with
  | none => exact q
  | some n =>
    have := h n rfl
    refine ifN (fun _ => ?_) fun e => nomatch e
    refine ⟨_, rfl, _, _, _, rfl, by omega, .inr ⟨_, rfl, by omega⟩, _, rfl, iteF q⟩
def spCopy : Sp := fun vs H Q _ => ∃ (y : Option Nat), vs = [oV y] ∧ (∀ n, y = some n → 2 ≤ n) ∧ Q .non H
abbrev N_need_copy : List Str := ["copy"]
theorem sc_need_copy : FnScope N_need_copy ["copy"] (defScope S_need_copy) := ⟨rfl, rfl, rfl, by decide +kernel, rfl, by decide +kernel, by decide +kernel⟩
theorem kn_need_copy (T : Tx K mg base) : Kn P w K mg base CX0 3 "need_copy" ["copy"] spCopy := by
  refine kn_of "need_copy" T 12 23 S_need_copy rfl rfl sc_need_copy (fun vs H Q E h => by obtain ⟨_, rfl, _⟩ := h; rfl) (fun _ _ _ _ _ _ us hl => match us, hl with | [_], _ => rfl) (fun cdv A outer s H vs Q E hr h => ⟨_, PSs.nox (pss_one (ps_if (PW.pt (pw_and (pt_cmpR op_notN (pv 0) pe_non (nomark _)) (pw_and1 (pt_not (pt_val (pe_fnD (kn_is_whole T) (hr.mono (by decide)) (pa_cons (pv 0) (pa_cons pe_int pa_nil)))))))) (pss_one ps_never) pss_nil)), ?_⟩)
  obtain ⟨y, rfl, h, q⟩ := h
  refine ⟨_, rfl, rfl, _, rfl, ?_⟩
  cases y with
  | none => exact q
  | some n =>
    have := h n rfl
    refine ifN (fun _ => ?_) fun e => nomatch e
    refine ⟨_, rfl, _, _, _, rfl, by omega, .inl rfl, _, rfl, iteF q⟩
end
end K42
set_option Elab.async false
set_option linter.all false
set_option maxRecDepth 100000
set_option maxHeartbeats 4000000
namespace K42
open PySem PySem.Spec PyProof.Rows L2
section
open PySem.AutoSeq1 PySem.MeetsSeq PySem.MeetsSeq2 PySem.MeetsSeq3
theorem ext_tup (l b : Addr) (xs ys : Array Value) (n k : Nat) (dd : Option Addr) (sl : Array (Option Value)) (short : ¬(!xs.isEmpty && Builtin.List.listTooLong (xs.size + ys.size)) = true) (z1 : xs.size ≤ sizeLine) (z2 : xs.size + ys.size ≤ sizeLine) :
    Meets (Builtin.«list.extend» ⟨[.ref l, .ref b], []⟩) (fun _ R s => s.heap.get? l = some { cls := .type "list", data := .seq xs n } ∧ s.heap.get? b = some { cls := .type "tuple", dict := dd, data := .seq ys k, slots := sl } ∧
      R (.ok (.ret Value.none)) { s with heap := s.heap.update l (Obj.mapSeq fun x => x ++ ys), toks := s.toks }) := .of_wp fun prog w A R s h => by
  obtain ⟨hp, g, d, tk, os⟩ := s
  obtain ⟨ol, ob, fin⟩ := h
  have c1 := PySem.AutoSeq1.idx_int
  have c2 := PySem.AutoSeq1.sub_tuple_tuple
  have c3 := PySem.AutoSeq1.sub_list_list
  have c4 := PySem.AutoSeq1.sub_tuple_list
  have c5 := PySem.AutoSeq1.sub_list_tuple
  have z3 : (xs ++ ys).size ≤ sizeLine + 1 := by rw [Array.size_append]; omega
  wp_walk using (wpAny_updateSeq ol rfl (hz := z1) (_hz' := z3)), wpAny_loadPart' ol, wpAny_loadPart' ob
  exact ⟨_, rfl, fin⟩
end
section
variable {X : Cx}
/-- xs[i], by values -/
def rGet (K : PySem.W.Frag) : V → V → Hp → VK → Prop := fun o i H Q => ∃ (p : Addr) (xs : List V) (k : Nat) (v : V), o = .ref p ∧ i = .int (k : Int) ∧ SqL K H p xs ∧ xs[k]? = some v ∧ Q v H
theorem get_list : PGet X (rGet X.K) := by
  intro pins s σ H o i ov iv Q I ro ri h
  obtain ⟨p, xs, k, v, rfl, rfl, hs, hk, q⟩ := h
  cases ro
  obtain ⟨t, rfl⟩ := ri
  obtain ⟨its, rv, pl, hz⟩ := I.list hs
  obtain ⟨u, hu, ru⟩ := rv.get hk
  have hk' : k < xs.length := (List.getElem?_eq_some_iff.mp hk).1
  obtain ⟨ob, nn, o1, o2, o3, o4⟩ := pl
  refine wpAny_getItem_list ⟨ob, o1, o2, nn, o4⟩ (by omega) (Int.lt_of_le_of_lt (Int.ofNat_le.mpr (Nat.le_trans (Nat.le_of_lt hk') hz)) (by rw [sizeLine_eq]; decide)) (x := u) (by simpa using hu) ?_
  exact ⟨v, H, I, ru, q⟩
/-- xs.extend(t), t a tuple -/
def rExtT (K : PySem.W.Frag) : V → List V → Hp → VK → Prop := fun x vs H Q => ∃ (l b : Addr) (xs zs : List V), x = .ref l ∧ vs = [.ref b] ∧ H l = some (.lst xs) ∧ SqT K H b zs ∧ xs.length + zs.length ≤ sizeLine ∧ Q .non (upd H l (.lst (xs ++ zs)))
theorem mt_extendA : MtM X "list.extend" (rExtT X.K) := by
  intro pins s σ H x vs v us Q I rx rvs hyp
  obtain ⟨l, b, xs, zs, rfl, rfl, hl, hb, hz, q⟩ := hyp
  cases rx
  obtain ⟨u, rfl, ru⟩ := rvs.one
  cases ru
  obtain ⟨_, its, n, r1, len1, o1⟩ := I.lstM hl
  obtain ⟨its2, r2, ⟨ob, o2, oc, n2, od⟩, _⟩ := I.tuple hb
  have len2 := r2.length
  obtain ⟨cl, dd, dt, sl⟩ := ob
  cases oc
  cases od
  have short : ¬ (!its.toArray.isEmpty && Builtin.List.listTooLong (its.toArray.size + its2.toArray.size)) = true := by
    have e : Builtin.List.listTooLong (its.toArray.size + its2.toArray.size) = false := notLongL (by simp only [List.size_toArray]; omega)
    rw [e, Bool.and_false]
    simp
  refine call_meets F.slot_list_extend ⟨_, o1, rfl⟩ F.entry_list_extend (F.args_list_extend_2 _ _) (ext_tup l b its.toArray its2.toArray n n2 dd sl short (by simp only [List.size_toArray]; omega) (by simp only [List.size_toArray]; omega)) ⟨o1, o2, ?_⟩
  exact ⟨.non, _, I.lset (its' := its ++ its2) hl o1 (by simp) (r1.append r2) (by simp only [List.length_append]; omega), rfl, q⟩
/-- a < b, a <= b of data -/
def rLtD (K : PySem.W.Frag) : R2 := fun x y H Q => ∃ d e, Dp K H x d ∧ Dp K H y e ∧ PySem.W.alike d e = true ∧ d ≠ .none ∧ d.depth ≤ 60 ∧ Q (.bl (PySem.W.dataLt d e)) H
def rLeD (K : PySem.W.Frag) : R2 := fun x y H Q => ∃ d e, Dp K H x d ∧ Dp K H y e ∧ PySem.W.alike d e = true ∧ d ≠ .none ∧ d.depth ≤ 60 ∧ Q (.bl (!PySem.W.dataLt e d)) H
theorem op_ltK {k : Nat} (hr : Room k X.A) : OpR X (compareOp .Lt) (rLtD X.K) := fun pins s σ H x y v u Q I rx ry hyp => by
  obtain ⟨d, e, hd, he, ha, hn, hz, q⟩ := hyp
  obtain ⟨as, r1⟩ := Dp.reads I d x v hd rx
  obtain ⟨bs, r2⟩ := Dp.reads I e y u he ry
  have hu := hr.units
  exact PySem.W.lt_data r1 r2 ha hn (by omega) ⟨.bl _, H, I, rfl, q⟩
theorem op_leK {k : Nat} (hr : Room k X.A) : OpR X (compareOp .LtE) (rLeD X.K) := fun pins s σ H x y v u Q I rx ry hyp => by
  obtain ⟨d, e, hd, he, ha, hn, hz, q⟩ := hyp
  obtain ⟨as, r1⟩ := Dp.reads I d x v hd rx
  obtain ⟨bs, r2⟩ := Dp.reads I e y u he ry
  have hu := hr.units
  exact PySem.W.le_data r1 r2 ha hn (by omega) ⟨.bl _, H, I, rfl, q⟩
theorem hu65 {k : Nat} {A : Around} (hr : Room k A) : A.units + 65 < cLine := by have := hr.un; omega
end
end K42
set_option Elab.async false
set_option linter.all false
set_option maxRecDepth 100000
set_option maxHeartbeats 4000000
namespace K42
open PySem PySem.Spec PyProof.Rows L2
/-- over a list or a tuple -/
theorem pi_seq {X : Cx} {tg l : Expr} {tl : TE} (hl : PE X l tl) : PI X tg l (fun σ H R => iList X.K tl σ H R ∨ iTup X.K tl σ H R) :=
  ⟨fun pins s σ H R I h => h.elim (fun h => (pi_list hl).run pins s σ H R I h) fun h => (pi_tup hl).run pins s σ H R I h⟩
/-! ### what stands for what -/
def sV (l : List Nat) : V := .str (S l)
def msV (ms : List (List Nat)) : List V := ms.map sV
def TupAt (G : Hp) (v : V) (xs : List V) : Prop := ∃ a, v = .ref a ∧ G a = some (.tup xs)
def LstAt (G : Hp) (v : V) (xs : List V) : Prop := ∃ a, v = .ref a ∧ G a = some (.lst xs)
theorem TupAt.mono {G G' : Hp} {v : V} {xs : List V} (h : TupAt G v xs) (l : Le G G') : TupAt G' v xs := by
  obtain ⟨a, e, h⟩ := h
  exact ⟨a, e, l _ _ h⟩
theorem LstAt.mono {G G' : Hp} {v : V} {xs : List V} (h : LstAt G v xs) (l : Le G G') : LstAt G' v xs := by
  obtain ⟨a, e, h⟩ := h
  exact ⟨a, e, l _ _ h⟩
/-- items that stand for data -/
def Each {α : Type} (R : Hp → V → α → Prop) (G : Hp) (vs : List V) (ds : List α) : Prop := Paired (R G) vs ds
section
variable {P : Program} {w : World} {K : PySem.W.Frag} {mg : Str → Option Value} {base : Heap}
def spMakers (K : PySem.W.Frag) : Sp := fun vs H Q _ => ∃ (G : Hp) (a : Addr) (ms : List (List Nat)), vs = [.ref a] ∧ Sb G H ∧ (H a = some (.lst (msV ms)) ∨ G a = some (.tup (msV ms))) ∧ ms.length ≤ 3 ∧ (∀ k ∈ ms, mkr k = true ∧ k.length ≤ 1000) ∧
  ∀ G' H' t, GR K S0 G H G' H' → G' t = some (.tup (msV ms)) → Q (.ref t) H'
abbrev N_makers_in : List Str := ["makers", "maker"]
theorem sc_makers_in : FnScope N_makers_in ["makers"] (defScope S_makers_in) := ⟨rfl, rfl, rfl, by decide +kernel, rfl, by decide +kernel, by decide +kernel⟩
theorem kn_makers_in (T : Tx K mg base) : Kn P w K mg base CX0 4 "makers_in" ["makers"] (spMakers K) := by
  refine kn_of "makers_in" T 13 24 S_makers_in rfl rfl sc_makers_in (fun vs H Q E h => by obtain ⟨_, _, _, rfl, _⟩ := h; rfl) (fun _ _ _ _ _ _ us hl => match us, hl with | [_], _ => rfl) (fun cdv A outer s H vs Q E hr h => ⟨_, PSs.nox (pss_cons (ps_if (pt_cmpR op_isN (pv 0) pe_non (nomark _)) (pss_one (ps_ret (pe_tup pa_nil))) pss_nil)
    (pss_cons (ps_if (PW.pt (pw_or (pt_not (pt_val (pe_callB call_isiT (by rfl) T.f_isinstance (by decide +kernel) (pa_cons (pv 0) (pa_cons (pe_tup (pa_cons (pe_bltn (v := .ty "list") (by rfl) T.f_list (by decide +kernel) rfl) (pa_cons (pe_bltn (v := .ty "tuple") (by rfl) T.f_tuple (by decide +kernel) rfl) pa_nil))) pa_nil))))) (pw_or1 (pt_cmpR op_gt (pe_callB call_len_seq (by rfl) T.f_len (by decide +kernel) (pa_cons (pv 0) pa_nil)) (T.gi_MOST_MAKERS) (nomark _))))) (pss_one ps_never) pss_nil)
    (pss_cons (ps_for PassesOwn.never rfl (pi_seq (pv 0)) (pg_name (i := 1) sc_makers_in.nd rfl (Or.inl rfl)) (pss_one (ps_if (pt_not (pt_val (pe_fn (kn_is_maker T) (hr.mono (by decide)) (pa_cons (pv 1) pa_nil)))) (pss_one ps_never) pss_nil)))
    (pss_one (ps_ret (pe_callTy call_tuple_of (by rfl) T.f_tuple (by decide +kernel) (pa_cons (pv 0) pa_nil))))))), ?_⟩)
  obtain ⟨G, a, ms, rfl, sb, h1, h3, hm, q⟩ := h
  have hz : (msV ms).length = ms.length := by simp [msV]
  refine ⟨_, rfl, rfl, _, rfl, ifF (by intro e; cases e) ?_⟩
  refine ⟨_, rfl, size_of (by decide), fun p hp => ?_⟩
  have g1 := (GR.refl (K := K) (S := S0) sb).newM hp (o := .tup [.ty "list", .ty "tuple"])
  have h2 : ∀ b o, H b = some o → upd H p (.tup [.ty "list", .ty "tuple"]) b = some o := fun b o e => by rw [upd_ne (ne_of_none e hp)]; exact e
  have turn : ∀ (i : Nat) (x : V) (H' : Hp), (msV ms)[i]? = some x → GR K S0 G H G H' → ∃ k, k ∈ ms ∧ x = sV k := by
    intro i x H' hx _
    obtain ⟨k, hk, rfl⟩ := List.mem_map.mp (List.mem_of_getElem? hx)
    exact ⟨k, hk, rfl⟩
  have body : ∀ (i : Nat) (x : V) (σ : L2.St) (H' : Hp) (D : Ends), (msV ms)[i]? = some x → (∃ v, σ = [some (.ref a), v]) ∧ GR K S0 G H G H' →
      (∀ σ2 H2, (∃ v, σ2 = [some (.ref a), v]) ∧ GR K S0 G H G H2 → D.nx σ2 H2) →
      gName 1 x σ H' fun σ2 H2 => tIfS (tNot (tB (tCall (spMaker K) [] E0 (tCons (tVar 1) tNil)))) tNever tNext D σ2 H2 := by
    rintro i x σ H' D hx ⟨⟨v, rfl⟩, gr⟩ k
    obtain ⟨l, hl, rfl⟩ := turn i x H' hx gr
    refine ⟨_, rfl, G, l, rfl, gr.sb, (hm l hl).2, (hm l hl).1, fun H2 g2 => ?_⟩
    exact ⟨_, rfl, iteF (k _ _ ⟨⟨_, rfl⟩, gr.trans g2⟩)⟩
  rcases h1 with h1 | h1
  · refine ⟨_, p, [.ty "list", .ty "tuple"], .type "list", [.type "list", .type "tuple"], true, rfl, upd_same, .cons (.ty _) (.cons (.ty _) .nil), .base (.lst (h2 _ _ h1)), kitAny_cons k_ll (fun z => nomatch z) (fun _ => rfl), _, rfl, iteF ?_⟩
    refine ⟨_, rfl, _, _, rfl, .inl (SqL.of (h2 _ _ h1)), _, _, rfl, rfl, _, rfl, ifF (by rw [hz]; omega) ?_⟩
    refine .inl ⟨_, rfl, a, rfl, ⟨_, SqL.of (h2 _ _ h1)⟩, for_list (K := K) (a := a) (xs := msV ms) (fun i σ H' => (∃ v, σ = [some (.ref a), v]) ∧ GR K S0 G H G H') ⟨⟨_, rfl⟩, g1⟩ (fun i σ H' _ z => SqL.of (z.2.hh _ _ id h1 (fun ps z => nomatch z)))
      (fun i x σ H' hx z => body i x σ H' _ hx z fun _ _ z => z) fun σ H' ⟨⟨v, e⟩, gr⟩ => ?_⟩
    subst e
    refine ⟨_, rfl, a, _, rfl, .inl ⟨SqL.of (gr.hh _ _ id h1 (fun ps z => nomatch z)), fun t ht => ?_⟩⟩
    exact q _ _ t (gr.new ht trivial) upd_same
  · have h1' := (sb _ _ h1).1
    refine ⟨_, p, [.ty "list", .ty "tuple"], .type "tuple", [.type "list", .type "tuple"], true, rfl, upd_same, .cons (.ty _) (.cons (.ty _) .nil), .base (.tup (h2 _ _ h1')), kitAny_cons k_tl (fun _ => kitAny_cons k_tt (fun z => nomatch z) (fun _ => rfl)) (fun z => nomatch z), _, rfl, iteF ?_⟩
    refine ⟨_, rfl, _, _, rfl, .inr (SqT.of (h2 _ _ h1')), _, _, rfl, rfl, _, rfl, ifF (by rw [hz]; omega) ?_⟩
    refine .inr ⟨_, rfl, a, rfl, ⟨_, SqT.of (h2 _ _ h1')⟩, for_tup (K := K) (a := a) (xs := msV ms) (fun i σ H' => (∃ v, σ = [some (.ref a), v]) ∧ GR K S0 G H G H') ⟨⟨_, rfl⟩, g1⟩ (fun i σ H' _ z => SqT.of (z.2.hh _ _ id h1' (fun ps z => nomatch z)))
      (fun i x σ H' hx z => body i x σ H' _ hx z fun _ _ z => z) fun σ H' ⟨⟨v, e⟩, gr⟩ => ?_⟩
    subst e
    refine ⟨_, rfl, a, _, rfl, .inr ⟨SqT.of (gr.hh _ _ id h1' (fun ps z => nomatch z)), ?_⟩⟩
    exact q _ _ a gr h1
end
end K42
set_option Elab.async false
set_option linter.all false
set_option maxRecDepth 100000
set_option maxHeartbeats 4000000
namespace K42
open PySem PySem.Spec PyProof.Rows L2
open TL (numL)
/-! ### joined words -/
theorem S_tl (x : Str) : S (TL.tl x) = x := S_of
theorem tl_S (l : List Nat) : TL.tl (S l) = l := rfl
theorem str_num (n : Nat) : Str.ofString (toString ((n : Nat) : Int)) = S (numL n) := by rw [← TL.tl_num, S_tl]
theorem joinL_glue : ∀ (w : List Nat) (ws : List (List Nat)), TL.joinL [32] (w :: ws) = w ++ glue ws
  | w, [] => by simp [TL.joinL, glue]
  | w, v :: ws => by
    show w ++ ([32] ++ TL.joinL [32] (v :: ws)) = w ++ glue (v :: ws)
    rw [joinL_glue v ws]
    rfl
theorem sp32 : (" " : Str) = S [32] := by decide +kernel
theorem join_words (w : List Nat) (ws : List (List Nat)) : Txt.join (" " : Str) ((w :: ws).map S) = S (w ++ glue ws) := by
  rw [← S_tl (Txt.join _ _), TL.join_eq, TL.tl_join, sp32, tl_S, List.map_map]
  rw [show ((w :: ws).map (TL.tl ∘ S)) = w :: ws from by simp [Function.comp_def, tl_S]]
  rw [joinL_glue]
theorem join_one (x : Str) (y : Str) : Txt.join y [x] = x := by rw [TL.join_eq]; rfl
theorem sum_le {l : List Nat} {b : Nat} (h : ∀ x ∈ l, x ≤ b) : l.sum ≤ l.length * b := by
  induction l with
  | nil => simp
  | cons a r ih =>
    have h1 := h a (List.mem_cons_self ..)
    have h2 := ih fun x hx => h x (List.mem_cons_of_mem _ hx)
    simp only [List.sum_cons, List.length_cons, Nat.succ_mul]
    omega
theorem numL_5 {n : Nat} (h : n ≤ 99999) : (numL n).length ≤ 5 := TL.numL_len (by decide) (by omega)
theorem log_small {n : Nat} (h : n ≤ 99999) : ((n : Nat) : Int).natAbs.log2 < 1920 := by
  have : (n : Int).natAbs = n := rfl
  rw [this]
  by_cases h0 : n = 0
  · subst h0; decide
  · exact (Nat.log2_lt h0).mpr (Nat.lt_of_le_of_lt h (Nat.lt_of_lt_of_le (by decide : 99999 < 2 ^ 17) (Nat.pow_le_pow_right (by decide) (by decide))))
theorem words_few (m : Mk) (ok : Ok m) : (wordsOf m).length ≤ 5 := by
  have cl : (wordsC m.c).length ≤ 1 := by cases m.c <;> simp [wordsC]
  have yl : (wordsY m.y).length ≤ 1 := by cases m.y <;> simp [wordsY]
  have := ok.m3
  simp only [wordsOf, List.length_append]
  omega
def headW (m : Mk) : List Nat := m.l ++ (numL m.n ++ pts m.p)
theorem head_short (m : Mk) (ok : Ok m) : (headW m).length ≤ 1009 := by
  have pz := ok.pz
  have l3 := ok.l3
  have := numL_5 (n := m.n) (by have := ok.n9; omega)
  simp only [headW, List.length_append, pts]
  by_cases pe : m.p = []
  · simp [pe]; omega
  · simp [pe]; omega
theorem word_short (m : Mk) (ok : Ok m) (l : List Nat) (hl : l ∈ wordsOf m) : l.length ≤ 1000 := by
  simp only [wordsOf, List.mem_append] at hl
  rcases hl with (hl | hl) | hl
  · exact ok.mz l hl
  · cases ey : m.y with
    | none => rw [ey] at hl; cases hl
    | some y =>
      rw [ey] at hl
      rw [List.mem_singleton.mp hl]
      have := ok.yr y ey
      have := numL_5 (n := y) (by omega)
      omega
  · cases ec : m.c with
    | none => rw [ec] at hl; cases hl
    | some c =>
      rw [ec] at hl
      rw [List.mem_singleton.mp hl]
      have := ok.cp c ec
      have := numL_5 (n := c) (by omega)
      simp; omega
theorem text_words (m : Mk) : text m = headW m ++ glue (wordsOf m) := by simp [text, headW]
theorem glue_len (ws : List (List Nat)) : (glue ws).length = (ws.map fun w => w.length + 1).sum := by
  induction ws with
  | nil => rfl
  | cons w ws ih =>
    rw [glue_cons, List.map_cons, List.sum_cons, ← ih]
    simp
    omega
theorem text_short (m : Mk) (ok : Ok m) : (text m).length ≤ 10000 := by
  rw [text_words, List.length_append, glue_len]
  have h1 := head_short m ok
  have h2 := words_few m ok
  have h3 : ((wordsOf m).map fun w => w.length + 1).sum ≤ ((wordsOf m).map fun w => w.length + 1).length * 1001 := sum_le fun x hx => by
    obtain ⟨l, hl, rfl⟩ := List.mem_map.mp hx
    have := word_short m ok l hl
    omega
  rw [List.length_map] at h3
  have : (wordsOf m).length * 1001 ≤ 5 * 1001 := Nat.mul_le_mul_right _ h2
  omega
theorem text_fits (m : Mk) (ok : Ok m) : (S (text m)).length ≤ sizeLine := by
  rw [S_len]
  exact size_of (Nat.le_trans (text_short m ok) (by decide))
section
variable {P : Program} {w : World} {K : PySem.W.Frag} {mg : Str → Option Value} {base : Heap}
theorem big60 {n : Nat} (h : n ≤ 99999) : ¬ ((10 : Int) ^ (60 : Int).toNat ≤ (n : Int)) := by
  have e : (10 : Int) ^ (60 : Int).toNat = 1000000000000000000000000000000000000000000000000000000000000 := by decide +kernel
  rw [e]
  omega
def spFigOf (K : PySem.W.Frag) : Sp := fun vs H Q _ => ∃ (G : Hp) (n : Nat), vs = [.int (n : Int)] ∧ Sb G H ∧ n ≤ 99999 ∧ ∀ H', GR K S0 G H G H' → Q (sV (numL n)) H'
abbrev N_figures_of : List Str := ["number", "parts", "rest"]
theorem sc_figures_of : FnScope N_figures_of ["number"] (defScope S_figures_of) := ⟨rfl, rfl, rfl, by decide +kernel, rfl, by decide +kernel, by decide +kernel⟩
theorem kn_figures_of (T : Tx K mg base) : Kn P w K mg base CX0 2 "figures_of" ["number"] (spFigOf K) := by
  refine kn_of "figures_of" T 5 16 S_figures_of rfl rfl sc_figures_of (fun vs H Q E h => by obtain ⟨_, _, rfl, _⟩ := h; rfl) (fun _ _ _ _ _ _ us hl => match us, hl with | [_], _ => rfl) (fun cdv A outer s H vs Q E hr h => ⟨_, PSs.nox (pss_cons (ps_set (i := 1) sc_figures_of.nd rfl (Or.inl rfl) (pe_lst pa_nil))
    (pss_cons (ps_while PassesOwn.never (pt_cmpR op_ge (pv 0) (pe_op op_pow pe_int pe_int) (nomark _)) pss_never)
    (pss_cons (ps_expr (pe_bm PySem.F.plainAttrs_list PySem.F.slot_list_append PySem.F.type_list_append mt_append (pv 1) (pa_cons (pe_callTy call_str_int (by rfl) T.f_str (by decide +kernel) (pa_cons (pv 0) pa_nil)) pa_nil)))
    (pss_one (ps_ret (pe_bm PySem.F.plainAttrs_str PySem.F.slot_str_join PySem.F.type_str_join mt_join pe_str (pa_cons (pe_revL (pv 1)) pa_nil))))))), ?_⟩)
  obtain ⟨G, n, rfl, sb, hn, q⟩ := h
  refine ⟨size_of (by decide), fun p hp => ?_⟩
  have g1 := (GR.refl (K := K) (S := S0) sb).newM hp (o := .lst [])
  refine ⟨fun _ σ' H' => σ' = [some (.int (n : Int)), some (.ref p), none] ∧ H' = upd H p (.lst []), ⟨0, rfl, rfl⟩, ?_⟩
  rintro m σ' H' ⟨rfl, rfl⟩
  refine ⟨_, rfl, _, _, rfl, rfl, ⟨by decide, by decide, by decide⟩, _, _, rfl, rfl, _, rfl, ifF (big60 hn) ?_⟩
  refine ⟨_, rfl, .inl ⟨rfl, _, SqL.of upd_same⟩, ?_⟩
  refine ⟨_, rfl, _, rfl, log_small hn, ?_⟩
  refine ⟨p, [], _, rfl, rfl, upd_same, size_of (by decide), ?_⟩
  have g2 := g1.wr (.inr hp) (sb.no hp) (o' := .lst [.str (toString ((n : Nat) : Int))]) upd_same trivial
  refine ⟨rfl, _, rfl, p, _, rfl, SqL.of upd_same, fun t ht => ?_⟩
  have g3 := g2.newM ht (o := .lst [.str (toString ((n : Nat) : Int))])
  refine ⟨_, t, [Str.ofString (toString ((n : Nat) : Int))], rfl, rfl, .inl (SqL.of upd_same), ?_, ?_⟩
  · rw [str_num]
    have := numL_5 hn
    simp only [List.map_cons, List.map_nil, List.sum_cons, List.sum_nil, List.length_cons, List.length_nil, S_len]
    have : ("" : Str).length = 0 := by decide +kernel
    omega
  · exact qV (by rw [join_one, str_num]; rfl) (q _ g3)
/-! ### the fields -/
/-- the fields of a mark, its makers a tuple at t -/
def flds6 (t : Addr) (m : Mk) : List (Str × V) := [("kept_makers", .ref t), ("kept_letters", sV m.l), ("kept_number", .int m.n), ("kept_points", sV m.p), ("kept_year", oV m.y), ("kept_copy", oV m.c)]
def flds (t : Addr) (m : Mk) : List (Str × V) := [("kept_makers", .ref t), ("kept_letters", sV m.l), ("kept_number", .int m.n), ("kept_points", sV m.p), ("kept_year", oV m.y), ("kept_copy", oV m.c), ("kept_text", sV (text m))]
def MarkAt (K : PySem.W.Frag) (G : Hp) (v : V) (m : Mk) : Prop := ∃ a dx t, v = .ref a ∧ G a = some (.ins (He.ga K "Mark") dx (flds t m)) ∧ G t = some (.tup (msV m.ms))
theorem MarkAt.mono {G G' : Hp} {v : V} {m : Mk} (h : MarkAt K G v m) (l : Le G G') : MarkAt K G' v m := by
  obtain ⟨a, dx, t, e, h1, h2⟩ := h
  exact ⟨a, dx, t, e, l _ _ h1, l _ _ h2⟩
/-! ### the text -/
def spTextOf (K : PySem.W.Frag) : Sp := fun vs H Q _ => ∃ (G : Hp) (a dx t : Addr) (m : Mk), vs = [.ref a] ∧ Sb G H ∧ Ok m ∧ H a = some (.ins (He.ga K "Mark") dx (flds6 t m)) ∧ G t = some (.tup (msV m.ms)) ∧ ∀ H', GR K S0 G H G H' → Q (sV (text m)) H'
abbrev N_Mark_text_of : List Str := ["self", "words"]
theorem sc_Mark_text_of : FnScope N_Mark_text_of ["self"] (defScope S_Mark_text_of) := ⟨rfl, rfl, rfl, by decide +kernel, rfl, by decide +kernel, by decide +kernel⟩
theorem kn_Mark_text_of (T : Tx K mg base) : Km P w K mg base CX0 3 "Mark" "text_of" ["self"] (spTextOf K) := by
  refine km_of "Mark" "text_of" T 15 112 97 S_Mark_text_of rfl rfl rfl sc_Mark_text_of (fun vs H Q E h => by obtain ⟨_, _, _, _, _, rfl, _⟩ := h; rfl) (fun _ _ _ _ _ _ us hl => match us, hl with | [_], _ => rfl) (fun cdv A outer s H vs Q E hr h => ⟨_, PSs.nox (pss_cons (ps_set (i := 1) sc_Mark_text_of.nd rfl (Or.inl rfl) (pe_lst (pa_cons (pe_joined (.cons (pe_fmt (pe_fld (pv 0) rfl)) (.cons (pe_fmt (pe_fld (pv 0) rfl)) .nil))) pa_nil)))
    (Evl.pss_cut (ps_if (pt_cmpR op_ne (pe_fld (pv 0) rfl) pe_str (nomark _)) (pss_one (ps_augS (pv 1) pe_int get_list (pe_op op_add_str pe_str (pe_fld (pv 0) rfl)) in_addS set_list)) pss_nil)
    (pss_cons (ps_expr (pe_bm PySem.F.plainAttrs_list PySem.F.slot_list_extend PySem.F.type_list_extend mt_extendA (pv 1) (pa_cons (pe_fld (pv 0) rfl) pa_nil)))
    (Evl.pss_cut (ps_if (pt_cmpR op_notN (pe_fld (pv 0) rfl) pe_non (nomark _)) (pss_one (ps_expr (pe_bm PySem.F.plainAttrs_list PySem.F.slot_list_append PySem.F.type_list_append mt_append (pv 1) (pa_cons (pe_callTy call_str_int (by rfl) T.f_str (by decide +kernel) (pa_cons (pe_fld (pv 0) rfl) pa_nil)) pa_nil)))) pss_nil)
    (Evl.pss_cut (ps_if (pt_cmpR op_notN (pe_fld (pv 0) rfl) pe_non (nomark _)) (pss_one (ps_expr (pe_bm PySem.F.plainAttrs_list PySem.F.slot_list_append PySem.F.type_list_append mt_append (pv 1) (pa_cons (pe_op op_add_str pe_str (pe_fn (kn_figures_of T) (hr.mono (by decide)) (pa_cons (pe_fld (pv 0) rfl) pa_nil))) pa_nil)))) pss_nil)
    (pss_one (ps_ret (pe_bm PySem.F.plainAttrs_str PySem.F.slot_str_join PySem.F.type_str_join mt_join pe_str (pa_cons (pv 1) pa_nil))))))))), ?_⟩)
  obtain ⟨G, a, dx, t, m, rfl, sb, ok, ha, ht, q⟩ := h
  have hl : (S m.l).length ≤ 3 := by rw [S_len]; exact ok.l3
  have hnn := numL_5 (n := m.n) (by have := ok.n9; omega)
  have hnl : (Str.ofString (toString ((m.n : Nat) : Int))).length ≤ 5 := by rw [str_num, S_len]; exact hnn
  have e0 : Str.empty ++ S m.l ++ Str.ofString (toString ((m.n : Nat) : Int)) = S (m.l ++ numL m.n) := by
    rw [str_num, show Str.empty = S [] from rfl, S_app, S_app]
    rfl
  have z0 : (Str.empty ++ S m.l).length ≤ sizeLine := by
    rw [show Str.empty = S [] from rfl, S_app, S_len]
    have := ok.l3
    exact size_of (by simp; omega)
  have z1 : (Str.empty ++ S m.l ++ Str.ofString (toString ((m.n : Nat) : Int))).length ≤ sizeLine := by
    rw [e0, S_len]
    have := ok.l3
    exact size_of (by simp; omega)
  refine ⟨_, rfl, a, _, _, _, _, rfl, ha, T.cM, T.nM_letters, rfl, .inl ⟨_, rfl, size_of (by omega), _, rfl, z0, ?_⟩⟩
  refine ⟨_, rfl, a, _, _, _, _, rfl, ha, T.cM, T.nM_number, rfl, .inr ⟨_, rfl, log_small (by have := ok.n9; omega), _, rfl, z1, ?_⟩⟩
  rw [e0]
  refine ⟨size_of (n := 1) (by decide), fun p hp => ?_⟩
  have g1 := (GR.refl (K := K) (S := S0) sb).newM hp (o := .lst [sV (m.l ++ numL m.n)])
  have pa : a ≠ p := ne_of_none ha hp
  have gp := sb.no hp
  have ha1 : upd H p (.lst [sV (m.l ++ numL m.n)]) a = some (.ins (He.ga K "Mark") dx (flds6 t m)) := by rw [upd_ne pa]; exact ha
  have hp1 : (V.str (S (m.l ++ numL m.n))) = sV (m.l ++ numL m.n) := rfl
  -- the points
  refine ⟨fun σ' H' => σ' = [some (.ref a), some (.ref p)] ∧ GR K S0 G H G H' ∧ H' p = some (.lst [sV (headW m)]), ?_, ?_⟩
  · refine ⟨_, rfl, a, _, _, _, _, rfl, ha1, T.cM, T.nM_points, rfl, rfl, _, rfl, ?_⟩
    by_cases pe : m.p = []
    · refine ifN (fun z => (z (by rw [pe, strE]; rfl)).elim) fun _ => ?_
      refine ⟨rfl, g1, ?_⟩
      rw [upd_same]
      simp [headW, pts, pe]
      rfl
    · refine ifN (fun _ => ?_) fun z => (ne_empty pe z).elim
      have pz := ok.pz
      have z3 : (S (m.l ++ numL m.n)).length + (("." : Str) ++ S m.p).length ≤ sizeLine ∧ S (m.l ++ numL m.n) ++ (("." : Str) ++ S m.p) = S (headW m) := by
        have e : S (m.l ++ numL m.n) ++ (("." : Str) ++ S m.p) = S (headW m) := by
          rw [show ("." : Str) = S [46] by decide +kernel, S_app, S_app]
          simp [headW, pts, pe]
        refine ⟨?_, e⟩
        rw [show ("." : Str) = S [46] by decide +kernel, S_app, S_len, S_len]
        have := ok.l3
        exact size_of (by simp; omega)
      refine ⟨_, rfl, p, _, 0, _, rfl, rfl, SqL.of upd_same, rfl, _, rfl, a, _, _, _, _, rfl, ha1, T.cM, T.nM_points, rfl, _, _, rfl, rfl, ?_, _, _, rfl, rfl, z3.1, p, _, 0, 0, rfl, rfl, upd_same, rfl, ?_⟩
      · rw [show ("." : Str) = S [46] by decide +kernel, S_len, S_len]
        exact size_of (by simp; omega)
      · refine ⟨rfl, g1.wr (.inr hp) gp upd_same trivial, ?_⟩
        rw [upd_same, z3.2]
        rfl
  rintro σ' H2 ⟨rfl, g2, h2⟩
  have ha2 := g2.keep ha trivial id
  have ht2 := (g2.sb _ _ (g2.gg _ _ ht)).1
  have mz : (msV m.ms).length = m.ms.length := by simp [msV]
  have m3 := ok.m3
  -- the makers
  refine ⟨_, rfl, .inl ⟨rfl, _, SqL.of h2⟩, _, rfl, a, _, _, _, _, rfl, ha2, T.cM, T.nM_makers, rfl, p, t, _, _, rfl, rfl, h2, SqT.of ht2, ?_, ?_⟩
  · rw [mz]
    exact size_of (by simp; omega)
  have g3 := g2.wr (.inr hp) gp h2 (o' := .lst ([sV (headW m)] ++ msV m.ms)) trivial
  have ha3 := g3.keep ha trivial id
  -- the year
  refine ⟨fun σ' H' => σ' = [some (.ref a), some (.ref p)] ∧ GR K S0 G H G H' ∧ H' p = some (.lst ((headW m :: (m.ms ++ wordsY m.y)).map sV)), ?_, ?_⟩
  · refine ⟨_, rfl, a, _, _, _, _, rfl, ha3, T.cM, T.nM_year, rfl, rfl, _, rfl, ?_⟩
    cases ey : m.y with
    | none =>
      refine ⟨rfl, g3, ?_⟩
      rw [upd_same]
      simp [msV, wordsY]
    | some y =>
      have yr := ok.yr y ey
      refine ifN (fun _ => ?_) fun z => nomatch z
      refine ⟨_, rfl, .inl ⟨rfl, _, SqL.of upd_same⟩, _, rfl, a, _, _, _, _, rfl, ha3, T.cM, T.nM_year, rfl, y, ?_, log_small (by omega), p, _, _, rfl, rfl, upd_same, ?_, ?_⟩
      · rw [ey]; rfl
      · simp only [List.length_append, List.length_cons, List.length_nil, mz]
        exact Nat.lt_of_lt_of_le (by omega : _ < 100) (size_of (by decide))
      · refine ⟨rfl, g3.wr (.inr hp) gp upd_same trivial, ?_⟩
        rw [upd_same, str_num]
        simp [msV, wordsY, sV]
  rintro σ' H4 ⟨rfl, g4, h4⟩
  have ha4 := g4.keep ha trivial id
  have yl : (wordsY m.y).length ≤ 1 := by cases m.y <;> simp [wordsY]
  -- the copy
  refine ⟨fun σ' H' => σ' = [some (.ref a), some (.ref p)] ∧ GR K S0 G H G H' ∧ H' p = some (.lst ((headW m :: wordsOf m).map sV)), ?_, ?_⟩
  · refine ⟨_, rfl, a, _, _, _, _, rfl, ha4, T.cM, T.nM_copy, rfl, rfl, _, rfl, ?_⟩
    cases ec : m.c with
    | none =>
      refine ⟨rfl, g4, ?_⟩
      rw [h4]
      simp [wordsOf, wordsC, ec]
    | some c =>
      have cp := ok.cp c ec
      refine ifN (fun _ => ?_) fun z => nomatch z
      refine ⟨_, rfl, .inl ⟨rfl, _, SqL.of h4⟩, _, rfl, a, _, _, _, _, rfl, ha4, T.cM, T.nM_copy, rfl, G, c, ?_, g4.sb, by omega, fun H5 g5 => ?_⟩
      · rw [ec]; rfl
      have h5 := g5.keep h4 trivial id
      refine ⟨_, _, rfl, rfl, ?_, p, _, _, rfl, rfl, h5, ?_, ?_⟩
      · have := numL_5 (n := c) (by omega)
        rw [show ("c." : Str) = S [99, 46] by decide +kernel, S_len]
        show _ + (S _).length ≤ _
        rw [S_len]
        exact size_of (by simp; omega)
      · simp only [List.length_map, List.length_cons, List.length_append]
        exact Nat.lt_of_lt_of_le (by omega : _ < 100) (size_of (by decide))
      · refine ⟨rfl, (g4.trans g5).wr (.inr hp) gp h5 trivial, ?_⟩
        rw [upd_same, show ("c." : Str) = S [99, 46] by decide +kernel, S_app]
        simp [wordsOf, wordsC, ec, sV]
  rintro σ' H6 ⟨rfl, g6, h6⟩
  refine ⟨rfl, _, rfl, _, p, (headW m :: wordsOf m).map S, rfl, rfl, .inl (SqL.of ?_), ?_, ?_⟩
  · rw [h6, List.map_map]
    rfl
  · have wl := words_few m ok
    have hw : ∀ x ∈ ((headW m :: wordsOf m).map S).map (·.length), x ≤ 2000 := by
      intro x hx
      simp only [List.map_map, List.mem_map, Function.comp] at hx
      obtain ⟨l, hl, rfl⟩ := hx
      rw [S_len]
      rcases List.mem_cons.mp hl with rfl | hl
      · have := head_short m ok; omega
      · have := word_short m ok l hl; omega
    have := sum_le hw
    have e1 : (" " : Str).length = 1 := by decide +kernel
    rw [e1]
    simp only [List.length_map, List.length_cons] at this ⊢
    have : ((wordsOf m).length + 1) * 2000 ≤ 12000 := by omega
    omega
  · exact qV (by rw [join_words, text_words]; rfl) (q _ g6)
end
end K42
set_option Elab.async false
set_option linter.all false
set_option maxRecDepth 100000
set_option maxHeartbeats 4000000
namespace K42
open PySem PySem.Spec PyProof.Rows L2
open TL (numL)
section
variable {P : Program} {w : World} {K : PySem.W.Frag} {mg : Str → Option Value} {base : Heap}
def spInit (K : PySem.W.Frag) : Sp := fun vs H Q _ => ∃ (G : Hp) (x dx a : Addr) (m : Mk), vs = [.ref x, sV m.l, .int m.n, sV m.p, .ref a, oV m.y, oV m.c] ∧ Sb G H ∧ Ok m ∧ H x = some (.ins (He.ga K "Mark") dx []) ∧ G x = none ∧
  (H a = some (.lst (msV m.ms)) ∨ G a = some (.tup (msV m.ms))) ∧ ∀ G' H' t, GR K (S1 x) G H G' H' → G' t = some (.tup (msV m.ms)) → H' x = some (.ins (He.ga K "Mark") dx (flds t m)) → Q .non H'
abbrev N_Mark_init : List Str := ["self", "letters", "number", "points", "makers", "year", "copy"]
theorem sc_Mark_init : FnScope N_Mark_init ["self", "letters", "number", "points", "makers", "year", "copy"] (defScope S_Mark_init) := ⟨rfl, rfl, rfl, by decide +kernel, rfl, by decide +kernel, by decide +kernel⟩
theorem kn_Mark_init (T : Tx K mg base) : ∃ fd, FunD K "__init__" "Mark.__init__" (defArgs S_Mark_init) (defBody S_Mark_init) (defScope S_Mark_init) (([.str "", .non, .non, .non] : List He.Dv).map (He.Dv.v K)) [] (He.ma K (He.ga K "Mark") "__init__") fd ∧ FnOk P w K mg base CX0 5 (He.ma K (He.ga K "Mark") "__init__") fd ["self", "letters", "number", "points", "makers", "year", "copy"] (spInit K) := by
  refine init_of "Mark" T 14 S_Mark_init [.str "", .non, .non, .non] rfl sc_Mark_init (fun vs H Q E h => by obtain ⟨_, _, _, _, _, rfl, _⟩ := h; rfl) (fun cdv A outer s H vs Q E hr h => ⟨_, PSs.nox (pss_cons (ps_if (pt_not (pt_val (pe_fn (kn_is_letters T) (hr.mono (by decide)) (pa_cons (pv 1) pa_nil)))) (pss_one ps_never) pss_nil)
    (pss_cons (ps_if (pt_not (pt_val (pe_fn (kn_is_whole T).kn (hr.mono (by decide)) (pa_cons (pv 2) (pa_cons pe_int (pa_cons (T.gi_GREATEST) pa_nil)))))) (pss_one ps_never) pss_nil)
    (pss_cons (ps_if (pt_not (pt_val (pe_fn (kn_is_points T) (hr.mono (by decide)) (pa_cons (pv 3) pa_nil)))) (pss_one ps_never) pss_nil)
    (pss_cons (ps_fld (pv 0) (pe_fn (kn_makers_in T) (hr.mono (by decide)) (pa_cons (pv 4) pa_nil)) rfl)
    (pss_cons (ps_expr (pe_fn (kn_need_year T) (hr.mono (by decide)) (pa_cons (pv 5) pa_nil)))
    (pss_cons (ps_expr (pe_fn (kn_need_copy T) (hr.mono (by decide)) (pa_cons (pv 6) pa_nil)))
    (pss_cons (ps_fld (pv 0) (pv 1) rfl)
    (pss_cons (ps_fld (pv 0) (pv 2) rfl)
    (pss_cons (ps_fld (pv 0) (pv 3) rfl)
    (pss_cons (ps_fld (pv 0) (pv 5) rfl)
    (pss_cons (ps_fld (pv 0) (pv 6) rfl)
    (pss_one (ps_fld (pv 0) (pe_km0 (kn_Mark_text_of T) (hr.mono (by decide)) (pv 0)) rfl))))))))))))), ?_⟩)
  obtain ⟨G, x, dx, a, m, rfl, sb, ok, hx, gx, ha, q⟩ := h
  have g0 := GR.refl (K := K) (S := S1 x) sb
  have n9 := ok.n9
  have n1 := ok.n1
  refine ⟨_, rfl, G, m.l, rfl, sb, ok.l1, ok.l3, ok.la, fun H1 g1 => ⟨_, rfl, iteF ?_⟩⟩
  refine ⟨_, rfl, _, _, _, rfl, by omega, .inr ⟨_, rfl, by omega⟩, _, rfl, iteF ?_⟩
  refine ⟨_, rfl, G, m.p, rfl, g1.sb, ok.pz, ok.pt, fun H2 g2 => ⟨_, rfl, iteF ?_⟩⟩
  have g12 := g1.trans g2
  refine ⟨_, rfl, G, a, m.ms, rfl, g2.sb, ha.imp (fun z => g12.keep z trivial id) id, ok.m3, fun k hk => ⟨ok.mo k hk, ok.mz k hk⟩, fun G3 H3 t g3 ht => ?_⟩
  have g13 := g12.trans g3
  have h3 := g13.keep hx trivial id
  have gx3 := g13.nofrz hx gx
  have gg := g0.call0 g13
  have z10 : ∀ {n : Nat}, n ≤ 10 → n < 1000 := fun h => by omega
  have p2 : putF "kept_letters" (sV m.l) [("kept_makers", .ref t)] = ([("kept_makers", .ref t), ("kept_letters", sV m.l)] : List (Str × V)) := rfl
  have p3 : putF "kept_number" (.int m.n) [("kept_makers", .ref t), ("kept_letters", sV m.l)] = ([("kept_makers", .ref t), ("kept_letters", sV m.l), ("kept_number", .int m.n)] : List (Str × V)) := rfl
  have p4 : putF "kept_points" (sV m.p) [("kept_makers", .ref t), ("kept_letters", sV m.l), ("kept_number", .int m.n)] = ([("kept_makers", .ref t), ("kept_letters", sV m.l), ("kept_number", .int m.n), ("kept_points", sV m.p)] : List (Str × V)) := rfl
  have p5 : putF "kept_year" (oV m.y) [("kept_makers", .ref t), ("kept_letters", sV m.l), ("kept_number", .int m.n), ("kept_points", sV m.p)] = ([("kept_makers", .ref t), ("kept_letters", sV m.l), ("kept_number", .int m.n), ("kept_points", sV m.p), ("kept_year", oV m.y)] : List (Str × V)) := rfl
  have p6 : putF "kept_copy" (oV m.c) [("kept_makers", .ref t), ("kept_letters", sV m.l), ("kept_number", .int m.n), ("kept_points", sV m.p), ("kept_year", oV m.y)] = flds6 t m := rfl
  have p7 : putF "kept_text" (sV (text m)) (flds6 t m) = flds t m := rfl
  refine ⟨_, rfl, x, _, dx, _, rfl, h3, T.cM, T.nM_makers, z10 (Nat.zero_le _), ?_⟩
  have w1 := gg.wr (.inl rfl) gx3 h3 (o' := .ins (He.ga K "Mark") dx [("kept_makers", .ref t)]) trivial
  refine ⟨_, rfl, _, rfl, ok.yr, ?_⟩
  refine ⟨_, rfl, _, rfl, fun n e => (ok.cp n e).1, ?_⟩
  refine ⟨_, rfl, _, rfl, x, _, dx, [("kept_makers", .ref t)], rfl, upd_same, T.cM, T.nM_letters, z10 (Nat.le_of_ble_eq_true rfl), ?_⟩
  rw [p2, upd_upd]
  refine ⟨_, rfl, _, rfl, x, _, dx, _, rfl, upd_same, T.cM, T.nM_number, z10 (Nat.le_of_ble_eq_true rfl), ?_⟩
  rw [p3, upd_upd]
  refine ⟨_, rfl, _, rfl, x, _, dx, _, rfl, upd_same, T.cM, T.nM_points, z10 (Nat.le_of_ble_eq_true rfl), ?_⟩
  rw [p4, upd_upd]
  refine ⟨_, rfl, _, rfl, x, _, dx, _, rfl, upd_same, T.cM, T.nM_year, z10 (Nat.le_of_ble_eq_true rfl), ?_⟩
  rw [p5, upd_upd]
  refine ⟨_, rfl, _, rfl, x, _, dx, _, rfl, upd_same, T.cM, T.nM_copy, z10 (Nat.le_of_ble_eq_true rfl), ?_⟩
  rw [p6, upd_upd]
  have w6 := gg.wr (.inl rfl) gx3 h3 (o' := .ins (He.ga K "Mark") dx (flds6 t m)) trivial
  refine ⟨_, rfl, x, dx, flds6 t m, rfl, ?_, rfl, G3, x, dx, t, m, rfl, ?_, ok, ?_, ht, fun H7 g7 => ?_⟩
  · exact upd_same
  · exact w6.sb
  · exact upd_same
  have h7 := g7.keep (p := x) upd_same trivial id
  refine ⟨_, rfl, x, _, dx, _, rfl, h7, T.cM, T.nM_text, z10 (Nat.le_of_ble_eq_true rfl), ?_⟩
  rw [p7]
  have w7 := w6.call0 g7
  have gx7 := g7.nofrz (p := x) upd_same gx3
  exact q _ _ t (w7.wr (.inl rfl) gx7 h7 trivial) ht upd_same
end
end K42
set_option Elab.async false
set_option linter.all false
set_option maxRecDepth 100000
set_option maxHeartbeats 4000000
namespace K42
open PySem PySem.Spec PyProof.Rows L2
open TL (numL)
section
variable {P : Program} {w : World} {K : PySem.W.Frag} {mg : Str → Option Value} {base : Heap}
/-! ### what a mark tells -/
def spGet (K : PySem.W.Frag) (f : Addr → Mk → V) : Sp := fun vs H Q _ => ∃ (a dx t : Addr) (m : Mk), vs = [.ref a] ∧ H a = some (.ins (He.ga K "Mark") dx (flds t m)) ∧ Q (f t m) H
abbrev N_Mark_letters : List Str := ["self"]
theorem sc_Mark_letters : FnScope N_Mark_letters ["self"] (defScope S_Mark_letters) := ⟨rfl, rfl, rfl, by decide +kernel, rfl, by decide +kernel, by decide +kernel⟩
theorem kn_Mark_letters (T : Tx K mg base) : Km P w K mg base CX0 2 "Mark" "letters" ["self"] (spGet K fun _ m=>sV m.l) := by
  refine km_of "Mark" "letters" T 19 116 97 S_Mark_letters rfl rfl rfl sc_Mark_letters (fun vs H Q E h => by obtain ⟨_, _, _, _, rfl, _⟩ := h; rfl) (fun _ _ _ _ _ _ us hl => match us, hl with | [_], _ => rfl) (fun cdv A outer s H vs Q E hr h => ⟨_, PSs.nox (pss_one (ps_ret (pe_fld (pv 0) rfl))), ?_⟩)
  obtain ⟨a, dx, t, m, rfl, h, q⟩ := h
  exact ⟨_, rfl, a, _, _, _, _, rfl, h, T.cM, T.nM_letters, rfl, q⟩
abbrev N_Mark_number : List Str := ["self"]
theorem sc_Mark_number : FnScope N_Mark_number ["self"] (defScope S_Mark_number) := ⟨rfl, rfl, rfl, by decide +kernel, rfl, by decide +kernel, by decide +kernel⟩
theorem kn_Mark_number (T : Tx K mg base) : Km P w K mg base CX0 2 "Mark" "number" ["self"] (spGet K fun _ m=>.int m.n) := by
  refine km_of "Mark" "number" T 20 117 97 S_Mark_number rfl rfl rfl sc_Mark_number (fun vs H Q E h => by obtain ⟨_, _, _, _, rfl, _⟩ := h; rfl) (fun _ _ _ _ _ _ us hl => match us, hl with | [_], _ => rfl) (fun cdv A outer s H vs Q E hr h => ⟨_, PSs.nox (pss_one (ps_ret (pe_fld (pv 0) rfl))), ?_⟩)
  obtain ⟨a, dx, t, m, rfl, h, q⟩ := h
  exact ⟨_, rfl, a, _, _, _, _, rfl, h, T.cM, T.nM_number, rfl, q⟩
abbrev N_Mark_points : List Str := ["self"]
theorem sc_Mark_points : FnScope N_Mark_points ["self"] (defScope S_Mark_points) := ⟨rfl, rfl, rfl, by decide +kernel, rfl, by decide +kernel, by decide +kernel⟩
theorem kn_Mark_points (T : Tx K mg base) : Km P w K mg base CX0 2 "Mark" "points" ["self"] (spGet K fun _ m=>sV m.p) := by
  refine km_of "Mark" "points" T 21 118 97 S_Mark_points rfl rfl rfl sc_Mark_points (fun vs H Q E h => by obtain ⟨_, _, _, _, rfl, _⟩ := h; rfl) (fun _ _ _ _ _ _ us hl => match us, hl with | [_], _ => rfl) (fun cdv A outer s H vs Q E hr h => ⟨_, PSs.nox (pss_one (ps_ret (pe_fld (pv 0) rfl))), ?_⟩)
  obtain ⟨a, dx, t, m, rfl, h, q⟩ := h
  exact ⟨_, rfl, a, _, _, _, _, rfl, h, T.cM, T.nM_points, rfl, q⟩
abbrev N_Mark_makers : List Str := ["self"]
theorem sc_Mark_makers : FnScope N_Mark_makers ["self"] (defScope S_Mark_makers) := ⟨rfl, rfl, rfl, by decide +kernel, rfl, by decide +kernel, by decide +kernel⟩
theorem kn_Mark_makers (T : Tx K mg base) : Km P w K mg base CX0 2 "Mark" "makers" ["self"] (spGet K fun t _=>.ref t) := by
  refine km_of "Mark" "makers" T 22 119 97 S_Mark_makers rfl rfl rfl sc_Mark_makers (fun vs H Q E h => by obtain ⟨_, _, _, _, rfl, _⟩ := h; rfl) (fun _ _ _ _ _ _ us hl => match us, hl with | [_], _ => rfl) (fun cdv A outer s H vs Q E hr h => ⟨_, PSs.nox (pss_one (ps_ret (pe_fld (pv 0) rfl))), ?_⟩)
  obtain ⟨a, dx, t, m, rfl, h, q⟩ := h
  exact ⟨_, rfl, a, _, _, _, _, rfl, h, T.cM, T.nM_makers, rfl, q⟩
abbrev N_Mark_year : List Str := ["self"]
theorem sc_Mark_year : FnScope N_Mark_year ["self"] (defScope S_Mark_year) := ⟨rfl, rfl, rfl, by decide +kernel, rfl, by decide +kernel, by decide +kernel⟩
theorem kn_Mark_year (T : Tx K mg base) : Km P w K mg base CX0 2 "Mark" "year" ["self"] (spGet K fun _ m=>oV m.y) := by
  refine km_of "Mark" "year" T 23 120 97 S_Mark_year rfl rfl rfl sc_Mark_year (fun vs H Q E h => by obtain ⟨_, _, _, _, rfl, _⟩ := h; rfl) (fun _ _ _ _ _ _ us hl => match us, hl with | [_], _ => rfl) (fun cdv A outer s H vs Q E hr h => ⟨_, PSs.nox (pss_one (ps_ret (pe_fld (pv 0) rfl))), ?_⟩)
  obtain ⟨a, dx, t, m, rfl, h, q⟩ := h
  exact ⟨_, rfl, a, _, _, _, _, rfl, h, T.cM, T.nM_year, rfl, q⟩
abbrev N_Mark_copy_number : List Str := ["self"]
theorem sc_Mark_copy_number : FnScope N_Mark_copy_number ["self"] (defScope S_Mark_copy_number) := ⟨rfl, rfl, rfl, by decide +kernel, rfl, by decide +kernel, by decide +kernel⟩
theorem kn_Mark_copy_number (T : Tx K mg base) : Km P w K mg base CX0 2 "Mark" "copy_number" ["self"] (spGet K fun _ m=>oV m.c) := by
  refine km_of "Mark" "copy_number" T 24 121 97 S_Mark_copy_number rfl rfl rfl sc_Mark_copy_number (fun vs H Q E h => by obtain ⟨_, _, _, _, rfl, _⟩ := h; rfl) (fun _ _ _ _ _ _ us hl => match us, hl with | [_], _ => rfl) (fun cdv A outer s H vs Q E hr h => ⟨_, PSs.nox (pss_one (ps_ret (pe_fld (pv 0) rfl))), ?_⟩)
  obtain ⟨a, dx, t, m, rfl, h, q⟩ := h
  exact ⟨_, rfl, a, _, _, _, _, rfl, h, T.cM, T.nM_copy, rfl, q⟩
def spTxt (K : PySem.W.Frag) (f : Mk → V) : Sp := fun vs H Q _ => ∃ (a dx t : Addr) (m : Mk), vs = [.ref a] ∧ H a = some (.ins (He.ga K "Mark") dx (flds t m)) ∧ Ok m ∧ Q (f m) H
abbrev N_Mark_str : List Str := ["self"]
theorem sc_Mark_str : FnScope N_Mark_str ["self"] (defScope S_Mark_str) := ⟨rfl, rfl, rfl, by decide +kernel, rfl, by decide +kernel, by decide +kernel⟩
theorem kn_Mark_str (T : Tx K mg base) : Km P w K mg base CX0 2 "Mark" "__str__" ["self"] (spTxt K fun m=>sV (text m)) := by
  refine km_of "Mark" "__str__" T 17 114 97 S_Mark_str rfl rfl rfl sc_Mark_str (fun vs H Q E h => by obtain ⟨_, _, _, _, rfl, _⟩ := h; rfl) (fun _ _ _ _ _ _ us hl => match us, hl with | [_], _ => rfl) (fun cdv A outer s H vs Q E hr h => ⟨_, PSs.nox (pss_one (ps_ret (pe_joined1 (pe_fmt (pe_fld (pv 0) rfl))))), ?_⟩)
  obtain ⟨a, dx, t, m, rfl, h, ok, q⟩ := h
  exact ⟨_, rfl, a, _, _, _, _, rfl, h, T.cM, T.nM_text, rfl, .inl ⟨_, rfl, text_fits m ok, q⟩⟩
abbrev N_Mark_len : List Str := ["self"]
theorem sc_Mark_len : FnScope N_Mark_len ["self"] (defScope S_Mark_len) := ⟨rfl, rfl, rfl, by decide +kernel, rfl, by decide +kernel, by decide +kernel⟩
theorem kn_Mark_len (T : Tx K mg base) : Km P w K mg base CX0 2 "Mark" "__len__" ["self"] (spTxt K fun m=>.int ((text m).length)) := by
  refine km_of "Mark" "__len__" T 18 115 97 S_Mark_len rfl rfl rfl sc_Mark_len (fun vs H Q E h => by obtain ⟨_, _, _, _, rfl, _⟩ := h; rfl) (fun _ _ _ _ _ _ us hl => match us, hl with | [_], _ => rfl) (fun cdv A outer s H vs Q E hr h => ⟨_, PSs.nox (pss_one (ps_ret (pe_callB call_len_str (by rfl) T.f_len (by decide +kernel) (pa_cons (pe_fld (pv 0) rfl) pa_nil)))), ?_⟩)
  obtain ⟨a, dx, t, m, rfl, h, ok, q⟩ := h
  refine ⟨_, rfl, a, _, _, _, _, rfl, h, T.cM, T.nM_text, rfl, _, rfl, text_fits m ok, ?_⟩
  exact qV (by rw [S_len]) q
def spParts (K : PySem.W.Frag) : Sp := fun vs H Q _ => ∃ (a dx t : Addr) (m : Mk), vs = [.ref a] ∧ H a = some (.ins (He.ga K "Mark") dx (flds t m)) ∧ ∀ p, H p = none → Q (.ref p) (upd H p (.tup [sV m.l, .int m.n, sV m.p, .ref t, oV m.y, oV m.c]))
abbrev N_Mark_parts : List Str := ["self"]
theorem sc_Mark_parts : FnScope N_Mark_parts ["self"] (defScope S_Mark_parts) := ⟨rfl, rfl, rfl, by decide +kernel, rfl, by decide +kernel, by decide +kernel⟩
theorem kn_Mark_parts (T : Tx K mg base) : Km P w K mg base CX0 2 "Mark" "parts" ["self"] (spParts K) := by
  refine km_of "Mark" "parts" T 25 122 97 S_Mark_parts rfl rfl rfl sc_Mark_parts (fun vs H Q E h => by obtain ⟨_, _, _, _, rfl, _⟩ := h; rfl) (fun _ _ _ _ _ _ us hl => match us, hl with | [_], _ => rfl) (fun cdv A outer s H vs Q E hr h => ⟨_, PSs.nox (pss_one (ps_ret (pe_tup (pa_cons (pe_fld (pv 0) rfl) (pa_cons (pe_fld (pv 0) rfl) (pa_cons (pe_fld (pv 0) rfl) (pa_cons (pe_fld (pv 0) rfl) (pa_cons (pe_fld (pv 0) rfl) (pa_cons (pe_fld (pv 0) rfl) pa_nil))))))))), ?_⟩)
  obtain ⟨a, dx, t, m, rfl, h, q⟩ := h
  refine ⟨_, rfl, a, _, _, _, _, rfl, h, T.cM, T.nM_letters, rfl, _, rfl, a, _, _, _, _, rfl, h, T.cM, T.nM_number, rfl, _, rfl, a, _, _, _, _, rfl, h, T.cM, T.nM_points, rfl, ?_⟩
  exact ⟨_, rfl, a, _, _, _, _, rfl, h, T.cM, T.nM_makers, rfl, _, rfl, a, _, _, _, _, rfl, h, T.cM, T.nM_year, rfl, _, rfl, a, _, _, _, _, rfl, h, T.cM, T.nM_copy, rfl, size_of (n := 6) (by decide), fun p hp => q p hp⟩
def spKey (K : PySem.W.Frag) : Sp := fun vs H Q _ => ∃ (a dx t : Addr) (m : Mk), vs = [.ref a] ∧ H a = some (.ins (He.ga K "Mark") dx (flds t m)) ∧ ∀ p, H p = none → Q (.ref p) (upd H p (.tup [sV m.l, .int m.n, sV m.p, .ref t, .int (oi m.y), .int (oi m.c)]))
abbrev N_Mark_key : List Str := ["self", "year", "copy"]
theorem sc_Mark_key : FnScope N_Mark_key ["self"] (defScope S_Mark_key) := ⟨rfl, rfl, rfl, by decide +kernel, rfl, by decide +kernel, by decide +kernel⟩
theorem kn_Mark_key (T : Tx K mg base) : Km P w K mg base CX0 2 "Mark" "key" ["self"] (spKey K) := by
  refine km_of "Mark" "key" T 26 123 97 S_Mark_key rfl rfl rfl sc_Mark_key (fun vs H Q E h => by obtain ⟨_, _, _, _, rfl, _⟩ := h; rfl) (fun _ _ _ _ _ _ us hl => match us, hl with | [_], _ => rfl) (fun cdv A outer s H vs Q E hr h => ⟨_, PSs.nox (pss_cons (ps_set (i := 1) sc_Mark_key.nd rfl (Or.inl rfl) (pe_ifExp (pt_cmpR op_isN (pe_fld (pv 0) rfl) pe_non (nomark _)) pe_int (pe_fld (pv 0) rfl)))
    (pss_cons (ps_set (i := 2) sc_Mark_key.nd rfl (Or.inl rfl) (pe_ifExp (pt_cmpR op_isN (pe_fld (pv 0) rfl) pe_non (nomark _)) pe_int (pe_fld (pv 0) rfl)))
    (pss_one (ps_ret (pe_tup (pa_cons (pe_fld (pv 0) rfl) (pa_cons (pe_fld (pv 0) rfl) (pa_cons (pe_fld (pv 0) rfl) (pa_cons (pe_fld (pv 0) rfl) (pa_cons (pv 1) (pa_cons (pv 2) pa_nil))))))))))), ?_⟩)
  obtain ⟨a, dx, t, m, rfl, h, q⟩ := h
  have fin : ∀ D : Ends, (∀ σ', σ' = [some (.ref a), some (.int (oi m.y)), some (.int (oi m.c))] → D.nx σ' H) → True := fun _ _ => trivial
  refine ⟨_, rfl, a, _, _, _, _, rfl, h, T.cM, T.nM_year, rfl, rfl, _, rfl, ?_⟩
  have body : ∀ (y c : Int), y = oi m.y → c = oi m.c → tRet (tTup (tCons (tFld K (tVar 0) "kept_letters") (tCons (tFld K (tVar 0) "kept_number") (tCons (tFld K (tVar 0) "kept_points") (tCons (tFld K (tVar 0) "kept_makers") (tCons (tVar 1) (tCons (tVar 2) tNil)))))))
      { nx := fun _ H' => Q .non H', rt := Q } [some (.ref a), some (.int y), some (.int c)] H := by
    rintro y c rfl rfl
    refine ⟨_, rfl, a, _, _, _, _, rfl, h, T.cM, T.nM_letters, rfl, _, rfl, a, _, _, _, _, rfl, h, T.cM, T.nM_number, rfl, _, rfl, a, _, _, _, _, rfl, h, T.cM, T.nM_points, rfl, ?_⟩
    exact ⟨_, rfl, a, _, _, _, _, rfl, h, T.cM, T.nM_makers, rfl, _, rfl, _, rfl, size_of (n := 6) (by decide), fun p hp => q p hp⟩
  have copy : ∀ (y : Int), y = oi m.y → tSeq (tAsg (tIf (tTest (tOp (fun x y H Q => y = .non ∧ Q (.bl (decide (x = .non))) H) (tFld K (tVar 0) "kept_copy") (tC .non))) (tC (.int 0)) (tFld K (tVar 0) "kept_copy")) (gName 2))
      (tRet (tTup (tCons (tFld K (tVar 0) "kept_letters") (tCons (tFld K (tVar 0) "kept_number") (tCons (tFld K (tVar 0) "kept_points") (tCons (tFld K (tVar 0) "kept_makers") (tCons (tVar 1) (tCons (tVar 2) tNil))))))))
      { nx := fun _ H' => Q .non H', rt := Q } [some (.ref a), some (.int y), none] H := by
    intro y ey
    refine ⟨_, rfl, a, _, _, _, _, rfl, h, T.cM, T.nM_copy, rfl, rfl, _, rfl, ?_⟩
    cases ec : m.c with
    | none => exact body y 0 ey (by rw [ec]; rfl)
    | some c => exact ⟨_, rfl, a, _, _, _, _, rfl, h, T.cM, T.nM_copy, rfl, by rw [ec]; exact body y c ey (by rw [ec]; rfl)⟩
  cases ey : m.y with
  | none => exact copy 0 (by rw [ey]; rfl)
  | some y => exact ⟨_, rfl, a, _, _, _, _, rfl, h, T.cM, T.nM_year, rfl, by rw [ey]; exact copy y (by rw [ey]; rfl)⟩
end
end K42
set_option Elab.async false
set_option linter.all false
set_option maxRecDepth 100000
set_option maxHeartbeats 4000000
namespace K42
open PySem PySem.Spec PyProof.Rows L2
open TL (numL)
section
variable {P : Program} {w : World} {K : PySem.W.Frag} {mg : Str → Option Value} {base : Heap}
/-! ### keys as data -/
theorem msD_dp {H : Hp} : ∀ ms : List (List Nat), DpAll K H (msV ms) (msD ms)
  | [] => .nil
  | k :: ms => .cons (.str _) (msD_dp ms)
theorem key_dp {H : Hp} {p t : Addr} {m : Mk} (hp : H p = some (.tup [sV m.l, .int m.n, sV m.p, .ref t, .int (oi m.y), .int (oi m.c)])) (ht : H t = some (.tup (msV m.ms))) : Dp K H (.ref p) (keyD m) :=
  .tup (SqT.of hp) (.cons (.str _) (.cons (.int _) (.cons (.str _) (.cons (.tup (SqT.of ht) (msD_dp m.ms)) (.cons (.int _) (.cons (.int _) .nil))))))
theorem msD_depth (ms : List (List Nat)) : PyData.depthAll (msD ms) = 0 := by
  induction ms with
  | nil => simp [msD, PyData.depthAll]
  | cons k ms ih =>
    have e : msD (k :: ms) = .str (S k) :: msD ms := rfl
    rw [e]
    simp [PyData.depthAll, PyData.depth, ih]
theorem key_depth (m : Mk) : (keyD m).depth ≤ 60 := by
  simp [keyD, PyData.depth, PyData.depthAll, msD_depth]
/-- a mark that stands in H -/
def MarkIn (K : PySem.W.Frag) (H : Hp) (a : Addr) (m : Mk) : Prop := ∃ dx t, H a = some (.ins (He.ga K "Mark") dx (flds t m)) ∧ H t = some (.tup (msV m.ms))
theorem MarkAt.in {G H : Hp} {a : Addr} {m : Mk} (h : MarkAt K G (.ref a) m) (sb : Sb G H) : MarkIn K H a m := by
  obtain ⟨b, dx, t, e, h1, h2⟩ := h
  cases e
  exact ⟨dx, t, (sb _ _ h1).1, (sb _ _ h2).1⟩
theorem MarkIn.keep {S : Addr → Prop} {G H G' H' : Hp} {a : Addr} {m : Mk} (h : MarkIn K H a m) (g : GR K S G H G' H') (n : ∀ b, ¬ S b) : MarkIn K H' a m := by
  obtain ⟨dx, t, h1, h2⟩ := h
  exact ⟨dx, t, g.keep h1 trivial (n _), g.keep h2 trivial (n _)⟩
def spAhead (K : PySem.W.Frag) : Sp := fun vs H Q _ => ∃ (G : Hp) (a b : Addr) (m n : Mk), vs = [.ref a, .ref b] ∧ Sb G H ∧ MarkIn K H a m ∧ MarkIn K H b n ∧ ∀ H', GR K S0 G H G H' → Q (.bl (kLt m n)) H'
abbrev N_Mark_ahead : List Str := ["self", "other"]
theorem sc_Mark_ahead : FnScope N_Mark_ahead ["self", "other"] (defScope S_Mark_ahead) := ⟨rfl, rfl, rfl, by decide +kernel, rfl, by decide +kernel, by decide +kernel⟩
theorem kn_Mark_ahead (T : Tx K mg base) : Km P w K mg base CX0 3 "Mark" "ahead" ["self", "other"] (spAhead K) := by
  refine km_of "Mark" "ahead" T 27 124 97 S_Mark_ahead rfl rfl rfl sc_Mark_ahead (fun vs H Q E h => by obtain ⟨_, _, _, _, _, rfl, _⟩ := h; rfl) (fun _ _ _ _ _ _ us hl => match us, hl with | [_, _], _ => rfl) (fun cdv A outer s H vs Q E hr h => ⟨_, PSs.nox (pss_one (ps_ret (pe_cmpR (op_ltK hr) (pe_km0 (kn_Mark_key T) (hr.mono (by decide)) (pv 0)) (pe_km0 (kn_Mark_key T) (hr.mono (by decide)) (pv 1)) (nomark _)))), ?_⟩)
  obtain ⟨G, a, b, m, n, rfl, sb, ha, hb, q⟩ := h
  obtain ⟨dx, t, h1, h2⟩ := ha
  have g0 := GR.refl (K := K) (S := S0) sb
  refine ⟨_, rfl, a, dx, _, rfl, h1, rfl, a, dx, t, m, rfl, h1, fun p hp => ?_⟩
  have g1 := g0.newM hp (o := .tup [sV m.l, .int m.n, sV m.p, .ref t, .int (oi m.y), .int (oi m.c)])
  obtain ⟨dy, u, k1, k2⟩ := hb.keep g1 (fun _ => id)
  refine ⟨_, rfl, b, dy, _, rfl, k1, rfl, b, dy, u, n, rfl, k1, fun r hr' => ?_⟩
  have g2 := g1.newM hr' (o := .tup [sV n.l, .int n.n, sV n.p, .ref u, .int (oi n.y), .int (oi n.c)])
  have e1 : upd (upd H p (.tup [sV m.l, .int m.n, sV m.p, .ref t, .int (oi m.y), .int (oi m.c)])) r (.tup [sV n.l, .int n.n, sV n.p, .ref u, .int (oi n.y), .int (oi n.c)]) p = some (.tup [sV m.l, .int m.n, sV m.p, .ref t, .int (oi m.y), .int (oi m.c)]) := by
    rw [upd_ne (ne_of_none upd_same hr')]; exact upd_same
  have k3 : upd (upd H p (.tup [sV m.l, .int m.n, sV m.p, .ref t, .int (oi m.y), .int (oi m.c)])) r (.tup [sV n.l, .int n.n, sV n.p, .ref u, .int (oi n.y), .int (oi n.c)]) u = some (.tup (msV n.ms)) := by
    rw [upd_ne (ne_of_none k2 hr')]; exact k2
  exact ⟨keyD m, keyD n, key_dp e1 (g2.keep h2 trivial id), key_dp upd_same k3, alike_key m n, by simp [keyD], key_depth m, q _ g2⟩
/-! ### == -/
theorem is_mark (T : Tx K mg base) {H : Hp} {a dx t : Addr} {m : Mk} (h : H a = some (.ins (He.ga K "Mark") dx (flds t m))) : TyX K H (.ref a) (.ref (He.ga K "Mark")) :=
  .base (.ins h T.cM (He.eqO_ok (T.ex 0 rfl)) (He.eqO_ok (T.ex 1 rfl)) (of_decide_eq_true (T.ex 2 rfl)) (of_decide_eq_true (T.ex 3 rfl)))
def spMEq (K : PySem.W.Frag) : Sp := fun vs H Q _ => ∃ (a b : Addr) (m n : Mk), vs = [.ref a, .ref b] ∧ MarkIn K H a m ∧ MarkIn K H b n ∧ Q (.bl (decide (text m = text n))) H
abbrev N_Mark_eq : List Str := ["self", "other"]
theorem sc_Mark_eq : FnScope N_Mark_eq ["self", "other"] (defScope S_Mark_eq) := ⟨rfl, rfl, rfl, by decide +kernel, rfl, by decide +kernel, by decide +kernel⟩
theorem kn_Mark_eq (T : Tx K mg base) : Km P w K mg base CX0 2 "Mark" "__eq__" ["self", "other"] (spMEq K) := by
  refine km_of "Mark" "__eq__" T 16 113 97 S_Mark_eq rfl rfl rfl sc_Mark_eq (fun vs H Q E h => by obtain ⟨_, _, _, _, rfl, _⟩ := h; rfl) (fun _ _ _ _ _ _ us hl => match us, hl with | [_, _], _ => rfl) (fun cdv A outer s H vs Q E hr h => ⟨_, PSs.nox (pss_one (ps_ret (pe_and (pe_callB call_isi (by rfl) T.f_isinstance (by decide +kernel) (pa_cons (pv 1) (pa_cons (T.cl_Mark) pa_nil))) (pe_one (pe_cmpR op_eq (pe_fld (pv 0) rfl) (pe_fld (pv 1) rfl) (nomark _)))))), ?_⟩)
  obtain ⟨a, b, m, n, rfl, ⟨dx, t, h1, _⟩, ⟨dy, u, k1, _⟩, q⟩ := h
  have ko : PySem.W.kitOne K (.ref (He.ga K "Mark")) (.ref (He.ga K "Mark")) = some true := by simp [PySem.W.kitOne]
  refine ⟨_, rfl, _, _, _, _, _, rfl, .own _, is_mark T k1, ko, _, rfl, iteT ?_⟩
  refine ⟨_, rfl, a, _, _, _, _, rfl, h1, T.cM, T.nM_text, rfl, _, rfl, b, _, _, _, _, rfl, k1, T.cM, T.nM_text, rfl, rfl, ?_⟩
  refine qV ?_ q
  congr 1
  refine decide_eq_decide.mpr ⟨fun e => ?_, fun e => by rw [e]⟩
  injection e with e
  exact S_inj e
end
end K42
set_option Elab.async false
set_option linter.all false
set_option maxRecDepth 100000
set_option maxHeartbeats 4000000
namespace K42
open PySem PySem.Spec PyProof.Rows L2
section
open PySem.W
variable {prog : Program} {w : World} {A : Around} {E : Value → Shared → Prop} {s : Shared} {K : Frag} {x y C f : Addr} {ox oy : Obj} {od oe : Option Obj}
/-- a special method of a built-in class, found on an instance of the text's class -/
theorem ifBound_B {M : Model} {name : Str} {id : String} {args : List Value} {Q : Option Value → Shared → Prop} (X : K.In s.heap) (I : InstAt s.heap x ox C od) (hs : findIn K (.ref C) name = some (some (.builtin id)))
    (hb : bindSpecial (.builtin id) (.ref x) = pure (.builtin id, [.ref x])) (h : wpAny M A (call (.builtin id) (.ref x :: args)) (fun v => Q (some v)) E s) : wpAny M A (callSpecialIfBound? (.ref x) name args) Q E s := by
  have go : wpAny M A (call (.builtin id) ([.ref x] ++ args) >>= fun v => pure (some v)) Q E s := wpAny_bind (wpAny_mono h (fun v s' z => wpAny_pure z) fun _ _ z => z)
  simp only [callSpecialIfBound?, bindSpecialIfBound?]
  refine wpAny_holding (wpAny_bind (wpAny_bind (wpAny_bind (I.type.here ((looks_findIn X hs).here ?_)))))
  refine wpAny_bind (wpAny_askSetting (wpAny_ite ?_))
  rw [hb]
  split
  · exact wpAny_bind (wpAny_pure (wpAny_pure (by exact go)))
  · exact wpAny_tryCatch (wpAny_bind (wpAny_pure (wpAny_pure (by exact go))))
/-- x != y by x's own == -/
theorem ne_own {Q : Value → Shared → Prop} (X : K.In s.heap) (I : InstAt s.heap x ox C od) (J : InstAt s.heap y oy C oe) (hne : findIn K (.ref C) "__ne__" = some (some (.builtin "object.__ne__"))) (hs : findIn K (.ref C) "__eq__" = some (some (.ref f)))
    (hf : isFn K (.ref f) = true) (hm : subIn K (.ref C) (.type "object") = some true) (hu : A.units + 1 < cLine)
    (go : wpAny (model prog w) A.in1 (call (.ref f) [.ref x, .ref y]) (fun v s' => ∃ b, v = .bool b ∧ Q (.bool (!b)) s') E s) : wpAny (model prog w) A (richCompare .NotEq (.ref x) (.ref y)) Q E s := by
  have typ : Looks (model prog w) s.heap (isInstance (.ref x) (.type "object")) true := I.type.andThen (looks_subIn X hm)
  have one : wpAny (model prog w) A (tryCompare (.ref x) "__ne__" (.ref y)) (fun r s' => ∃ v, r = some v ∧ Q v s') E s := by
    unfold tryCompare
    refine wpAny_bind (ifBound_B X I hne (F.cmp_object.ne.bind _) (wpAny_call (codeAny_call_builtin F.cmp_object.ne.plain F.cmpEntry_ne (check_slot F.cmpKind_ne F.cmpSplit_ne typ (F.cmpArgs_ne _ _) ?_))))
    have hu' : A.in1.units < cLine := by show A.units + 1 < cLine; exact hu
    unfold Builtin.«object.__ne__»
    repeat (first
      | with_reducible refine wpAny_cRoomFor hu' ?_
      | (refine wpAny_bind (m := callSpecialIfBound? (.ref x) (Str.ofString "__eq__") [.ref y]) (ifBound_K X I hs hf (wpAny_mono go (fun v s' z => by
          obtain ⟨b, rfl, q⟩ := z
          repeat (first | exact wpAny_pure ⟨_, rfl, q⟩ | (refine wpAny_bind (m := truthy (.bool _)) (wpAny_truthy_bool ?_)) | wp_step)) fun _ _ z => z)))
      | wp_step)
  unfold richCompare
  simp only [oneThing_ref]
  have same : (Value.ref C != Value.ref C) = false := by simp
  refine wpAny_holding (wpAny_bind (wpAny_cRoomFor (by omega) ?_))
  rw [cmpInfo_NotEq]
  refine wpAny_bind (I.type.here (wpAny_bind (J.type.here ?_)))
  rw [same]
  refine wpAny_bind (wpAny_pure ?_)
  simp only [Bool.false_eq_true, if_false]
  refine wpAny_bind (wpAny_mono one (fun r s' z => ?_) fun _ _ z => z)
  obtain ⟨v, rfl, q⟩ := z
  exact wpAny_pure q
end
section
variable {X : Cx} {n : Nat}
/-- a mark's own ==, called -/
theorem call_eqM (T : Tx X.K X.mg X.base) {A : Around} (sb : Sub X (n + 2) A) {pins : List (Addr × Obj)} {s : Shared} {σ : L2.St} {H : Hp} {a b : Addr} {l m : Mk} (I : Inv X pins σ H s) (ha : MarkIn X.K H a l) (hb : MarkIn X.K H b m) {Q : Value → Shared → Prop}
    (q : ∀ s', Inv X pins σ H s' → Q (.bool (decide (text l = text m))) s') : wpAny (model X.prog X.w) A (call (.ref (He.ma X.K (He.ga X.K "Mark") "__eq__")) [.ref a, .ref b]) Q X.xe s := by
  obtain ⟨fd, F, bd⟩ := (kn_Mark_eq (P := X.prog) (w := X.w) T).ok
  have sp : spMEq X.K [.ref a, .ref b] H (fun v H' => v = .bl (decide (text l = text m)) ∧ H' = H) E0 := ⟨a, b, l, m, rfl, ha, hb, rfl, rfl⟩
  have e1 := I.env0
  have e0 : Env0 X.prog X.w X.K X.mg X.base A X.stack s H := ⟨by rw [sb.fr]; exact e1.frames, e1.mod, e1.bs, e1.bsz, e1.funs, e1.frf, e1.hok, e1.bare⟩
  have bd2 := bd s [.ref a, .ref b] I.kIn rfl
  refine wpAny_call (codeAny_mono (F.run A X.stack s H ⟨[.ref a, .ref b], []⟩ [.ref a, .ref b] [.ref a, .ref b] _ E0 (sb.room.mono (by omega)) e0 (by simpa using bd2) (.cons rfl (.cons rfl .nil)) sp) fun r s' z => ?_)
  cases r with
  | error e => exact (z : False).elim
  | ok fl =>
    cases fl with
    | ret v =>
      obtain ⟨u, H', I', ru, eu, eh⟩ := I.after z
      subst eu
      subst eh
      cases ru
      exact q s' I'
    | next => exact (z : False).elim
    | brk => exact (z : False).elim
    | cont => exact (z : False).elim
theorem inst_of {pins : List (Addr × Obj)} {s : Shared} {σ : L2.St} {H : Hp} {a : Addr} {l : Mk} (I : Inv X pins σ H s) (ha : MarkIn X.K H a l) : ∃ ox od, PySem.W.InstAt s.heap a ox (He.ga X.K "Mark") od := by
  obtain ⟨dx, t, h1, _⟩ := ha
  obtain ⟨mA, J, _⟩ := ins_get I.hok h1
  obtain ⟨od, J, _⟩ := J.look
  exact ⟨_, _, J⟩
theorem rc_eqM (T : Tx X.K X.mg X.base) {A : Around} (sb : Sub X (n + 2) A) {pins : List (Addr × Obj)} {s : Shared} {σ : L2.St} {H : Hp} {a b : Addr} {l m : Mk} (I : Inv X pins σ H s) (ha : MarkIn X.K H a l) (hb : MarkIn X.K H b m) {Q : Value → Shared → Prop}
    (q : ∀ s', Inv X pins σ H s' → Q (.bool (decide (text l = text m))) s') : wpAny (model X.prog X.w) A (richCompare .Eq (.ref a) (.ref b)) Q X.xe s := by
  obtain ⟨ox, od, J⟩ := inst_of I ha
  obtain ⟨oy, oe, J'⟩ := inst_of I hb
  obtain ⟨mm, hF⟩ := I.fr
  have me := (kn_Mark_eq (P := X.prog) (w := X.w) T).me
  exact PySem.W.cmp_K (op := .Eq) (tb := .ref (He.ga X.K "Mark")) sb.room.units0 hF I.ok.mod.kin J J'.type (by simp [PySem.W.notFirst]) me.at_ me.fn (call_eqM T sb I ha hb q)
theorem rc_neM (T : Tx X.K X.mg X.base) {A : Around} (sb : Sub X (n + 3) A) {pins : List (Addr × Obj)} {s : Shared} {σ : L2.St} {H : Hp} {a b : Addr} {l m : Mk} (I : Inv X pins σ H s) (ha : MarkIn X.K H a l) (hb : MarkIn X.K H b m) {Q : Value → Shared → Prop}
    (q : ∀ s', Inv X pins σ H s' → Q (.bool (!decide (text l = text m))) s') : wpAny (model X.prog X.w) A (richCompare .NotEq (.ref a) (.ref b)) Q X.xe s := by
  obtain ⟨ox, od, J⟩ := inst_of I ha
  obtain ⟨oy, oe, J'⟩ := inst_of I hb
  have me := (kn_Mark_eq (P := X.prog) (w := X.w) T).me
  refine ne_own I.kIn J J' (He.eqO_ok (T.ex 4 rfl)) me.at_ me.fn (of_decide_eq_true (T.ex 5 rfl)) (by have := sb.room.un; omega) (call_eqM (n := n) T ⟨sb.room.in1, sb.fr⟩ I ha hb fun s' I' => ⟨_, rfl, q s' I'⟩)
/-- mark == mark, mark != mark -/
def rEqM (K : PySem.W.Frag) : R2 := fun x y H Q => ∃ (a b : Addr) (l m : Mk), x = .ref a ∧ y = .ref b ∧ MarkIn K H a l ∧ MarkIn K H b m ∧ Q (.bl (decide (text l = text m))) H
def rNeM (K : PySem.W.Frag) : R2 := fun x y H Q => ∃ (a b : Addr) (l m : Mk), x = .ref a ∧ y = .ref b ∧ MarkIn K H a l ∧ MarkIn K H b m ∧ Q (.bl (!decide (text l = text m))) H
theorem op_eqM (T : Tx X.K X.mg X.base) (hr : Room (n + 3) X.A) : OpR X (compareOp .Eq) (rEqM X.K) := fun pins s σ H x y v u Q I rx ry hyp => by
  obtain ⟨a, b, l, m, rfl, rfl, ha, hb, q⟩ := hyp
  cases rx
  cases ry
  exact rc_eqM (n := n) T ⟨hr.mono (by omega), rfl⟩ I ha hb fun s' I' => ⟨.bl _, H, I', rfl, q⟩
theorem op_neM (T : Tx X.K X.mg X.base) (hr : Room (n + 3) X.A) : OpR X (compareOp .NotEq) (rNeM X.K) := fun pins s σ H x y v u Q I rx ry hyp => by
  obtain ⟨a, b, l, m, rfl, rfl, ha, hb, q⟩ := hyp
  cases rx
  cases ry
  exact rc_neM (n := n) T ⟨hr, rfl⟩ I ha hb fun s' I' => ⟨.bl _, H, I', rfl, q⟩
end
end K42
set_option Elab.async false
set_option linter.all false
set_option maxRecDepth 100000
set_option maxHeartbeats 4000000
namespace K42
open PySem PySem.Spec PyProof.Rows L2
section
variable {X : Cx} {pins : List (Addr × Obj)} {s : Shared} {σ : L2.St} {H : Hp}
/-- an object of ours becomes known -/
theorem inv_track {a : Addr} {o : HO} (I : Inv X pins σ H s) (hn : H a = none) (h1 : X.s_0.heap.objs.size ≤ a) (hL : a ≠ X.env.locals) (h2 : ∀ x c, X.env.cells.lookup x = some c → c ≠ a) (h3 : ∀ p ∈ X.pn ++ pins, p.1 ≠ a)
    (new : ObjOk X.prog X.w (upd H a o) s.heap a o) : Inv X pins σ (upd H a o) s where
  ok := I.ok
  os := I.os
  bare := I.bare
  base := ⟨fun b u q n f x => I.base.keep b u q n f x, fun b u q n f x => I.base.slot b u q n f x,
    fun b u q n x => by
      rw [upd_ne (Nat.ne_of_lt (Nat.lt_of_lt_of_le (Heap.lt_size q) h1))]
      exact I.base.free b u q n x,
    fun b u q x => I.base.there b u q x,
    fun b xs q => by have z := I.base.tups b xs q; rw [upd_ne (ne_of_none z hn)]; exact z,
    fun b o u q => by have z := I.base.frzs b o u q; rw [upd_ne (ne_of_none z hn)]; exact z,
    fun b ps q => by
      obtain ⟨more, z⟩ := I.base.tbls b ps q
      exact ⟨more, by rw [upd_ne (ne_of_none z hn)]; exact z⟩⟩
  loc := I.loc
  cell := I.cell
  free := by rw [upd_ne hL.symm]; exact I.free
  freeC := fun x c e => by rw [upd_ne (h2 x c e)]; exact I.freeC x c e
  pin := fun p hp => by
    have z := I.pin p hp
    exact ⟨z.1, by rw [upd_ne (h3 p hp)]; exact z.2.1, z.2.2⟩
  hok := fun b u e => by
    by_cases z : b = a
    · subst z
      rw [upd_same] at e
      injection e with e
      subst e
      exact new
    · rw [upd_ne z] at e
      refine (I.hok b u e).stay (fun _ _ _ q => q) (fun c q => ?_) fun c xs q => ?_
      · rw [upd_ne (ne_of_none q hn)]; exact q
      · rw [upd_ne (ne_of_none q hn)]; exact q
  len := I.len
theorem each_dp (I : Inv X pins σ H s) : ∀ {zs : List V} {us : List Value} {ds : List PyData}, Vals zs us → DpAll X.K H zs ds → PySem.W.EachIs (fun v k => ∃ as, Reads s.heap v k as) us ds
  | _, _, _, .nil, .nil => .nil
  | _, _, _, .cons r rs, .cons d dsx => .cons (Dp.reads I _ _ _ d r) (each_dp I rs dsx)
theorem each_back {α : Type} {R : V → α → Prop} : ∀ {us : List Value} {ms : List α}, PySem.W.EachIs (fun u m => ∃ y, RelV y u ∧ R y m) us ms → ∃ ys, Vals ys us ∧ Paired R ys ms
  | _, _, .nil => ⟨[], .nil, .nil⟩
  | _, _, .cons ⟨y, r, h⟩ e => by
    obtain ⟨ys, h1, h2⟩ := each_back e
    exact ⟨y :: ys, .cons r h1, .cons h h2⟩
theorem each_in {α : Type} : ∀ {xs : List V} {us : List Value} {ms : List α}, Vals xs us → xs.length = ms.length → PySem.W.EachIs (fun u m => ∃ y, RelV y u ∧ (y, m) ∈ xs.zip ms) us ms
  | [], _, [], .nil, _ => .nil
  | x :: xs, _, m :: ms, .cons r rs, h => by
    refine .cons ⟨x, r, by simp⟩ ((each_in rs (by simpa using h)).mono fun u m q => ?_)
    obtain ⟨y, h1, h2⟩ := q
    exact ⟨y, h1, by simp only [List.zip_cons_cons]; exact List.mem_cons_of_mem _ h2⟩
  | [], _, _ :: _, .nil, h => by simp at h
  | _ :: _, _, [], .cons _ _, h => by simp at h
theorem marks_alike (ms : List Mk) : PySem.W.AllAlike (ms.map keyD) := by
  intro d hd e he
  obtain ⟨a, _, rfl⟩ := List.mem_map.mp hd
  obtain ⟨b, _, rfl⟩ := List.mem_map.mp he
  exact alike_key a b
theorem marks_sortable (ms : List Mk) : PySem.W.Sortable (ms.map keyD) := .inl fun d hd => by
  obtain ⟨a, _, rfl⟩ := List.mem_map.mp hd
  exact ⟨_, _, rfl⟩
/-- sorted(xs, key=f): f is called on each item, in order; J says what stands after each call -/
theorem sort_key_run {a f : Addr} {xs : List V} {ms : List Mk} {Q : VK} {k : Nat} (hr : Room k X.A) (I : Inv X pins σ H s) (hs : SqL X.K H a xs) (hl : xs.length = ms.length) (J : Nat → List V → Hp → Prop) (h0 : J 0 [] H)
    (turn : ∀ (i : Nat) (x : V) (m : Mk) (zs : List V) (H1 : Hp) (pins1 : List (Addr × Obj)) (s1 : Shared) (u : Value), xs[i]? = some x → ms[i]? = some m → J i zs H1 → (∀ p ∈ pins, p ∈ pins1) → Inv X pins1 σ H1 s1 → RelV x u →
      wpAny (model X.prog X.w) X.A.in1.in1 (call (.ref f) [u]) (EP X pins1 σ fun v H2 => J (i + 1) (zs ++ [v]) H2) (fun _ _ => False) s1)
    (jd : ∀ zs H1, J ms.length zs H1 → DpAll X.K H1 zs (ms.map keyD))
    (q : ∀ zs H1 p ys, J ms.length zs H1 → H p = none → H1 p = none → Paired (fun y m => (y, m) ∈ xs.zip ms) ys (kSort ms) → Q (.ref p) (upd H1 p (.lst ys))) :
    wpAny (model X.prog X.w) X.A (call (.builtin "sorted") [.ref a] [(Str.ofString "key", .ref f)]) (EP X pins σ Q) X.xe s := by
  obtain ⟨vs, rv, hl', hz⟩ := I.list hs
  have hvl : vs.length = ms.length := by rw [← rv.length]; exact hl
  have hvz : vs.length ≤ sizeLine := by rw [← rv.length]; exact hz
  refine PySem.W.sorted_of_sort hl'.isList hvz (PyProof.Rows.ksk_s1 _ _) (fun _ => PyProof.Rows.ksk_l1 _ _) fun E' => ?_
  rw [PyProof.Rows.ksk_t1]
  generalize ha : s.heap.objs.size + 1 = d
  have ho : (PySem.W.copyHeap s.heap vs).get? d = some (seqObj "list" vs.toArray 0) := by rw [← ha]; exact PySem.W.copyHeap_at _ _
  obtain ⟨e1, ho1⟩ : ∃ e1, ((PySem.W.copyHeap s.heap vs).update d (Obj.mapSeq fun _ => (#[] : Array Value))).get? d = some (seqObj "list" #[] e1) := ⟨_, get?_update_seq ho fun _ => #[]⟩
  unfold PyProof.Rows.ksk_tree
  refine wpAny_bind (listItems_at ho rfl ?_)
  refine wpAny_bind (listUpdate_at ho rfl ?_ (by rw [List.size_toArray]; exact hvz) (Nat.zero_le _))
  refine wpAny_bind (seqEpoch_at ho1 rfl ?_)
  refine wpAny_bind (wpAny_newTuple ?_ (by show vs.length ≤ _; exact hvz))
  refine wpAny_bind (wpAny_newList ?_ (Nat.zero_le _))
  refine wpAny_holding ?_
  have hsd : d < (PySem.W.copyHeap s.heap vs).objs.size := Heap.lt_size ho
  have old : ∀ b o, s.heap.get? b = some o → (PySem.W.sortingHeap (PySem.W.copyHeap s.heap vs) d vs).get? b = some o := fun b o e => by
    rw [← ha]; exact PySem.W.sorting_copy_old e
  have I0 : Inv X pins σ H { s with heap := PySem.W.sortingHeap (PySem.W.copyHeap s.heap vs) d vs } := I.kept (t' := s.toks) old
  generalize hk : (((PySem.W.copyHeap s.heap vs).update d (Obj.mapSeq fun _ => (#[] : Array Value))).push (seqObj "tuple" vs.toArray 0)).objs.size = e
  have he : e = (PySem.W.copyHeap s.heap vs).objs.size + 1 := by rw [← hk, size_push', Heap.size_update]
  have hde : e ≠ d := by omega
  have hdS : s.heap.objs.size ≤ d := by omega
  have heS : s.heap.objs.size ≤ e := by omega
  have near : ∀ {c : Addr}, s.heap.objs.size ≤ c → H c = none ∧ c ≠ X.env.locals ∧ c ∉ X.fs ∧ (∀ x c', X.env.cells.lookup x = some c' → c' ≠ c) ∧ (∀ p ∈ X.pn ++ pins, p.1 ≠ c) ∧ X.s_0.heap.objs.size ≤ c := fun {c} hc =>
    ⟨I.hok.fresh hc, Nat.ne_of_gt (Nat.lt_of_lt_of_le I.lt hc), I.nofs hc, fun x c' z => by
      obtain ⟨v, o, w1, _⟩ := I.cell x c' z
      exact Nat.ne_of_lt (Nat.lt_of_lt_of_le (Heap.lt_size w1) hc), fun p hp => Nat.ne_of_lt (Nat.lt_of_lt_of_le (Heap.lt_size (I.pin p hp).1) hc), Nat.le_trans I.sz hc⟩
  have gd : (PySem.W.sortingHeap (PySem.W.copyHeap s.heap vs) d vs).get? d = some (seqObj "list" #[] e1) := Heap.get?_push_of_some _ (Heap.get?_push_of_some _ ho1)
  have ge : (PySem.W.sortingHeap (PySem.W.copyHeap s.heap vs) d vs).get? e = some (seqObj "list" #[] 0) := by rw [← hk]; exact Heap.get?_push_size _ rfl
  have nocell : ∀ (xs : Array Value) (n : Nat) (v : Option Value), (seqObj "list" xs n).data ≠ .cell v := fun xs n v z => by cases z
  have I1 : Inv X ((e, seqObj "list" #[] 0) :: (d, seqObj "list" #[] e1) :: pins) σ H { s with heap := PySem.W.sortingHeap (PySem.W.copyHeap s.heap vs) d vs } := I0.pins_of fun p hp => by
    rcases List.mem_cons.mp hp with rfl | hp
    · exact ⟨ge, (near heS).1, (near heS).2.1, (near heS).2.2.1, nocell _ _⟩
    · rcases List.mem_cons.mp hp with rfl | hp
      · exact ⟨gd, (near hdS).1, (near hdS).2.1, (near hdS).2.2.1, nocell _ _⟩
      · exact I0.pin p (List.mem_append_right _ hp)
  show wpAny (model X.prog X.w) X.A.in1.in1 (ksk_rest d (.ref f) false vs.toArray e1 (.ref e)) _ _ { s with heap := PySem.W.sortingHeap (PySem.W.copyHeap s.heap vs) d vs }
  unfold PyProof.Rows.ksk_rest
  refine wpAny_bind (wpAny_rule ?_)
  first
    | rw [List.forIn_toArray]
    | (rw [← Array.forIn_toList]; simp only [List.toList_toArray])
    | rw [← Array.forIn_toList]
  refine wpAny_bind (PyProof.Rows.ksk_fold (fun i s' => ∃ H' kA c zs, Inv X ((e, seqObj "list" kA c) :: (d, seqObj "list" #[] e1) :: pins) σ H' s' ∧ Vals zs kA.toList ∧ kA.size = i ∧ J i zs H') vs 0 _ ⟨H, #[], 0, [], I1, .nil, rfl, h0⟩ ?step ?done)
  case step =>
    rintro j x s' hx ⟨H', kA, c, zs, I', rk, hsz, hJ⟩
    simp only [Nat.zero_add] at hsz hJ ⊢
    have hj : j < vs.length := (List.getElem?_eq_some_iff.mp hx).1
    obtain ⟨m, hm⟩ : ∃ m, ms[j]? = some m := ⟨_, List.getElem?_eq_getElem (by omega)⟩
    obtain ⟨y, hy⟩ : ∃ y, xs[j]? = some y := ⟨_, List.getElem?_eq_getElem (by omega)⟩
    obtain ⟨u, hu, ru⟩ := rv.get hy
    rw [hx] at hu
    cases hu
    refine wpAny_bind (wpAny_attempt (wpAny_mono (turn j y m zs H' _ s' x hy hm hJ (fun p hp => .tail _ (.tail _ hp)) I' ru) (fun v s'' hq => ?_) fun _ _ hF => hF.elim))
    obtain ⟨v', H'', I'', r, hJ'⟩ := hq
    try dsimp only
    have ne := (I''.pin (e, seqObj "list" kA c) (List.mem_append_right _ (.head _))).1
    have J0 : Inv X ((d, seqObj "list" #[] e1) :: pins) σ H'' s'' := I''.pins_of fun p hp => I''.pin p (List.mem_append_right _ (.tail _ hp))
    have pe := I''.pin (e, seqObj "list" kA c) (List.mem_append_right _ (.head _))
    have s1 := Heap.SameBut.update s''.heap e (Obj.mapSeq (·.push v))
    obtain ⟨c2, hc2⟩ : ∃ c2, (s''.heap.update e (Obj.mapSeq (·.push v))).get? e = some (seqObj "list" (kA.push v) c2) := ⟨_, get?_update_seq ne (·.push v)⟩
    have J1 : Inv X ((d, seqObj "list" #[] e1) :: pins) σ H'' { s'' with heap := s''.heap.update e (Obj.mapSeq (·.push v)) } := J0.turned (t' := s''.toks) (it := e) (fun b o hb q => (s1.2 b hb).trans q) pe.2.1 pe.2.2.1 (.inr (near heS).2.2.2.2.2) (near heS).2.2.2.1 fun p hp => by
      rcases List.mem_append.mp hp with hp | hp
      · exact (near heS).2.2.2.2.1 p (List.mem_append_left _ hp)
      · rcases List.mem_cons.mp hp with rfl | hp
        · exact hde.symm
        · exact (near heS).2.2.2.2.1 p (List.mem_append_right _ hp)
    have J2 : Inv X ((e, seqObj "list" (kA.push v) c2) :: (d, seqObj "list" #[] e1) :: pins) σ H'' { s'' with heap := s''.heap.update e (Obj.mapSeq (·.push v)) } := J1.pins_of fun p hp => by
      rcases List.mem_cons.mp hp with rfl | hp
      · exact ⟨hc2, pe.2.1, pe.2.2.1, pe.2.2.2.1, nocell _ _⟩
      · exact J1.pin p (List.mem_append_right _ hp)
    refine wpAny_bind (listUpdate_at ne rfl ?_ (by omega) (Nat.le_trans (Nat.le_of_eq (Array.size_push ..)) (by omega)))
    exact wpAny_pure ⟨rfl, H'', kA.push v, c2, zs ++ [v'], J2, by rw [Array.toList_push]; exact rk.append (.cons r .nil), by rw [Array.size_push, hsz], hJ'⟩
  case done =>
    rintro s' ⟨H', kA, c, zs, I', rk, hsz, hJ⟩
    simp only [Nat.zero_add] at hsz hJ
    rw [hvl] at hJ
    have hk' := each_dp I' rk (jd zs H' hJ)
    have pe := I'.pin (e, seqObj "list" kA c) (List.mem_append_right _ (.head _))
    have pd := I'.pin (d, seqObj "list" #[] e1) (List.mem_append_right _ (.tail _ (.head _)))
    try dsimp only
    refine wpAny_bind (listItems_at pe.1 rfl ?_)
    have ko : PySem.W.KeyedOut false (ms.map keyD) vs (PySem.W.sortVals (PySem.W.dataKind s'.heap (ms.map keyD)) false kA.toList vs) := ⟨s'.heap, kA.toList, marks_alike ms, rfl, hk'⟩
    have kp : PySem.W.KeepsBut d (PySem.W.hideAll s'.heap [e, d]) s'.heap := fun b o _ z => PySem.W.of_hideAll _ z
    refine PySem.W.keyH_end (κ := PySem.W.dataKind s'.heap (ms.map keyD)) (h₁ := PySem.W.hideAll s'.heap [e, d]) kp (PySem.W.hideAll_none _ (.head _)) pe.1 pd.1 hde
      (PySem.W.SortsAt.data hk' (marks_alike ms) (marks_sortable ms) (fun dd hd => ?_)) hsz hvz fun h3 tk3 c3 k3 n3 => ⟨rfl, ?_⟩
    · obtain ⟨m, _, rfl⟩ := List.mem_map.mp hd
      have z1 := hr.un
      have z2 := key_depth m
      show X.A.units + 2 + _ < _
      omega
    · have up : ∀ b o, b ∉ [e, d] → s'.heap.get? b = some o → h3.get? b = some o := fun b o hb z => k3 b o (fun w1 => hb (by simp [w1])) (PySem.W.hideAll_get _ z hb)
      have nb : ∀ b u, H' b = some u → b ∉ [e, d] := fun b u z w1 => by
        rcases List.mem_cons.mp w1 with rfl | w1
        · have := pe.2.1; rw [z] at this; cases this
        · have w2 : b = d := by simpa using w1
          subst w2
          have := pd.2.1; rw [z] at this; cases this
      have I2 : Inv X pins σ H' s' := I'.pins_of fun p hp => I'.pin p (List.mem_append_right _ (.tail _ (.tail _ hp)))
      have I3 : Inv X pins σ H' { s' with heap := h3, toks := tk3 } := by
        refine I2.step (g' := s'.gens) (d' := s'.drawn) (ch := [e, d]) (fun b hb => ?_) (fun b o _ _ hc z _ => up b o hc z) (fun b o _ _ hc z _ => ⟨o.slots, up b o hc z⟩) (fun _ _ _ _ n => n) (fun b o hc z => ⟨o, up b o hc z⟩) (fun _ _ z => z) (fun _ _ _ z => z)
          (fun b ps z => ⟨#[], by rw [z]; simp⟩) (fun m hm => ?_) (fun b u z => ?_) I2.bare
        · rcases List.mem_cons.mp hb with rfl | hb
          · have z := near heS; exact ⟨.inr z.2.2.2.2.2, z.2.1, z.2.2.2.1, z.2.2.2.2.1⟩
          · have w2 : b = d := by simpa using hb
            subst w2
            have z := near hdS; exact ⟨.inr z.2.2.2.2.2, z.2.1, z.2.2.2.1, z.2.2.2.2.1⟩
        · obtain ⟨o, es, ep, z, r⟩ := hm
          refine ⟨o, es, ep, up _ o (fun w1 => ?_) z, r⟩
          rcases List.mem_cons.mp w1 with w1 | w1
          · exact (near heS).2.1 w1.symm
          · exact (near hdS).2.1 (show X.env.locals = d by simpa using w1).symm
        · refine (I2.hok b u z).stay (fun c v hc w1 => up c v ?_ w1) (fun _ w1 => w1) fun _ _ w1 => w1
          rcases hc with w2 | w2
          · rw [w2]; exact nb b u z
          · exact nb c _ w2
      have lo := ko.length (by rw [List.length_map]; exact hvl.symm)
      obtain ⟨ys, ry, hp⟩ := each_back (PySem.W.keyedOut_each keyD ko (each_in rv hl))
      refine ⟨.ref d, upd H' d (.lst ys), inv_track I3 pd.2.1 (near hdS).2.2.2.2.2 (near hdS).2.1 (near hdS).2.2.2.1 (near hdS).2.2.2.2.1 ⟨?_, _, c3, ry, n3⟩, rfl, q zs H' d ys hJ (near hdS).1 pd.2.1 hp⟩
      rw [ry.length, lo]; exact hvz
end
end K42
set_option Elab.async false
set_option linter.all false
set_option maxRecDepth 100000
set_option maxHeartbeats 4000000
namespace K42
open PySem PySem.Spec PyProof.Rows L2
open LamX (Tabs ExtN CodeO)
/-- v is the key of m, frozen -/
def KeyAt (G : Hp) (v : V) (m : Mk) : Prop := ∃ p t, v = .ref p ∧ G p = some (.tup [sV m.l, .int m.n, sV m.p, .ref t, .int (oi m.y), .int (oi m.c)]) ∧ G t = some (.tup (msV m.ms))
theorem KeyAt.le {G G' : Hp} {v : V} {m : Mk} (h : KeyAt G v m) (l : Le G G') : KeyAt G' v m := by
  obtain ⟨p, t, e, h1, h2⟩ := h
  exact ⟨p, t, e, l _ _ h1, l _ _ h2⟩
theorem KeyAt.dp {K : PySem.W.Frag} {G H : Hp} {v : V} {m : Mk} (h : KeyAt G v m) (sb : Sb G H) : Dp K H v (keyD m) := by
  obtain ⟨p, t, rfl, h1, h2⟩ := h
  exact key_dp (sb _ _ h1).1 (sb _ _ h2).1
theorem keys_dp {K : PySem.W.Frag} {G H : Hp} (sb : Sb G H) : ∀ {zs : List V} {ms : List Mk}, Paired (KeyAt G) zs ms → DpAll K H zs (ms.map keyD)
  | _, _, .nil => .nil
  | _, _, .cons h t => .cons (h.dp sb) (keys_dp sb t)
/-- sorted(xs, key=f), f by its promise sp -/
def rSortG (K : PySem.W.Frag) (sp : Sp) (v : V) : Hp → VK → Prop := fun H Q => ∃ (a : Addr) (G : Hp) (xs : List V) (ms : List Mk), v = .ref a ∧ Sb G H ∧ SqL K H a xs ∧ xs.length = ms.length ∧
  (∀ (i : Nat) (x : V) (m : Mk) (G1 H1 : Hp), xs[i]? = some x → ms[i]? = some m → GR K S0 G H G1 H1 → sp [x] H1 (fun z H2 => ∃ G2, GR K S0 G1 H1 G2 H2 ∧ KeyAt G2 z m) E0) ∧
  ∀ (G1 H1 : Hp) (p : Addr) (ys : List V), GR K S0 G H G1 H1 → H p = none → H1 p = none → Paired (fun y m => (y, m) ∈ xs.zip ms) ys (kSort ms) → Q (.ref p) (upd H1 p (.lst ys))
section
variable {X : Cx} {pins : List (Addr × Obj)} {s : Shared} {σ : L2.St} {H : Hp}
theorem sortG_run {k : Nat} (hr : Room k X.A) {sp : Sp} {v : V} {Q : VK} {f a : Addr} (hv : v = .ref a) (I : Inv X pins σ H s) (h : rSortG X.K sp v H Q)
    (turn : ∀ (i : Nat) (x : V) (H1 : Hp) (pins1 : List (Addr × Obj)) (s1 : Shared) (u : Value) (Q1 : VK), (∀ b o, H b = some o → (∀ ps, o ≠ .tbl ps) → H1 b = some o) → (∀ p ∈ pins, p ∈ pins1) → Inv X pins1 σ H1 s1 → RelV x u → sp [x] H1 Q1 E0 →
      wpAny (model X.prog X.w) X.A.in1.in1 (call (.ref f) [u]) (EP X pins1 σ Q1) (fun _ _ => False) s1) :
    wpAny (model X.prog X.w) X.A (call (.builtin "sorted") [.ref a] [(Str.ofString "key", .ref f)]) (EP X pins σ Q) X.xe s := by
  obtain ⟨a', G, xs, ms, e, sb, hs, hl, ht, q⟩ := h
  rw [hv] at e
  cases e
  refine sort_key_run hr I hs hl (fun i zs H1 => ∃ G1, GR X.K S0 G H G1 H1 ∧ Paired (KeyAt G1) zs (ms.take i)) ⟨G, GR.refl sb, by rw [List.take_zero]; exact .nil⟩ ?_ ?_ ?_
  · rintro i x m zs H1 pins1 s1 u hx hm ⟨G1, g1, hp⟩ hpin I1 ru
    refine wpAny_mono (turn i x H1 pins1 s1 u _ (fun b o e n => g1.hh b o id e n) hpin I1 ru (ht i x m G1 H1 hx hm g1)) (fun z s2 hz => ?_) fun _ _ e => e
    obtain ⟨v', H2, I2, r2, G2, g2, hk⟩ := hz
    refine ⟨v', H2, I2, r2, G2, g1.trans g2, ?_⟩
    rw [List.take_add_one, hm]
    exact (L2.Paired.mapP hp fun _ _ w => w.le g2.gg).snoc hk
  · rintro zs H1 ⟨G1, g1, hp⟩
    rw [List.take_of_length_le (Nat.le_refl _)] at hp
    exact keys_dp g1.sb hp
  · rintro zs H1 p ys ⟨G1, g1, hp⟩ h0 h1 hy
    exact q G1 H1 p ys g1 h0 h1 hy
/-- a def's promise, run from an invariant -/
theorem run_fn {A : Around} {n : Nat} {sp : Sp} {f : Addr} {fd : FuncData} {ps : List Str} (F : FnOk X.prog X.w X.K X.mg X.base CX0 n f fd ps sp) (bd : Binds X.K fd ps []) (sb : Sub X n A) (I : Inv X pins σ H s) {vs : List V} {us : List Value} (r : Vals vs us) {Q : VK} (h : sp vs H Q E0) :
    wpAny (model X.prog X.w) A (call (.ref f) us) (EP X pins σ Q) (fun _ _ => False) s := by
  have e1 := I.env0
  have e0 : Env0 X.prog X.w X.K X.mg X.base A X.stack s H := ⟨by rw [sb.fr]; exact e1.frames, e1.mod, e1.bs, e1.bsz, e1.funs, e1.frf, e1.hok, e1.bare⟩
  have bd2 := bd s us I.kIn (by rw [List.append_nil, ← r.length]; exact F.len _ _ _ _ h)
  refine wpAny_call (codeAny_mono (F.run A X.stack s H ⟨us, []⟩ us vs Q E0 sb.room e0 (by simpa using bd2) r h) fun r s' z => ?_)
  cases r with
  | error e => exact (z : False).elim
  | ok fl =>
    cases fl with
    | ret v => exact I.after z
    | next => exact (z : False).elim
    | brk => exact (z : False).elim
    | cont => exact (z : False).elim
theorem ref_of {x : V} {v : Value} {a : Addr} (e : x = .ref a) (r : RelV x v) : v = .ref a := by rw [e] at r; exact r
/-- sorted(xs, key=f), f a def of the module -/
def rSortF (K : PySem.W.Frag) (sp : Sp) (f : Addr) : List V → List V → Hp → VK → Prop := fun vs zs H Q => ∃ v, vs = [v] ∧ zs = [.ref f] ∧ rSortG K sp v H Q
theorem cr_sortF {lvl : Nat} {x : Str} {ps : List Str} {sp : Sp} (c : Kn X.prog X.w X.K X.mg X.base CX0 lvl x ps sp) (hr : Room (lvl + 2) X.A) : CallRK X (.builtin "sorted") [Str.ofString "key"] (rSortF X.K sp (He.ga X.K x)) := by
  intro pins s σ H vs zs us ws Q I r rz h
  obtain ⟨v, rfl, rfl, h⟩ := h
  obtain ⟨u, rfl, ru⟩ := vals1 r
  obtain ⟨w1, rfl, rw1⟩ := vals1 rz
  obtain rfl : w1 = Value.ref (He.ga X.K x) := rw1
  have h0 := h
  obtain ⟨a, _, _, _, rfl, _⟩ := h0
  obtain rfl : u = Value.ref a := ru
  obtain ⟨fd, F, bd⟩ := c.ok
  exact sortG_run hr rfl I h fun i x H1 pins1 s1 u Q1 _ _ I1 ru1 hsp => run_fn F bd ⟨hr.in1.in1, rfl⟩ I1 (.cons ru1 .nil) hsp
theorem pe_sortF {lvl : Nat} {x y : Str} {p pos kpos p3 : Pos} {e : Expr} {te : TE} {ps : List Str} {sp : Sp} (c : Kn X.prog X.w X.K X.mg X.base CX0 lvl y ps sp) (T : Tx X.K X.mg X.base) (hr : Room (lvl + 2) X.A) (he : PE X e te) (hg : Gl X "sorted" := by rfl) (hy : Gl X y := by rfl) (hd : (y == ("__debug__" : Str)) = false := by decide)
    (h0 : starEach [e] X.env = (false, eval e X.env) :: starEach [] X.env := by rfl) (h1 : backTo pos (starEach [e] X.env) = (false, eval e X.env) :: backTo pos (starEach [] X.env) := by rfl) (h2 : (backTo pos (starEach [e] X.env)).any (·.1) = false := by rfl) :
    PE X (.Call (.Name "sorted" p) [e] [⟨some "key", .Name y p3, kpos⟩] pos) (tCKw (rSortF X.K sp (He.ga X.K y)) (tCons te tNil) (tCons (tC (.ref (He.ga X.K y))) tNil)) :=
  pe_callBK (cr_sortF c hr) hg T.f_sorted (by rfl) (pa_cons he pa_nil h0) (pk_cons (pe_glob (v := .ref (He.ga X.K y)) hy c.g rfl hd) pk_nil) (he := h1) (hpl := h2)
/-! ### a lambda with a parameter, without free names -/
theorem clo_nil {cells : List (Str × Addr)} {names : List (Str × NameKind)} (h : ∀ y ∈ names, y.2 ≠ .free) : cloFrom cells names [] = [] := by
  cases e : cloFrom cells names [] with
  | nil => rfl
  | cons p l =>
    have z : (p.1, p.2) ∈ cloFrom cells names [] := by rw [e]; exact .head _
    rcases cloFrom_mem z with w | ⟨w, _⟩
    · cases w
    · exact absurd rfl (h _ w)
theorem lam_run {CX : CXT} {P : Program} {w : World} {K : PySem.W.Frag} {mg : Str → Option Value} {base : Heap} {k : Nat} {f c' : Addr} {qual : Str} {params : Arguments} {body : Expr} {scope : Scope} {pm ctv : Value} {N ps : List Str} (S : FnScope N ps scope) {A : Around} {outer : List Env} {s : Shared} {H : Hp} {us : List Value} {vs : List V} {Q : VK} {E : XK}
    (hr : Room (k + 1) A) (e0 : Env0 P w K mg base A outer s H) (hf : s.heap.get? f = some (PySem.W.kla_obj "<lambda>" qual params body scope [] pm c' ctv)) (hc : H c' = some (CodeO c' qual))
    (hb : bindArgs (PySem.W.kla_fn "<lambda>" qual params body scope [] pm (.ref c') ctv) ⟨us, []⟩ = pure (ps.zip us)) (r : Vals vs us) (hl : vs.length = ps.length)
    (hbody : Room k (A.deeper (envOfC qual scope s.heap.objs.size f (.ref c'))) → ∃ t, PE (cxOf CX P w K mg base N qual scope f (.ref c') A outer s H E) body t ∧ t (L2.start N vs) H Q) :
    codeAny (model P w) A (.call (.ref f) ⟨us, []⟩) (CR CX outer P w H s Q E) s := by
  have lim : s.heap.NoLimit := e0.mod.nolimit.keeps fun b o e => (e0.bs b o e).1
  have hkind : ∀ y ∈ ps.zip us, scope.names.lookup y.1 = some .local ∨ (scope.names.lookup y.1 = some .cell ∧ ((cellsFrom (s.heap.objs.size + 1) scope.names []).lookup y.1).isSome = true) := fun y hy =>
    (S.par y.1 (List.of_mem_zip (show (y.1, y.2) ∈ _ from hy)).1).elim .inl fun q => .inr ⟨q, PySem.W.cellsFrom_some _ _ _ (.inl q)⟩
  obtain ⟨⟨oc, fs, t, hoc, hdc, hvc⟩, _, _⟩ := e0.hok c' _ hc
  refine PySem.W.kla_callFunE hr.depth hf rfl S.co S.gen rfl ⟨c', oc, fs, t, rfl, hoc, hdc, hvc⟩ ?_
  rw [hb]
  refine wpAny_pure (wpAny_newFunctionEnv_cells S.kind hkind fun env he s1 x => ?_)
  subst he
  refine ⟨lim.keeps x.toInCall.keep, PySem.W.kla_codeExpr ?_⟩
  obtain ⟨tt, ht, hq⟩ := hbody (hr.deeper _)
  have I : Inv (cxOf CX P w K mg base N qual scope f (.ref c') A outer s H E) [] (L2.start N vs) H s1 := inv_start S hr.hd e0 hl r x
  refine wpAny_mono (ht.run [] s1 _ H _ I hq) (fun u s' hs => ?_) fun e s' hs => hs
  obtain ⟨v, H', J, rv, q⟩ := hs
  exact ⟨v, H', J.os, J.bare, J.base, J.hok, rv, q⟩
def tSortLam (K : PySem.W.Frag) (te : TE) (sp : Sp) : TE := fun σ H Q => te σ H fun v H1 => Tabs (Tq K) H1 ∧ (∃ a, v = .ref a) ∧ ∀ H2, ExtN H1 H2 → Tabs (Tq K) H2 → rSortG K sp v H2 Q
def lamQ (K : PySem.W.Frag) (sp : Sp) (Q : VK) : List V → Hp → Prop := fun vs H1 => match vs with
  | [v] => Tabs (Tq K) H1 ∧ (∃ a, v = .ref a) ∧ ∀ H2, ExtN H1 H2 → Tabs (Tq K) H2 → rSortG K sp v H2 Q
  | _ => False
theorem lamQ_one {K : PySem.W.Frag} {sp : Sp} {Q : VK} {vs : List V} {H1 : Hp} (h : lamQ K sp Q vs H1) : ∃ v, vs = [v] ∧ Tabs (Tq K) H1 ∧ (∃ a, v = .ref a) ∧ ∀ H2, ExtN H1 H2 → Tabs (Tq K) H2 → rSortG K sp v H2 Q := by
  match vs, h with
  | [v], h => exact ⟨v, rfl, h⟩
theorem pe_sortLam {k : Nat} {p pos kpos lpos : Pos} {e : Expr} {te : TE} {params : Arguments} {body : Expr} {scope : Scope} {sp : Sp} {N : List Str} {mk : Str} (T : Tx X.K X.mg X.base) (hr : Room (k + 3) X.A) (he : PE X e te)
    (hcode : X.env.code = .ref (He.cT X.K ("in_order", none)).1) (hq : X.env.qual ++ "<lambda>" = ("in_order.<locals>.<lambda>" : Str)) (hdef : defaultsOf params X.env = ([], [])) (S : FnScope N [mk] scope)
    (hb : ∀ (q : Str) (cl : List (Str × Addr)) (pm cv ctv : Value) (u : Value), bindArgs (PySem.W.kla_fn "<lambda>" q params body scope cl pm cv ctv) ⟨[u], []⟩ = pure ([mk].zip [u]))
    (hbody : ∀ (q : Str) (cdv : Value) (A : Around) (outer : List Env) (s : Shared) (H : Hp) (v : V) (Q : VK) (f : Addr), Room k (A.deeper (envOfC q scope s.heap.objs.size f cdv)) → sp [v] H Q E0 →
      ∃ t, PE (cxOf CX0 X.prog X.w X.K X.mg X.base N q scope f cdv A outer s H E0) body t ∧ t (L2.start N [v]) H Q) (hg : Gl X "sorted" := by rfl)
    (h0 : starEach [e] X.env = (false, eval e X.env) :: starEach [] X.env := by rfl) (h1 : backTo pos (starEach [e] X.env) = (false, eval e X.env) :: backTo pos (starEach [] X.env) := by rfl) (h2 : (backTo pos (starEach [e] X.env)).any (·.1) = false := by rfl) :
    PE X (.Call (.Name "sorted" p) [e] [⟨some "key", .Lambda params body scope lpos, kpos⟩] pos) (tSortLam X.K te sp) := by
  refine ⟨fun pins s σ H Q I h => ?_⟩
  refine wpAny_Call_Name_kw (ld_blt (u := .builtin "sorted") I hg T.f_sorted (by rfl) ?_)
  refine PyProof.Rows.callWith_kw (thn ((pa_cons he pa_nil h0).run pos pins s σ H (lamQ X.K sp Q) I h) fun us s1 z => ?_) h1 h2
  obtain ⟨vs, H1, I1, r1, z⟩ := z
  obtain ⟨v, rfl, tb, ⟨a, rfl⟩, hs⟩ := lamQ_one z
  obtain ⟨u, rfl, ru⟩ := vals1 r1
  obtain rfl : u = Value.ref a := ru
  show wpAny _ _ (evalAll [(do let v ← eval (.Lambda params body scope lpos) X.env; standAt pos; pure v)]) _ _ s1
  refine wpAny_evalAll_cons (wpAny_bind (LamX.lam_make2 I1 T.tb hcode (by rw [hq]; exact .head _) (fun q hq' _ => ?_) tb hdef (fun y hy hf => absurd hf (S.nofree y hy)) fun f c' pm ctv H2 s2 I2 eN T2 hf hfn hfr hco => ?_))
  · have z : q ∈ [((He.cT X.K ("in_order", none)).2, ("in_order.<locals>.<lambda>" : Str))] := hq'
    rw [hq, List.mem_singleton.mp z]
  refine wpAny_bind (wpAny_standAt (wpAny_pure (wpAny_evalAll_nil ?_)))
  rw [clo_nil S.nofree] at hf
  have pinf : Inv X ((f, PySem.W.kla_obj "<lambda>" (X.env.qual ++ "<lambda>") params body scope [] pm c' ctv) :: pins) σ H2 s2 := I2.pins_of fun q hq' => by
    rcases List.mem_cons.mp hq' with rfl | hq'
    · refine ⟨hf, hfn, ?_, ?_, fun v z => by cases z⟩
      · rintro rfl
        obtain ⟨m, ⟨o, es, ep, ho, hd⟩, _⟩ := I2.loc
        rw [hf] at ho
        cases ho
        have := hd.1
        cases this
      · intro z
        refine hfr ?_
        rcases I2.ok.stk with e | ⟨e, _⟩
        · rw [e]; exact z
        · rw [e]
          unfold frs
          rw [List.filterMap_cons]
          split
          · exact z
          · exact .tail _ z
    · exact I2.pin q (List.mem_append_right _ hq')
  show wpAny _ _ (call (.builtin "sorted") [.ref a] [(Str.ofString "key", .ref f)]) _ _ s2
  refine wpAny_mono (sortG_run hr rfl pinf (hs H2 eN T2) fun i x H3 pins1 s3 u Q1 hk hp I3 ru1 hsp => ?_) (fun u s3 z => ?_) fun _ _ z => z
  · have e1 := I3.env0
    have sb : Sub X (k + 1) X.A.in1.in1 := ⟨hr.in1.in1, rfl⟩
    have e0 : Env0 X.prog X.w X.K X.mg X.base X.A.in1.in1 X.stack s3 H3 := ⟨by rw [sb.fr]; exact e1.frames, e1.mod, e1.bs, e1.bsz, e1.funs, e1.frf, e1.hok, e1.bare⟩
    have hf3 := (I3.pin _ (List.mem_append_right _ (hp _ (.head _)))).1
    refine wpAny_call (codeAny_mono (lam_run (CX := CX0) (E := E0) S sb.room e0 hf3 (hk _ _ hco LamX.codeO_ne) (hb _ _ _ _ _ u) (.cons ru1 .nil) rfl fun hr' => hbody _ _ _ _ _ _ x Q1 f hr' hsp) fun r s' z => ?_)
    cases r with
    | error e => exact (z : False).elim
    | ok fl =>
      cases fl with
      | ret v => exact I3.after z
      | next => exact (z : False).elim
      | brk => exact (z : False).elim
      | cont => exact (z : False).elim
  · obtain ⟨v, H3, I3, r3, q3⟩ := z
    exact ⟨v, H3, I3.pins_of fun q hq' => I3.pin q (List.mem_append_right _ (.tail _ hq')), r3, q3⟩
/-- an expression, a statement that is not reached -/
theorem pe_never {e : Expr} : PE X e (fun _ _ _ => False) := ⟨fun _ _ _ _ _ _ h => h.elim⟩
theorem pss_dead {e : List Stmt} : PSs X e (fun _ _ _ => False) := ⟨fun _ _ _ _ _ _ h => h.elim⟩
end
end K42
set_option Elab.async false
set_option linter.all false
set_option maxRecDepth 100000
set_option maxHeartbeats 4000000
namespace K42
open PySem PySem.Spec PyProof.Rows L2
section
variable {X : Cx} {n : Nat}
/-- xs == [], xs != [] -/
def rEqNil (K : PySem.W.Frag) (b : Bool) : R2 := fun x y H Q => ∃ (a c : Addr) (xs : List V), x = .ref a ∧ y = .ref c ∧ SqL K H a xs ∧ SqL K H c [] ∧ Q (.bl (xs.isEmpty == b)) H
theorem op_eqNil (hr : Room n X.A) : OpR X (compareOp .Eq) (rEqNil X.K true) := fun pins s σ H x y v u Q I rx ry hyp => by
  obtain ⟨a, c, xs, rfl, rfl, h1, h2, q⟩ := hyp
  obtain rfl : v = Value.ref a := rx
  obtain rfl : u = Value.ref c := ry
  obtain ⟨its, rv, hl, hz⟩ := I.list h1
  obtain ⟨its2, rv2, hl2, _⟩ := I.list h2
  cases rv2
  cases rv with
  | nil => exact SeqAt.rcP_lists (e := fun _ => true) hl.isList hl2.isList rfl hr.units0 (fun j h1 => absurd h1 (by simp)) _ _ ⟨.bl _, H, I, rfl, q⟩
  | cons r rs => exact SeqAt.eq_list_lengthsAt hl.isList hl2.isList (by simp) hr.units0 ⟨.bl _, H, I, rfl, q⟩
theorem op_neNil (hr : Room n X.A) : OpR X (compareOp .NotEq) (rEqNil X.K false) := fun pins s σ H x y v u Q I rx ry hyp => by
  obtain ⟨a, c, xs, rfl, rfl, h1, h2, q⟩ := hyp
  obtain rfl : v = Value.ref a := rx
  obtain rfl : u = Value.ref c := ry
  obtain ⟨its, rv, hl, hz⟩ := I.list h1
  obtain ⟨its2, rv2, hl2, _⟩ := I.list h2
  cases rv2
  cases rv with
  | nil => exact SeqAt.RcNeAt.lists (e := fun _ => true) hl.isList hl2.isList rfl hr.units0 (fun j h1 => absurd h1 (by simp)) _ _ _ _ ⟨.bl _, H, I, rfl, q⟩
  | cons r rs => exact SeqAt.RcNeAt.lists_lengths hl.isList hl2.isList (by simp) hr.units0 _ _ _ _ ⟨.bl _, H, I, rfl, q⟩
/-- an instance of the text's class stands in the heap -/
theorem inst_at {pins : List (Addr × Obj)} {s : Shared} {σ : L2.St} {H : Hp} {a dx C : Addr} {fs : List (Str × V)} (I : Inv X pins σ H s) (h : H a = some (.ins C dx fs)) : ∃ ox od, PySem.W.InstAt s.heap a ox C od := by
  obtain ⟨mA, J, _⟩ := ins_get I.hok h
  obtain ⟨od, J, _⟩ := J.look
  exact ⟨_, _, J⟩
/-- len(x) by the own __len__ -/
def rLenO (C : Addr) (sp : Sp) : List V → Hp → VK → Prop := fun vs H Q => ∃ (a dx : Addr) (fs : List (Str × V)), vs = [.ref a] ∧ H a = some (.ins C dx fs) ∧ sp [.ref a] H (fun v H' => (∃ k : Nat, v = .int k ∧ k < 2 ^ 63) ∧ Q v H') E0
theorem call_lenM {lvl : Nat} {C : Str} {ps : List Str} {sp : Sp} (c : Km X.prog X.w X.K X.mg X.base CX0 lvl C "__len__" ps sp) (hr : Room (lvl + 1) X.A) : CallR X (.builtin "len") (rLenO (He.ga X.K C) sp) := by
  intro pins s σ H vs us Q I r h
  obtain ⟨a, dx, fs, rfl, ha, hsp⟩ := h
  obtain ⟨u, rfl, ru⟩ := vals1 r
  obtain rfl : u = Value.ref a := ru
  obtain ⟨ox, od, J⟩ := inst_at I ha
  obtain ⟨m, F⟩ := I.fr
  obtain ⟨fd, FF, bd⟩ := c.ok
  have me := c.me
  refine PySem.W.len_K F I.ok.mod.kin J me.at_ me.fn (wpAny_mono (run_fn FF bd ⟨hr.in1, rfl⟩ I (vs := [.ref a]) (us := [.ref a]) (.cons rfl .nil) hsp) (fun v s' z => ?_) fun _ _ z => z.elim)
  obtain ⟨v', H', I', r', ⟨k, rfl, hk⟩, q⟩ := z
  obtain ⟨t, rfl⟩ := r'
  exact ⟨⟨by omega, by exact_mod_cast hk⟩, .int k, H', I'.tok _, ⟨_, rfl⟩, q⟩
/-- str(x) by the own __str__ -/
def rStrO (C : Addr) (sp : Sp) : List V → Hp → VK → Prop := fun vs H Q => ∃ (a dx : Addr) (fs : List (Str × V)), vs = [.ref a] ∧ H a = some (.ins C dx fs) ∧ sp [.ref a] H (fun v H' => (∃ k : Str, v = .str k) ∧ Q v H') E0
theorem call_strM {lvl : Nat} {C : Str} {ps : List Str} {sp : Sp} (c : Km X.prog X.w X.K X.mg X.base CX0 lvl C "__str__" ps sp) (hr : Room (lvl + 2) X.A) : CallR X (.type "str") (rStrO (He.ga X.K C) sp) := by
  intro pins s σ H vs us Q I r h
  obtain ⟨a, dx, fs, rfl, ha, hsp⟩ := h
  obtain ⟨u, rfl, ru⟩ := vals1 r
  obtain rfl : u = Value.ref a := ru
  obtain ⟨ox, od, J⟩ := inst_at I ha
  obtain ⟨fd, FF, bd⟩ := c.ok
  have me := c.me
  refine PySem.W.kso_call hr.in1.in1.units0 I.kIn J me.at_ me.fn (wpAny_mono (run_fn FF bd ⟨hr.in1.in1, rfl⟩ I (vs := [.ref a]) (us := [.ref a]) (.cons rfl .nil) hsp) (fun v s' z => ?_) fun _ _ z => z.elim)
  obtain ⟨v', H', I', r', ⟨k, rfl⟩, q⟩ := z
  obtain ⟨t, rfl⟩ := r'
  exact ⟨.str k, H', I', ⟨_, rfl⟩, q⟩
end
end K42
set_option Elab.async false
set_option linter.all false
set_option maxRecDepth 100000
set_option maxHeartbeats 4000000
namespace K42
open PySem PySem.Spec PyProof.Rows L2
section
variable {P : Program} {w : World} {K : PySem.W.Frag} {mg : Str → Option Value} {base : Heap} {CX : CXT} {lvl : Nat} {N ps : List Str} {sp : Sp}
/-- a def whose body is told its code object -/
theorem funC_ok {p : Str × Option Str} {x qual : Str} {params : Arguments} {body : List Stmt} {scope : Scope} {dvs : List V} {kws : List (Str × V)} {fd : FuncData} {k : Nat} (F : FunD K x qual params body scope dvs kws (He.fAd K p) fd) (S : FnScope N ps scope) (len : ∀ vs H Q E, sp vs H Q E → vs.length = ps.length)
    (hbody : ∀ (cdv : Value), cdv = .ref (He.codeOf K p) → ∀ (A : Around) (outer : List Env) (s : Shared) (H : Hp) (vs : List V) (Q : VK) (E : XK), Room k (A.deeper (envOfC qual scope s.heap.objs.size (He.fAd K p) cdv)) → sp vs H Q E →
      ∃ t, PSs (cxOf CX P w K mg base N qual scope (He.fAd K p) cdv A outer s H E) body t ∧ t { nx := fun _ H' => Q .non H', rt := Q } (start N vs) H) : FnOk P w K mg base CX (k + 1) (He.fAd K p) fd ps sp := by
  obtain ⟨oc, od, dV, kV, doc, pm, an, cdv, ct, osl, rfl, lk, hcd, _, _⟩ := F.ex
  obtain ⟨c, rfl⟩ := He.codeIn_ref hcd
  have e := He.codeOf_eq lk rfl
  exact fn_of lk hcd S len fun A outer s H vs Q E hr hsp => hbody _ (by rw [e]) A outer s H vs Q E hr hsp
theorem kd_ofC (x : Str) (T : Tx K mg base) (i j : Nat) (st : Stmt) (d : He.Dv) (hfn : fn[i]? = some (dd (x, none) x x st [d])) (hfa : fa[j]? = some (.glo x)) (S : FnScope N ps (defScope st))
    (len : ∀ vs H Q E, sp vs H Q E → vs.length = ps.length)
    (h0 : ∀ (T : Addr) (kV doc pm : Value) (an : Option Addr) (cdv ct : Value) (us its : List Value), us.length = ps.length → its.length = 1 →
      ∃ k, bindArgs (PySem.W.fnOf x x (defArgs st) (defBody st) (defScope st) (.ref T) kV doc pm an cdv ct) ⟨us, []⟩ = seqItems? (.ref T) >>= k ∧ k (some its.toArray) = pure (ps.zip (us ++ its.drop 1)))
    (h1 : ∀ (T : Addr) (kV doc pm : Value) (an : Option Addr) (cdv ct : Value) (us its : List Value), us.length = ps.length - 1 → its.length = 1 →
      ∃ k, bindArgs (PySem.W.fnOf x x (defArgs st) (defBody st) (defScope st) (.ref T) kV doc pm an cdv ct) ⟨us, []⟩ = seqItems? (.ref T) >>= k ∧ k (some its.toArray) = pure (ps.zip (us ++ its.drop 0)))
    (hbody : ∀ (cdv : Value), cdv = .ref (He.cT K (x, none)).1 → ∀ (A : Around) (outer : List Env) (s : Shared) (H : Hp) (vs : List V) (Q : VK) (E : XK), Room lvl (A.deeper (envOfC x (defScope st) s.heap.objs.size (He.ga K x) cdv)) → sp vs H Q E →
      ∃ t, PSs (cxOf CX P w K mg base N x (defScope st) (He.ga K x) cdv A outer s H E) (defBody st) t ∧ t { nx := fun _ H' => Q .non H', rt := Q } (start N vs) H) (hp : 1 ≤ ps.length := by decide) : Kd P w K mg base CX (lvl + 1) x ps sp d := by
  obtain ⟨fd, F⟩ := T.c.def_ i hfn
  have F' : FunD K x x (defArgs st) (defBody st) (defScope st) [d.v K] [] (He.fAd K (x, none)) fd := F
  obtain ⟨ds0, v0, b0⟩ := F'.binds1 ps.length 1 (by simp) (by simp) h0
  obtain ⟨ds1, v1, b1⟩ := F'.binds1 (ps.length - 1) 0 (by simp) (by simp; omega) h1
  cases v0
  exact ⟨T.glo j hfa, F.kp, fd, funC_ok (p := (x, none)) F' S len hbody, b0, ds1, v1, b1⟩
/-- items in other order -/
theorem pair_zip {α β : Type} {F : α → β → Prop} : ∀ {xs : List α} {ms : List β}, Paired F xs ms → ∀ {y : α} {m : β}, (y, m) ∈ xs.zip ms → F y m
  | _, _, .cons h t, y, m, hm => by
    simp only [List.zip_cons_cons, List.mem_cons, Prod.mk.injEq] at hm
    rcases hm with ⟨rfl, rfl⟩ | hm
    · exact h
    · exact pair_zip t hm
theorem pair_imp {α β : Type} {F F' : α → β → Prop} {xs : List α} {ms : List β} (h : Paired F xs ms) (k : ∀ a b, F a b → F' a b) : Paired F' xs ms := L2.Paired.mapP h k
theorem pair_len {α β : Type} {F : α → β → Prop} : ∀ {xs : List α} {ms : List β}, Paired F xs ms → xs.length = ms.length
  | _, _, .nil => rfl
  | _, _, .cons _ t => by simp [pair_len t]
theorem pair_at {α β : Type} {F : α → β → Prop} : ∀ {xs : List α} {ms : List β}, Paired F xs ms → ∀ {i : Nat} {x : α} {m : β}, xs[i]? = some x → ms[i]? = some m → F x m
  | _, _, .cons h t, 0, x, m, h1, h2 => by
    simp at h1 h2; subst h1 h2; exact h
  | _, _, .cons h t, i + 1, x, m, h1, h2 => pair_at t (i := i) (by simpa using h1) (by simpa using h2)
theorem pair_get {α β : Type} {F : α → β → Prop} {xs : List α} {ms : List β} (h : Paired F xs ms) {i : Nat} {m : β} (e : ms[i]? = some m) : ∃ x, xs[i]? = some x ∧ F x m := by
  have hi : i < xs.length := by rw [pair_len h]; exact (List.getElem?_eq_some_iff.mp e).1
  exact ⟨xs[i], by simp [hi], pair_at h (by simp [hi]) e⟩
theorem pair_get' {α β : Type} {F : α → β → Prop} {xs : List α} {ms : List β} (h : Paired F xs ms) {i : Nat} {x : α} (e : xs[i]? = some x) : ∃ m, ms[i]? = some m ∧ F x m := by
  have hi : i < ms.length := by rw [← pair_len h]; exact (List.getElem?_eq_some_iff.mp e).1
  exact ⟨ms[i], by simp [hi], pair_at h e (by simp [hi])⟩
/-- a list of marks at a -/
def Ml (K : PySem.W.Frag) (G H : Hp) (a : Addr) (ms : List Mk) : Prop := ∃ xs, H a = some (.lst xs) ∧ Paired (MarkAt K G) xs ms
theorem Ml.keep {S : Addr → Prop} {G H G' H' : Hp} {a : Addr} {ms : List Mk} (h : Ml K G H a ms) (g : GR K S G H G' H') (n : ¬ S a) : Ml K G' H' a ms := by
  obtain ⟨xs, h1, h2⟩ := h
  exact ⟨xs, g.keep h1 trivial n, pair_imp h2 fun _ _ z => z.mono g.gg⟩
/-! ### in_order -/
theorem key_read {H : Hp} {v : V} {Q : VK} (h : spKey K [v] H Q E0) : tMeth (He.ga K "Mark") "key" (spKey K) [] E0 (tVar 0) tNil (L2.start ["mark"] [v]) H Q := by
  obtain ⟨a, dx, t, m, e, h1, q⟩ := h
  cases e
  exact ⟨_, rfl, a, dx, _, rfl, h1, rfl, a, dx, t, m, rfl, h1, q⟩
def spOrder (K : PySem.W.Frag) : Sp := fun vs H Q _ => ∃ (G : Hp) (a : Addr) (ms : List Mk), vs = [.ref a, .bl false] ∧ Sb G H ∧ LamX.Tabs (Tq K) H ∧ Ml K G H a ms ∧
  ∀ G' H' p ys, GR K S0 G H G' H' → H' p = none → Paired (MarkAt K G') ys (kSort ms) → Q (.ref p) (upd H' p (.lst ys))
abbrev N_in_order : List Str := ["marks", "falling"]
theorem sc_in_order : FnScope N_in_order ["marks", "falling"] (defScope S_in_order) := ⟨rfl, rfl, rfl, by decide +kernel, rfl, by decide +kernel, by decide +kernel⟩
theorem kn_in_order (T : Tx K mg base) : Kd P w K mg base CX0 6 "in_order" ["marks", "falling"] (spOrder K) (.bl false) := by
  refine kd_ofC "in_order" T 28 26 S_in_order (.bl false) rfl rfl sc_in_order (fun vs H Q E h => by obtain ⟨_, _, _, rfl, _⟩ := h; rfl) (fun _ _ _ _ _ _ _ us its hu hi => match us, hu, its, hi with | [_, _], _, [_], _ => ⟨_, rfl, rfl⟩) (fun _ _ _ _ _ _ _ us its hu hi => match us, hu, its, hi with | [_], _, [_], _ => ⟨_, rfl, rfl⟩) (fun cdv hcode A outer s H vs Q E hr h => ⟨_, PSs.nox (pss_cons (ps_if (pt_val (pv 1)) (pss_one (ps_ret pe_never)) pss_nil)
    (pss_one (ps_ret (pe_sortLam (k := 2) (N := ["mark"]) (mk := "mark") (sp := spKey K) T (hr.mono (by decide)) (pv 0) hcode rfl rfl ⟨rfl, rfl, rfl, by decide +kernel, rfl, by decide +kernel, by decide +kernel⟩ (fun _ _ _ _ _ _ => rfl) (fun q cdv A outer s H v Q f hr h => ⟨_, (pe_km0 (kn_Mark_key T) (hr.mono (by decide)) (pv 0)), key_read h⟩))))), ?_⟩)
  obtain ⟨G, a, ms, rfl, sb, tb, ⟨xs, hx, hp⟩, q⟩ := h
  refine ⟨_, rfl, _, rfl, iteF ?_⟩
  refine ⟨_, rfl, tb, ⟨_, rfl⟩, fun H2 eN T2 => ?_⟩
  have g0 := GR.ext (K := K) (S := S0) sb eN T2
  refine ⟨a, G, xs, ms, rfl, g0.sb, SqL.of (g0.keep hx trivial id), pair_len hp, fun i x m G1 H1 hxi hmi g1 => ?_, fun G1 H1 p ys g1 hp0 hp1 hy => ?_⟩
  · obtain ⟨b, dx, t, rfl, h1, h2⟩ := (pair_at hp hxi hmi).mono g1.gg
    exact ⟨b, dx, t, m, rfl, (g1.sb _ _ h1).1, fun r hr0 => ⟨_, (GR.refl g1.sb).new hr0 trivial, r, t, rfl, upd_same, Le.up (g1.sb.no hr0) _ _ h2⟩⟩
  · exact q G1 H1 p ys (g0.trans g1) hp1 (pair_imp hy fun y m z => (pair_zip hp z).mono (g0.trans g1).gg)
end
end K42
set_option Elab.async false
set_option linter.all false
set_option maxRecDepth 100000
set_option maxHeartbeats 4000000
namespace K42
open PySem PySem.Spec PyProof.Rows L2
section
variable {P : Program} {w : World} {K : PySem.W.Frag} {mg : Str → Option Value} {base : Heap}
theorem rise_at {ms : List Mk} (h : Rise ms) {i j : Nat} {a b : Mk} (hij : i < j) (ha : ms[i]? = some a) (hb : ms[j]? = some b) : kLt a b = true := by
  obtain ⟨h1, rfl⟩ := List.getElem?_eq_some_iff.mp ha
  obtain ⟨h2, rfl⟩ := List.getElem?_eq_some_iff.mp hb
  exact List.pairwise_iff_getElem.mp h i j h1 h2 hij
theorem MarkAt.mi {G H : Hp} {v : V} {m : Mk} (h : MarkAt K G v m) (sb : Sb G H) : ∃ a, v = .ref a ∧ MarkIn K H a m := by
  obtain ⟨a, dx, t, rfl, h1, h2⟩ := h
  exact ⟨a, rfl, dx, t, (sb _ _ h1).1, (sb _ _ h2).1⟩
theorem MarkAt.o {G H : Hp} {v : V} {m : Mk} (h : MarkAt K G v m) (sb : Sb G H) : ∃ a dx t, v = .ref a ∧ H a = some (.ins (He.ga K "Mark") dx (flds t m)) := by
  obtain ⟨a, dx, t, rfl, h1, h2⟩ := h
  exact ⟨a, dx, t, rfl, (sb _ _ h1).1⟩
/-- the reading of x.ahead(y) -/
theorem ahead_read {G H : Hp} {x y : V} {m n : Mk} {Q : VK} (sb : Sb G H) (hx : MarkAt K G x m) (hy : MarkAt K G y n) (q : ∀ H', GR K S0 G H G H' → Q (.bl (kLt m n)) H') : spAhead K [x, y] H Q E0 := by
  obtain ⟨a, rfl, h1⟩ := hx.mi sb
  obtain ⟨b, rfl, h2⟩ := hy.mi sb
  exact ⟨G, a, b, m, n, rfl, sb, h1, h2, q⟩
def spFirst (K : PySem.W.Frag) : Sp := fun vs H Q _ => ∃ (G : Hp) (a : Addr) (ms : List Mk), vs = [.ref a] ∧ Sb G H ∧ Ml K G H a ms ∧ ms.length ≤ 1000 ∧ Rise ms ∧ ∀ H', GR K S0 G H G H' → Q .non H'
abbrev N_first_wrong : List Str := ["marks", "at"]
theorem sc_first_wrong : FnScope N_first_wrong ["marks"] (defScope S_first_wrong) := ⟨rfl, rfl, rfl, by decide +kernel, rfl, by decide +kernel, by decide +kernel⟩
theorem kn_first_wrong (T : Tx K mg base) : Kn P w K mg base CX0 5 "first_wrong" ["marks"] (spFirst K) := by
  refine kn_of "first_wrong" T 29 27 S_first_wrong rfl rfl sc_first_wrong (fun vs H Q E h => by obtain ⟨_, _, _, rfl, _⟩ := h; rfl) (fun _ _ _ _ _ _ us hl => match us, hl with | [_], _ => rfl) (fun cdv A outer s H vs Q E hr h => ⟨_, PSs.nox (pss_cons (ps_for PassesOwn.never rfl (pi_range2 (by rfl) T.f_range (pa_cons pe_int (pa_cons (pe_callB call_len_seq (by rfl) T.f_len (by decide +kernel) (pa_cons (pv 0) pa_nil)) pa_nil))) (pg_name (i := 1) sc_first_wrong.nd rfl (Or.inl rfl)) (pss_one (ps_if (pt_not (pt_val (pe_km (kn_Mark_ahead T) (hr.mono (by decide)) (pe_ix ix_list (pv 0) (pe_op op_sub (pv 1) pe_int) (fun _ _ => rfl)) (pa_cons (pe_ix ix_list (pv 0) (pv 1) (fun _ _ => rfl)) pa_nil)))) (pss_one (ps_ret (pv 1))) pss_nil)))
    (pss_one (ps_ret pe_non))), ?_⟩)
  obtain ⟨G, a, ms, rfl, sb, ⟨xs, hx, hp⟩, hz, hr', q⟩ := h
  have hl := pair_len hp
  refine ⟨_, rfl, _, _, rfl, .inl (SqL.of hx), 1, _, rfl, ⟨by decide, by decide, by omega, by omega⟩, ?_⟩
  refine for_range (lo := 1) (fun i σ H' => (∃ v, σ = [some (.ref a), v]) ∧ GR K S0 G H G H') ⟨⟨_, rfl⟩, GR.refl sb⟩ ?_ ?_
  · rintro i σ H1 hi ⟨⟨v, rfl⟩, g1⟩
    have hx1 := g1.keep hx trivial id
    have e0 : ∃ m, ms[i]? = some m := ⟨_, List.getElem?_eq_getElem (by omega)⟩
    have e1 : ∃ m, ms[i + 1]? = some m := ⟨_, List.getElem?_eq_getElem (by omega)⟩
    obtain ⟨m, e0⟩ := e0
    obtain ⟨n, e1⟩ := e1
    obtain ⟨x, x0, hm⟩ := pair_get hp e0
    obtain ⟨y, y0, hn⟩ := pair_get hp e1
    obtain ⟨b, rfl, dx, t, hb, hbt⟩ := hm.mi g1.sb
    obtain ⟨c, rfl, hc⟩ := hn.mi g1.sb
    refine ⟨_, rfl, _, rfl, _, _, rfl, rfl, _, _, _, _, rfl, rfl, SqL.of hx1, ?_, b, dx, _, rfl, hb, rfl, ?_⟩
    · rw [show (1 + (i : Int)) - 1 = ((i : Nat) : Int) by omega]
      exact atI_nat x0
    refine ⟨_, rfl, _, rfl, _, _, _, .ref c, rfl, rfl, SqL.of hx1, ?_, ?_⟩
    · rw [show 1 + (i : Int) = ((i + 1 : Nat) : Int) by omega]
      exact atI_nat y0
    refine ⟨G, b, c, m, n, rfl, g1.sb, ⟨dx, t, hb, hbt⟩, hc, fun H2 g2 => ?_⟩
    rw [rise_at hr' (by omega) e0 e1]
    exact ⟨_, rfl, iteF ⟨⟨_, rfl⟩, g1.trans g2⟩⟩
  · rintro σ H1 ⟨⟨v, rfl⟩, g1⟩
    exact q _ g1
def spNeed (K : PySem.W.Frag) : Sp := fun vs H Q _ => ∃ (G : Hp) (a : Addr) (ms : List Mk), vs = [.ref a] ∧ Sb G H ∧ Ml K G H a ms ∧ ms.length ≤ 1000 ∧ Rise ms ∧ ∀ H', GR K S0 G H G H' → Q .non H'
abbrev N_need_rising : List Str := ["marks", "at"]
theorem sc_need_rising : FnScope N_need_rising ["marks"] (defScope S_need_rising) := ⟨rfl, rfl, rfl, by decide +kernel, rfl, by decide +kernel, by decide +kernel⟩
theorem kn_need_rising (T : Tx K mg base) : Kn P w K mg base CX0 6 "need_rising" ["marks"] (spNeed K) := by
  refine kn_of "need_rising" T 30 28 S_need_rising rfl rfl sc_need_rising (fun vs H Q E h => by obtain ⟨_, _, _, rfl, _⟩ := h; rfl) (fun _ _ _ _ _ _ us hl => match us, hl with | [_], _ => rfl) (fun cdv A outer s H vs Q E hr h => ⟨_, PSs.nox (pss_cons (ps_set (i := 1) sc_need_rising.nd rfl (Or.inl rfl) (pe_fn (kn_first_wrong T) (hr.mono (by decide)) (pa_cons (pv 0) pa_nil)))
    (pss_one (ps_if (pt_cmpR op_notN (pv 1) pe_non (nomark _)) (pss_one ps_never) pss_nil))), ?_⟩)
  obtain ⟨G, a, ms, rfl, sb, hm, hz, hr', q⟩ := h
  refine ⟨_, rfl, G, a, ms, rfl, sb, hm, hz, hr', fun H1 g1 => ?_⟩
  exact ⟨_, rfl, rfl, _, rfl, iteF (q _ g1)⟩
/-- the place of a mark among rising ones -/
structure Plc (ms : List Mk) (m : Mk) (k : Nat) : Prop where
  le : k ≤ ms.length
  lo : ∀ j x, j < k → ms[j]? = some x → kLt x m = true
  hi : ∀ j x, k ≤ j → ms[j]? = some x → kLt x m = false
def spPlace (K : PySem.W.Frag) : Sp := fun vs H Q _ => ∃ (G : Hp) (a : Addr) (v : V) (ms : List Mk) (m : Mk), vs = [.ref a, v] ∧ Sb G H ∧ Ml K G H a ms ∧ ms.length ≤ 1000 ∧ Rise ms ∧ MarkAt K G v m ∧ Ok m ∧ (∀ x ∈ ms, Ok x) ∧
  ∀ k G' H' p, GR K S0 G H G' H' → H' p = some (.tup [.int (k : Nat), .bl (decide (ms[k]? = some m))]) → Plc ms m k → Q (.ref p) H'
abbrev N_place_in : List Str := ["marks", "mark", "low", "high", "middle"]
theorem sc_place_in : FnScope N_place_in ["marks", "mark"] (defScope S_place_in) := ⟨rfl, rfl, rfl, by decide +kernel, rfl, by decide +kernel, by decide +kernel⟩
theorem kn_place_in (T : Tx K mg base) : Kn P w K mg base CX0 7 "place_in" ["marks", "mark"] (spPlace K) := by
  refine kn_of "place_in" T 31 29 S_place_in rfl rfl sc_place_in (fun vs H Q E h => by obtain ⟨_, _, _, _, _, rfl, _⟩ := h; rfl) (fun _ _ _ _ _ _ us hl => match us, hl with | [_, _], _ => rfl) (fun cdv A outer s H vs Q E hr h => ⟨_, PSs.nox (pss_cons (ps_expr (pe_fn (kn_need_rising T) (hr.mono (by decide)) (pa_cons (pv 0) pa_nil)))
    (pss_cons (ps_set (i := 2) sc_place_in.nd rfl (Or.inl rfl) pe_int)
    (pss_cons (ps_set (i := 3) sc_place_in.nd rfl (Or.inl rfl) (pe_callB call_len_seq (by rfl) T.f_len (by decide +kernel) (pa_cons (pv 0) pa_nil)))
    (pss_cons (ps_while PassesOwn.never (pt_cmpR op_lt (pv 2) (pv 3) (nomark _)) (pss_cons (ps_set (i := 4) sc_place_in.nd rfl (Or.inl rfl) (pe_op op_fdiv (pe_op op_add (pv 2) (pv 3)) pe_int))
    (pss_one (ps_if (pt_val (pe_km (kn_Mark_ahead T) (hr.mono (by decide)) (pe_ix ix_list (pv 0) (pv 4) (fun _ _ => rfl)) (pa_cons (pv 1) pa_nil))) (pss_one (ps_set (i := 2) sc_place_in.nd rfl (Or.inl rfl) (pe_op op_add (pv 4) pe_int))) (pss_one (ps_set (i := 3) sc_place_in.nd rfl (Or.inl rfl) (pv 4)))))))
    (pss_one (ps_ret (pe_tup (pa_cons (pv 2) (pa_cons (pe_and (pe_cmpR op_lt (pv 2) (pe_callB call_len_seq (by rfl) T.f_len (by decide +kernel) (pa_cons (pv 0) pa_nil)) (nomark _)) (pe_one (pe_cmpR (op_eqM T hr) (pe_ix ix_list (pv 0) (pv 2) (fun _ _ => rfl)) (pv 1) (nomark _)))) pa_nil))))))))), ?_⟩)
  obtain ⟨G, a, v, ms, m, rfl, sb, hml, hz, hr', hv, okm, oks, q⟩ := h
  obtain ⟨xs, hx, hp⟩ := hml
  have hl := pair_len hp
  refine ⟨_, rfl, G, a, ms, rfl, sb, ⟨xs, hx, hp⟩, hz, hr', fun H1 g1 => ?_⟩
  refine ⟨_, rfl, _, _, rfl, .inl (SqL.of (g1.keep hx trivial id)), ?_⟩
  refine ⟨fun d σ H' => ∃ (lo hi : Nat) (w : Option V), σ = [some (.ref a), some v, some (.int lo), some (.int hi), w] ∧ d = hi - lo ∧ lo ≤ hi ∧ hi ≤ ms.length ∧ GR K S0 G H G H' ∧
    (∀ j x, j < lo → ms[j]? = some x → kLt x m = true) ∧ (∀ j x, hi ≤ j → ms[j]? = some x → kLt x m = false), ⟨ms.length, 0, ms.length, none, by rw [hl]; rfl, rfl, Nat.zero_le _, Nat.le_refl _, g1, fun j x hj => absurd hj (by omega), fun j x hj e => ?_⟩, ?_⟩
  · exact absurd (List.getElem?_eq_some_iff.mp e).1 (by omega)
  rintro d σ H2 ⟨lo, hi, w, rfl, rfl, hlh, hh, g2, blo, bhi⟩
  have hx2 := g2.keep hx trivial id
  refine ⟨_, rfl, _, rfl, _, _, rfl, rfl, _, rfl, ?_⟩
  by_cases hlt : lo < hi
  · refine ifT (by omega) ?_
    refine ⟨fun σ' H' => ∃ (d' : Nat), d' < hi - lo ∧ ∃ (lo hi : Nat) (w : Option V), σ' = [some (.ref a), some v, some (.int lo), some (.int hi), w] ∧ d' = hi - lo ∧ lo ≤ hi ∧ hi ≤ ms.length ∧ GR K S0 G H G H' ∧
      (∀ j x, j < lo → ms[j]? = some x → kLt x m = true) ∧ (∀ j x, hi ≤ j → ms[j]? = some x → kLt x m = false), fun σ' H' z => z, ?_⟩
    refine ⟨_, rfl, _, rfl, _, _, rfl, rfl, _, _, rfl, rfl, ⟨by decide, by decide⟩, ?_⟩
    have em : ((lo : Int) + (hi : Int)) / 2 = (((lo + hi) / 2 : Nat) : Int) := by omega
    generalize hmid : (lo + hi) / 2 = mid at em
    have e0 : ∃ n, ms[mid]? = some n := ⟨_, List.getElem?_eq_getElem (by omega)⟩
    obtain ⟨n, e0⟩ := e0
    obtain ⟨x, x0, hn⟩ := pair_get hp e0
    obtain ⟨b, rfl, dx, t, hb, hbt⟩ := hn.mi g2.sb
    obtain ⟨c, rfl, hc⟩ := hv.mi g2.sb
    refine ⟨_, rfl, _, rfl, _, _, _, .ref b, rfl, rfl, SqL.of hx2, ?_, b, dx, _, rfl, hb, rfl, ?_⟩
    · show atI xs (((lo : Int) + (hi : Int)) / 2) = _
      rw [em]
      exact atI_nat x0
    refine ⟨_, rfl, G, b, c, n, m, rfl, g2.sb, ⟨dx, t, hb, hbt⟩, hc, fun H3 g3 => ?_⟩
    refine ⟨_, rfl, ifB (fun ht => ?_) fun hf => ?_⟩
    · refine ⟨_, rfl, _, _, rfl, rfl, ?_⟩
      refine ⟨hi - (mid + 1), by omega, mid + 1, hi, some (.int mid), ?_, rfl, by omega, hh, g2.trans g3, fun j x hj e => ?_, bhi⟩
      · show [some (V.ref a), some (V.ref c), some (V.int (((lo : Int) + (hi : Int)) / 2 + 1)), some (V.int hi), some (V.int (((lo : Int) + (hi : Int)) / 2))] = _
        rw [em]; rfl
      · by_cases hj2 : j < mid
        · exact kLt_tr (rise_at hr' hj2 e e0) ht
        · rw [show j = mid by omega, e0] at e
          cases e
          exact ht
    · refine ⟨_, rfl, ?_⟩
      refine ⟨mid - lo, by omega, lo, mid, some (.int mid), ?_, rfl, by omega, by omega, g2.trans g3, blo, fun j x hj e => ?_⟩
      · show [some (V.ref a), some (V.ref c), some (V.int lo), some (V.int (((lo : Int) + (hi : Int)) / 2)), some (V.int (((lo : Int) + (hi : Int)) / 2))] = _
        rw [em]
      · by_cases hj2 : mid < j
        · cases z : kLt x m with
          | false => rfl
          | true => have := kLt_tr (rise_at hr' hj2 e0 e) z; rw [hf] at this; cases this
        · rw [show j = mid by omega, e0] at e
          cases e
          exact hf
  · refine ifF (by omega) ?_
    have elh : lo = hi := by omega
    subst elh
    have pl : Plc ms m lo := ⟨hh, blo, bhi⟩
    have fin : ∀ (b : Bool), b = decide (ms[lo]? = some m) → [V.int (lo : Int), V.bl b].length ≤ sizeLine ∧ ∀ p, H2 p = none → Q (.ref p) (upd H2 p (.tup [V.int (lo : Int), V.bl b])) := by
      rintro b rfl
      exact ⟨size_of (n := 2) (by decide), fun p hp0 => q lo G _ p (g2.newM hp0) upd_same pl⟩
    refine ⟨_, rfl, _, rfl, _, rfl, _, _, rfl, .inl (SqL.of hx2), _, _, rfl, rfl, _, rfl, ifC (fun h1 => ?_) fun h1 => ?_⟩
    · obtain ⟨n, e0⟩ : ∃ n, ms[lo]? = some n := ⟨_, List.getElem?_eq_getElem (by omega)⟩
      obtain ⟨x, x0, hn⟩ := pair_get hp e0
      obtain ⟨b, rfl, hb⟩ := hn.mi g2.sb
      obtain ⟨c, rfl, hc⟩ := hv.mi g2.sb
      refine ⟨_, rfl, _, rfl, _, _, _, .ref b, rfl, rfl, SqL.of hx2, atI_nat x0, _, rfl, b, c, n, m, rfl, rfl, hb, hc, ?_⟩
      refine fin _ (decide_eq_decide.mpr ?_)
      rw [e0]
      exact ⟨fun e => by rw [text_inj (oks n (List.mem_of_getElem? e0)) okm e], fun e => by injection e with e; rw [e]⟩
    · refine fin _ ?_
      rw [decide_eq_false]
      intro e
      have := (List.getElem?_eq_some_iff.mp e).1
      exact h1 (by omega)
end
end K42
set_option Elab.async false
set_option linter.all false
set_option maxRecDepth 100000
set_option maxHeartbeats 4000000
namespace K42
open PySem PySem.Spec PyProof.Rows L2
set_option maxHeartbeats 1000000 in
/-- enumerate(v) of whatever iter(v) makes o -/
theorem meets_enumB1 {v : Value} {o : Obj} {H : Heap → Prop} (B : Begins v o H) : Meets (Builtin.«enumerate.__new__» ⟨[.type "enumerate", v], []⟩) (fun _ R s => H s.heap ∧
      R (.ok (.ret (.ref (s.heap.push o).objs.size))) { s with heap := (s.heap.push o).push { cls := .type "enumerate", data := .fields #[.none, .bool false, .ref s.heap.objs.size, rawInt 0, .none, .none] } }) :=
  .of_wp fun prog w A R s h => by
    obtain ⟨hp, g, d, tk, os⟩ := s
    obtain ⟨k1, k⟩ := h
    have isE := sub_enumerate
    have it1 : ∀ {A' : Around} {E : Value → Shared → Prop} {Q : Value → Shared → Prop}, Q (.ref hp.objs.size) ⟨hp.push o, g, d, tk, os⟩ → wpAny (model prog w) A' (pyIter v) Q E ⟨hp, g, d, tk, os⟩ :=
      fun z => B.iter prog w _ _ ⟨hp, g, d, tk, os⟩ _ k1 z
    wp_walk using it1
    refine wpAny_stack_any fun st => wpAny_pure ?_
    split
    · rename_i c _ _ _ _ _
      cases (c == Value.type "enumerate")
      · wp_walk using it1
        exact ⟨_, rfl, k⟩
      · wp_walk using it1
        exact ⟨_, rfl, k⟩
    · wp_walk using it1
      exact ⟨_, rfl, k⟩
section
variable {prog : Program} {w : World} {A : Around} {E : Value → Shared → Prop} {s : Shared}
theorem enum_of1 {v : Value} {o : Obj} {H : Heap → Prop} {Q : Value → Shared → Prop} (B : Begins v o H) (k1 : H s.heap)
    (k : ∀ h', IsEnum h' (s.heap.objs.size + 1) s.heap.objs.size 0 .none → h'.get? s.heap.objs.size = some o → (∀ b o, s.heap.get? b = some o → h'.get? b = some o) → Q (.ref (s.heap.objs.size + 1)) { s with heap := h' }) :
    wpAny (model prog w) A (call (.type "enumerate") [v]) Q E s := by
  refine callType_new F.called_enumerate (by decide) (F.typeCall_enumerate_1 _) (F.newCall_enumerate_1 _) (fun obj => F.args_object_init_2 obj _) F.entry_enumerate_new (meets_enumB1 B) ⟨k1, ?_⟩
  have z1 : (s.heap.push o).objs.size = s.heap.objs.size + 1 := Heap.size_push ..
  show _ ∧ _
  rw [z1]
  have e1 : IsEnum ((s.heap.push o).push { cls := .type "enumerate", data := .fields #[.none, .bool false, .ref s.heap.objs.size, rawInt 0, .none, .none] }) (s.heap.objs.size + 1) s.heap.objs.size 0 .none := by
    have e2 := Heap.get?_push_size (s.heap.push o) (o := { cls := .type "enumerate", data := .fields #[.none, .bool false, .ref s.heap.objs.size, rawInt 0, .none, .none] }) rfl
    rw [z1] at e2
    exact e2
  exact ⟨⟨_, e1, rfl⟩, k _ e1 (Heap.get?_push_of_some _ (Heap.get?_push_size _ B.free)) fun b o x => Heap.get?_push_of_some _ (Heap.get?_push_of_some _ x)⟩
end
/-- enumerate(tuple): each item in a new pair -/
def Itet (K : PySem.W.Frag) (a : Addr) : It :=
  ⟨fun i H => ∃ (xs : List V) (x : V), SqT K H a xs ∧ xs[i]? = some x, fun i H v H' => ∃ T x, v = .ref T ∧ H T = none ∧ H' = upd H T (.tup [.int (i : Nat), x]) ∧ ∀ xs, SqT K H a xs → xs[i]? = some x, fun i H => ∃ xs : List V, SqT K H a xs ∧ xs.length ≤ i⟩
theorem turn_enumT {P : Program} {w : World} {K : PySem.W.Frag} {elts : List Expr} {kk : Nat} {tpos : Pos} (a e it : Addr) (hai : a ≠ it) (hea : e ≠ a) :
    Turn P w K (.Tuple elts kk tpos) (Itet K a) [e, it] e (fun i h => (∃ old, IsEnum h e it ((i : Nat) : Int) old) ∧ h.IsTupleIter it a i ∧ e ≠ it) where
  mem := by simp
  obj := fun i h st b hb => by
    obtain ⟨⟨old, he⟩, ⟨o, ho, hc, hd⟩, _⟩ := st
    have e' : b = e ∨ b = it := by simpa using hb
    rcases e' with z | z
    · rw [z]; exact ⟨_, he, fun v q => nomatch q⟩
    · rw [z]; exact ⟨o, ho, fun v q => by rw [hd] at q; cases q⟩
  keep := fun i h h' st k => by
    obtain ⟨⟨old, he⟩, hi, hne⟩ := st
    exact ⟨⟨old, k e (by simp) _ he⟩, hi.at fun o q => k it (by simp) o q, hne⟩
  item := by
    intro X hP hw hK hc i pins s σ H E I hf st hg
    subst hP hw hK
    obtain ⟨⟨old, he⟩, hit, hne⟩ := st
    obtain ⟨xs, x, hq, hx⟩ := hg
    obtain ⟨its, rv, p, hz⟩ := I.tuple hq
    obtain ⟨u, hu, ru⟩ := rv.get hx
    have p' : s.heap.IsTuple a its.toArray := p
    have lE : e < s.heap.objs.size := Heap.lt_size he
    have lI : it < s.heap.objs.size := by
      obtain ⟨_, q, _⟩ := hit
      exact Heap.lt_size q
    have hi : i < its.toArray.size := by
      have := (List.getElem?_eq_some_iff.mp hu).1
      simpa using this
    refine wpAny_pyNext_enum_itemD (Draws.tuple (A := X.A.in1) (I.ok.hd hc) it a hai its.toArray) he ⟨hit, p'⟩ hi hne (fun z => by
      rcases List.mem_cons.mp z with z | z
      · exact hne z
      · exact hea (by simpa using z)) fun y h' tk hy ho st' hT _ hk => ?_
    have ey : y = u := by
      rw [show its.toArray[i]? = some u by simpa using hu] at hy
      injection hy with hy
      exact hy.symm
    subst ey
    refine ⟨_, rfl, wpAny_letOwnedTupleGo_enum (s := { s with heap := h', toks := tk + 1 }) ho fun h'' he' sb => ?_⟩
    have hT2 : h''.get? s.heap.objs.size = some { cls := .type "tuple", data := .seq #[.int i tk, y] } := (sb.2 _ (Nat.ne_of_gt lE)).trans hT
    have new : ObjOk X.prog X.w (upd H s.heap.objs.size (.tup [.int (i : Nat), x])) h'' s.heap.objs.size (.tup [.int (i : Nat), x]) := ⟨by show 2 ≤ sizeLine; decide, [.int i tk, y], .cons ⟨_, rfl⟩ (.cons ru .nil), ⟨_, hT2, rfl, _, rfl⟩⟩
    have I1 : Inv X pins σ (upd H s.heap.objs.size (.tup [.int (i : Nat), x])) { s with heap := h'', toks := tk + 1 } :=
      I.turnedNew (ch := [e, it]) (fun b ob hb q => (sb.2 b (fun z => hb (by simp [z]))).trans (hk b ob (fun z => hb (by simp [z])) (fun z => hb (by simp [z])) q)) hf (Nat.le_refl _) new
    refine ⟨.ref s.heap.objs.size, _, I1, rfl, ⟨_, x, rfl, I.hok.fresh (Nat.le_refl _), rfl, fun ys hy => by rw [I.tuple_inj hy hq]; exact hx⟩, ⟨⟨y, ?_⟩, st'.1.at fun o q => (sb.2 it (Ne.symm hne)).trans q, hne⟩, fun b hb => ?_⟩
    · rw [show ((i + 1 : Nat) : Int) = (i : Int) + 1 by omega]
      exact he'
    · have hb' : b < s.heap.objs.size := by
        have e' : b = e ∨ b = it := by simpa using hb
        rcases e' with z | z
        · rw [z]; exact lE
        · rw [z]; exact lI
      rw [upd_ne (Nat.ne_of_lt hb')]
      exact (hf b hb).1
  done := by
    intro X hP hw hK hc i pins s σ H E I hf st hg
    subst hP hw hK
    obtain ⟨⟨old, he⟩, hit, hne⟩ := st
    obtain ⟨xs, hq, hx⟩ := hg
    obtain ⟨its, rv, p, hz⟩ := I.tuple hq
    obtain ⟨f0, f1, f2, f3, f4, f5⟩ := hf it (by simp)
    have p' : s.heap.IsTuple a its.toArray := p
    have rl := rv.length
    have hT : s.TypeIs (.ref e) "enumerate" := ⟨_, he, rfl⟩
    unfold pyNext
    refine wpAny_bind (wpAny_attempt (wpAny_callSpecial?_slot (name := Str.ofString "__next__") hT F.slot_enumerate_next (wpAny_call_entry F.slot_enumerate_next hT F.entry_enumerate_next ?_ (F.args_enumerate_next_1 _))))
    show wpAny _ _ (field (.ref e) 2 >>= _) _ _ _
    refine wpAny_bind (wpAny_field he rfl (x := .ref it) rfl ?_)
    refine wpAny_bind (PySem.wpAny_nextOf_tuple_end (I.ok.hd hc) hit p' (by simp; omega) fun h' x he' hx' => ?_)
    obtain ⟨o, ho, hoc⟩ := hx'
    refine wpAny_bind (wpAny_isInstance (T := "StopIteration") (b := true) ⟨o, ho, hoc⟩ isSubtype_stop ?_)
    exact wpAny_pure ⟨rfl, I.turned (t' := s.toks) (fun b o hb q => he' b o hb q) f0 f1 f3 f4 f5⟩
  self := fun A i s Q E st h => by
    obtain ⟨⟨_, he⟩, _⟩ := st
    exact wpAny_pyIter_enum he h
def iEnumT (K : PySem.W.Frag) (ta : TA) : TI := fun σ H R => ta σ H fun vs H1 => ∃ a xs, vs = [.ref a] ∧ SqT K H1 a xs ∧ R (Itet K a) H1
theorem pi_enumT {X : Cx} {e : Expr} {ta : TA} {p pos tpos : Pos} {elts : List Expr} {kk : Nat} (hg : Gl X "enumerate") (hm : X.mg "enumerate" = none) (ha : PA X [e] ta) (hs : starEach [e] X.env = [(false, eval e X.env)] := by rfl) :
    PI X (.Tuple elts kk tpos) (.Call (.Name "enumerate" p) [e] [] pos) (iEnumT X.K ta) := by
  refine ⟨fun pins s σ H R I h => ?_⟩
  refine Call_ (ld_blt I hg hm boot_enumerate (PyProof.Rows.callWith_type1 (thn (ha.run pos pins s σ H _ I h) fun us s1 ⟨vs, H1, I1, r1, q1⟩ => ?_) hs rfl))
  obtain ⟨a, xs, ex, hq, q⟩ := q1
  subst ex
  cases r1 with
  | cons r rr =>
    cases rr
    cases r
    obtain ⟨its, rv, p', hz⟩ := I1.tuple hq
    have pT : s1.heap.IsTuple a its.toArray := p'
    have la : a < s1.heap.objs.size := by
      obtain ⟨o, ho, _⟩ := pT
      exact Heap.lt_size ho
    refine enum_of1 (begins_tuple a its.toArray) pT fun h' he hit hk => wpAny_pyIter_enum he ?_
    have I2 : Inv X pins σ H1 { s1 with heap := h' } := I1.kept (t' := s1.toks) hk
    refine ⟨s1.heap.objs.size + 1, [s1.heap.objs.size + 1, s1.heap.objs.size], _, _, H1, rfl, I2, turn_enumT a (s1.heap.objs.size + 1) s1.heap.objs.size (Nat.ne_of_lt la) (Nat.ne_of_gt (Nat.lt_succ_of_lt la)), ⟨⟨.none, he⟩, ⟨_, hit, rfl, rfl⟩, Nat.succ_ne_self _⟩, fun b hb => ?_, q⟩
    have e' : b = s1.heap.objs.size + 1 ∨ b = s1.heap.objs.size := by simpa using hb
    have hle : s1.heap.objs.size ≤ b := by
      rcases e' with z | z
      · rw [z]; exact Nat.le_add_right _ _
      · rw [z]; exact Nat.le_refl _
    exact I1.fpOk hle (I1.hok.fresh hle)
theorem walk_enumT {K : PySem.W.Frag} {a : Addr} {xs : List V} : Walk (Itet K a) xs.length (fun H => SqT K H a xs) (YPair (fun i => some (.int (i : Nat))) (fun i => xs[i]?)) := by
  refine ⟨fun i _ hi q => ⟨xs, xs[i], q, by simp [hi]⟩, fun _ q => ⟨xs, q, Nat.le_refl _⟩, fun i H v H' _ q y => ?_⟩
  obtain ⟨T, x, h1, h2, h3, h4⟩ := y
  exact ⟨T, .int (i : Nat), x, h1, h2, h3, rfl, h4 xs q⟩
end K42
set_option Elab.async false
set_option linter.all false
set_option maxRecDepth 100000
set_option maxHeartbeats 4000000
namespace K42
open PySem PySem.Spec PyProof.Rows L2
open TL (numL)
/-! ### cuts -/
def begOk (l : List Nat) (k : Nat) : Bool := k == 0 || l[k - 1]? != some 48
def begs (l : List Nat) (least : Nat) : List (List Nat) := ((List.range' least (l.length + 1 - least)).filter (begOk l)).map l.take
def mcutsAt (ms : List (List Nat)) (i : Nat) : List (List (List Nat)) := match ms[i]? with
  | some (a :: r) => (begs r 1).map fun f => ms.take i ++ [a :: f]
  | _ => []
def mcuts (ms : List (List Nat)) : List (List (List Nat)) := [] :: (List.range ms.length).flatMap (mcutsAt ms)
def orN (y : Option Nat) : List (Option Nat) := none :: (match y with
  | none => []
  | some n => [some n])
def rawC (m : Mk) (p : List Nat) (ms : List (List Nat)) (y : Option Nat) : List Mk := (orN m.c).map fun c => ⟨m.l, m.n, p, ms, y, c⟩
def rawY (m : Mk) (p : List Nat) (ms : List (List Nat)) : List Mk := (orN m.y).flatMap (rawC m p ms)
def rawM (m : Mk) (p : List Nat) : List Mk := (mcuts m.ms).flatMap (rawY m p)
def rawCuts (m : Mk) : List Mk := (begs m.p 0).flatMap (rawM m)
def cuts (m : Mk) : List Mk := kSort (rawCuts m)
theorem begs_mem {l f : List Nat} {a : Nat} : f ∈ begs l a ↔ ∃ k, a ≤ k ∧ k ≤ l.length ∧ begOk l k = true ∧ f = l.take k := by
  simp only [begs, List.mem_map, List.mem_filter, List.mem_range'_1]
  constructor
  · rintro ⟨k, ⟨⟨h1, h2⟩, h3⟩, rfl⟩
    exact ⟨k, h1, by omega, h3, rfl⟩
  · rintro ⟨k, h1, h2, h3, rfl⟩
    exact ⟨k, ⟨⟨h1, by omega⟩, h3⟩, rfl⟩
theorem begs_len (l : List Nat) (a : Nat) : (begs l a).length ≤ l.length + 1 - a := by
  unfold begs
  rw [List.length_map]
  exact Nat.le_trans (List.length_filter_le _ _) (by rw [List.length_range']; exact Nat.le_refl _)
theorem begs_short {l f : List Nat} {a : Nat} (h : f ∈ begs l a) : f.length ≤ l.length := by
  obtain ⟨k, _, _, _, rfl⟩ := begs_mem.mp h
  rw [List.length_take]; omega
theorem begs_figs {l f : List Nat} (hl : figs l = true) (h : f ∈ begs l 1) : figs f = true := by
  obtain ⟨k, h1, h2, h3, rfl⟩ := begs_mem.mp h
  obtain ⟨f1, f2, f3⟩ := figs_all hl
  refine figs_of (fun e => ?_) (fun c hc => f2 c (List.mem_of_mem_take hc)) ?_
  · have := congrArg List.length e
    rw [List.length_take, List.length_nil] at this
    omega
  · simp only [begOk, Bool.or_eq_true, beq_iff_eq, bne_iff_ne] at h3
    rw [List.getLast?_eq_getElem?, List.length_take, Nat.min_eq_left h2, List.getElem?_take_of_lt (by omega)]
    exact h3.resolve_left (by omega)
theorem begs0 {l f : List Nat} (hl : l = [] ∨ figs l = true) (h : f ∈ begs l 0) : f = [] ∨ figs f = true := by
  obtain ⟨k, h1, h2, h3, rfl⟩ := begs_mem.mp h
  rcases Nat.eq_zero_or_pos k with rfl | hk
  · exact .inl (List.take_zero)
  · rcases hl with rfl | hl
    · exact .inl (by simp)
    · exact .inr (begs_figs hl (begs_mem.mpr ⟨k, hk, h2, h3, rfl⟩))
theorem begs_self {l : List Nat} {a : Nat} (ha : a ≤ l.length) (hl : l = [] ∨ figs l = true) : l ∈ begs l a := by
  refine begs_mem.mpr ⟨l.length, ha, Nat.le_refl _, ?_, by rw [List.take_length]⟩
  simp only [begOk, Bool.or_eq_true, beq_iff_eq, bne_iff_ne]
  rcases hl with rfl | hl
  · exact .inl rfl
  · right
    obtain ⟨f1, f2, f3⟩ := figs_all hl
    rw [← List.getLast?_eq_getElem?]; exact f3
theorem nodup_map_on {α β : Type} {f : α → β} : ∀ {l : List α}, l.Nodup → (∀ a ∈ l, ∀ b ∈ l, f a = f b → a = b) → (l.map f).Nodup
  | [], _, _ => by simp
  | a :: l, h, hf => by
    rw [List.nodup_cons] at h
    rw [List.map_cons, List.nodup_cons]
    refine ⟨fun hm => ?_, nodup_map_on h.2 fun x hx y hy e => hf x (.tail _ hx) y (.tail _ hy) e⟩
    obtain ⟨b, hb, e⟩ := List.mem_map.mp hm
    have := hf b (.tail _ hb) a (.head _) e
    exact h.1 (this ▸ hb)
theorem nodup_flat {α β : Type} {f : α → List β} : ∀ {l : List α}, l.Nodup → (∀ a ∈ l, (f a).Nodup) → (∀ a ∈ l, ∀ b ∈ l, ∀ x, x ∈ f a → x ∈ f b → a = b) → (l.flatMap f).Nodup
  | [], _, _, _ => by simp
  | a :: l, h, h1, h2 => by
    rw [List.nodup_cons] at h
    rw [List.flatMap_cons, List.nodup_append]
    refine ⟨h1 a (.head _), nodup_flat h.2 (fun b hb => h1 b (.tail _ hb)) fun x hx y hy z => h2 x (.tail _ hx) y (.tail _ hy) z, ?_⟩
    intro x hx y hy e
    subst e
    obtain ⟨b, hb, hxb⟩ := List.mem_flatMap.mp hy
    have := h2 a (.head _) b (.tail _ hb) x hx hxb
    exact h.1 (this ▸ hb)
theorem begs_nodup (l : List Nat) (a : Nat) : (begs l a).Nodup := by
  unfold begs
  refine nodup_map_on (List.Nodup.sublist List.filter_sublist List.nodup_range') fun x hx y hy e => ?_
  have h1 := List.mem_range'_1.mp (List.mem_filter.mp hx).1
  have h2 := List.mem_range'_1.mp (List.mem_filter.mp hy).1
  have := congrArg List.length e
  rw [List.length_take, List.length_take] at this
  omega
theorem mcutsAt_mem {ms x : List (List Nat)} {i : Nat} : x ∈ mcutsAt ms i ↔ ∃ a r f, ms[i]? = some (a :: r) ∧ f ∈ begs r 1 ∧ x = ms.take i ++ [a :: f] := by
  unfold mcutsAt
  split
  · rename_i a r e
    rw [List.mem_map]
    constructor
    · rintro ⟨f, hf, rfl⟩
      exact ⟨a, r, f, e, hf, rfl⟩
    · rintro ⟨a', r', f, e', hf, rfl⟩
      rw [e] at e'
      injection e' with e'
      injection e' with e1 e2
      subst e1 e2
      exact ⟨f, hf, rfl⟩
  · rename_i h
    constructor
    · intro hx; cases hx
    · rintro ⟨a, r, f, e, _⟩
      exact (h a r e).elim
theorem mcuts_mem {ms x : List (List Nat)} : x ∈ mcuts ms ↔ x = [] ∨ ∃ i a r f, ms[i]? = some (a :: r) ∧ f ∈ begs r 1 ∧ x = ms.take i ++ [a :: f] := by
  unfold mcuts
  rw [List.mem_cons, List.mem_flatMap]
  constructor
  · rintro (h | ⟨i, _, h⟩)
    · exact .inl h
    · exact .inr ⟨i, mcutsAt_mem.mp h⟩
  · rintro (h | ⟨i, h⟩)
    · exact .inl h
    · refine .inr ⟨i, List.mem_range.mpr ?_, mcutsAt_mem.mpr h⟩
      obtain ⟨a, r, f, e, _⟩ := h
      exact (List.getElem?_eq_some_iff.mp e).1
theorem mcutsAt_len {ms : List (List Nat)} (hz : ∀ k ∈ ms, k.length ≤ 1000) (i : Nat) : (mcutsAt ms i).length ≤ 1000 := by
  unfold mcutsAt
  split
  · rename_i a r e
    rw [List.length_map]
    have h1 := begs_len r 1
    have h2 := hz _ (List.mem_of_getElem? e)
    rw [List.length_cons] at h2
    omega
  · exact Nat.zero_le _
theorem flat_len {α β : Type} {f : α → List β} {c : Nat} : ∀ (l : List α), (∀ a ∈ l, (f a).length ≤ c) → (l.flatMap f).length ≤ l.length * c
  | [], _ => by simp
  | a :: l, h => by
    rw [List.flatMap_cons, List.length_append, List.length_cons, Nat.succ_mul]
    have h1 := h a (.head _)
    have h2 := flat_len l fun b hb => h b (.tail _ hb)
    omega
theorem mcuts_len {ms : List (List Nat)} (h3 : ms.length ≤ 3) (hz : ∀ k ∈ ms, k.length ≤ 1000) : (mcuts ms).length ≤ 3001 := by
  unfold mcuts
  rw [List.length_cons]
  have := flat_len (List.range ms.length) fun i _ => mcutsAt_len hz i
  rw [List.length_range] at this
  omega
theorem mcuts_part {ms x : List (List Nat)} (h : x ∈ mcuts ms) : x.length ≤ ms.length ∧ ∀ (hm : ∀ k ∈ ms, mkr k = true), (∀ k ∈ x, mkr k = true) ∧ ∀ k ∈ x, ∃ k' ∈ ms, k.length ≤ k'.length := by
  rcases mcuts_mem.mp h with rfl | ⟨i, a, r, f, e, hf, rfl⟩
  · exact ⟨Nat.zero_le _, fun _ => ⟨(fun k hk => nomatch hk), (fun k hk => nomatch hk)⟩⟩
  · have hi := (List.getElem?_eq_some_iff.mp e).1
    have hm := List.mem_of_getElem? e
    refine ⟨by rw [List.length_append, List.length_take]; simp; omega, fun hk => ⟨fun k hx => ?_, fun k hx => ?_⟩⟩
    · rcases List.mem_append.mp hx with hx | hx
      · exact hk k (List.mem_of_mem_take hx)
      · rw [List.mem_singleton.mp hx]
        have q := hk _ hm
        simp only [mkr, Bool.and_eq_true] at q ⊢
        exact ⟨q.1, begs_figs q.2 hf⟩
    · rcases List.mem_append.mp hx with hx | hx
      · exact ⟨k, List.mem_of_mem_take hx, Nat.le_refl _⟩
      · refine ⟨_, hm, ?_⟩
        rw [List.mem_singleton.mp hx]
        have := begs_short hf
        simp
        omega
theorem mcuts_self {ms : List (List Nat)} (hm : ∀ k ∈ ms, mkr k = true) : ms ∈ mcuts ms := by
  refine mcuts_mem.mpr ?_
  rcases List.eq_nil_or_concat ms with rfl | ⟨t, k, rfl⟩
  · exact .inl rfl
  · right
    have hk := hm k (by simp)
    obtain ⟨a, r, rfl, ha, hr⟩ := mkr_cons hk
    refine ⟨t.length, a, r, r, by simp, begs_self ?_ (.inr hr), by simp⟩
    have := (figs_all hr).1
    cases r with
    | nil => exact (this rfl).elim
    | cons _ _ => simp
theorem mcuts_nodup (ms : List (List Nat)) : (mcuts ms).Nodup := by
  unfold mcuts
  rw [List.nodup_cons]
  refine ⟨fun h => ?_, nodup_flat List.nodup_range (fun i _ => ?_) fun i hi j hj x hx hy => ?_⟩
  · obtain ⟨i, _, h⟩ := List.mem_flatMap.mp h
    obtain ⟨a, r, f, _, _, e⟩ := mcutsAt_mem.mp h
    have := congrArg List.length e
    simp at this
  · unfold mcutsAt
    split
    · refine nodup_map_on (begs_nodup _ _) fun x _ y _ e => ?_
      have := List.append_cancel_left e
      injection this with this
      injection this
    · simp
  · obtain ⟨a, r, f, e1, _, x1⟩ := mcutsAt_mem.mp hx
    obtain ⟨a', r', f', e2, _, x2⟩ := mcutsAt_mem.mp hy
    have h1 := (List.getElem?_eq_some_iff.mp e1).1
    have h2 := (List.getElem?_eq_some_iff.mp e2).1
    rw [x1] at x2
    have := congrArg List.length x2
    rw [List.length_append, List.length_append, List.length_take, List.length_take] at this
    simp at this
    omega
theorem glue_app (a b : List (List Nat)) : glue (a ++ b) = glue a ++ glue b := by unfold glue; rw [List.flatMap_append]
theorem mcuts_glue {ms x : List (List Nat)} (h : x ∈ mcuts ms) : (glue x).length ≤ (glue ms).length := by
  rcases mcuts_mem.mp h with rfl | ⟨i, a, r, f, e, hf, rfl⟩
  · exact Nat.zero_le _
  · obtain ⟨hi, e'⟩ := List.getElem?_eq_some_iff.mp e
    have es : ms = ms.take i ++ ((a :: r) :: ms.drop (i + 1)) := by
      conv => lhs; rw [← List.take_append_drop i ms]
      rw [List.drop_eq_getElem_cons hi, e']
    have q := begs_short hf
    conv => rhs; rw [es]
    rw [glue_app, glue_app, List.length_append, List.length_append, glue_cons, glue_cons, glue_nil]
    simp
    omega
theorem orN_mem {y z : Option Nat} : z ∈ orN y ↔ z = none ∨ z = y := by
  cases y with
  | none => simp [orN]
  | some n => simp [orN]
theorem orN_nodup (y : Option Nat) : (orN y).Nodup := by cases y <;> simp [orN]
theorem orN_len (y : Option Nat) : (orN y).length ≤ 2 := by cases y <;> simp [orN]
theorem rawC_mem {m x : Mk} {p : List Nat} {ms : List (List Nat)} {y : Option Nat} : x ∈ rawC m p ms y ↔ ∃ c, (c = none ∨ c = m.c) ∧ x = ⟨m.l, m.n, p, ms, y, c⟩ := by
  unfold rawC
  rw [List.mem_map]
  constructor
  · rintro ⟨c, hc, rfl⟩; exact ⟨c, orN_mem.mp hc, rfl⟩
  · rintro ⟨c, hc, rfl⟩; exact ⟨c, orN_mem.mpr hc, rfl⟩
theorem rawY_mem {m x : Mk} {p : List Nat} {ms : List (List Nat)} : x ∈ rawY m p ms ↔ ∃ y c, (y = none ∨ y = m.y) ∧ (c = none ∨ c = m.c) ∧ x = ⟨m.l, m.n, p, ms, y, c⟩ := by
  unfold rawY
  rw [List.mem_flatMap]
  constructor
  · rintro ⟨y, hy, h⟩
    obtain ⟨c, hc, e⟩ := rawC_mem.mp h
    exact ⟨y, c, orN_mem.mp hy, hc, e⟩
  · rintro ⟨y, c, hy, hc, e⟩
    exact ⟨y, orN_mem.mpr hy, rawC_mem.mpr ⟨c, hc, e⟩⟩
theorem raw_mem {m x : Mk} : x ∈ rawCuts m ↔ x.l = m.l ∧ x.n = m.n ∧ x.p ∈ begs m.p 0 ∧ x.ms ∈ mcuts m.ms ∧ (x.y = none ∨ x.y = m.y) ∧ (x.c = none ∨ x.c = m.c) := by
  unfold rawCuts
  rw [List.mem_flatMap]
  constructor
  · rintro ⟨p, hp, h⟩
    obtain ⟨ms, hm, h⟩ := List.mem_flatMap.mp h
    obtain ⟨y, c, hy, hc, rfl⟩ := rawY_mem.mp h
    exact ⟨rfl, rfl, hp, hm, hy, hc⟩
  · rintro ⟨h1, h2, h3, h4, h5, h6⟩
    refine ⟨x.p, h3, List.mem_flatMap.mpr ⟨x.ms, h4, rawY_mem.mpr ⟨x.y, x.c, h5, h6, ?_⟩⟩⟩
    rw [← h1, ← h2]
theorem raw_nodup (m : Mk) : (rawCuts m).Nodup := by
  refine nodup_flat (begs_nodup _ _) (fun p _ => nodup_flat (mcuts_nodup _) (fun ms _ => nodup_flat (orN_nodup _) (fun y _ => ?_) ?_) ?_) ?_
  · exact nodup_map_on (orN_nodup _) fun a _ b _ e => by injection e
  · intro y _ z _ x hx hz
    obtain ⟨_, _, rfl⟩ := rawC_mem.mp hx
    obtain ⟨_, _, e⟩ := rawC_mem.mp hz
    injection e
  · intro a _ b _ x hx hz
    obtain ⟨_, _, _, _, rfl⟩ := rawY_mem.mp hx
    obtain ⟨_, _, _, _, e⟩ := rawY_mem.mp hz
    injection e
  · intro a _ b _ x hx hz
    obtain ⟨_, _, hx⟩ := List.mem_flatMap.mp hx
    obtain ⟨_, _, hz⟩ := List.mem_flatMap.mp hz
    obtain ⟨_, _, _, _, rfl⟩ := rawY_mem.mp hx
    obtain ⟨_, _, _, _, e⟩ := rawY_mem.mp hz
    injection e
theorem raw_ok {m x : Mk} (o : Ok m) (h : x ∈ rawCuts m) : Ok x := by
  obtain ⟨h1, h2, h3, h4, h5, h6⟩ := raw_mem.mp h
  obtain ⟨q1, q2⟩ := mcuts_part h4
  obtain ⟨q2, q3⟩ := q2 o.mo
  refine ⟨by rw [h1]; exact o.l1, by rw [h1]; exact o.l3, by rw [h1]; exact o.la, by rw [h2]; exact o.n1, by rw [h2]; exact o.n9, begs0 o.pt h3, Nat.le_trans (begs_short h3) o.pz, q2, fun k hk => ?_, Nat.le_trans q1 o.m3, fun y e => ?_, fun c e => ?_⟩
  · obtain ⟨k', hk', z⟩ := q3 k hk
    exact Nat.le_trans z (o.mz k' hk')
  · rcases h5 with h5 | h5
    · rw [h5] at e; cases e
    · exact o.yr y (h5 ▸ e)
  · rcases h6 with h6 | h6
    · rw [h6] at e; cases e
    · exact o.cp c (h6 ▸ e)
theorem raw_self {m : Mk} (o : Ok m) : m ∈ rawCuts m := raw_mem.mpr ⟨rfl, rfl, begs_self (Nat.zero_le _) o.pt, mcuts_self o.mo, .inr rfl, .inr rfl⟩
theorem raw_text {m x : Mk} (h : x ∈ rawCuts m) : (text x).length ≤ (text m).length := by
  obtain ⟨h1, h2, h3, h4, h5, h6⟩ := raw_mem.mp h
  unfold text
  rw [h1, h2]
  have e1 : (pts x.p).length ≤ (pts m.p).length := by
    have := begs_short h3
    unfold pts
    split
    · exact Nat.zero_le _
    · rename_i n
      rw [if_neg (fun e => n (by rw [e] at this; exact List.length_eq_zero_iff.mp (by simpa using this)))]
      simp; exact this
  have e2 := mcuts_glue h4
  have e3 : (glue (wordsY x.y)).length ≤ (glue (wordsY m.y)).length := by
    rcases h5 with h5 | h5 <;> rw [h5]
    · exact Nat.zero_le _
    · exact Nat.le_refl _
  have e4 : (glue (wordsC x.c)).length ≤ (glue (wordsC m.c)).length := by
    rcases h6 with h6 | h6 <;> rw [h6]
    · exact Nat.zero_le _
    · exact Nat.le_refl _
  unfold wordsOf
  simp only [glue_app, List.length_append]
  omega
theorem cuts_mem {m x : Mk} : x ∈ cuts m ↔ x ∈ rawCuts m := (kSort_perm _).mem_iff
theorem cuts_ok {m x : Mk} (o : Ok m) (h : x ∈ cuts m) : Ok x := raw_ok o (cuts_mem.mp h)
theorem cuts_rise {m : Mk} (o : Ok m) : Rise (cuts m) := kSort_rise (fun x hx => raw_ok o hx) (raw_nodup m)
theorem cuts_self {m : Mk} (o : Ok m) : m ∈ cuts m := cuts_mem.mpr (raw_self o)
theorem cuts_text {m x : Mk} (h : x ∈ cuts m) : (text x).length ≤ (text m).length := raw_text (cuts_mem.mp h)
theorem rawC_len (m : Mk) (p : List Nat) (ms : List (List Nat)) (y : Option Nat) : (rawC m p ms y).length ≤ 2 := by unfold rawC; rw [List.length_map]; exact orN_len _
theorem rawY_len (m : Mk) (p : List Nat) (ms : List (List Nat)) : (rawY m p ms).length ≤ 4 := by
  have := flat_len (orN m.y) fun y _ => rawC_len m p ms y
  have := orN_len m.y
  unfold rawY
  omega
theorem rawM_len {m : Mk} (o : Ok m) (p : List Nat) : (rawM m p).length ≤ 12004 := by
  have h1 := flat_len (mcuts m.ms) fun y _ => rawY_len m p y
  have h2 := mcuts_len o.m3 o.mz
  unfold rawM
  omega
theorem raw_len {m : Mk} (o : Ok m) : (rawCuts m).length ≤ 12016004 := by
  have h1 := flat_len (begs m.p 0) fun y _ => rawM_len o y
  have h2 := begs_len m.p 0
  have h3 := o.pz
  unfold rawCuts
  have : (begs m.p 0).length * 12004 ≤ 1001 * 12004 := Nat.mul_le_mul_right _ (by omega)
  omega
end K42
set_option Elab.async false
set_option linter.all false
set_option maxRecDepth 100000
set_option maxHeartbeats 4000000
namespace K42
open PySem PySem.Spec PyProof.Rows L2
section
variable {P : Program} {w : World} {K : PySem.W.Frag} {mg : Str → Option Value} {base : Heap}
def begsN (l : List Nat) (least n : Nat) : List (List Nat) := ((List.range' least n).filter (begOk l)).map l.take
theorem begsN_succ (l : List Nat) (least n : Nat) : begsN l least (n + 1) = begsN l least n ++ (if begOk l (least + n) = true then [l.take (least + n)] else []) := by
  unfold begsN
  rw [List.range'_concat, List.filter_append, List.map_append, Nat.one_mul]
  congr 1
  by_cases h : begOk l (least + n) = true
  · rw [if_pos h, List.filter_cons_of_pos h]; rfl
  · rw [if_neg h, List.filter_cons_of_neg h]; rfl
theorem sl_to (l : List Nat) (i : Int) (n : Nat) (h : i = (n : Int)) : cutS (S l) none (some i) = S (l.take n) := by
  subst h
  have e : HT.sIx (S l).length (S l).length (some ((n : Nat) : Int)) = min n l.length := by
    rw [HT.sIx_nat, S_len]
  unfold cutS
  rw [HT.sIx_none, e, S_cps]
  show (⟨_⟩ : Str) = ⟨_⟩
  simp
def spBegs (K : PySem.W.Frag) : Sp := fun vs H Q _ => ∃ (G : Hp) (l : List Nat) (k : Nat), vs = [sV l, .int (k : Nat)] ∧ Sb G H ∧ l.length ≤ 1000 ∧ k ≤ 1 ∧ ∀ H' d, GR K S0 G H G H' → H d = none → H' d = some (.lst ((begs l k).map sV)) → Q (.ref d) H'
abbrev N_beginnings : List Str := ["figures", "least", "size"]
theorem sc_beginnings : FnScope N_beginnings ["figures", "least"] (defScope S_beginnings) := ⟨rfl, rfl, rfl, by decide +kernel, rfl, by decide +kernel, by decide +kernel⟩
theorem kn_beginnings (T : Tx K mg base) : Kn P w K mg base CX0 2 "beginnings" ["figures", "least"] (spBegs K) := by
  refine kn_of "beginnings" T 32 30 S_beginnings rfl rfl sc_beginnings (fun vs H Q E h => by obtain ⟨_, _, _, rfl, _⟩ := h; rfl) (fun _ _ _ _ _ _ us hl => match us, hl with | [_, _], _ => rfl) (fun cdv A outer s H vs Q E hr h => ⟨_, PSs.nox (pss_one (ps_ret (pe_lc (own := [("size", 2)]) rfl sc_beginnings.nd (pi_range2 (by rfl) T.f_range (pa_cons (pv 1) (pa_cons (pe_op op_add (pe_callB call_len_str (by rfl) T.f_len (by decide +kernel) (pa_cons (pv 0) pa_nil)) pe_int) pa_nil))) (blkOk_by (N := N_beginnings) (sc := defScope S_beginnings) (by decide +kernel)) (fun _ _ _ _ _ => (pg_name (i := 2) sc_beginnings.nd rfl (Or.inl rfl))) (fun _ _ _ _ _ => (pts_one (PW.pt (pw_or (pt_cmpR op_eq (pv 2) pe_int (nomark _)) (pw_or1 (pt_cmpR op_ne (pe_ix ix_str (pv 0) (pe_op op_sub (pv 2) pe_int) (fun _ _ => rfl)) pe_str (nomark _))))))) (fun _ _ _ _ _ => (pe_slice sl_str (pv 0) po_none (po_some (pv 2))))))), ?_⟩)
  obtain ⟨G, l, k, rfl, sb, hz, hk, q⟩ := h
  have hl : (S l).length ≤ sizeLine := by rw [S_len]; exact size_of (by omega)
  have en : (((S l).length : Int) + 1 - (k : Int)).toNat = l.length + 1 - k := by rw [S_len]; omega
  refine ⟨_, rfl, _, rfl, _, rfl, hl, _, _, rfl, rfl, _, _, rfl, ⟨by omega, by omega, by rw [S_len]; omega, by rw [S_len]; omega⟩, fun D hD => ?_⟩
  rw [en]
  refine lcG K (G1 := G) (walk_range (lo := (k : Int)) (n := l.length + 1 - k)) sb hD (fun G' acc i => G' = G ∧ acc = (begsN l k i).map sV) ⟨rfl, rfl⟩ (size_of (by omega)) (fun G' acc i e => ?_) (fun _ _ _ => trivial) (fun i x G' H1 H' acc N hi gr gD hD' rp y ky kn => ?_) (fun G' H' acc gr hD' gD rp => ?_)
  · rw [e.2, List.length_map]
    unfold begsN
    rw [List.length_map]
    exact Nat.le_trans (List.length_filter_le _ _) (by rw [List.length_range']; exact Nat.le_refl _)
  · obtain ⟨rfl, rfl⟩ := y
    obtain ⟨rfl, rfl⟩ := rp
    have eki : (k : Int) + (i : Int) = ((k + i : Nat) : Int) := by omega
    have yes : begOk l (k + i) = true → tSl rSlS (tVar 0) tNoPart (tPart (tVar 2)) ([some (sV l), some (V.int k), some (V.int ((k : Int) + (i : Int)))]) H' fun y H4 => ∃ acc, H4 D = some (.lst acc) ∧ acc.length < sizeLine ∧ N (upd H4 D (.lst (acc ++ [y]))) := by
      intro hb
      refine ⟨_, rfl, _, rfl, _, rfl, _, rfl, hl, ?_⟩
      rw [show cutS (S l) none (some ((k : Int) + (i : Int))) = S (l.take (k + i)) from sl_to l _ _ eki]
      refine ky G' H' _ (GR.refl gr.sb) ⟨rfl, ?_⟩
      rw [begsN_succ, if_pos hb, List.map_append]
      rfl
    have no : begOk l (k + i) = false → N H' := fun hb => kn G' H' (GR.refl gr.sb) ⟨rfl, by rw [begsN_succ, if_neg (by rw [hb]; exact Bool.false_ne_true), List.append_nil]⟩
    refine ⟨rfl, _, rfl, rfl, _, rfl, ?_⟩
    by_cases h0 : k + i = 0
    · refine ifT (by rw [show k = 0 by omega, show i = 0 by omega]; rfl) (iteT (yes ?_))
      rw [h0]; rfl
    · refine ifF (fun e => ?_) ?_
      · injection e with e; omega
      have hlt : k + i - 1 < l.length := by omega
      refine ⟨_, rfl, _, rfl, _, _, rfl, rfl, _, _, l[k + i - 1], rfl, rfl, hl, ?_, rfl, _, rfl, ?_⟩
      · show atI l ((k : Int) + (i : Int) - 1) = _
        rw [show (k : Int) + (i : Int) - 1 = ((k + i - 1 : Nat) : Int) by omega]
        exact atI_nat (by simp [hlt])
      · have hb : begOk l (k + i) = !decide (l[k + i - 1] = 48) := by
          simp only [begOk]
          rw [List.getElem?_eq_getElem hlt, show (k + i == 0) = false from beq_eq_false_iff_ne.mpr h0]
          by_cases z : l[k + i - 1] = 48 <;> simp [z]
        refine ifN (fun hne => ?_) fun he => ?_
        · refine yes ?_
          rw [hb]
          by_cases z : l[k + i - 1] = 48
          · exact (hne (by rw [z, str0])).elim
          · rw [decide_eq_false z]; rfl
        · refine no ?_
          rw [hb]
          by_cases z : l[k + i - 1] = 48
          · rw [decide_eq_true z]; rfl
          · exact (ne_zero z he).elim
  · obtain ⟨rfl, rfl⟩ := rp
    exact q _ _ gr hD hD'
theorem ne_of_none' {H : Hp} {a b : Addr} {o : HO} (h : H a = some o) (h' : H b = none) : b ≠ a := fun e => by rw [e, h] at h'; cases h'
def spMcuts (K : PySem.W.Frag) : Sp := fun vs H Q _ => ∃ (G : Hp) (a : Addr) (ms : List (List Nat)), vs = [.ref a] ∧ Sb G H ∧ G a = some (.tup (msV ms)) ∧ ms.length ≤ 3 ∧ (∀ k ∈ ms, mkr k = true ∧ k.length ≤ 1000) ∧
  ∀ G' H' d xs, GR K S0 G H G' H' → H d = none → H' d = some (.lst xs) → Paired (fun v x => TupAt G' v (msV x)) xs (mcuts ms) → Q (.ref d) H'
abbrev N_maker_cuts : List Str := ["makers", "rows", "at", "maker", "figures"]
theorem sc_maker_cuts : FnScope N_maker_cuts ["makers"] (defScope S_maker_cuts) := ⟨rfl, rfl, rfl, by decide +kernel, rfl, by decide +kernel, by decide +kernel⟩
theorem kn_maker_cuts (T : Tx K mg base) : Kn P w K mg base CX0 4 "maker_cuts" ["makers"] (spMcuts K) := by
  refine kn_of "maker_cuts" T 33 31 S_maker_cuts rfl rfl sc_maker_cuts (fun vs H Q E h => by obtain ⟨_, _, _, rfl, _⟩ := h; rfl) (fun _ _ _ _ _ _ us hl => match us, hl with | [_], _ => rfl) (fun cdv A outer s H vs Q E hr h => ⟨_, PSs.nox (pss_cons (ps_set (i := 1) sc_maker_cuts.nd rfl (Or.inl rfl) (pe_lst (pa_cons (pe_tup pa_nil) pa_nil)))
    (pss_cons (ps_for PassesOwn.never rfl (pi_enumT (by rfl) T.f_enumerate (pa_cons (pv 0) pa_nil)) (pg_tup rfl (pgs_cons (pg_name (i := 2) sc_maker_cuts.nd rfl (Or.inl rfl)) (pgs_cons (pg_name (i := 3) sc_maker_cuts.nd rfl (Or.inl rfl)) pgs_nil))) (pss_one (ps_for PassesOwn.never rfl (pi_list (pe_fn (kn_beginnings T) (hr.mono (by decide)) (pa_cons (pe_slice sl_str (pv 3) (po_some pe_int) po_none) (pa_cons pe_int pa_nil)))) (pg_name (i := 4) sc_maker_cuts.nd rfl (Or.inl rfl)) (pss_one (ps_expr (pe_bm PySem.F.plainAttrs_list PySem.F.slot_list_append PySem.F.type_list_append mt_append (pv 1) (pa_cons (pe_op op_catA (pe_slice sl_tupA (pv 0) po_none (po_some (pv 2))) (pe_tup (pa_cons (pe_op op_add_str (pe_ix ix_str (pv 3) pe_int (fun _ _ => rfl)) (pv 4)) pa_nil))) pa_nil)))))))
    (pss_one (ps_ret (pv 1))))), ?_⟩)
  obtain ⟨G, a, ms, rfl, sb, ha, h3, hm, q⟩ := h
  have ha0 := (sb _ _ ha).1
  have hz : ∀ k ∈ ms, k.length ≤ 1000 := fun k hk => (hm k hk).2
  refine ⟨size_of (n := 0) (by decide), fun e he => ⟨size_of (n := 1) (by decide), fun d hd => ?_⟩⟩
  have g1 := (GR.refl (K := K) (S := S0) sb).new he (o := .tup []) trivial
  have g2 := g1.newM hd (o := .lst [.ref e])
  have hd0 : H d = none := by
    cases z : H d with
    | none => rfl
    | some o => rw [upd_ne (ne_of_none z he), z] at hd; cases hd
  refine ⟨_, rfl, a, _, rfl, SqT.of (g2.keep ha0 trivial id), ?_⟩
  refine for_it (walk_enumT (xs := msV ms)) (D := { nx := _, rt := _ }) (fun i σ H' => ∃ (G' : Hp) (xs : List V) (b c f : Option V), σ = [some (.ref a), some (.ref d), b, c, f] ∧ GR K S0 G H G' H' ∧ G' d = none ∧ H' d = some (.lst xs) ∧ Paired (fun v x => TupAt G' v (msV x)) xs ([] :: (List.range i).flatMap (mcutsAt ms))) ?_ ?_ ?_ ?_
  · exact ⟨_, _, none, none, none, rfl, g2, g1.sb.no hd, upd_same, .cons ⟨e, rfl, upd_same⟩ .nil⟩
  · rintro i σ H1 hi ⟨G1, xs, b, c, f, rfl, g, _⟩
    exact SqT.of (g.keep ha0 trivial id)
  · rintro i x σ H1 H2 hi ⟨G1, xs, b, c, f, rfl, g, gd, hx, hp⟩ ⟨t, u, v, rfl, ht, rfl, hu, hv⟩
    have eu : u = .int (i : Nat) := by injection hu with hu; exact hu.symm
    subst eu
    have hi' : i < ms.length := by simpa [msV] using hi
    obtain ⟨k, hk⟩ : ∃ k, ms[i]? = some k := ⟨_, List.getElem?_eq_getElem hi'⟩
    have ev : v = sV k := by
      have : (msV ms)[i]? = some (sV k) := by simp [msV, hk]
      have hv' : (msV ms)[i]? = some v := hv
      rw [this] at hv'
      injection hv' with hv'
      exact hv'.symm
    subst ev
    have hkm := hm k (List.mem_of_getElem? hk)
    obtain ⟨c0, r, rfl, hc0, hr0⟩ := mkr_cons hkm.1
    have hkz : (S (c0 :: r)).length ≤ sizeLine := by rw [S_len]; exact size_of (by omega)
    have g3 := g.newM ht (o := .tup [.int (i : Nat), sV (c0 :: r)])
    have hx3 : upd H1 t (.tup [.int (i : Nat), sV (c0 :: r)]) d = some (.lst xs) := by rw [upd_ne (ne_of_none hx ht)]; exact hx
    refine ⟨t, _, rfl, SqT.of upd_same, rfl, _, _, rfl, _, _, rfl, rfl, ?_⟩
    refine ⟨_, rfl, 1, rfl, _, rfl, hkz, G1, r, 1, by rw [sl_tail]; rfl, g3.sb, by simp at hkm; omega, Nat.le_refl _, fun H3 d2 g4 hd2 h2 => ?_⟩
    have nd : d2 ≠ d := ne_of_none' hx3 hd2
    have g5 := g3.call0 g4
    refine ⟨d2, rfl, ⟨_, SqL.of h2⟩, ?_⟩
    refine for_list (K := K) (a := d2) (xs := (begs r 1).map sV) (fun j σ H' => ∃ (G' : Hp) (xs : List V) (f : Option V), σ = [some (.ref a), some (.ref d), some (.int (i : Nat)), some (sV (c0 :: r)), f] ∧ GR K S0 G H G' H' ∧ G' d = none ∧ H' d = some (.lst xs) ∧ H' d2 = some (.lst ((begs r 1).map sV)) ∧
      Paired (fun v x => TupAt G' v (msV x)) xs (([] :: (List.range i).flatMap (mcutsAt ms)) ++ ((begs r 1).take j).map fun f => ms.take i ++ [c0 :: f])) ?_ ?_ ?_ ?_
    · exact ⟨G1, xs, _, rfl, g5, gd, g4.keep hx3 trivial id, h2, by rw [List.take_zero, List.map_nil, List.append_nil]; exact hp⟩
    · rintro j σ H4 hj ⟨G2, ys, f, rfl, g, gd, hx, h2, hp⟩
      exact SqL.of h2
    · rintro j x σ H4 hj ⟨G2, ys, f, rfl, g, gd, hx, h2, hp⟩
      obtain ⟨fg, hfg, rfl⟩ : ∃ fg, (begs r 1)[j]? = some fg ∧ sV fg = x := by
        rw [List.getElem?_map] at hj
        cases e : (begs r 1)[j]? with
        | none => rw [e] at hj; cases hj
        | some fg => rw [e] at hj; injection hj with hj; exact ⟨fg, rfl, hj⟩
      have fin : ∀ (v : V) (G3 H5 : Hp), GR K S0 G2 H4 G3 H5 → TupAt G3 v (msV (ms.take i ++ [c0 :: fg])) → ys.length < sizeLine ∧
          ∃ (G' : Hp) (xs : List V) (f : Option V), [some (V.ref a), some (V.ref d), some (V.int (i : Nat)), some (sV (c0 :: r)), some (sV fg)] = [some (.ref a), some (.ref d), some (.int (i : Nat)), some (sV (c0 :: r)), f] ∧ GR K S0 G H G' (upd H5 d (.lst (ys ++ [v]))) ∧ G' d = none ∧ upd H5 d (.lst (ys ++ [v])) d = some (.lst xs) ∧ upd H5 d (.lst (ys ++ [v])) d2 = some (.lst ((begs r 1).map sV)) ∧
          Paired (fun v x => TupAt G' v (msV x)) xs (([] :: (List.range i).flatMap (mcutsAt ms)) ++ ((begs r 1).take (j + 1)).map fun f => ms.take i ++ [c0 :: f]) := by
        intro v G3 H5 g6 hv
        have hx5 := g6.keep hx trivial id
        have gd5 := g6.nofrz hx gd
        refine ⟨?_, G3, ys ++ [v], _, rfl, (g.trans g6).wr (.inr hd0) gd5 hx5 trivial, gd5, upd_same, by rw [upd_ne nd]; exact g6.keep h2 trivial id, ?_⟩
        · have e1 := pair_len hp
          have e2 := flat_len (List.range i) fun i _ => mcutsAt_len hz i
          have e3 := begs_len r 1
          have e4 := hkm.2
          simp only [List.length_append, List.length_cons, List.length_map, List.length_take, List.length_range] at e1 e2 e4
          rw [sizeLine_eq]
          omega
        · rw [List.take_add_one, hfg, List.map_append, ← List.append_assoc]
          exact (pair_imp hp fun _ _ z => z.mono g6.gg).snoc hv
      have ha4 := g.keep ha0 trivial id
      have hsl : HT.sIx (msV ms).length (msV ms).length (some ((i : Nat) : Int)) = i := by rw [HT.sIx_nat]; simp [msV]; omega
      have hci : cutV (msV ms) none (some ((i : Nat) : Int)) = msV (ms.take i) := by
        unfold cutV
        rw [hsl, HT.sIx_none]
        simp [msV, List.map_take]
      refine ⟨_, rfl, .inl ⟨rfl, _, SqL.of hx⟩, ?_⟩
      refine ⟨_, rfl, _, rfl, _, rfl, a, msV ms, rfl, SqT.of ha4, fun e => ?_, fun _ p1 hp1 => ?_⟩
      · exfalso
        have := e.2
        rw [hsl] at this
        simp [msV] at this
        omega
      rw [hci]
      have k1 := (GR.refl (K := K) (S := S0) g.sb).newM hp1 (o := .tup (msV (ms.take i)))
      refine ⟨_, rfl, _, _, c0, rfl, rfl, hkz, atI_nat (j := 0) rfl, _, rfl, _, _, rfl, rfl, ?_, size_of (n := 1) (by decide), fun p2 hp2 => ?_⟩
      · have e1 := begs_short (List.mem_of_getElem? hfg)
        have e2 := hkm.2
        simp only [List.length_cons] at e2
        have e3 : (⟨#[c0]⟩ : Str).length = 1 := rfl
        rw [e3, S_len, sizeLine_eq]
        omega
      rw [show (⟨#[c0]⟩ : Str) ++ S fg = S (c0 :: fg) from S_app [c0] fg]
      have k2 := k1.new hp2 (o := .tup [sV (c0 :: fg)]) trivial
      refine ⟨p1, p2, msV (ms.take i), [sV (c0 :: fg)], rfl, rfl, SqT.of (by rw [upd_ne (ne_of_none upd_same hp2)]; exact upd_same), SqT.of upd_same, ?_, fun e => ?_, (fun _ e => nomatch e), fun _ _ p3 hp3 => ?_⟩
      · simp [msV]
        rw [sizeLine_eq]
        omega
      · have e0 : ms.take i = [] := by simpa [msV] using e
        obtain ⟨z1, z2⟩ := fin (.ref p2) _ _ k2 ⟨p2, rfl, by rw [e0]; exact upd_same⟩
        exact ⟨d, ys, _, rfl, rfl, k2.keep hx trivial id, z1, z2⟩
      · have k3 := k2.new hp3 (o := .tup (msV (ms.take i) ++ [sV (c0 :: fg)])) trivial
        obtain ⟨z1, z2⟩ := fin (.ref p3) _ _ k3 ⟨p3, rfl, by rw [show msV (ms.take i ++ [c0 :: fg]) = msV (ms.take i) ++ [sV (c0 :: fg)] by simp [msV]]; exact upd_same⟩
        exact ⟨d, ys, _, rfl, rfl, k3.keep hx trivial id, z1, z2⟩
    · rintro σ H4 ⟨G2, ys, f, rfl, g, gd, hx, h2, hp⟩
      refine ⟨G2, ys, _, _, _, rfl, g, gd, hx, ?_⟩
      rw [List.length_map, List.take_of_length_le (Nat.le_refl _)] at hp
      rw [List.range_succ, List.flatMap_append, List.flatMap_cons, List.flatMap_nil, List.append_nil]
      have e : mcutsAt ms i = (begs r 1).map fun f => ms.take i ++ [c0 :: f] := by unfold mcutsAt; rw [hk]
      rw [e]
      exact hp
  · rintro σ H1 ⟨G1, xs, b, c, f, rfl, g, gd, hx, hp⟩
    refine ⟨_, rfl, q G1 H1 d xs g hd0 hx ?_⟩
    rw [show (msV ms).length = ms.length by simp [msV]] at hp
    exact hp
def oVs (y : Option Nat) : List V := (orN y).map oV
def spOr (K : PySem.W.Frag) : Sp := fun vs H Q _ => ∃ (y : Option Nat), vs = [oV y] ∧ ∀ d, H d = none → Q (.ref d) (upd H d (.lst (oVs y)))
abbrev N_or_none : List Str := ["thing"]
theorem sc_or_none : FnScope N_or_none ["thing"] (defScope S_or_none) := ⟨rfl, rfl, rfl, by decide +kernel, rfl, by decide +kernel, by decide +kernel⟩
theorem kn_or_none (T : Tx K mg base) : Kn P w K mg base CX0 2 "or_none" ["thing"] (spOr K) := by
  refine kn_of "or_none" T 34 32 S_or_none rfl rfl sc_or_none (fun vs H Q E h => by obtain ⟨_, rfl, _⟩ := h; rfl) (fun _ _ _ _ _ _ us hl => match us, hl with | [_], _ => rfl) (fun cdv A outer s H vs Q E hr h => ⟨_, PSs.nox (pss_one (ps_ret (pe_ifExp (pt_cmpR op_isN (pv 0) pe_non (nomark _)) (pe_lst (pa_cons pe_non pa_nil)) (pe_lst (pa_cons pe_non (pa_cons (pv 0) pa_nil)))))), ?_⟩)
  obtain ⟨y, rfl, q⟩ := h
  refine ⟨_, rfl, rfl, _, rfl, ?_⟩
  cases y with
  | none => exact ifT rfl ⟨size_of (n := 1) (by decide), fun d hd => q d hd⟩
  | some n => exact ifF (fun e => nomatch e) ⟨_, rfl, size_of (n := 2) (by decide), fun d hd => q d hd⟩
def spFew (K : PySem.W.Frag) : Sp := fun vs H Q _ => ∃ (G : Hp) (v : V) (m : Mk), vs = [v] ∧ Sb G H ∧ MarkAt K G v m ∧ Ok m ∧ (text m).length ≤ 24 ∧ Q .non H
abbrev N_need_few : List Str := ["mark"]
theorem sc_need_few : FnScope N_need_few ["mark"] (defScope S_need_few) := ⟨rfl, rfl, rfl, by decide +kernel, rfl, by decide +kernel, by decide +kernel⟩
theorem kn_need_few (T : Tx K mg base) : Kn P w K mg base CX0 4 "need_few" ["mark"] (spFew K) := by
  refine kn_of "need_few" T 35 33 S_need_few rfl rfl sc_need_few (fun vs H Q E h => by obtain ⟨_, _, _, rfl, _⟩ := h; rfl) (fun _ _ _ _ _ _ us hl => match us, hl with | [_], _ => rfl) (fun cdv A outer s H vs Q E hr h => ⟨_, PSs.nox (pss_one (ps_if (pt_cmpR op_gt (pe_callB (call_lenM (kn_Mark_len T) (hr.mono (by decide))) (by rfl) T.f_len (by decide +kernel) (pa_cons (pv 0) pa_nil)) (T.gi_MOST_SIGNS) (nomark _)) (pss_one ps_never) pss_nil)), ?_⟩)
  obtain ⟨G, v, m, rfl, sb, hv, ok, hz, q⟩ := h
  obtain ⟨a, dx, t, rfl, h1⟩ := hv.o sb
  refine ⟨_, rfl, a, dx, _, rfl, h1, a, dx, t, m, rfl, h1, ok, ⟨_, rfl, by omega⟩, _, _, rfl, rfl, _, rfl, ifF (by omega) q⟩
end
end K42
set_option Elab.async false
set_option linter.all false
set_option maxRecDepth 100000
set_option maxHeartbeats 4000000
namespace K42
open PySem PySem.Spec PyProof.Rows L2
section
variable {P : Program} {w : World} {K : PySem.W.Frag} {mg : Str → Option Value} {base : Heap}
theorem Tx.m_Mark (T : Tx K mg base) : L2.Mk K (He.ga K "Mark") (He.ma K (He.ga K "Mark") "__init__") := He.mkr_ok (T.c.fact 98 rfl)
theorem Tx.g_Mark (T : Tx K mg base) : mg "Mark" = some (.ref (He.ga K "Mark")) := T.glo 25 rfl
theorem Tx.m_Shorts (T : Tx K mg base) : L2.Mk K (He.ga K "Shorts") (He.ma K (He.ga K "Shorts") "__init__") := He.mkr_ok (T.c.fact 100 rfl)
theorem Tx.g_Shorts (T : Tx K mg base) : mg "Shorts" = some (.ref (He.ga K "Shorts")) := T.glo 40 rfl
/-- Mark(letters, number, points, makers, year=.., copy=..) -/
theorem pe_mark2 {X : Cx} {p pos kp1 kp2 : Pos} {e : Expr} {es : List Expr} {e1 e2 : Expr} {t : TA} {t1 t2 : TE} (T : Tx X.K X.mg X.base) (hr : Room 6 X.A) (ha : PA X (e :: es) t) (h1 : PE X e1 t1) (h2 : PE X e2 t2) (hg : Gl X "Mark" := by rfl)
    (he : starEach (e :: es) X.env = (false, eval e X.env) :: starEach es X.env := by rfl) (hpl : ((backTo pos (starEach (e :: es) X.env)).any (·.1) || (backToKw pos (keywordEach [⟨some "year", e1, kp1⟩, ⟨some "copy", e2, kp2⟩] X.env)).any (·.1.isNone)) = false := by rfl) :
    PE X (.Call (.Name "Mark" p) (e :: es) [⟨some "year", e1, kp1⟩, ⟨some "copy", e2, kp2⟩] pos) (tMakeN (He.ga X.K "Mark") 4 2 (spInit X.K) (fun vs zs => vs ++ zs) E0 t (tCons t1 (tCons t2 tNil))) := by
  obtain ⟨fd, F, FF⟩ := kn_Mark_init (P := X.prog) (w := X.w) T
  obtain ⟨its, kb⟩ := F.kbindsD (ps := ["self", "letters", "number", "points", "makers", "year", "copy"]) 5 ["year", "copy"] (fun us _ zs => us ++ zs) (by simp) (fun r _ r2 => r.append r2)
    (fun T kV doc pm an cdv ct us its ws hu hi hw => match us, hu, its, hi, ws, hw with | [_, _, _, _, _], _, [_, _, _, _], _, [_, _], _ => ⟨_, rfl, rfl⟩)
  exact pe_makeN (n := 4) T.m_Mark FF hr hg T.g_Mark kb pass0 ha (pk_cons h1 (pk_cons h2 pk_nil)) (he := he) (hpl := hpl)
/-- a mark is made, then frozen -/
theorem make_read {G H : Hp} {m : Mk} {a : Addr} {Q : VK} (sb : Sb G H) (ok : Ok m) (ha : H a = some (.lst (msV m.ms)) ∨ G a = some (.tup (msV m.ms))) (q : ∀ G' H' v, GR K S0 G H G' H' → MarkAt K G' v m → Q v H') :
    ∀ x dx, H x = none → H dx = none → dx ≠ x → spInit K [.ref x, sV m.l, .int m.n, sV m.p, .ref a, oV m.y, oV m.c] (upd (upd H dx (.own x)) x (.ins (He.ga K "Mark") dx [])) (fun v H3 => v = .non ∧ Q (.ref x) H3) E0 := by
  intro x dx hx hdx hne
  have hx2 : upd H dx (.own x) x = none := by rw [upd_ne (Ne.symm hne)]; exact hx
  have g1 := ((GR.refl (K := K) (S := S0) sb).newM hdx (o := .own x)).newM hx2 (o := .ins (He.ga K "Mark") dx [])
  refine ⟨G, x, dx, a, m, rfl, g1.sb, ok, upd_same, sb.no hx, ha.imp (fun z => g1.keep z trivial id) id, fun G' H' t c ht hx' => ⟨rfl, ?_⟩⟩
  have g2 := g1.call c fun b hb => .inr (by rw [show b = x from hb]; exact hx)
  have gx : G' x = none := c.nofrz upd_same (sb.no hx)
  refine q _ _ _ (g2.freeze hx hx' trivial) ⟨x, dx, t, rfl, upd_same, ?_⟩
  rw [upd_ne (fun e => by rw [e, gx] at ht; cases ht)]
  exact ht
/-- from (G1, H1) on, the list at d has grown to stand for acc -/
structure Row (K : PySem.W.Frag) (d : Addr) (G1 H1 G H : Hp) (acc : List Mk) (n : Nat) : Prop where
  g : GR K (S1 d) G1 H1 G H
  gd : G d = none
  xs : ∃ xs, H d = some (.lst xs) ∧ Paired (MarkAt K G) xs acc
  le : acc.length ≤ n
theorem Row.trans {d : Addr} {G1 H1 G2 H2 G3 H3 : Hp} {acc acc' : List Mk} {n n' : Nat} (r : Row K d G1 H1 G2 H2 acc n) (r' : Row K d G2 H2 G3 H3 acc' n') : Row K d G1 H1 G3 H3 acc' n' := ⟨r.g.call r'.g fun _ q => .inl q, r'.gd, r'.xs, r'.le⟩
theorem Row.start {d : Addr} {G1 H1 G2 H2 : Hp} {acc : List Mk} {n : Nat} (r : Row K d G1 H1 G2 H2 acc n) : Row K d G2 H2 G2 H2 acc n := ⟨GR.refl r.g.sb, r.gd, r.xs, r.le⟩
/-- a step that writes nothing -/
theorem Row.step {d : Addr} {G1 H1 G2 H2 G3 H3 : Hp} {acc : List Mk} {n : Nat} (r : Row K d G1 H1 G2 H2 acc n) (c : GR K S0 G2 H2 G3 H3) : Row K d G1 H1 G3 H3 acc n := by
  obtain ⟨xs, hx, hp⟩ := r.xs
  exact ⟨r.g.call0 c, c.nofrz hx r.gd, ⟨xs, c.keep hx trivial id, pair_imp hp fun _ _ z => z.mono c.gg⟩, r.le⟩
theorem Row.push {d : Addr} {G1 H1 G2 H2 : Hp} {acc : List Mk} {n : Nat} {v : V} {m : Mk} (r : Row K d G1 H1 G2 H2 acc n) (hv : MarkAt K G2 v m) (hn : n < 16000000) : ∃ xs, H2 d = some (.lst xs) ∧ xs.length < sizeLine ∧ Row K d G1 H1 G2 (upd H2 d (.lst (xs ++ [v]))) (acc ++ [m]) (n + 1) := by
  obtain ⟨xs, hx, hp⟩ := r.xs
  have hl := pair_len hp
  have hle := r.le
  refine ⟨xs, hx, by rw [sizeLine_eq]; omega, r.g.wr (.inl rfl) r.gd hx trivial, r.gd, ⟨_, upd_same, hp.snoc hv⟩, ?_⟩
  rw [List.length_append, List.length_singleton]
  omega
/-- a loop whose turns push what f tells -/
theorem loopR {α : Type} {d e : Addr} {vs : List V} {ds : List α} {f : α → List Mk} {c : Nat} {g : TG} {tb : TS} {D : Ends} {σ : L2.St} {G1 H1 : Hp} {acc : List Mk} {n : Nat} (P : L2.St → Prop) (hP : P σ) (he : H1 e = some (.lst vs)) (hne : e ≠ d) (hl : vs.length = ds.length) (r0 : Row K d G1 H1 G1 H1 acc n)
    (body : ∀ (i : Nat) (x : V) (y : α) (σ : L2.St) (G2 H2 : Hp) (acc2 : List Mk) (n2 : Nat) (N : L2.St → Hp → Prop), vs[i]? = some x → ds[i]? = some y → P σ → Row K d G1 H1 G2 H2 acc2 n2 → n2 = n + i * c → (∀ σ' G3 H3, P σ' → Row K d G2 H2 G3 H3 (acc2 ++ f y) (n2 + c) → N σ' H3) →
      g x σ H2 fun σ2 H3 => tb { D with nx := N, ct := N, bk := D.nx } σ2 H3)
    (fin : ∀ σ' G3 H3, P σ' → Row K d G1 H1 G3 H3 (acc ++ ds.flatMap f) (n + ds.length * c) → D.nx σ' H3) :
    ∃ W : Nat → Nat → L2.St → Hp → Prop, (∃ m, W 0 m σ H1) ∧ ∀ i m σ H, W i m σ H →
      ((Itl K e).stop i H ∧ D.nx σ H) ∨ ((Itl K e).go i H ∧ ∃ N : L2.St → Hp → Prop, (∀ σ' H', N σ' H' → ∃ m', m' < m ∧ W (i + 1) m' σ' H') ∧ ∀ x H', (Itl K e).yld i H x H' → g x σ H' fun σ2 H2 => tb { D with nx := N, ct := N, bk := D.nx } σ2 H2) := by
  refine for_list (K := K) (a := e) (xs := vs) (fun i σ H => ∃ G2, P σ ∧ Row K d G1 H1 G2 H (acc ++ (ds.take i).flatMap f) (n + i * c)) ⟨G1, hP, by simpa using r0⟩ ?_ ?_ ?_
  · rintro i σ H hi ⟨G2, _, r⟩
    exact SqL.of (r.g.keep he trivial hne)
  · rintro i x σ H hx ⟨G2, p, r⟩
    obtain ⟨y, hy⟩ : ∃ y, ds[i]? = some y := ⟨_, List.getElem?_eq_getElem (by rw [← hl]; exact (List.getElem?_eq_some_iff.mp hx).1)⟩
    refine body i x y σ G2 H _ _ _ hx hy p r rfl fun σ' G3 H3 p' r' => ⟨G3, p', ?_⟩
    have z := r.trans r'
    rw [List.take_add_one, hy, List.flatMap_append, Nat.succ_mul]
    simpa [List.append_assoc, Nat.add_assoc] using z
  · rintro σ H ⟨G2, p, r⟩
    rw [hl, List.take_of_length_le (Nat.le_refl _)] at r
    exact fin σ G2 H p r
def spCuts (K : PySem.W.Frag) : Sp := fun vs H Q _ => ∃ (G : Hp) (v : V) (m : Mk), vs = [v] ∧ Sb G H ∧ LamX.Tabs (Tq K) H ∧ MarkAt K G v m ∧ Ok m ∧ (text m).length ≤ 24 ∧
  ∀ G' H' d xs, GR K S0 G H G' H' → H' d = none → Paired (MarkAt K G') xs (cuts m) → Q (.ref d) (upd H' d (.lst xs))
abbrev N_cuts_of : List Str := ["mark", "row", "points", "makers", "year", "copy"]
theorem sc_cuts_of : FnScope N_cuts_of ["mark"] (defScope S_cuts_of) := ⟨rfl, rfl, rfl, by decide +kernel, rfl, by decide +kernel, by decide +kernel⟩
theorem kn_cuts_of (T : Tx K mg base) : Kn P w K mg base CX0 8 "cuts_of" ["mark"] (spCuts K) := by
  refine kn_of "cuts_of" T 36 34 S_cuts_of rfl rfl sc_cuts_of (fun vs H Q E h => by obtain ⟨_, _, _, rfl, _⟩ := h; rfl) (fun _ _ _ _ _ _ us hl => match us, hl with | [_], _ => rfl) (fun cdv A outer s H vs Q E hr h => ⟨_, PSs.nox (pss_cons (ps_expr (pe_fn (kn_need_few T) (hr.mono (by decide)) (pa_cons (pv 0) pa_nil)))
    (pss_cons (ps_set (i := 1) sc_cuts_of.nd rfl (Or.inl rfl) (pe_lst pa_nil))
    (pss_cons (ps_for PassesOwn.never rfl (pi_list (pe_fn (kn_beginnings T) (hr.mono (by decide)) (pa_cons (pe_km0 (kn_Mark_points T) (hr.mono (by decide)) (pv 0)) (pa_cons pe_int pa_nil)))) (pg_name (i := 2) sc_cuts_of.nd rfl (Or.inl rfl)) (pss_one (ps_for PassesOwn.never rfl (pi_list (pe_fn (kn_maker_cuts T) (hr.mono (by decide)) (pa_cons (pe_km0 (kn_Mark_makers T) (hr.mono (by decide)) (pv 0)) pa_nil))) (pg_name (i := 3) sc_cuts_of.nd rfl (Or.inl rfl)) (pss_one (ps_for PassesOwn.never rfl (pi_list (pe_fn (kn_or_none T) (hr.mono (by decide)) (pa_cons (pe_km0 (kn_Mark_year T) (hr.mono (by decide)) (pv 0)) pa_nil))) (pg_name (i := 4) sc_cuts_of.nd rfl (Or.inl rfl)) (pss_one (ps_for PassesOwn.never rfl (pi_list (pe_fn (kn_or_none T) (hr.mono (by decide)) (pa_cons (pe_km0 (kn_Mark_copy_number T) (hr.mono (by decide)) (pv 0)) pa_nil))) (pg_name (i := 5) sc_cuts_of.nd rfl (Or.inl rfl)) (pss_one (ps_expr (pe_bm PySem.F.plainAttrs_list PySem.F.slot_list_append PySem.F.type_list_append mt_append (pv 1) (pa_cons (pe_mark2 T (hr.mono (by decide)) (pa_cons (pe_km0 (kn_Mark_letters T) (hr.mono (by decide)) (pv 0)) (pa_cons (pe_km0 (kn_Mark_number T) (hr.mono (by decide)) (pv 0)) (pa_cons (pv 2) (pa_cons (pv 3) pa_nil)))) (pv 4) (pv 5)) pa_nil)))))))))))
    (pss_one (ps_ret (pe_fnD (kn_in_order T) (hr.mono (by decide)) (pa_cons (pv 1) pa_nil))))))), ?_⟩)
  obtain ⟨G, v, m, rfl, sb, tb, hv, ok, hz, q⟩ := h
  obtain ⟨a, dx, t, rfl, h1, h2⟩ := hv
  have ha := (sb _ _ h1).1
  refine ⟨_, rfl, G, _, m, rfl, sb, ⟨a, dx, t, rfl, h1, h2⟩, ok, hz, size_of (n := 0) (by decide), fun d hd => ?_⟩
  have g1 := (GR.refl (K := K) (S := S0) sb).newM hd (o := .lst [])
  have ha1 := g1.keep ha trivial id
  refine ⟨_, rfl, a, dx, _, rfl, ha1, rfl, a, dx, t, m, rfl, ha1, G, m.p, 0, rfl, g1.sb, ok.pz, by decide, fun H2 d2 g2 hd2 e2 => ⟨d2, rfl, ⟨_, SqL.of e2⟩, ?_⟩⟩
  have n2 : d2 ≠ d := ne_of_none' upd_same hd2
  have g12 := g1.trans g2
  have hd' : ∀ b, S1 d b → S0 b ∨ H b = none := fun b hb => .inr (by rw [show b = d from hb]; exact hd)
  have r2 : Row K d G H2 G H2 [] 0 := ⟨GR.refl g2.sb, sb.no hd, ⟨[], g2.keep upd_same trivial id, .nil⟩, Nat.le_refl _⟩
  refine loopR (ds := begs m.p 0) (f := rawM m) (c := 12004) (fun σ => ∃ b c e f, σ = [some (.ref a), some (.ref d), b, c, e, f]) ⟨_, _, _, _, rfl⟩ e2 n2 (List.length_map _) r2 ?_ ?_
  · rintro i x p σ G3 H3 acc n N hx hp ⟨b, c, e, f, rfl⟩ r hn k
    obtain rfl : x = sV p := by
      rw [List.getElem?_map, hp] at hx
      injection hx with hx
      exact hx.symm
    have hil := (List.getElem?_eq_some_iff.mp hp).1
    have g3 : GR K S0 G H G3 H3 := g12.call r.g hd'
    have ha3 := g3.keep ha trivial id
    refine ⟨_, rfl, a, dx, _, rfl, ha3, rfl, a, dx, t, m, rfl, ha3, G3, t, m.ms, rfl, g3.sb, g3.gg _ _ h2, ok.m3, fun k hk => ⟨ok.mo k hk, ok.mz k hk⟩, fun G4 H4 d3 xs3 g4 hd3 e3 hp3 => ⟨d3, rfl, ⟨_, SqL.of e3⟩, ?_⟩⟩
    obtain ⟨xsd, hxd, _⟩ := r.xs
    have n3 : d3 ≠ d := ne_of_none' hxd hd3
    have r4 := r.start.step g4
    refine loopR (ds := mcuts m.ms) (f := rawY m p) (c := 4) (fun σ => ∃ c e f, σ = [some (.ref a), some (.ref d), some (sV p), c, e, f]) ⟨_, _, _, rfl⟩ e3 n3 (pair_len hp3) r4.start ?_ ?_
    · rintro i x ms σ G5 H5 acc2 n2 N2 hx hms ⟨c, e, f, rfl⟩ r5 hn5 k5
      have r45 := r4.trans r5
      have g5 : GR K S0 G H G5 H5 := g3.call r45.g hd'
      have ha5 := g5.keep ha trivial id
      obtain ⟨tm, rfl, htm⟩ := pair_at hp3 hx hms
      have htm5 := r5.g.gg _ _ htm
      have oky : ∀ y c, (y = none ∨ y = m.y) → (c = none ∨ c = m.c) → Ok ⟨m.l, m.n, p, ms, y, c⟩ := fun y c hy hc => raw_ok ok (raw_mem.mpr ⟨rfl, rfl, List.mem_of_getElem? hp, List.mem_of_getElem? hms, hy, hc⟩)
      have hms3 := (List.getElem?_eq_some_iff.mp hms).1
      have hl3 := mcuts_len ok.m3 ok.mz
      have hl0 := begs_len m.p 0
      have hpz := ok.pz
      refine ⟨_, rfl, a, dx, _, rfl, ha5, rfl, a, dx, t, m, rfl, ha5, m.y, rfl, fun d4 hd4 => ⟨d4, rfl, ⟨_, SqL.of upd_same⟩, ?_⟩⟩
      obtain ⟨xs5, hx5, _⟩ := r5.xs
      have r6 := r5.start.step ((GR.refl (K := K) (S := S0) r5.g.sb).newM hd4 (o := .lst (oVs m.y)))
      refine loopR (ds := orN m.y) (f := rawC m p ms) (c := 2) (fun σ => ∃ e f, σ = [some (.ref a), some (.ref d), some (sV p), some (.ref tm), e, f]) ⟨_, _, rfl⟩ upd_same (ne_of_none' hx5 hd4) (List.length_map _) r6.start ?_ ?_
      · rintro i4 x y σ G7 H7 acc4 n4 N4 hx hy ⟨e, f, rfl⟩ r7 hn7 k7
        obtain rfl : x = oV y := by
          rw [oVs, List.getElem?_map, hy] at hx
          injection hx with hx
          exact hx.symm
        have hi4 := (List.getElem?_eq_some_iff.mp hy).1
        have hl4 := orN_len m.y
        have g7 : GR K S0 G H G7 H7 := g5.call (r6.trans r7).g hd'
        have ha7 := g7.keep ha trivial id
        refine ⟨_, rfl, a, dx, _, rfl, ha7, rfl, a, dx, t, m, rfl, ha7, m.c, rfl, fun d5 hd5 => ⟨d5, rfl, ⟨_, SqL.of upd_same⟩, ?_⟩⟩
        obtain ⟨xs7, hx7, _⟩ := r7.xs
        have r8 := r7.start.step ((GR.refl (K := K) (S := S0) r7.g.sb).newM hd5 (o := .lst (oVs m.c)))
        refine loopR (ds := orN m.c) (f := fun c => [⟨m.l, m.n, p, ms, y, c⟩]) (c := 1) (fun σ => ∃ f, σ = [some (.ref a), some (.ref d), some (sV p), some (.ref tm), some (oV y), f]) ⟨_, rfl⟩ upd_same (ne_of_none' hx7 hd5) (List.length_map _) r8.start ?_ ?_
        · rintro i5 x cc σ G9 H9 acc5 n5 N5 hx hc ⟨f, rfl⟩ r9 hn9 k9
          obtain rfl : x = oV cc := by
            rw [oVs, List.getElem?_map, hc] at hx
            injection hx with hx
            exact hx.symm
          have hi5 := (List.getElem?_eq_some_iff.mp hc).1
          have hl5 := orN_len m.c
          have g9 : GR K S0 G H G9 H9 := g7.call (r8.trans r9).g hd'
          have ha9 := g9.keep ha trivial id
          obtain ⟨xs9, hx9, _⟩ := r9.xs
          refine ⟨_, rfl, .inl ⟨rfl, _, SqL.of hx9⟩, ?_⟩
          refine ⟨_, rfl, a, dx, _, rfl, ha9, rfl, a, dx, t, m, rfl, ha9, _, rfl, a, dx, _, rfl, ha9, rfl, a, dx, t, m, rfl, ha9, _, rfl, _, rfl, _, rfl, _, rfl, rfl, rfl, ?_⟩
          refine make_read (m := ⟨m.l, m.n, p, ms, y, cc⟩) (Q := fun v H3 => rAppend (.ref d) [v] H3 fun _ H => N5 [some (.ref a), some (.ref d), some (sV p), some (.ref tm), some (oV y), some (oV cc)] H) g9.sb (oky y cc (orN_mem.mp (List.mem_of_getElem? hy)) (orN_mem.mp (List.mem_of_getElem? hc))) (.inr ((r6.trans (r7.trans (r8.trans r9))).g.gg _ _ htm5)) fun G10 H10 v g10 hv => ?_
          have r10 := r9.start.step g10
          obtain ⟨ys, hy10, hz10, rr⟩ := r10.push hv (by omega)
          exact ⟨d, ys, v, rfl, rfl, hy10, hz10, k9 _ G10 _ ⟨_, rfl⟩ rr⟩
        · rintro σ' G9 H9 ⟨f, rfl⟩ r9
          have z := r8.trans r9
          refine k7 _ G9 H9 ⟨_, _, rfl⟩ ⟨z.g, z.gd, ?_, ?_⟩
          · have e : rawC m p ms y = (orN m.c).flatMap fun c => [⟨m.l, m.n, p, ms, y, c⟩] := by unfold rawC; exact List.map_eq_flatMap
            rw [e]
            exact z.xs
          · have := rawC_len m p ms y
            have := z.le
            have := r7.le
            rw [List.length_append]
            omega
      · rintro σ' G7 H7 ⟨e, f, rfl⟩ r7
        have z := r6.trans r7
        refine k5 _ G7 H7 ⟨_, _, _, rfl⟩ ⟨z.g, z.gd, z.xs, ?_⟩
        have := z.le
        have := orN_len m.y
        show (acc2 ++ (orN m.y).flatMap (rawC m p ms)).length ≤ _
        omega
    · rintro σ' G5 H5 ⟨c, e, f, rfl⟩ r5
      refine k _ G5 H5 ⟨_, _, _, _, rfl⟩ ?_
      have z := r4.trans r5
      refine ⟨z.g, z.gd, z.xs, ?_⟩
      have := z.le
      have := mcuts_len ok.m3 ok.mz
      show (acc ++ (mcuts m.ms).flatMap (rawY m p)).length ≤ _
      omega
  · rintro σ' G3 H3 ⟨b, c, e, f, rfl⟩ r
    have g3 : GR K S0 G H G3 H3 := g12.call r.g hd'
    obtain ⟨xs, hx, hp⟩ := r.xs
    refine ⟨_, rfl, G3, d, rawCuts m, rfl, g3.sb, g3.tb tb, ⟨xs, hx, hp⟩, fun G4 H4 p ys g4 hp4 hy => ?_⟩
    exact q G4 H4 p ys (g3.trans g4) hp4 hy
end
end K42
set_option Elab.async false
set_option linter.all false
set_option maxRecDepth 100000
set_option maxHeartbeats 4000000
namespace K42
open PySem PySem.Spec PyProof.Rows L2
/-! ### least sums -/
structure Ent where
  c : Mk
  s : Option Nat
  b : Option Nat
def sizeAt (es : List Ent) (i : Nat) : Option Nat := es[i]?.bind Ent.s
/-- the place of the first least sum among the first k -/
def bestIn (es : List Ent) : Nat → Option Nat
  | 0 => none
  | k + 1 => match sizeAt es k with
    | none => bestIn es k
    | some s => match bestIn es k with
      | none => some k
      | some b => if s < (sizeAt es b).getD 0 then some k else some b
def cnt (es : List Ent) (c : Mk) : Nat := (es.takeWhile fun e => kLt e.c c).length
def tl (c : Mk) : Nat := (text c).length
def entOf (ahead : List Ent) (c : Mk) : Ent :=
  let b := bestIn ahead (cnt ahead c)
  ⟨c, b.map fun i => (sizeAt ahead i).getD 0 + tl c, b⟩
def rowNext (prev : Option (List Ent)) (m : Mk) : List Ent := match prev with
  | none => (cuts m).map fun c => ⟨c, some (tl c), none⟩
  | some p => (cuts m).map (entOf p)
def sumsOf (ms : List Mk) : List (List Ent) := ms.foldl (fun rows m => rows ++ [rowNext rows.getLast? m]) []
theorem sumsOf_snoc (ms : List Mk) (m : Mk) : sumsOf (ms ++ [m]) = sumsOf ms ++ [rowNext (sumsOf ms).getLast? m] := by unfold sumsOf; rw [List.foldl_append]; rfl
theorem snoc_ind {α : Type} {p : List α → Prop} (h0 : p []) (hs : ∀ l a, p l → p (l ++ [a])) (l : List α) : p l := by
  have key : ∀ n (l : List α), l.length = n → p l := by
    intro n
    induction n with
    | zero => intro l h; rw [List.length_eq_zero_iff.mp h]; exact h0
    | succ n ih =>
      intro l h
      rcases List.eq_nil_or_concat l with rfl | ⟨t, a, rfl⟩
      · cases h
      · rw [List.concat_eq_append] at h ⊢; exact hs t a (ih t (by simpa using h))
  exact key _ l rfl
theorem sumsOf_len (ms : List Mk) : (sumsOf ms).length = ms.length := by
  induction ms using snoc_ind with
  | h0 => rfl
  | hs ms m ih => rw [sumsOf_snoc, List.length_append, List.length_append, ih]; rfl
theorem rowNext_c (prev : Option (List Ent)) (m : Mk) : (rowNext prev m).map Ent.c = cuts m := by
  unfold rowNext
  cases prev with
  | none => simp [Function.comp_def]
  | some p => simp [Function.comp_def, entOf]
/-- bestIn is a least one -/
theorem best_spec (es : List Ent) : ∀ k, (bestIn es k = none → ∀ j, j < k → sizeAt es j = none) ∧ ∀ b, bestIn es k = some b → b < k ∧ ∃ s, sizeAt es b = some s ∧ ∀ j t, j < k → sizeAt es j = some t → s ≤ t
  | 0 => ⟨fun _ j hj => absurd hj (Nat.not_lt_zero j), (fun b h => nomatch h)⟩
  | k + 1 => by
    obtain ⟨i1, i2⟩ := best_spec es k
    unfold bestIn
    cases hs : sizeAt es k with
    | none =>
      refine ⟨fun h j hj => ?_, fun b h => ?_⟩
      · rcases Nat.lt_succ_iff_lt_or_eq.mp hj with hj | rfl
        · exact i1 h j hj
        · exact hs
      · obtain ⟨h1, s, h2, h3⟩ := i2 b h
        refine ⟨by omega, s, h2, fun j t hj ht => ?_⟩
        rcases Nat.lt_succ_iff_lt_or_eq.mp hj with hj | rfl
        · exact h3 j t hj ht
        · rw [hs] at ht; cases ht
    | some s =>
      cases hb : bestIn es k with
      | none =>
        refine ⟨(fun h => nomatch h), fun b h => ?_⟩
        injection h with h
        subst h
        refine ⟨Nat.lt_succ_self _, s, hs, fun j t hj ht => ?_⟩
        rcases Nat.lt_succ_iff_lt_or_eq.mp hj with hj | rfl
        · rw [i1 hb j hj] at ht; cases ht
        · rw [hs] at ht; injection ht with ht; omega
      | some b =>
        obtain ⟨h1, s', h2, h3⟩ := i2 b hb
        refine ⟨fun h => ?_, fun b' h => ?_⟩
        · dsimp only at h; split at h <;> cases h
        · dsimp only at h
          rw [h2] at h
          split at h
          · rename_i hlt
            injection h with h
            subst h
            refine ⟨Nat.lt_succ_self _, s, hs, fun j t hj ht => ?_⟩
            rcases Nat.lt_succ_iff_lt_or_eq.mp hj with hj | rfl
            · have := h3 j t hj ht
              simp at hlt
              omega
            · rw [hs] at ht; injection ht with ht; omega
          · rename_i hlt
            injection h with h
            subst h
            refine ⟨by omega, s', h2, fun j t hj ht => ?_⟩
            rcases Nat.lt_succ_iff_lt_or_eq.mp hj with hj | rfl
            · exact h3 j t hj ht
            · rw [hs] at ht
              injection ht with ht
              simp at hlt
              omega
/-- walking back from place i of the last of the rows (rows from the last on) -/
def back : List (List Ent) → Option Nat → List Mk
  | [], _ => []
  | r :: rs, some i => match r[i]? with
    | some e => e.c :: back rs e.b
    | none => []
  | _ :: _, none => []
def shortRow (rows : List (List Ent)) : List Mk := match rows.getLast? with
  | none => []
  | some r => (back rows.reverse (bestIn r r.length)).reverse
end K42
set_option Elab.async false
set_option linter.all false
set_option maxRecDepth 100000
set_option maxHeartbeats 4000000
namespace K42
open PySem PySem.Spec PyProof.Rows L2
section
variable {P : Program} {w : World} {K : PySem.W.Frag} {mg : Str → Option Value} {base : Heap}
/-- an entry of a row of sums, frozen -/
def EntAt (K : PySem.W.Frag) (G : Hp) (v : V) (e : Ent) : Prop := ∃ t cv, v = .ref t ∧ G t = some (.tup [cv, oV e.s, oV e.b]) ∧ MarkAt K G cv e.c
theorem EntAt.mono {G G' : Hp} {v : V} {e : Ent} (h : EntAt K G v e) (l : Le G G') : EntAt K G' v e := by
  obtain ⟨t, cv, e1, h1, h2⟩ := h
  exact ⟨t, cv, e1, l _ _ h1, h2.mono l⟩
/-- a row of sums, frozen -/
def RowAt (K : PySem.W.Frag) (G : Hp) (v : V) (es : List Ent) : Prop := ∃ a xs, v = .ref a ∧ G a = some (.lst xs) ∧ Paired (EntAt K G) xs es
theorem RowAt.mono {G G' : Hp} {v : V} {es : List Ent} (h : RowAt K G v es) (l : Le G G') : RowAt K G' v es := by
  obtain ⟨a, xs, e1, h1, h2⟩ := h
  exact ⟨a, xs, e1, l _ _ h1, pair_imp h2 fun _ _ z => z.mono l⟩
def spLeast (K : PySem.W.Frag) : Sp := fun vs H Q _ => ∃ (G : Hp) (v : V) (es : List Ent), vs = [v] ∧ Sb G H ∧ RowAt K G v es ∧ ∀ H', GR K S0 G H G H' → Q (oV (bestIn es es.length)) H'
theorem sizeAt_of {es : List Ent} {i : Nat} {e : Ent} (h : es[i]? = some e) : sizeAt es i = e.s := by unfold sizeAt; rw [h]; rfl
abbrev N_least_in : List Str := ["row", "best", "at", "cut", "size", "before"]
theorem sc_least_in : FnScope N_least_in ["row"] (defScope S_least_in) := ⟨rfl, rfl, rfl, by decide +kernel, rfl, by decide +kernel, by decide +kernel⟩
theorem kn_least_in (T : Tx K mg base) : Kn P w K mg base CX0 3 "least_in" ["row"] (spLeast K) := by
  refine kn_of "least_in" T 40 38 S_least_in rfl rfl sc_least_in (fun vs H Q E h => by obtain ⟨_, _, _, rfl, _⟩ := h; rfl) (fun _ _ _ _ _ _ us hl => match us, hl with | [_], _ => rfl) (fun cdv A outer s H vs Q E hr h => ⟨_, PSs.nox (pss_cons (ps_set (i := 1) sc_least_in.nd rfl (Or.inl rfl) pe_non)
    (pss_cons (ps_for PassesOwn.never rfl (pi_enum (by rfl) T.f_enumerate (pa_cons (pv 0) pa_nil)) (pg_tup rfl (pgs_cons (pg_name (i := 2) sc_least_in.nd rfl (Or.inl rfl)) (pgs_cons (pg_tup rfl (pgs_cons (pg_name (i := 3) sc_least_in.nd rfl (Or.inl rfl)) (pgs_cons (pg_name (i := 4) sc_least_in.nd rfl (Or.inl rfl)) (pgs_cons (pg_name (i := 5) sc_least_in.nd rfl (Or.inl rfl)) pgs_nil)))) pgs_nil))) (pss_one (ps_if (PW.pt (pw_and (pt_cmpR op_notN (pv 4) pe_non (nomark _)) (pw_and1 (PW.pt (pw_or (pt_cmpR op_isN (pv 1) pe_non (nomark _)) (pw_or1 (pt_cmpR op_lt (pv 4) (pe_ix ix_tup (pe_ix ix_list (pv 0) (pv 1) (fun _ _ => rfl)) pe_int (fun _ _ => rfl)) (nomark _)))))))) (pss_one (ps_set (i := 1) sc_least_in.nd rfl (Or.inl rfl) (pv 2))) pss_nil)))
    (pss_one (ps_ret (pv 1))))), ?_⟩)
  obtain ⟨G, v, es, rfl, sb, ⟨a, xs, rfl, hx, hp⟩, q⟩ := h
  have hl := pair_len hp
  have hx0 := (sb _ _ hx).1
  refine ⟨_, rfl, a, xs, rfl, SqL.of hx0, ?_⟩
  refine for_it (walk_enum (xs := xs)) (fun i σ H' => ∃ c d e f : Option V, σ = [some (.ref a), some (oV (bestIn es i)), c, d, e, f] ∧ GR K S0 G H G H') ⟨_, _, _, _, rfl, GR.refl sb⟩ ?_ ?_ ?_
  · rintro i σ H1 hi ⟨c, d, e, f, rfl, g⟩
    exact SqL.of (g.keep hx0 trivial id)
  · rintro i x σ H1 H2 hi ⟨c, d, e, f, rfl, g⟩ ⟨t, u, v, rfl, ht, rfl, hu, hv⟩
    have eu : u = .int (i : Nat) := by injection hu with hu; exact hu.symm
    subst eu
    obtain ⟨en, hen, t2, cv, rfl, ht2, hc⟩ := pair_get' hp (show xs[i]? = some v from hv)
    have g2 := g.newM ht (o := .tup [.int (i : Nat), .ref t2])
    have ht3 := (g2.sb _ _ ht2).1
    refine ⟨t, _, rfl, SqT.of upd_same, rfl, _, _, rfl, _, _, rfl, t2, _, rfl, SqT.of ht3, rfl, _, _, rfl, _, _, rfl, _, _, rfl, rfl, rfl, ?_⟩
    have hs := sizeAt_of hen
    have ub : bestIn es (i + 1) = (match sizeAt es i with
      | none => bestIn es i
      | some s => match bestIn es i with
        | none => some i
        | some b => if s < (sizeAt es b).getD 0 then some i else some b) := rfl
    rw [hs] at ub
    cases es0 : en.s with
    | none =>
      rw [es0] at ub
      refine ⟨_, rfl, rfl, _, rfl, ifN (fun hn => (hn rfl).elim) fun _ => iteF ?_⟩
      exact ⟨_, _, _, _, by rw [ub]; rfl, g2⟩
    | some s =>
      rw [es0] at ub
      refine ⟨_, rfl, rfl, _, rfl, ifN (fun _ => ?_) fun e => nomatch e⟩
      cases eb : bestIn es i with
      | none =>
        rw [eb] at ub
        refine ⟨_, rfl, rfl, _, rfl, ifT rfl (iteT ⟨_, rfl, ?_⟩)⟩
        exact ⟨_, _, _, _, by rw [ub]; rfl, g2⟩
      | some b =>
        rw [eb] at ub
        obtain ⟨hb, sb', hsb, _⟩ := (best_spec es i).2 b eb
        obtain ⟨ent, hent⟩ : ∃ ent, es[b]? = some ent := ⟨_, List.getElem?_eq_getElem (by have := (List.getElem?_eq_some_iff.mp hen).1; omega)⟩
        dsimp only at ub
        rw [hsb] at ub
        rw [sizeAt_of hent] at hsb
        obtain ⟨x, hx4, t4, cv4, rfl, ht4, _⟩ := pair_get hp hent
        have hxk := g2.keep hx0 trivial id
        refine ⟨_, rfl, rfl, _, rfl, ifF (fun e => nomatch e) ⟨_, rfl, _, rfl, _, rfl, _, _, _, _, rfl, rfl, SqL.of hxk, atI_nat hx4, _, _, _, _, rfl, rfl, SqT.of (g2.sb _ _ ht4).1, atI_nat (j := 1) rfl, _, _, rfl, by rw [hsb]; rfl, _, rfl, ?_⟩⟩
        simp only [Option.getD_some] at ub
        refine ifC (fun hlt => ⟨_, rfl, ?_⟩) fun hlt => ?_
        · rw [if_pos (by omega)] at ub
          exact ⟨_, _, _, _, by rw [ub]; rfl, g2⟩
        · rw [if_neg (by omega)] at ub
          exact ⟨_, _, _, _, by rw [ub]; rfl, g2⟩
  · rintro σ H1 ⟨c, d, e, f, rfl, g⟩
    refine ⟨_, rfl, ?_⟩
    rw [hl]
    exact q _ g
theorem cnt_eq {es : List Ent} {c : Mk} {k : Nat} (hk : k ≤ es.length) (h1 : ∀ j e, j < k → es[j]? = some e → kLt e.c c = true) (h2 : ∀ e, es[k]? = some e → kLt e.c c = false) : cnt es c = k := by
  unfold cnt
  induction es generalizing k with
  | nil => have : k = 0 := by simpa using hk
           subst this; rfl
  | cons e es ih =>
    cases k with
    | zero =>
      rw [List.takeWhile_cons, if_neg (by rw [h2 e rfl]; exact Bool.false_ne_true)]
      rfl
    | succ k =>
      rw [List.takeWhile_cons, if_pos (h1 0 e (Nat.succ_pos k) rfl), List.length_cons, ih (k := k) (by simpa using hk) (fun j e' hj he => h1 (j + 1) e' (by omega) (by simpa using he)) fun e' he => h2 e' (by simpa using he)]
def spWith (K : PySem.W.Frag) : Sp := fun vs H Q _ => ∃ (G : Hp) (a : Addr) (v : V) (cs : List Mk) (es : List Ent), vs = [.ref a, v] ∧ Sb G H ∧ Ml K G H a cs ∧ RowAt K G v es ∧ (∀ c ∈ cs, Ok c) ∧ Rise cs ∧ Rise (es.map Ent.c) ∧ cs.length ≤ 12016004 ∧
  ∀ G' H' d, GR K S0 G H G' H' → RowAt K G' (.ref d) (cs.map (entOf es)) → Q (.ref d) H'
abbrev N_with_sums : List Str := ["cuts", "ahead", "row", "at", "best", "cut"]
theorem sc_with_sums : FnScope N_with_sums ["cuts", "ahead"] (defScope S_with_sums) := ⟨rfl, rfl, rfl, by decide +kernel, rfl, by decide +kernel, by decide +kernel⟩
theorem kn_with_sums (T : Tx K mg base) : Kn P w K mg base CX0 4 "with_sums" ["cuts", "ahead"] (spWith K) := by
  refine kn_of "with_sums" T 38 36 S_with_sums rfl rfl sc_with_sums (fun vs H Q E h => by obtain ⟨_, _, _, _, _, rfl, _⟩ := h; rfl) (fun _ _ _ _ _ _ us hl => match us, hl with | [_, _], _ => rfl) (fun cdv A outer s H vs Q E hr h => ⟨_, PSs.nox (pss_cons (ps_set (i := 2) sc_with_sums.nd rfl (Or.inl rfl) (pe_lst pa_nil))
    (pss_cons (ps_set (i := 3) sc_with_sums.nd rfl (Or.inl rfl) pe_int)
    (pss_cons (ps_set (i := 4) sc_with_sums.nd rfl (Or.inl rfl) pe_non)
    (pss_cons (ps_for PassesOwn.never rfl (pi_list (pv 0)) (pg_name (i := 5) sc_with_sums.nd rfl (Or.inl rfl)) (pss_cons (ps_while PassesOwn.never (PW.pt (pw_and (pt_cmpR op_lt (pv 3) (pe_callB call_len_seq (by rfl) T.f_len (by decide +kernel) (pa_cons (pv 1) pa_nil)) (nomark _)) (pw_and1 (pt_val (pe_km (kn_Mark_ahead T) (hr.mono (by decide)) (pe_ix ix_tup (pe_ix ix_list (pv 1) (pv 3) (fun _ _ => rfl)) pe_int (fun _ _ => rfl)) (pa_cons (pv 5) pa_nil)))))) (Evl.pss_cut (ps_if (PW.pt (pw_and (pt_cmpR op_notN (pe_ix ix_tup (pe_ix ix_list (pv 1) (pv 3) (fun _ _ => rfl)) pe_int (fun _ _ => rfl)) pe_non (nomark _)) (pw_and1 (PW.pt (pw_or (pt_cmpR op_isN (pv 4) pe_non (nomark _)) (pw_or1 (pt_cmpR op_lt (pe_ix ix_tup (pe_ix ix_list (pv 1) (pv 3) (fun _ _ => rfl)) pe_int (fun _ _ => rfl)) (pe_ix ix_tup (pe_ix ix_list (pv 1) (pv 4) (fun _ _ => rfl)) pe_int (fun _ _ => rfl)) (nomark _)))))))) (pss_one (ps_set (i := 4) sc_with_sums.nd rfl (Or.inl rfl) (pv 3))) pss_nil)
    (pss_one (ps_aug (i := 3) sc_with_sums.nd rfl (Or.inl rfl) pe_int ip_add))))
    (pss_one (ps_expr (pe_bm PySem.F.plainAttrs_list PySem.F.slot_list_append PySem.F.type_list_append mt_append (pv 2) (pa_cons (pe_tup (pa_cons (pv 5) (pa_cons (pe_ifExp (pt_cmpR op_isN (pv 4) pe_non (nomark _)) pe_non (pe_op op_add (pe_ix ix_tup (pe_ix ix_list (pv 1) (pv 4) (fun _ _ => rfl)) pe_int (fun _ _ => rfl)) (pe_callB (call_lenM (kn_Mark_len T) (hr.mono (by decide))) (by rfl) T.f_len (by decide +kernel) (pa_cons (pv 5) pa_nil)))) (pa_cons (pv 4) pa_nil)))) pa_nil))))))
    (pss_one (ps_ret (pv 2))))))), ?_⟩)
  obtain ⟨G, a, v, cs, es, rfl, sb, ⟨xs, hx, hp⟩, ⟨ea, ys, rfl, hy, hpe⟩, oks, hrc, hre, hcl, q⟩ := h
  have hl := pair_len hp
  have hle := pair_len hpe
  have hy0 := (sb _ _ hy).1
  refine ⟨size_of (n := 0) (by decide), fun d hd => ?_⟩
  have g1 := (GR.refl (K := K) (S := S0) sb).newM hd (o := .lst [])
  have hd' : ∀ b, S1 d b → S0 b ∨ H b = none := fun b hb => .inr (by rw [show b = d from hb]; exact hd)
  have nad : a ≠ d := ne_of_none hx hd
  refine ⟨_, rfl, a, rfl, ⟨_, SqL.of (g1.keep hx trivial id)⟩, ?_⟩
  refine for_list (K := K) (a := a) (xs := xs) (fun i σ H' => ∃ (G' : Hp) (zs : List V) (k : Nat) (f : Option V), σ = [some (.ref a), some (.ref ea), some (.ref d), some (.int (k : Nat)), some (oV (bestIn es k)), f] ∧ GR K S0 G H G' H' ∧ G' d = none ∧ H' d = some (.lst zs) ∧
    Paired (EntAt K G') zs ((cs.take i).map (entOf es)) ∧ k ≤ es.length ∧ ∀ j e c, j < k → es[j]? = some e → cs[i]? = some c → kLt e.c c = true) ?_ ?_ ?_ ?_
  · exact ⟨G, [], 0, none, rfl, g1, sb.no hd, upd_same, .nil, Nat.zero_le _, fun j e c hj => absurd hj (Nat.not_lt_zero _)⟩
  · rintro i σ H1 hi ⟨G1, zs, k, f, rfl, g, _⟩
    exact SqL.of (g.keep hx trivial id)
  · rintro i x σ H1 hxi ⟨G1, zs, k, f, rfl, g, gd, hz, hpz, hk, hlo⟩
    obtain ⟨c, hc, hm⟩ := pair_get' hp hxi
    have okc := oks c (List.mem_of_getElem? hc)
    have hm1 := hm.mono g.gg
    refine ⟨fun n σ H' => ∃ (k' : Nat), n = es.length - k' ∧ k' ≤ es.length ∧ σ = [some (.ref a), some (.ref ea), some (.ref d), some (.int (k' : Nat)), some (oV (bestIn es k')), some x] ∧ GR K S0 G1 H1 G1 H' ∧ ∀ j e, j < k' → es[j]? = some e → kLt e.c c = true, ⟨_, k, rfl, hk, rfl, GR.refl g.sb, fun j e hj he => hlo j e c hj he hc⟩, ?_⟩
    rintro n σ H2 ⟨k', rfl, hk', rfl, g2, hlo'⟩
    have hye := g.gg _ _ hy
    have hpe1 := pair_imp hpe fun _ _ z => z.mono g.gg
    obtain ⟨cx, rfl, hcx⟩ := hm1.mi g2.sb
    have hcx0 : ∀ H3, GR K S0 G1 H1 G1 H3 → MarkIn K H3 cx c := fun H3 g => by
      obtain ⟨b, e, hb⟩ := hm1.mi g.sb
      cases e
      exact hb
    have after : ∀ H3, GR K S0 G1 H1 G1 H3 → (∀ e, es[k']? = some e → kLt e.c c = false) → tDrop (tBM K "list" rAppend (tVar 2) (tCons (tTup (tCons (tVar 5) (tCons (tIf (tTest (tOp (fun x y H Q => y = .non ∧ Q (.bl (decide (x = .non))) H) (tVar 4) (tC .non))) (tC .non)
        (tOp (rI0 fun i j => .int (i + j)) (tOp (rIxT K) (tOp (rIxL K) (tVar 1) (tVar 4)) (tC (.int 1))) (tCB (rLenO (He.ga K "Mark") (spTxt K fun m => .int (text m).length)) (tCons (tVar 5) tNil)))) (tCons (tVar 4) tNil)))) tNil))
        { nx := fun σ H' => ∃ (G' : Hp) (zs : List V) (k : Nat) (f : Option V), σ = [some (.ref a), some (.ref ea), some (.ref d), some (.int (k : Nat)), some (oV (bestIn es k)), f] ∧ GR K S0 G H G' H' ∧ G' d = none ∧ H' d = some (.lst zs) ∧
    Paired (EntAt K G') zs ((cs.take (i + 1)).map (entOf es)) ∧ k ≤ es.length ∧ ∀ j e c, j < k → es[j]? = some e → cs[i + 1]? = some c → kLt e.c c = true, rt := Q } [some (.ref a), some (.ref ea), some (.ref d), some (.int (k' : Nat)), some (oV (bestIn es k')), some (.ref cx)] H3 := by
      intro H3 g3 hend
      have ek := cnt_eq hk' hlo' hend
      have gg := g.trans g3
      have hz3 := g3.keep hz trivial id
      have hn := pair_len hpz
      have hci := (List.getElem?_eq_some_iff.mp hc).1
      have fin : ∀ (H4 : Hp) (z : V), GR K S0 G1 H3 G1 H4 → z = oV (entOf es c).s → [V.ref cx, z, oV (bestIn es k')].length ≤ sizeLine ∧ ∀ p, H4 p = none → ∃ l xs y, V.ref d = .ref l ∧ [V.ref p] = [y] ∧ upd H4 p (.tup [V.ref cx, z, oV (bestIn es k')]) l = some (.lst xs) ∧ xs.length < sizeLine ∧
          (∃ (G' : Hp) (zs : List V) (k : Nat) (f : Option V), [some (V.ref a), some (V.ref ea), some (V.ref d), some (V.int (k' : Nat)), some (oV (bestIn es k')), some (V.ref cx)] = [some (.ref a), some (.ref ea), some (.ref d), some (.int (k : Nat)), some (oV (bestIn es k)), f] ∧ GR K S0 G H G' (upd (upd H4 p (.tup [V.ref cx, z, oV (bestIn es k')])) l (.lst (xs ++ [y]))) ∧ G' d = none ∧ upd (upd H4 p (.tup [V.ref cx, z, oV (bestIn es k')])) l (.lst (xs ++ [y])) d = some (.lst zs) ∧
            Paired (EntAt K G') zs ((cs.take (i + 1)).map (entOf es)) ∧ k ≤ es.length ∧ ∀ j e c, j < k → es[j]? = some e → cs[i + 1]? = some c → kLt e.c c = true) := by
        rintro H4 z g4 rfl
        refine ⟨size_of (n := 3) (by decide), fun p hp4 => ?_⟩
        have g5 := (gg.trans g4).new hp4 (o := .tup [V.ref cx, oV (entOf es c).s, oV (bestIn es k')]) trivial
        have hz5 : upd H4 p (.tup [V.ref cx, oV (entOf es c).s, oV (bestIn es k')]) d = some (.lst zs) := by rw [upd_ne (ne_of_none (g4.keep hz3 trivial id) hp4)]; exact g4.keep hz3 trivial id
        have gp : G1 p = none := g4.sb.no hp4
        have npd : d ≠ p := ne_of_none (g4.keep hz3 trivial id) hp4
        refine ⟨d, zs, .ref p, rfl, rfl, hz5, ?_, upd G1 p (.tup [V.ref cx, oV (entOf es c).s, oV (bestIn es k')]), zs ++ [.ref p], k', _, rfl, g5.wr (.inr hd) (by rw [upd_ne npd]; exact gd) hz5 trivial, by rw [upd_ne npd]; exact gd, upd_same, ?_, hk', fun j e c' hj he hc' => kLt_tr (hlo' j e hj he) (rise_at hrc (Nat.lt_succ_self i) hc hc')⟩
        · rw [hn, List.length_map, List.length_take, sizeLine_eq]
          omega
        · rw [List.take_add_one, hc, List.map_append]
          refine (pair_imp hpz fun _ _ z => z.mono (Le.up gp)).snoc ⟨p, _, rfl, ?_, hm1.mono (Le.up gp)⟩
          rw [upd_same]
          show some (HO.tup [V.ref cx, oV (entOf es c).s, oV (bestIn es k')]) = some (HO.tup [V.ref cx, oV (entOf es c).s, oV (bestIn es (cnt es c))])
          rw [ek]
      refine ⟨_, rfl, .inl ⟨rfl, _, SqL.of hz3⟩, _, rfl, _, rfl, rfl, _, rfl, ?_⟩
      have es1 : (entOf es c).s = (bestIn es k').map fun i => (sizeAt es i).getD 0 + tl c := by
        show (bestIn es (cnt es c)).map _ = _
        rw [ek]
      have two : bestIn es k' = none ∨ ∃ bb, bestIn es k' = some bb := by cases bestIn es k' <;> simp
      rcases two with eb | ⟨bb, eb⟩
      · rw [eb] at es1
        exact ifT (by rw [eb]; rfl) ⟨_, rfl, fin H3 .non (GR.refl g3.sb) (by rw [es1]; rfl)⟩
      · rw [eb] at es1
        obtain ⟨hbb, sb', hsb, _⟩ := (best_spec es k').2 bb eb
        obtain ⟨ent, hent⟩ : ∃ ent, es[bb]? = some ent := ⟨_, List.getElem?_eq_getElem (by omega)⟩
        have hsb2 := hsb
        rw [sizeAt_of hent] at hsb
        obtain ⟨y5, hy5, t5, cv5, rfl, ht5, _⟩ := pair_get hpe1 hent
        obtain ⟨dxc, tc, hcc, _⟩ := hcx0 H3 g3
        refine ifF (fun e => by rw [eb] at e; cases e) ⟨_, rfl, _, rfl, _, _, (bb : Nat), _, rfl, by rw [eb]; rfl, SqL.of (g3.sb _ _ hye).1, atI_nat hy5, _, _, _, _, rfl, rfl, SqT.of (g3.sb _ _ ht5).1, atI_nat (j := 1) rfl, _, rfl, cx, dxc, _, rfl, hcc, cx, dxc, tc, c, rfl, hcc, okc, ⟨_, rfl, ?_⟩, _, _, by rw [hsb]; rfl, rfl, _, rfl, ?_⟩
        · have := text_short c okc
          omega
        · refine fin H3 _ (GR.refl g3.sb) ?_
          rw [es1]
          show _ = V.int (((sizeAt es bb).getD 0 + tl c : Nat) : Int)
          rw [hsb2]
          rfl
    have hlen : ys.length = es.length := hle
    refine ⟨_, rfl, _, rfl, ea, ys, rfl, .inl (SqL.of (g2.sb _ _ hye).1), _, _, rfl, rfl, _, rfl, ifC (fun h1 => ?_) fun h1 => iteF (after H2 g2 fun e he => ?_)⟩
    · obtain ⟨e, he⟩ : ∃ e, es[k']? = some e := ⟨_, List.getElem?_eq_getElem (by omega)⟩
      obtain ⟨y, hye', t4, cv4, rfl, ht4, hc4⟩ := pair_get hpe1 he
      obtain ⟨b, rfl, ddx, tt, hb, hbt⟩ := hc4.mi g2.sb
      refine ⟨_, rfl, _, rfl, _, _, _, _, rfl, rfl, SqL.of (g2.sb _ _ hye).1, atI_nat hye', _, _, _, .ref b, rfl, rfl, SqT.of (g2.sb _ _ ht4).1, atI_nat (j := 0) rfl, b, ddx, _, rfl, hb, rfl, ?_⟩
      refine ⟨_, rfl, G1, b, cx, e.c, c, rfl, g2.sb, ⟨ddx, tt, hb, hbt⟩, hcx, fun H3 g3 => ⟨_, rfl, ifB (fun ht => ?_) fun hf => after H3 (g2.trans g3) fun e' he' => by rw [he] at he'; cases he'; exact hf⟩⟩
      have g23 := g2.trans g3
      have hye3 := (g23.sb _ _ hye).1
      have ht43 := (g23.sb _ _ ht4).1
      refine ⟨fun σ' H' => σ' = [some (.ref a), some (.ref ea), some (.ref d), some (.int ((k' + 1 : Nat) : Int)), some (oV (bestIn es (k' + 1))), some (.ref cx)] ∧ H' = H3, ?_, ?_⟩
      · rintro σ' H' ⟨rfl, rfl⟩
        refine ⟨es.length - (k' + 1), by omega, k' + 1, rfl, by omega, rfl, g23, fun j e' hj he' => ?_⟩
        by_cases hj2 : j < k'
        · exact hlo' j e' hj2 he'
        · rw [show j = k' by omega, he] at he'
          cases he'
          exact ht
      refine ⟨fun σ' H' => σ' = [some (.ref a), some (.ref ea), some (.ref d), some (.int (k' : Nat)), some (oV (bestIn es (k' + 1))), some (.ref cx)] ∧ H' = H3, ?_, ?_⟩
      · have hs := sizeAt_of he
        have ub : bestIn es (k' + 1) = (match sizeAt es k' with
          | none => bestIn es k'
          | some s => match bestIn es k' with
            | none => some k'
            | some b => if s < (sizeAt es b).getD 0 then some k' else some b) := rfl
        rw [hs] at ub
        refine ⟨_, rfl, _, rfl, _, _, _, _, rfl, rfl, SqL.of hye3, atI_nat hye', _, _, _, _, rfl, rfl, SqT.of ht43, atI_nat (j := 1) rfl, rfl, _, rfl, ?_⟩
        cases es0 : e.s with
        | none =>
          rw [es0] at ub
          refine ifN (fun hn => (hn rfl).elim) fun _ => iteF ?_
          exact ⟨by rw [ub], rfl⟩
        | some s =>
          rw [es0] at ub
          refine ifN (fun _ => ?_) fun e => nomatch e
          cases eb : bestIn es k' with
          | none =>
            rw [eb] at ub
            refine ⟨_, rfl, rfl, _, rfl, ifT rfl (iteT ⟨_, rfl, ?_⟩)⟩
            exact ⟨by rw [ub]; rfl, rfl⟩
          | some bb =>
            rw [eb] at ub
            dsimp only at ub
            obtain ⟨hbb, sb', hsb, _⟩ := (best_spec es k').2 bb eb
            obtain ⟨ent, hent⟩ : ∃ ent, es[bb]? = some ent := ⟨_, List.getElem?_eq_getElem (by omega)⟩
            rw [hsb] at ub
            rw [sizeAt_of hent] at hsb
            obtain ⟨y5, hy5, t5, cv5, rfl, ht5, _⟩ := pair_get hpe1 hent
            refine ⟨_, rfl, rfl, _, rfl, ifF (fun e => nomatch e) ⟨_, rfl, _, rfl, _, _, _, _, rfl, rfl, SqL.of hye3, atI_nat hye', _, _, _, _, rfl, rfl, SqT.of ht43, atI_nat (j := 1) rfl, _, rfl, _, rfl, _, _, _, _, rfl, rfl, SqL.of hye3, atI_nat hy5, _, _, _, _, rfl, rfl, SqT.of (g23.sb _ _ ht5).1, atI_nat (j := 1) rfl, _, _, by rw [es0]; rfl, by rw [hsb]; rfl, _, rfl, ?_⟩⟩
            simp only [Option.getD_some] at ub
            refine ifC (fun hlt => ⟨_, rfl, ?_⟩) fun hlt => ?_
            · rw [if_pos (by omega)] at ub
              exact ⟨by rw [ub]; rfl, rfl⟩
            · rw [if_neg (by omega)] at ub
              exact ⟨by rw [ub], rfl⟩
      · rintro σ' H' ⟨rfl, rfl⟩
        exact ⟨_, rfl, _, _, rfl, rfl, rfl, rfl⟩
    · exact absurd (List.getElem?_eq_some_iff.mp he).1 (by omega)
  · rintro σ H1 ⟨G1, zs, k, f, rfl, g, gd, hz, hpz, _⟩
    refine ⟨_, rfl, q _ H1 d (g.freeze hd hz trivial) ⟨d, zs, rfl, upd_same, ?_⟩⟩
    rw [hl, List.take_of_length_le (Nat.le_refl _)] at hpz
    exact pair_imp hpz fun _ _ z => z.mono (Le.up gd)
end
end K42
set_option Elab.async false
set_option linter.all false
set_option maxRecDepth 100000
set_option maxHeartbeats 4000000
namespace K42
open PySem PySem.Spec PyProof.Rows L2
/-! ### rules within a comprehension's block: the reading names K itself -/
structure Same (X : Cx) (P : Program) (w : World) (K : PySem.W.Frag) (mg : Str → Option Value) (base : Heap) : Prop where
  p : X.prog = P
  w : X.w = w
  k : X.K = K
  m : X.mg = mg
  b : X.base = base
section
variable {X : Cx} {P : Program} {w : World} {K : PySem.W.Frag} {mg : Str → Option Value} {base : Heap}
theorem call_lenE {lvl : Nat} {C : Str} {ps : List Str} {sp : Sp} (c : Km P w K mg base CX0 lvl C "__len__" ps sp) (hr : Room (lvl + 1) X.A) (e : Same X P w K mg base := by exact ⟨rfl, rfl, rfl, rfl, rfl⟩) : CallR X (.builtin "len") (rLenO (He.ga K C) sp) := by
  obtain ⟨rfl, rfl, rfl, rfl, rfl⟩ := e
  exact call_lenM c hr
theorem call_strE {lvl : Nat} {C : Str} {ps : List Str} {sp : Sp} (c : Km P w K mg base CX0 lvl C "__str__" ps sp) (hr : Room (lvl + 2) X.A) (e : Same X P w K mg base := by exact ⟨rfl, rfl, rfl, rfl, rfl⟩) : CallR X (.type "str") (rStrO (He.ga K C) sp) := by
  obtain ⟨rfl, rfl, rfl, rfl, rfl⟩ := e
  exact call_strM c hr
theorem ix_listE (K : PySem.W.Frag) (e : X.K = K) : IxR X (rIxL K) := by subst e; exact ix_list
theorem ix_tupE (K : PySem.W.Frag) (e : X.K = K) : IxR X (rIxT K) := by subst e; exact ix_tup
theorem pi_listE (K : PySem.W.Frag) (e : X.K = K) {tg l : Expr} {tl : TE} (hl : PE X l tl) : PI X tg l (iList K tl) := by subst e; exact pi_list hl
theorem op_eqDE (K : PySem.W.Frag) (e : X.K = K) (hu : X.A.units + 64 < cLine) : OpR X (compareOp .Eq) (rEqD K) := by subst e; exact op_eqD hu
theorem op_neDE (K : PySem.W.Frag) (e : X.K = K) (hu : X.A.units + 64 < cLine) : OpR X (compareOp .NotEq) (rNeD K) := by subst e; exact op_neD hu
theorem op_ltE (K : PySem.W.Frag) (e : X.K = K) {k : Nat} (hr : Room k X.A) : OpR X (compareOp .Lt) (rLtD K) := by subst e; exact op_ltK hr
theorem pg_tupE (K : PySem.W.Frag) (e : X.K = K) {es : List Expr} {k : Nat} {t : TGs} {n : Nat} {pos : Pos} (hc : X.calm = true) (h : PGs X es t) (hn : (assignEach es X.env).length = n := by rfl) (hst : (assignEach es X.env).findIdx? (·.1) = none := by rfl) : PG X (.Tuple es k pos) (gTup K n t) := by
  subst e; exact pg_tup hc h hn hst
end
end K42
set_option Elab.async false
set_option linter.all false
set_option maxRecDepth 100000
set_option maxHeartbeats 4000000
namespace K42
open PySem PySem.Spec PyProof.Rows L2
theorem sumsOf_rows {ms : List Mk} : ∀ r ∈ sumsOf ms, ∃ m ∈ ms, r.map Ent.c = cuts m := by
  induction ms using snoc_ind with
  | h0 => intro r hr; cases hr
  | hs ms m ih =>
    rw [sumsOf_snoc]
    intro r hr
    rcases List.mem_append.mp hr with hr | hr
    · obtain ⟨m', hm, e⟩ := ih r hr
      exact ⟨m', List.mem_append_left _ hm, e⟩
    · rw [List.mem_singleton.mp hr]
      exact ⟨m, by simp, rowNext_c _ _⟩
theorem cuts_len {m : Mk} (o : Ok m) : (cuts m).length ≤ 12016004 := by
  rw [show (cuts m).length = (rawCuts m).length from (kSort_perm _).length_eq]
  exact raw_len o
theorem last_atV {α : Type} {l : List α} {c : α} (h : l.getLast? = some c) : atI l (-1) = some c := by
  obtain ⟨a, rfl⟩ := List.getLast?_eq_some_iff.mp h
  exact atI_last _ _
theorem pair_last {α β : Type} {F : α → β → Prop} {xs : List α} {ms : List β} (h : Paired F xs ms) {m : β} (e : ms.getLast? = some m) : ∃ x, xs.getLast? = some x ∧ F x m := by
  rw [List.getLast?_eq_getElem?] at e ⊢
  rw [pair_len h]
  exact pair_get h e
section
variable {P : Program} {w : World} {K : PySem.W.Frag} {mg : Str → Option Value} {base : Heap}
/-- rows of sums, frozen -/
def RowsAt (K : PySem.W.Frag) (G : Hp) (v : V) (rs : List (List Ent)) : Prop := ∃ a xs, v = .ref a ∧ G a = some (.lst xs) ∧ Paired (RowAt K G) xs rs
theorem RowsAt.mono {G G' : Hp} {v : V} {rs : List (List Ent)} (h : RowsAt K G v rs) (l : Le G G') : RowsAt K G' v rs := by
  obtain ⟨a, xs, e1, h1, h2⟩ := h
  exact ⟨a, xs, e1, l _ _ h1, pair_imp h2 fun _ _ z => z.mono l⟩
def spSums (K : PySem.W.Frag) : Sp := fun vs H Q _ => ∃ (G : Hp) (a : Addr) (ms : List Mk), vs = [.ref a] ∧ Sb G H ∧ LamX.Tabs (Tq K) H ∧ Ml K G H a ms ∧ (∀ m ∈ ms, Ok m ∧ (text m).length ≤ 24) ∧ ms.length ≤ 1000 ∧
  ∀ G' H' v, GR K S0 G H G' H' → RowsAt K G' v (sumsOf ms) → Q v H'
abbrev N_sums_of : List Str := ["marks", "rows", "mark", "cut"]
theorem sc_sums_of : FnScope N_sums_of ["marks"] (defScope S_sums_of) := ⟨rfl, rfl, rfl, by decide +kernel, rfl, by decide +kernel, by decide +kernel⟩
theorem kn_sums_of (T : Tx K mg base) : Kn P w K mg base CX0 10 "sums_of" ["marks"] (spSums K) := by
  refine kn_of "sums_of" T 39 37 S_sums_of rfl rfl sc_sums_of (fun vs H Q E h => by obtain ⟨_, _, _, rfl, _⟩ := h; rfl) (fun _ _ _ _ _ _ us hl => match us, hl with | [_], _ => rfl) (fun cdv A outer s H vs Q E hr h => ⟨_, PSs.nox (pss_cons (ps_set (i := 1) sc_sums_of.nd rfl (Or.inl rfl) (pe_lst pa_nil))
    (pss_cons (ps_for PassesOwn.never rfl (pi_list (pv 0)) (pg_name (i := 2) sc_sums_of.nd rfl (Or.inl rfl)) (pss_one (ps_if (pt_cmpR (op_eqNil hr) (pv 1) (pe_lst pa_nil) (nomark _)) (pss_one (ps_expr (pe_bm PySem.F.plainAttrs_list PySem.F.slot_list_append PySem.F.type_list_append mt_append (pv 1) (pa_cons (pe_lc (own := [("cut", 3)]) rfl sc_sums_of.nd (pi_list (pe_fn (kn_cuts_of T) (hr.mono (by decide)) (pa_cons (pv 2) pa_nil))) (blkOk_by (N := N_sums_of) (sc := defScope S_sums_of) (by decide +kernel)) (fun _ _ _ _ _ => (pg_name (i := 3) sc_sums_of.nd rfl (Or.inl rfl))) (fun _ _ _ _ _ => pts_nil) (fun _ _ _ _ _ => (pe_tup (pa_cons (pv 3) (pa_cons (pe_callB (call_lenE (kn_Mark_len T) (hr.mono (by decide))) (by rfl) T.f_len (by decide +kernel) (pa_cons (pv 3) pa_nil)) (pa_cons pe_non pa_nil)))))) pa_nil)))) (pss_one (ps_expr (pe_bm PySem.F.plainAttrs_list PySem.F.slot_list_append PySem.F.type_list_append mt_append (pv 1) (pa_cons (pe_fn (kn_with_sums T) (hr.mono (by decide)) (pa_cons (pe_fn (kn_cuts_of T) (hr.mono (by decide)) (pa_cons (pv 2) pa_nil)) (pa_cons (pe_ix ix_list (pv 1) (pe_un un_neg pe_int) (fun _ _ => rfl)) pa_nil))) pa_nil)))))))
    (pss_one (ps_ret (pv 1))))), ?_⟩)
  obtain ⟨G, a, ms, rfl, sb, tb, ⟨xs, hx, hp⟩, hok, hz, q⟩ := h
  have hl := pair_len hp
  refine ⟨size_of (n := 0) (by decide), fun d hd => ?_⟩
  have g1 := (GR.refl (K := K) (S := S0) sb).newM hd (o := .lst [])
  refine ⟨_, rfl, a, rfl, ⟨_, SqL.of (g1.keep hx trivial id)⟩, ?_⟩
  refine for_list (K := K) (a := a) (xs := xs) (fun i σ H' => ∃ (G' : Hp) (zs : List V) (e f : Option V), σ = [some (.ref a), some (.ref d), e, f] ∧ GR K S0 G H G' H' ∧ G' d = none ∧ H' d = some (.lst zs) ∧ Paired (RowAt K G') zs (sumsOf (ms.take i))) ?_ ?_ ?_ ?_
  · exact ⟨G, [], none, none, rfl, g1, sb.no hd, upd_same, .nil⟩
  · rintro i σ H1 hi ⟨G1, zs, e, f, rfl, g, _⟩
    exact SqL.of (g.keep hx trivial id)
  · rintro i x σ H1 hxi ⟨G1, zs, e, f, rfl, g, gd, hzs, hpz⟩
    obtain ⟨m, hm, hmk⟩ := pair_get' hp hxi
    obtain ⟨okm, htm⟩ := hok m (List.mem_of_getElem? hm)
    have hm1 := hmk.mono g.gg
    have hn := pair_len hpz
    have hzn : zs.length < sizeLine := by
      rw [hn, sumsOf_len, List.length_take, sizeLine_eq]
      omega
    have nxt : ms.take (i + 1) = ms.take i ++ [m] := by rw [List.take_add_one, hm]; rfl
    have fin : ∀ (G2 H2 : Hp) (v : V), GR K S0 G1 H1 G2 H2 → RowAt K G2 v (rowNext (sumsOf (ms.take i)).getLast? m) → ∃ (G' : Hp) (zs' : List V) (e' f' : Option V), [some (V.ref a), some (V.ref d), some x, f] = [some (.ref a), some (.ref d), e', f'] ∧ GR K S0 G H G' (upd H2 d (.lst (zs ++ [v]))) ∧ G' d = none ∧ upd H2 d (.lst (zs ++ [v])) d = some (.lst zs') ∧ Paired (RowAt K G') zs' (sumsOf (ms.take (i + 1))) := by
      intro G2 H2 v g2 hv
      have gd2 := g2.nofrz hzs gd
      refine ⟨G2, zs ++ [v], _, f, rfl, (g.trans g2).wr (.inr hd) gd2 (g2.keep hzs trivial id) trivial, gd2, upd_same, ?_⟩
      rw [nxt, sumsOf_snoc]
      exact (pair_imp hpz fun _ _ z => z.mono g2.gg).snoc hv
    refine ⟨_, rfl, size_of (n := 0) (by decide), fun e0 he0 => ?_⟩
    have k1 := (GR.refl (K := K) (S := S0) g.sb).newM he0 (o := .lst [])
    refine ⟨d, e0, zs, rfl, rfl, SqL.of (k1.keep hzs trivial id), SqL.of upd_same, _, rfl, ?_⟩
    cases zs with
    | nil =>
      refine iteT ?_
      have e0' : sumsOf (ms.take i) = [] := List.length_eq_zero_iff.mp (pair_len hpz).symm
      refine ⟨_, rfl, .inl ⟨rfl, _, SqL.of (k1.keep hzs trivial id)⟩, _, rfl, G1, x, m, rfl, k1.sb, (g.trans k1).tb tb, hm1, okm, htm, fun G2 H2 d2 ws g2 hd2 hcs => ⟨d2, rfl, ⟨_, SqL.of upd_same⟩, fun D hD => ?_⟩⟩
      have k2 := (k1.trans g2).newM hd2 (o := .lst ws)
      have hwl := pair_len hcs
      have hcl := cuts_len okm
      refine lcG K (G1 := G2) (walk_list (K := K) (a := d2) (xs := ws)) k2.sb hD (fun G' acc i => Paired (EntAt K G') acc (((cuts m).take i).map fun c => ⟨c, some (tl c), none⟩)) .nil (by rw [hwl]; exact size_of (by omega)) (fun G' acc i e => ?_) (fun G' H' gr => SqL.of (gr.keep upd_same trivial id)) (fun i x G' H1 H' acc N hi gr gD hD' rp y ky kn => ?_) (fun G' H' acc gr hD' gD rp => ?_)
      · rw [pair_len e, List.length_map]
        exact Nat.le_trans (List.length_take_le _ _) (Nat.le_refl _)
      · obtain ⟨rfl, hx⟩ := y
        obtain ⟨c, hc, hmc⟩ := pair_get' hcs hx
        have okc := cuts_ok okm (List.mem_of_getElem? hc)
        have hmc1 := hmc.mono gr.gg
        obtain ⟨ca, dxc, tc, rfl, hca⟩ := hmc1.o gr.sb
        refine ⟨rfl, tyes (iteT ⟨_, rfl, _, rfl, ca, dxc, _, rfl, hca, ca, dxc, tc, c, rfl, hca, okc, ⟨_, rfl, ?_⟩, size_of (n := 3) (by decide), fun p hp0 => ?_⟩)⟩
        · have := text_short c okc
          omega
        · refine ky _ _ (.ref p) ((GR.refl gr.sb).new hp0 trivial) ?_
          rw [List.take_add_one, hc, List.map_append]
          exact (pair_imp rp fun _ _ z => z.mono (Le.up (gr.sb.no hp0))).snoc ⟨p, _, rfl, upd_same, hmc1.mono (Le.up (gr.sb.no hp0))⟩
      · rw [hwl, List.take_of_length_le (Nat.le_refl _)] at rp
        have k3 := k2.trans gr
        have k4 := k3.freezeN (k2.nw (.of hD)) hD' trivial
        have z := fin _ _ (.ref D) k4 ⟨D, acc, rfl, upd_same, by
          rw [e0']
          exact pair_imp rp fun _ _ z => z.mono (Le.up gD)⟩
        refine ⟨d, [], .ref D, rfl, rfl, k3.keep hzs trivial id, hzn, ?_⟩
        obtain ⟨a1, a2, a3, a4, a5, a6, a7, a8, a9⟩ := z
        exact ⟨a1, a2, a3, a4, a5, a6, a7, a8, a9⟩
    | cons z0 zs0 =>
      refine iteF ?_
      obtain ⟨pr, hpr⟩ : ∃ pr, (sumsOf (ms.take i)).getLast? = some pr := by
        cases hh : sumsOf (ms.take i) with
        | nil => rw [hh] at hn; cases hn
        | cons a b => exact ⟨_, List.getLast?_eq_some_getLast (by simp)⟩
      obtain ⟨zl, hzl, hrow⟩ := pair_last hpz hpr
      obtain ⟨m', hm', hrc⟩ := sumsOf_rows pr (List.mem_of_getLast? hpr)
      have okm' := (hok m' (List.mem_of_mem_take hm')).1
      refine ⟨_, rfl, .inl ⟨rfl, _, SqL.of (k1.keep hzs trivial id)⟩, _, rfl, G1, x, m, rfl, k1.sb, (g.trans k1).tb tb, hm1, okm, htm, fun G2 H2 d2 ws g2 hd2 hcs => ?_⟩
      have k2 := (k1.trans g2).newM hd2 (o := .lst ws)
      refine ⟨_, rfl, 1, rfl, _, _, _, zl, rfl, rfl, SqL.of (k2.keep hzs trivial id), last_atV hzl, G2, d2, zl, cuts m, pr, rfl, k2.sb, ⟨ws, upd_same, hcs⟩, hrow.mono g2.gg, fun c hc => cuts_ok okm hc, cuts_rise okm, by rw [hrc]; exact cuts_rise okm', cuts_len okm, fun G3 H3 d3 g3 hr3 => ?_⟩
      have k3 := k2.trans g3
      have z := fin _ _ (.ref d3) k3 (by rw [hpr]; exact hr3)
      refine ⟨d, _, .ref d3, rfl, rfl, k3.keep hzs trivial id, hzn, ?_⟩
      obtain ⟨a1, a2, a3, a4, a5, a6, a7, a8, a9⟩ := z
      exact ⟨a1, a2, a3, a4, a5, a6, a7, a8, a9⟩
  · rintro σ H1 ⟨G1, zs, e, f, rfl, g, gd, hzs, hpz⟩
    rw [hl, List.take_of_length_le (Nat.le_refl _)] at hpz
    exact ⟨_, rfl, q _ H1 _ (g.freeze hd hzs trivial) ⟨d, zs, rfl, upd_same, pair_imp hpz fun _ _ z => z.mono (Le.up gd)⟩⟩
/-- the walk back meets an entry in each row -/
def BackOk : List (List Ent) → Option Nat → Prop
  | [], _ => True
  | r :: rs, o => ∃ i e, o = some i ∧ r[i]? = some e ∧ BackOk rs e.b
def bestOf (rows : List (List Ent)) : Option Nat := match rows.getLast? with
  | none => none
  | some r => bestIn r r.length
theorem back_cons {r : List Ent} {rs : List (List Ent)} {i : Nat} {e : Ent} (h : r[i]? = some e) : back (r :: rs) (some i) = e.c :: back rs e.b := by
  show (match r[i]? with
    | some e => e.c :: back rs e.b
    | none => []) = _
  rw [h]
def spRow (K : PySem.W.Frag) : Sp := fun vs H Q _ => ∃ (G : Hp) (v : V) (rows : List (List Ent)), vs = [v] ∧ Sb G H ∧ RowsAt K G v rows ∧ rows.length ≤ 1000 ∧ BackOk rows.reverse (bestOf rows) ∧
  ∀ G' H' d xs, GR K S0 G H G' H' → H' d = none → Paired (MarkAt K G') xs (shortRow rows) → Q (.ref d) (upd H' d (.lst xs))
theorem pair_rev {α β : Type} {F : α → β → Prop} : ∀ {xs : List α} {ms : List β}, Paired F xs ms → Paired F xs.reverse ms.reverse
  | _, _, .nil => .nil
  | _, _, .cons h t => by
    rw [List.reverse_cons, List.reverse_cons]
    exact (pair_rev t).snoc h
abbrev N_short_row : List Str := ["rows", "row", "at", "sums"]
theorem sc_short_row : FnScope N_short_row ["rows"] (defScope S_short_row) := ⟨rfl, rfl, rfl, by decide +kernel, rfl, by decide +kernel, by decide +kernel⟩
theorem kn_short_row (T : Tx K mg base) : Kn P w K mg base CX0 5 "short_row" ["rows"] (spRow K) := by
  refine kn_of "short_row" T 41 39 S_short_row rfl rfl sc_short_row (fun vs H Q E h => by obtain ⟨_, _, _, rfl, _⟩ := h; rfl) (fun _ _ _ _ _ _ us hl => match us, hl with | [_], _ => rfl) (fun cdv A outer s H vs Q E hr h => ⟨_, PSs.nox (pss_cons (ps_if (pt_cmpR (op_eqNil hr) (pv 0) (pe_lst pa_nil) (nomark _)) (pss_one (ps_ret (pe_lst pa_nil))) pss_nil)
    (pss_cons (ps_set (i := 1) sc_short_row.nd rfl (Or.inl rfl) (pe_lst pa_nil))
    (pss_cons (ps_set (i := 2) sc_short_row.nd rfl (Or.inl rfl) (pe_fn (kn_least_in T) (hr.mono (by decide)) (pa_cons (pe_ix ix_list (pv 0) (pe_un un_neg pe_int) (fun _ _ => rfl)) pa_nil)))
    (pss_cons (ps_for PassesOwn.never rfl (pi_list (pe_revL (pv 0))) (pg_name (i := 3) sc_short_row.nd rfl (Or.inl rfl)) (pss_cons (ps_expr (pe_bm PySem.F.plainAttrs_list PySem.F.slot_list_append PySem.F.type_list_append mt_append (pv 1) (pa_cons (pe_ix ix_tup (pe_ix ix_list (pv 3) (pv 2) (fun _ _ => rfl)) pe_int (fun _ _ => rfl)) pa_nil)))
    (pss_one (ps_set (i := 2) sc_short_row.nd rfl (Or.inl rfl) (pe_ix ix_tup (pe_ix ix_list (pv 3) (pv 2) (fun _ _ => rfl)) pe_int (fun _ _ => rfl))))))
    (pss_one (ps_ret (pe_revL (pv 1)))))))), ?_⟩)
  obtain ⟨G, v, rows, rfl, sb, ⟨a, xs, rfl, hx, hp⟩, hz, hb, q⟩ := h
  have hx0 := (sb _ _ hx).1
  have hl := pair_len hp
  refine ⟨_, rfl, size_of (n := 0) (by decide), fun e0 he0 => ?_⟩
  have g1 := (GR.refl (K := K) (S := S0) sb).newM he0 (o := .lst [])
  refine ⟨a, e0, xs, rfl, rfl, SqL.of (g1.keep hx0 trivial id), SqL.of upd_same, _, rfl, ?_⟩
  cases rows with
  | nil =>
    cases hp
    refine iteT ⟨size_of (n := 0) (by decide), fun d hd => ?_⟩
    exact q G _ d [] g1 hd .nil
  | cons r0 rs0 =>
    obtain ⟨x0, xs0, rfl⟩ : ∃ x0 xs0, xs = x0 :: xs0 := by
      cases xs with
      | nil => cases hl
      | cons x0 xs0 => exact ⟨x0, xs0, rfl⟩
    · refine iteF ?_
      refine ⟨size_of (n := 0) (by decide), fun d hd => ?_⟩
      have g2 := g1.newM hd (o := .lst [])
      obtain ⟨lr, hlr⟩ : ∃ lr, (r0 :: rs0).getLast? = some lr := ⟨_, List.getLast?_eq_some_getLast (by simp)⟩
      obtain ⟨zl, hzl, hrow⟩ := pair_last hp hlr
      refine ⟨_, rfl, 1, rfl, _, _, _, zl, rfl, rfl, SqL.of (g2.keep hx0 trivial id), last_atV hzl, G, zl, lr, rfl, g2.sb, hrow, fun H3 g3 => ?_⟩
      have g23 := g2.trans g3
      refine ⟨_, rfl, a, _, rfl, SqL.of (g23.keep hx0 trivial id), fun p hp3 => ⟨p, rfl, ⟨_, SqL.of upd_same⟩, ?_⟩⟩
      have hpv := pair_rev hp
      have hlv := pair_len hpv
      have hzv : (r0 :: rs0).reverse.length ≤ 1000 := by rw [List.length_reverse]; exact hz
      have eb : bestOf (r0 :: rs0) = bestIn lr lr.length := by unfold bestOf; rw [hlr]
      rw [eb] at hb
      have hd3 := g3.keep (p := d) upd_same trivial id
      have npd : p ≠ d := ne_of_none' hd3 hp3
      have g4 := g23.newM hp3 (o := .lst (x0 :: xs0).reverse)
      refine for_list (K := K) (a := p) (xs := (x0 :: xs0).reverse) (fun j σ H' => ∃ (zs : List V) (o : Option Nat) (f : Option V) (acc : List Mk), σ = [some (.ref a), some (.ref d), some (oV o), f] ∧ GR K S0 G H G H' ∧ H' d = some (.lst zs) ∧ H' p = some (.lst (x0 :: xs0).reverse) ∧ Paired (MarkAt K G) zs acc ∧
        BackOk ((r0 :: rs0).reverse.drop j) o ∧ acc ++ back ((r0 :: rs0).reverse.drop j) o = back (r0 :: rs0).reverse (bestIn lr lr.length) ∧ acc.length = j) ⟨[], _, none, [], rfl, g4, ?_, upd_same, .nil, hb, rfl, rfl⟩ ?_ ?_ ?_
      · rw [upd_ne npd.symm]; exact hd3
      · rintro j σ H4 hj ⟨zs, o, f, acc, rfl, g, hzs, hpp, _⟩
        exact SqL.of hpp
      · rintro j x σ H4 hxj ⟨zs, o, f, acc, rfl, g, hzs, hpp, hpz, hbk, hacc, hj⟩
        obtain ⟨r, hr, hrow⟩ := pair_get' hpv hxj
        have hjl := (List.getElem?_eq_some_iff.mp hr).1
        have edr : (r0 :: rs0).reverse.drop j = r :: (r0 :: rs0).reverse.drop (j + 1) := by
          rw [List.drop_eq_getElem_cons hjl]
          congr 1
          exact (List.getElem?_eq_some_iff.mp hr).2
        rw [edr] at hbk hacc
        obtain ⟨i, e, rfl, hie, hbk'⟩ := hbk
        obtain ⟨ra, ry, rfl, hra, hpr⟩ := hrow
        obtain ⟨y, hy, t, cv, rfl, ht, hcv⟩ := pair_get hpr hie
        have hra4 := (g.sb _ _ hra).1
        have ht4 := (g.sb _ _ ht).1
        have hn := pair_len hpz
        have hlz : zs.length < sizeLine := by rw [hn, hj, sizeLine_eq]; omega
        have g5 := g.wr (o' := .lst (zs ++ [cv])) (.inr (by
          cases z : H d with
          | none => rfl
          | some o => rw [upd_ne (ne_of_none z he0), z] at hd; cases hd)) (by
            exact (g1.sb.no hd)) hzs trivial
        have nad : ra ≠ d := fun z => by
          have w1 := g1.sb.no hd
          rw [← z, hra] at w1; cases w1
        have ntd : t ≠ d := fun z => by
          have w1 := g1.sb.no hd
          rw [← z, ht] at w1; cases w1
        refine ⟨_, rfl, .inl ⟨rfl, _, SqL.of hzs⟩, _, rfl, _, rfl, _, _, (i : Nat), _, rfl, rfl, SqL.of hra4, atI_nat hy, _, _, _, _, rfl, rfl, SqT.of ht4, atI_nat (j := 0) rfl, d, zs, cv, rfl, rfl, hzs, hlz, ?_⟩
        refine ⟨_, rfl, _, rfl, _, _, (i : Nat), _, rfl, rfl, SqL.of (g5.sb _ _ hra).1, atI_nat hy, _, _, _, _, rfl, rfl, SqT.of (g5.sb _ _ ht).1, atI_nat (j := 2) rfl, ?_⟩
        refine ⟨zs ++ [cv], e.b, _, acc ++ [e.c], rfl, g5, upd_same, by rw [upd_ne npd]; exact hpp, hpz.snoc hcv, hbk', ?_, by rw [List.length_append, hj]; rfl⟩
        rw [← hacc]
        rw [back_cons hie]
        simp
      · rintro σ H4 ⟨zs, o, f, acc, rfl, g, hzs, hpp, hpz, hbk, hacc, hj⟩
        rw [hlv, List.drop_length] at hacc
        refine ⟨_, rfl, d, zs, rfl, SqL.of hzs, fun q1 hq1 => q G H4 q1 _ g hq1 ?_⟩
        have e : shortRow (r0 :: rs0) = acc.reverse := by
          unfold shortRow
          rw [hlr]
          show (back _ _).reverse = _
          rw [← hacc]
          simp [back]
        rw [e]
        exact pair_rev hpz
end
end K42
set_option Elab.async false
set_option linter.all false
set_option maxRecDepth 100000
set_option maxHeartbeats 4000000
namespace K42
open PySem PySem.Spec PyProof.Rows L2
/-! ### the short row is what it should be -/
theorem rowNext_at {prev : Option (List Ent)} {m : Mk} {i : Nat} {e : Ent} (h : (rowNext prev m)[i]? = some e) : e.c ∈ cuts m ∧ (prev = none → e.s = some (tl e.c) ∧ e.b = none) ∧ ∀ p, prev = some p → e = entOf p e.c := by
  cases prev with
  | none =>
    unfold rowNext at h
    rw [List.getElem?_map] at h
    cases hc : (cuts m)[i]? with
    | none => rw [hc] at h; cases h
    | some c =>
      rw [hc] at h
      injection h with h
      subst h
      exact ⟨List.mem_of_getElem? hc, fun _ => ⟨rfl, rfl⟩, fun p e => by cases e⟩
  | some p =>
    unfold rowNext at h
    rw [List.getElem?_map] at h
    cases hc : (cuts m)[i]? with
    | none => rw [hc] at h; cases h
    | some c =>
      rw [hc] at h
      injection h with h
      subst h
      refine ⟨List.mem_of_getElem? hc, (fun e => by cases e), fun q e => ?_⟩
      injection e with e
      subst e
      rfl
theorem cnt_le (es : List Ent) (c : Mk) : cnt es c ≤ es.length := by unfold cnt; exact (List.takeWhile_sublist _).length_le
theorem cnt_lt {es : List Ent} {c : Mk} {i : Nat} {e : Ent} (hi : i < cnt es c) (h : es[i]? = some e) : kLt e.c c = true := by
  unfold cnt at hi
  have h1 : (es.takeWhile fun e => kLt e.c c)[i]? = some e := by
    have hp : es.takeWhile (fun e => kLt e.c c) <+: es := List.takeWhile_prefix _
    rw [List.prefix_iff_eq_take.mp hp, List.getElem?_take_of_lt hi]
    exact h
  have := List.all_takeWhile (p := fun e : Ent => kLt e.c c) (l := es)
  rw [List.all_eq_true] at this
  exact this e (List.mem_of_getElem? h1)
theorem cnt_end {es : List Ent} {c : Mk} {e : Ent} (h : es[cnt es c]? = some e) : kLt e.c c = false := by
  induction es with
  | nil => cases h
  | cons a es ih =>
    unfold cnt at h
    rw [List.takeWhile_cons] at h
    by_cases z : kLt a.c c = true
    · rw [if_pos z, List.length_cons, List.getElem?_cons_succ] at h
      exact ih h
    · rw [if_neg z] at h
      simp at h
      subst h
      simpa using z
theorem ent_prev {p : List Ent} {c : Mk} {s : Nat} (h : (entOf p c).s = some s) : ∃ i e t, (entOf p c).b = some i ∧ p[i]? = some e ∧ e.s = some t ∧ s = t + tl c ∧ kLt e.c c = true := by
  have hs : (bestIn p (cnt p c)).map (fun i => (sizeAt p i).getD 0 + tl c) = some s := h
  have two : bestIn p (cnt p c) = none ∨ ∃ bb, bestIn p (cnt p c) = some bb := by cases bestIn p (cnt p c) <;> simp
  rcases two with eb | ⟨i, eb⟩
  · rw [eb] at hs; cases hs
  · rw [eb] at hs
    obtain ⟨hi, t, ht, _⟩ := (best_spec p _).2 i eb
    obtain ⟨e, he⟩ : ∃ e, p[i]? = some e := ⟨_, List.getElem?_eq_getElem (Nat.lt_of_lt_of_le hi (cnt_le _ _))⟩
    refine ⟨i, e, t, eb, he, by rw [← sizeAt_of he]; exact ht, ?_, cnt_lt hi he⟩
    simp only [Option.map_some, ht, Option.getD_some, Option.some.injEq] at hs
    exact hs.symm
structure Good (ms : List Mk) (i : Nat) (e : Ent) (s : Nat) : Prop where
  ok : BackOk (sumsOf ms).reverse (some i)
  cut : Paired (fun x m => x ∈ cuts m) (back (sumsOf ms).reverse (some i)) ms.reverse
  sum : ((back (sumsOf ms).reverse (some i)).map tl).sum = s
  fall : (back (sumsOf ms).reverse (some i)).Pairwise fun a b => kLt b a = true
  head : (back (sumsOf ms).reverse (some i)).head? = some e.c
theorem good (ms : List Mk) : ∀ p, (sumsOf ms).getLast? = some p → ∀ i e s, p[i]? = some e → e.s = some s → Good ms i e s := by
  induction ms using snoc_ind with
  | h0 => intro p h; cases h
  | hs ms m ih =>
    intro p hp i e s he hs
    rw [sumsOf_snoc] at hp
    have hp' : p = rowNext (sumsOf ms).getLast? m := by
      simp at hp
      exact hp.symm
    subst hp'
    have er : (sumsOf (ms ++ [m])).reverse = rowNext (sumsOf ms).getLast? m :: (sumsOf ms).reverse := by rw [sumsOf_snoc, List.reverse_append]; rfl
    have em : (ms ++ [m]).reverse = m :: ms.reverse := by simp
    obtain ⟨h1, h2, h3⟩ := rowNext_at he
    have eb := back_cons (rs := (sumsOf ms).reverse) he
    cases hl : (sumsOf ms).getLast? with
    | none =>
      have e0 : sumsOf ms = [] := List.getLast?_eq_none_iff.mp hl
      have m0 : ms = [] := by
        have := sumsOf_len ms
        rw [e0] at this
        exact List.length_eq_zero_iff.mp this.symm
      obtain ⟨s1, b1⟩ := h2 hl
      rw [s1] at hs
      injection hs with hs
      have bk : back (sumsOf (ms ++ [m])).reverse (some i) = [e.c] := by rw [er, eb, e0]; rfl
      refine ⟨by rw [er]; exact ⟨i, e, rfl, he, by rw [e0]; trivial⟩, ?_, ?_, ?_, ?_⟩ <;> rw [bk]
      · rw [em, m0]
        exact .cons h1 .nil
      · simp [hs]
      · simp
      · rfl
    | some q =>
      have he' := h3 q hl
      rw [he'] at hs
      obtain ⟨j, e', t, hb, hj, ht, hst, hlt⟩ := ent_prev hs
      have g := ih q hl j e' t hj ht
      have hb' : e.b = some j := by rw [he']; exact hb
      have bk : back (sumsOf (ms ++ [m])).reverse (some i) = e.c :: back (sumsOf ms).reverse (some j) := by rw [er, eb, hb']
      refine ⟨by rw [er]; exact ⟨i, e, rfl, he, by rw [hb']; exact g.ok⟩, ?_, ?_, ?_, ?_⟩ <;> rw [bk]
      · rw [em]
        exact .cons h1 g.cut
      · rw [List.map_cons, List.sum_cons, g.sum]
        omega
      · refine List.pairwise_cons.mpr ⟨fun b hb2 => ?_, g.fall⟩
        have gh := g.head
        have gf := g.fall
        cases hk : back (sumsOf ms).reverse (some j) with
        | nil => rw [hk] at hb2; cases hb2
        | cons z zs =>
          rw [hk] at gh gf hb2
          injection gh with gh
          rw [List.pairwise_cons] at gf
          rcases List.mem_cons.mp hb2 with rfl | hb2
          · rw [gh]; exact hlt
          · exact kLt_tr (gf.1 b hb2) (by rw [gh]; exact hlt)
      · rfl
/-- the last mark itself has a sum -/
theorem has_sum (ms : List Mk) : (∀ m ∈ ms, Ok m) → Rise ms → ∀ m, ms.getLast? = some m → ∃ (p : List Ent) (i : Nat) (e : Ent) (s : Nat), (sumsOf ms).getLast? = some p ∧ p[i]? = some e ∧ e.c = m ∧ e.s = some s := by
  induction ms using snoc_ind with
  | h0 => intro _ _ m h; cases h
  | hs ms m0 ih =>
    intro ok hr m hm
    have em : m = m0 := by simp at hm; exact hm.symm
    subst em
    have okm := ok m (by simp)
    obtain ⟨i, hi, hic⟩ := List.getElem_of_mem (cuts_self okm)
    have hl : (sumsOf (ms ++ [m])).getLast? = some (rowNext (sumsOf ms).getLast? m) := by rw [sumsOf_snoc]; simp
    cases hq : (sumsOf ms).getLast? with
    | none =>
      refine ⟨_, i, ⟨m, some (tl m), none⟩, tl m, hl, ?_, rfl, rfl⟩
      rw [hq]
      unfold rowNext
      rw [List.getElem?_map, List.getElem?_eq_getElem hi, hic]
      rfl
    | some q =>
      have hms : ∃ mp, ms.getLast? = some mp := by
        cases ms with
        | nil => cases hq
        | cons a b => exact ⟨_, List.getLast?_eq_some_getLast (by simp)⟩
      obtain ⟨mp, hmp⟩ := hms
      have hr2 := List.pairwise_append.mp hr
      obtain ⟨q', j, e, s, hq', hj, hec, hes⟩ := ih (fun x hx => ok x (List.mem_append_left _ hx)) hr2.1 mp hmp
      rw [hq] at hq'
      injection hq' with hq'
      subst hq'
      have hlt : kLt e.c m = true := by rw [hec]; exact hr2.2.2 mp (List.mem_of_getLast? hmp) m (by simp)
      obtain ⟨m', hm', hrc⟩ := sumsOf_rows q (List.mem_of_getLast? hq)
      have hrise : Rise (q.map Ent.c) := by rw [hrc]; exact cuts_rise (ok m' (List.mem_append_left _ hm'))
      have hcnt : j < cnt q m := by
        refine Nat.lt_of_not_le fun hle => ?_
        have hlen := (List.getElem?_eq_some_iff.mp hj).1
        obtain ⟨e2, he2⟩ : ∃ e2, q[cnt q m]? = some e2 := ⟨_, List.getElem?_eq_getElem (by omega)⟩
        have hno : kLt e2.c m = false := by
          exact cnt_end he2
        rcases Nat.lt_or_eq_of_le hle with hlt2 | heq
        · have := rise_at hrise hlt2 (a := e2.c) (b := e.c) (by rw [List.getElem?_map, he2]; rfl) (by rw [List.getElem?_map, hj]; rfl)
          have := kLt_tr this hlt
          rw [hno] at this; cases this
        · rw [heq, hj] at he2
          injection he2 with he2
          rw [← he2, hlt] at hno; cases hno
      refine ⟨_, i, entOf q m, ((bestIn q (cnt q m)).map fun i => (sizeAt q i).getD 0 + tl m).getD 0, hl, ?_, rfl, ?_⟩
      · rw [hq]
        unfold rowNext
        rw [List.getElem?_map, List.getElem?_eq_getElem hi, hic]
        rfl
      · show (bestIn q (cnt q m)).map _ = _
        have two : bestIn q (cnt q m) = none ∨ ∃ bb, bestIn q (cnt q m) = some bb := by cases bestIn q (cnt q m) <;> simp
        rcases two with eb | ⟨bb, eb⟩
        · have := (best_spec q _).1 eb j hcnt
          rw [sizeAt_of hj, hes] at this
          cases this
        · rw [eb]; rfl
def shortOf (ms : List Mk) : List Mk := shortRow (sumsOf ms)
/-- the least sum that the last row tells -/
def leastOf (ms : List Mk) : Nat := match (sumsOf ms).getLast? with
  | none => 0
  | some p => ((bestIn p p.length).bind (sizeAt p)).getD 0
structure Short (ms : List Mk) : Prop where
  ok : BackOk (sumsOf ms).reverse (bestOf (sumsOf ms))
  cut : Paired (fun x m => x ∈ cuts m) (shortOf ms) ms
  rise : Rise (shortOf ms)
  sum : ((shortOf ms).map tl).sum = leastOf ms
theorem short_good (ms : List Mk) (ok : ∀ m ∈ ms, Ok m) (hr : Rise ms) : Short ms := by
  cases hl : (sumsOf ms).getLast? with
  | none =>
    have e0 : sumsOf ms = [] := List.getLast?_eq_none_iff.mp hl
    have m0 : ms = [] := by
      have := sumsOf_len ms
      rw [e0] at this
      exact List.length_eq_zero_iff.mp this.symm
    subst m0
    exact ⟨trivial, .nil, .nil, rfl⟩
  | some p =>
    have hm : ∃ m, ms.getLast? = some m := by
      cases ms with
      | nil => cases hl
      | cons a b => exact ⟨_, List.getLast?_eq_some_getLast (by simp)⟩
    obtain ⟨m, hm⟩ := hm
    obtain ⟨p', j, e, s, hp', hj, _, hs⟩ := has_sum ms ok hr m hm
    rw [hl] at hp'
    injection hp' with hp'
    subst hp'
    have two : bestIn p p.length = none ∨ ∃ bb, bestIn p p.length = some bb := by cases bestIn p p.length <;> simp
    rcases two with eb | ⟨b, eb⟩
    · have := (best_spec p _).1 eb j (List.getElem?_eq_some_iff.mp hj).1
      rw [sizeAt_of hj, hs] at this
      cases this
    · obtain ⟨hb, t, ht, _⟩ := (best_spec p _).2 b eb
      obtain ⟨e', he'⟩ : ∃ e', p[b]? = some e' := ⟨_, List.getElem?_eq_getElem hb⟩
      have ht' : e'.s = some t := by rw [← sizeAt_of he']; exact ht
      have g := good ms p hl b e' t he' ht'
      have eo : bestOf (sumsOf ms) = some b := by unfold bestOf; rw [hl]; exact eb
      have es : shortOf ms = (back (sumsOf ms).reverse (some b)).reverse := by
        unfold shortOf shortRow
        rw [hl]
        show (back _ (bestIn p p.length)).reverse = _
        rw [eb]
      refine ⟨by rw [eo]; exact g.ok, ?_, ?_, ?_⟩
      · rw [es]
        have := pair_rev g.cut
        rwa [List.reverse_reverse] at this
      · rw [es]
        exact List.pairwise_reverse.mpr g.fall
      · rw [es, List.map_reverse, List.sum_reverse, g.sum]
        unfold leastOf
        rw [hl]
        show _ = ((bestIn p p.length).bind (sizeAt p)).getD 0
        rw [eb]
        show _ = (sizeAt p b).getD 0
        rw [ht]
        rfl
theorem Short.len {ms : List Mk} (h : Short ms) : (shortOf ms).length = ms.length := pair_len h.cut
theorem Short.each {ms : List Mk} (h : Short ms) (ok : ∀ m ∈ ms, Ok m) : ∀ x ∈ shortOf ms, Ok x := by
  intro x hx
  obtain ⟨i, hi, rfl⟩ := List.getElem_of_mem hx
  obtain ⟨m, hm, hc⟩ := pair_get' h.cut (List.getElem?_eq_getElem hi)
  exact cuts_ok (ok m (List.mem_of_getElem? hm)) hc
end K42
set_option Elab.async false
set_option linter.all false
set_option maxRecDepth 100000
set_option maxHeartbeats 4000000
namespace K42
open PySem PySem.Spec PyProof.Rows L2
section
variable {P : Program} {w : World} {K : PySem.W.Frag} {mg : Str → Option Value} {base : Heap}
def sflds (a : Addr) (sv : V) (r : Addr) : List (Str × V) := [("kept_marks", .ref a), ("kept_sums", sv), ("kept_row", .ref r)]
/-- marks that Shorts can keep -/
structure Fit (ms : List Mk) : Prop where
  ok : ∀ m ∈ ms, Ok m
  few : ∀ m ∈ ms, (text m).length ≤ 24
  rise : Rise ms
  len : ms.length ≤ 12
theorem Fit.short {ms : List Mk} (f : Fit ms) : Short ms := short_good ms f.ok f.rise
/-- the Shorts at x, its list of marks at a -/
structure SAt (K : PySem.W.Frag) (G H : Hp) (x a : Addr) (ms : List Mk) : Prop where
  gx : G x = none
  ga : G a = none
  ml : Ml K G H a ms
  at_ : ∃ dx sv r xs, H x = some (.ins (He.ga K "Shorts") dx (sflds a sv r)) ∧ RowsAt K G sv (sumsOf ms) ∧ G r = some (.lst xs) ∧ Paired (MarkAt K G) xs (shortOf ms)
abbrev S2 (x a : Addr) : Addr → Prop := fun b => b = x ∨ b = a
theorem SAt.keep {S : Addr → Prop} {G H G' H' : Hp} {x a : Addr} {ms : List Mk} (h : SAt K G H x a ms) (g : GR K S G H G' H') (nx : ¬ S x) (na : ¬ S a) : SAt K G' H' x a ms := by
  obtain ⟨dx, sv, r, xs, h1, h2, h3, h4⟩ := h.at_
  obtain ⟨ys, h5, h6⟩ := h.ml
  exact ⟨g.nofrz h1 h.gx, g.nofrz h5 h.ga, h.ml.keep g na, dx, sv, r, xs, g.keep h1 trivial nx, h2.mono g.gg, g.gg _ _ h3, pair_imp h4 fun _ _ z => z.mono g.gg⟩
theorem SAt.keep0 {G H G' H' : Hp} {x a : Addr} {ms : List Mk} (h : SAt K G H x a ms) (g : GR K S0 G H G' H') : SAt K G' H' x a ms := h.keep g id id
def spWork (K : PySem.W.Frag) : Sp := fun vs H Q _ => ∃ (G : Hp) (x dx a : Addr) (fs : List (Str × V)) (ms : List Mk), vs = [.ref x] ∧ Sb G H ∧ LamX.Tabs (Tq K) H ∧ H x = some (.ins (He.ga K "Shorts") dx fs) ∧ (fs = ([("kept_marks", .ref a)] : List (Str × V)) ∨ ∃ sv r, fs = sflds a sv r) ∧ G x = none ∧ G a = none ∧ Ml K G H a ms ∧ Fit ms ∧
  ∀ G' H', GR K (S1 x) G H G' H' → SAt K G' H' x a ms → Q .non H'
abbrev N_Shorts_work : List Str := ["self"]
theorem sc_Shorts_work : FnScope N_Shorts_work ["self"] (defScope S_Shorts_work) := ⟨rfl, rfl, rfl, by decide +kernel, rfl, by decide +kernel, by decide +kernel⟩
theorem kn_Shorts_work (T : Tx K mg base) : Km P w K mg base CX0 11 "Shorts" "work" ["self"] (spWork K) := by
  refine km_of "Shorts" "work" T 43 126 99 S_Shorts_work rfl rfl rfl sc_Shorts_work (fun vs H Q E h => by obtain ⟨_, _, _, _, _, _, rfl, _⟩ := h; rfl) (fun _ _ _ _ _ _ us hl => match us, hl with | [_], _ => rfl) (fun cdv A outer s H vs Q E hr h => ⟨_, PSs.nox (pss_cons (ps_fld (pv 0) (pe_fn (kn_sums_of T) (hr.mono (by decide)) (pa_cons (pe_fld (pv 0) rfl) pa_nil)) rfl)
    (pss_one (ps_fld (pv 0) (pe_fn (kn_short_row T) (hr.mono (by decide)) (pa_cons (pe_fld (pv 0) rfl) pa_nil)) rfl))), ?_⟩)
  obtain ⟨G, x, dx, a, fs, ms, rfl, sb, tb, hx, hfs, gx, ga, hml, fit, q⟩ := h
  have hs := fit.short
  have z10 : ∀ {n : Nat}, n ≤ 10 → n < 1000 := fun h => by omega
  have lk : fs.lookup ("kept_marks" : Str) = some (V.ref a) := by
    rcases hfs with rfl | ⟨sv, r, rfl⟩ <;> rfl
  have nxa : x ≠ a := by
    obtain ⟨ys, h5, _⟩ := hml
    exact ne_of hx h5 (fun e => nomatch e)
  refine ⟨_, rfl, x, _, dx, _, _, rfl, hx, T.cS, T.nS_marks, lk, G, a, ms, rfl, sb, tb, hml, fun m hm => ⟨fit.ok m hm, fit.few m hm⟩, Nat.le_trans fit.len (by decide), fun G1 H1 sv g1 hr1 => ?_⟩
  have hx1 := g1.keep hx trivial id
  have gx1 := g1.nofrz hx gx
  have hfs1 : putF "kept_sums" sv fs = ([("kept_marks", .ref a), ("kept_sums", sv)] : List (Str × V)) ∨ ∃ r, putF "kept_sums" sv fs = sflds a sv r := by
    rcases hfs with rfl | ⟨sv0, r, rfl⟩
    · exact .inl rfl
    · exact .inr ⟨r, rfl⟩
  refine ⟨_, rfl, x, _, dx, _, rfl, hx1, T.cS, T.nS_sums, ?_, ?_⟩
  · rcases hfs with rfl | ⟨sv0, r, rfl⟩ <;> exact z10 (Nat.le_of_ble_eq_true rfl)
  generalize hf2 : putF "kept_sums" sv fs = fs2 at hfs1
  have w1 := ((GR.refl (K := K) (S := S1 x) sb).call0 g1).wr (.inl rfl) gx1 hx1 (o' := .ins (He.ga K "Shorts") dx fs2) trivial
  have lk2 : fs2.lookup ("kept_sums" : Str) = some sv := by
    rcases hfs1 with rfl | ⟨r, rfl⟩ <;> rfl
  have hsl : (sumsOf ms).length ≤ 1000 := by rw [sumsOf_len]; exact Nat.le_trans fit.len (by decide)
  refine ⟨_, rfl, x, _, dx, _, _, rfl, upd_same, T.cS, T.nS_sums, lk2, G1, sv, sumsOf ms, rfl, w1.sb, hr1, hsl, hs.ok, fun G3 H3 d xs g3 hd hp3 => ?_⟩
  have hx3 : H3 x = some (.ins (He.ga K "Shorts") dx fs2) := g3.keep upd_same trivial id
  have g4 := (w1.call0 g3).new hd (o := .lst xs) trivial
  have nxd : x ≠ d := ne_of_none hx3 hd
  have hx4 : upd H3 d (.lst xs) x = some (.ins (He.ga K "Shorts") dx fs2) := by rw [upd_ne nxd]; exact hx3
  have gx3 : G3 x = none := g3.nofrz upd_same gx1
  have gx4 : upd G3 d (.lst xs) x = none := by rw [upd_ne nxd]; exact gx3
  have hf3 : putF "kept_row" (.ref d) fs2 = sflds a sv d := by
    rcases hfs1 with rfl | ⟨r, rfl⟩ <;> rfl
  refine ⟨_, rfl, x, _, dx, _, rfl, hx4, T.cS, T.nS_row, ?_, ?_⟩
  · rcases hfs1 with rfl | ⟨r, rfl⟩ <;> exact z10 (Nat.le_of_ble_eq_true rfl)
  rw [hf3]
  have w5 := g4.wr (.inl rfl) gx4 hx4 (o' := .ins (He.ga K "Shorts") dx (sflds a sv d)) trivial
  have gd : G3 d = none := g3.sb.no hd
  have le3 : Le G1 (upd G3 d (.lst xs)) := g3.gg.trans (Le.up gd)
  refine q _ _ w5 ⟨gx4, ?_, hml.keep w5 nxa.symm, dx, sv, d, xs, upd_same, hr1.mono le3, upd_same, pair_imp hp3 fun _ _ z => z.mono (Le.up gd)⟩
  obtain ⟨ys, h5, _⟩ := hml
  exact w5.nofrz h5 ga
def spNeedM (K : PySem.W.Frag) : Sp := fun vs H Q _ => ∃ (G : Hp) (a : Addr) (ms : List Mk), vs = [.ref a] ∧ Sb G H ∧ Ml K G H a ms ∧ Fit ms ∧ ∀ H', GR K S0 G H G H' → Q .non H'
abbrev N_need_marks : List Str := ["marks", "mark"]
theorem sc_need_marks : FnScope N_need_marks ["marks"] (defScope S_need_marks) := ⟨rfl, rfl, rfl, by decide +kernel, rfl, by decide +kernel, by decide +kernel⟩
theorem kn_need_marks (T : Tx K mg base) : Kn P w K mg base CX0 8 "need_marks" ["marks"] (spNeedM K) := by
  refine kn_of "need_marks" T 37 35 S_need_marks rfl rfl sc_need_marks (fun vs H Q E h => by obtain ⟨_, _, _, rfl, _⟩ := h; rfl) (fun _ _ _ _ _ _ us hl => match us, hl with | [_], _ => rfl) (fun cdv A outer s H vs Q E hr h => ⟨_, PSs.nox (pss_cons (ps_if (PW.pt (pw_or (pt_not (pt_val (pe_callB call_isiT (by rfl) T.f_isinstance (by decide +kernel) (pa_cons (pv 0) (pa_cons (pe_tup (pa_cons (pe_bltn (v := .ty "list") (by rfl) T.f_list (by decide +kernel) rfl) (pa_cons (pe_bltn (v := .ty "tuple") (by rfl) T.f_tuple (by decide +kernel) rfl) pa_nil))) pa_nil))))) (pw_or1 (pt_cmpR op_gt (pe_callB call_len_seq (by rfl) T.f_len (by decide +kernel) (pa_cons (pv 0) pa_nil)) (T.gi_MOST_MARKS) (nomark _))))) (pss_one ps_never) pss_nil)
    (pss_cons (ps_for PassesOwn.never rfl (pi_list (pv 0)) (pg_name (i := 1) sc_need_marks.nd rfl (Or.inl rfl)) (pss_one (ps_if (pt_not (pt_val (pe_callB call_isi (by rfl) T.f_isinstance (by decide +kernel) (pa_cons (pv 1) (pa_cons (T.cl_Mark) pa_nil))))) (pss_one ps_never) pss_nil)))
    (pss_cons (ps_for PassesOwn.never rfl (pi_list (pv 0)) (pg_name (i := 1) sc_need_marks.nd rfl (Or.inl rfl)) (pss_one (ps_expr (pe_fn (kn_need_few T) (hr.mono (by decide)) (pa_cons (pv 1) pa_nil)))))
    (pss_one (ps_expr (pe_fn (kn_need_rising T) (hr.mono (by decide)) (pa_cons (pv 0) pa_nil))))))), ?_⟩)
  obtain ⟨G, a, ms, rfl, sb, ⟨xs, hx, hp⟩, fit, q⟩ := h
  have hl := pair_len hp
  have hlen := fit.len
  refine ⟨_, rfl, size_of (n := 2) (by decide), fun p hp0 => ?_⟩
  have g1 := (GR.refl (K := K) (S := S0) sb).newM hp0 (o := .tup [.ty "list", .ty "tuple"])
  have hx1 := g1.keep hx trivial id
  refine ⟨_, p, [.ty "list", .ty "tuple"], .type "list", [.type "list", .type "tuple"], true, rfl, upd_same, .cons (.ty _) (.cons (.ty _) .nil), .base (.lst hx1), kitAny_cons k_ll (fun z => nomatch z) (fun _ => rfl), _, rfl, iteF ?_⟩
  refine ⟨_, rfl, _, _, rfl, .inl (SqL.of hx1), _, _, rfl, rfl, _, rfl, ifF (by omega) ?_⟩
  refine ⟨_, rfl, a, rfl, ⟨_, SqL.of hx1⟩, ?_⟩
  refine for_list (K := K) (a := a) (xs := xs) (fun i σ H' => (∃ v, σ = [some (.ref a), v]) ∧ GR K S0 G H G H') ⟨⟨_, rfl⟩, g1⟩ (fun i σ H' _ z => SqL.of (z.2.keep hx trivial id)) ?_ ?_
  · rintro i x σ H1 hxi ⟨⟨v, rfl⟩, g⟩
    obtain ⟨m, hm, hmk⟩ := pair_get' hp hxi
    obtain ⟨b, dx, t, rfl, hb⟩ := hmk.o g.sb
    have ko : PySem.W.kitOne K (.ref (He.ga K "Mark")) (.ref (He.ga K "Mark")) = some true := by simp [PySem.W.kitOne]
    exact ⟨_, rfl, _, _, _, _, _, rfl, .own _, is_mark T hb, ko, _, rfl, iteF ⟨⟨_, rfl⟩, g⟩⟩
  · rintro σ H1 ⟨⟨v, rfl⟩, g⟩
    refine ⟨_, rfl, a, rfl, ⟨_, SqL.of (g.keep hx trivial id)⟩, ?_⟩
    refine for_list (K := K) (a := a) (xs := xs) (fun i σ H' => (∃ v, σ = [some (.ref a), v]) ∧ GR K S0 G H G H') ⟨⟨_, rfl⟩, g⟩ (fun i σ H' _ z => SqL.of (z.2.keep hx trivial id)) ?_ ?_
    · rintro i x σ H2 hxi ⟨⟨v, rfl⟩, g⟩
      obtain ⟨m, hm, hmk⟩ := pair_get' hp hxi
      have hmm := List.mem_of_getElem? hm
      exact ⟨_, rfl, G, x, m, rfl, g.sb, hmk, fit.ok m hmm, fit.few m hmm, ⟨_, rfl⟩, g⟩
    · rintro σ H2 ⟨⟨v, rfl⟩, g⟩
      exact ⟨_, rfl, G, a, ms, rfl, g.sb, ⟨xs, g.keep hx trivial id, hp⟩, Nat.le_trans hlen (by decide), fit.rise, fun H3 g3 => q _ (g.trans g3)⟩
/-- Shorts(marks) -/
def spSInit (K : PySem.W.Frag) : Sp := fun vs H Q _ => ∃ (G : Hp) (x dx a : Addr) (ms : List Mk), vs = [.ref x, .ref a] ∧ Sb G H ∧ LamX.Tabs (Tq K) H ∧ H x = some (.ins (He.ga K "Shorts") dx []) ∧ G x = none ∧ Ml K G H a ms ∧ Fit ms ∧
  ∀ G' H' b, GR K (S1 x) G H G' H' → Nw H b → SAt K G' H' x b ms → Q .non H'
abbrev N_Shorts_init : List Str := ["self", "marks"]
theorem sc_Shorts_init : FnScope N_Shorts_init ["self", "marks"] (defScope S_Shorts_init) := ⟨rfl, rfl, rfl, by decide +kernel, rfl, by decide +kernel, by decide +kernel⟩
theorem kn_Shorts_init (T : Tx K mg base) : ∃ fd, FunD K "__init__" "Shorts.__init__" (defArgs S_Shorts_init) (defBody S_Shorts_init) (defScope S_Shorts_init) (([] : List He.Dv).map (He.Dv.v K)) [] (He.ma K (He.ga K "Shorts") "__init__") fd ∧ FnOk P w K mg base CX0 12 (He.ma K (He.ga K "Shorts") "__init__") fd ["self", "marks"] (spSInit K) ∧ Binds K fd ["self", "marks"] [] := by
  refine init_ofB "Shorts" T 42 S_Shorts_init [] rfl sc_Shorts_init (fun vs H Q E h => by obtain ⟨_, _, _, _, _, rfl, _⟩ := h; rfl) (fun _ _ _ _ _ _ us hl => match us, hl with | [_, _], _ => rfl) (fun cdv A outer s H vs Q E hr h => ⟨_, PSs.nox (pss_cons (ps_expr (pe_fn (kn_need_marks T) (hr.mono (by decide)) (pa_cons (pv 1) pa_nil)))
    (pss_cons (ps_fld (pv 0) (pe_callTy call_list_of (by rfl) T.f_list (by decide +kernel) (pa_cons (pv 1) pa_nil)) rfl)
    (pss_one (ps_expr (pe_km0 (kn_Shorts_work T) (hr.mono (by decide)) (pv 0)))))), ?_⟩)
  obtain ⟨G, x, dx, a, ms, rfl, sb, tb, hx, gx, hml, fit, q⟩ := h
  refine ⟨_, rfl, G, a, ms, rfl, sb, hml, fit, fun H1 g1 => ?_⟩
  obtain ⟨xs, hxs, hp⟩ := hml.keep g1 id
  refine ⟨_, rfl, a, xs, rfl, .inl (SqL.of hxs), fun l hl => ?_⟩
  have c1 := ((GR.refl (K := K) (S := S1 x) sb).call0 g1)
  have c2 := c1.newM hl (o := .lst xs)
  have hx1 := g1.keep hx trivial id
  have nxl : x ≠ l := ne_of_none hx1 hl
  have hx2 : upd H1 l (.lst xs) x = some (.ins (He.ga K "Shorts") dx []) := by rw [upd_ne nxl]; exact hx1
  have gx1 := g1.nofrz hx gx
  have gl : G l = none := g1.sb.no hl
  have c3 := c2.wr (.inl rfl) gx1 hx2 (o' := .ins (He.ga K "Shorts") dx [("kept_marks", .ref l)]) trivial
  refine ⟨_, rfl, x, _, dx, _, rfl, hx2, T.cS, T.nS_marks, by decide, ?_⟩
  refine ⟨_, rfl, x, dx, _, rfl, upd_same, rfl, G, x, dx, l, _, ms, rfl, c3.sb, c3.tb tb, upd_same, .inl rfl, gx1, gl, ⟨xs, ?_, hp⟩, fit, fun G' H' gw hs => ?_⟩
  · rw [upd_ne nxl.symm]; exact upd_same
  · exact q G' H' l (c3.trans gw) (c1.nw (.of hl)) hs
def spSLen (K : PySem.W.Frag) (f : List Mk → V) : Sp := fun vs H Q _ => ∃ (G : Hp) (x a : Addr) (ms : List Mk), vs = [.ref x] ∧ Sb G H ∧ SAt K G H x a ms ∧ Q (f ms) H
abbrev N_Shorts_len : List Str := ["self"]
theorem sc_Shorts_len : FnScope N_Shorts_len ["self"] (defScope S_Shorts_len) := ⟨rfl, rfl, rfl, by decide +kernel, rfl, by decide +kernel, by decide +kernel⟩
theorem kn_Shorts_len (T : Tx K mg base) : Km P w K mg base CX0 2 "Shorts" "__len__" ["self"] (spSLen K fun ms=>.int ms.length) := by
  refine km_of "Shorts" "__len__" T 44 127 99 S_Shorts_len rfl rfl rfl sc_Shorts_len (fun vs H Q E h => by obtain ⟨_, _, _, _, rfl, _⟩ := h; rfl) (fun _ _ _ _ _ _ us hl => match us, hl with | [_], _ => rfl) (fun cdv A outer s H vs Q E hr h => ⟨_, PSs.nox (pss_one (ps_ret (pe_callB call_len_seq (by rfl) T.f_len (by decide +kernel) (pa_cons (pe_fld (pv 0) rfl) pa_nil)))), ?_⟩)
  obtain ⟨G, x, a, ms, rfl, sb, hs, q⟩ := h
  obtain ⟨dx, sv, r, xs, h1, h2, h3, h4⟩ := hs.at_
  obtain ⟨ys, h5, h6⟩ := hs.ml
  refine ⟨_, rfl, x, _, dx, _, _, rfl, h1, T.cS, T.nS_marks, rfl, a, ys, rfl, .inl (SqL.of h5), ?_⟩
  exact qV (by rw [pair_len h6]) q
/-- a new list of marks -/
def spSList (K : PySem.W.Frag) (f : List Mk → List Mk) : Sp := fun vs H Q _ => ∃ (G : Hp) (x a : Addr) (ms : List Mk), vs = [.ref x] ∧ Sb G H ∧ SAt K G H x a ms ∧ ∀ p xs, H p = none → Paired (MarkAt K G) xs (f ms) → Q (.ref p) (upd H p (.lst xs))
abbrev N_Shorts_marks : List Str := ["self"]
theorem sc_Shorts_marks : FnScope N_Shorts_marks ["self"] (defScope S_Shorts_marks) := ⟨rfl, rfl, rfl, by decide +kernel, rfl, by decide +kernel, by decide +kernel⟩
theorem kn_Shorts_marks (T : Tx K mg base) : Km P w K mg base CX0 2 "Shorts" "marks" ["self"] (spSList K fun ms=>ms) := by
  refine km_of "Shorts" "marks" T 45 128 99 S_Shorts_marks rfl rfl rfl sc_Shorts_marks (fun vs H Q E h => by obtain ⟨_, _, _, _, rfl, _⟩ := h; rfl) (fun _ _ _ _ _ _ us hl => match us, hl with | [_], _ => rfl) (fun cdv A outer s H vs Q E hr h => ⟨_, PSs.nox (pss_one (ps_ret (pe_callTy call_list_of (by rfl) T.f_list (by decide +kernel) (pa_cons (pe_fld (pv 0) rfl) pa_nil)))), ?_⟩)
  obtain ⟨G, x, a, ms, rfl, sb, hs, q⟩ := h
  obtain ⟨dx, sv, r, xs, h1, h2, h3, h4⟩ := hs.at_
  obtain ⟨ys, h5, h6⟩ := hs.ml
  exact ⟨_, rfl, x, _, dx, _, _, rfl, h1, T.cS, T.nS_marks, rfl, a, ys, rfl, .inl (SqL.of h5), fun l hl => q l ys hl h6⟩
abbrev N_Shorts_row : List Str := ["self"]
theorem sc_Shorts_row : FnScope N_Shorts_row ["self"] (defScope S_Shorts_row) := ⟨rfl, rfl, rfl, by decide +kernel, rfl, by decide +kernel, by decide +kernel⟩
theorem kn_Shorts_row (T : Tx K mg base) : Km P w K mg base CX0 2 "Shorts" "row" ["self"] (spSList K shortOf) := by
  refine km_of "Shorts" "row" T 46 129 99 S_Shorts_row rfl rfl rfl sc_Shorts_row (fun vs H Q E h => by obtain ⟨_, _, _, _, rfl, _⟩ := h; rfl) (fun _ _ _ _ _ _ us hl => match us, hl with | [_], _ => rfl) (fun cdv A outer s H vs Q E hr h => ⟨_, PSs.nox (pss_one (ps_ret (pe_callTy call_list_of (by rfl) T.f_list (by decide +kernel) (pa_cons (pe_fld (pv 0) rfl) pa_nil)))), ?_⟩)
  obtain ⟨G, x, a, ms, rfl, sb, hs, q⟩ := h
  obtain ⟨dx, sv, r, xs, h1, h2, h3, h4⟩ := hs.at_
  exact ⟨_, rfl, x, _, dx, _, _, rfl, h1, T.cS, T.nS_row, rfl, r, xs, rfl, .inl (SqL.of (sb _ _ h3).1), fun l hl => q l xs hl h4⟩
def spSigns (K : PySem.W.Frag) : Sp := fun vs H Q _ => ∃ (G : Hp) (x a : Addr) (ms : List Mk), vs = [.ref x] ∧ Sb G H ∧ SAt K G H x a ms ∧ Fit ms ∧ ∀ H', GR K S0 G H G H' → Q (.int (leastOf ms : Nat)) H'
abbrev N_Shorts_signs : List Str := ["self", "mark"]
theorem sc_Shorts_signs : FnScope N_Shorts_signs ["self"] (defScope S_Shorts_signs) := ⟨rfl, rfl, rfl, by decide +kernel, rfl, by decide +kernel, by decide +kernel⟩
theorem kn_Shorts_signs (T : Tx K mg base) : Km P w K mg base CX0 4 "Shorts" "signs" ["self"] (spSigns K) := by
  refine km_of "Shorts" "signs" T 47 130 99 S_Shorts_signs rfl rfl rfl sc_Shorts_signs (fun vs H Q E h => by obtain ⟨_, _, _, _, rfl, _⟩ := h; rfl) (fun _ _ _ _ _ _ us hl => match us, hl with | [_], _ => rfl) (fun cdv A outer s H vs Q E hr h => ⟨_, PSs.nox (pss_one (ps_ret (pe_callB (cr_sum rfl) (by rfl) T.f_sum (by decide +kernel) (pa_cons (pe_lc (own := [("mark", 1)]) rfl sc_Shorts_signs.nd (pi_list (pe_fld (pv 0) rfl)) (blkOk_by (N := N_Shorts_signs) (sc := defScope S_Shorts_signs) (by decide +kernel)) (fun _ _ _ _ _ => (pg_name (i := 1) sc_Shorts_signs.nd rfl (Or.inl rfl))) (fun _ _ _ _ _ => pts_nil) (fun _ _ _ _ _ => (pe_callB (call_lenE (kn_Mark_len T) (hr.mono (by decide))) (by rfl) T.f_len (by decide +kernel) (pa_cons (pv 1) pa_nil)))) pa_nil)))), ?_⟩)
  obtain ⟨G, x, a, ms, rfl, sb, hs, fit, q⟩ := h
  obtain ⟨dx, sv, r, xs, h1, h2, h3, h4⟩ := hs.at_
  have h30 := (sb _ _ h3).1
  have hl := pair_len h4
  have hlen := fit.len
  have hsl := fit.short.len
  refine ⟨_, rfl, x, _, dx, _, _, rfl, h1, T.cS, T.nS_row, rfl, r, rfl, ⟨_, SqL.of h30⟩, fun D hD => ?_⟩
  refine lcG K (G1 := G) (walk_list (K := K) (a := r) (xs := xs)) sb hD (fun G' acc i => G' = G ∧ acc = (((shortOf ms).take i).map fun c => (tl c : Int)).map V.int) ⟨rfl, rfl⟩ (size_of (by omega)) (fun G' acc i e => ?_) (fun G' H' gr => SqL.of (gr.sb _ _ (gr.gg _ _ h3)).1) (fun i x G' H1 H' acc N hi gr gD hD' rp y ky kn => ?_) (fun G' H' acc gr hD' gD rp => ?_)
  · rw [e.2, List.length_map, List.length_map]
    exact List.length_take_le _ _
  · obtain ⟨rfl, hx⟩ := y
    obtain ⟨rfl, rfl⟩ := rp
    obtain ⟨c, hc, hmc⟩ := pair_get' h4 hx
    obtain ⟨ca, dxc, tc, rfl, hca⟩ := hmc.o gr.sb
    have okc := fit.short.each fit.ok c (List.mem_of_getElem? hc)
    refine ⟨rfl, tyes (iteT ⟨_, rfl, ca, dxc, _, rfl, hca, ca, dxc, tc, c, rfl, hca, okc, ⟨_, rfl, ?_⟩, ?_⟩)⟩
    · have := text_short c okc
      omega
    · refine ky G' _ _ (GR.refl gr.sb) ⟨rfl, ?_⟩
      rw [List.take_add_one, hc, List.map_append, List.map_append]
      rfl
  · obtain ⟨rfl, rfl⟩ := rp
    refine ⟨D, _, rfl, SqL.of hD', ?_⟩
    rw [hl, List.take_of_length_le (Nat.le_refl _)]
    refine qV ?_ (q _ gr)
    have e : ∀ l : List Mk, (l.map fun c => (tl c : Int)).sum = ((l.map tl).sum : Nat) := fun l => by
      induction l with
      | nil => rfl
      | cons a l ih => rw [List.map_cons, List.map_cons, List.sum_cons, List.sum_cons, ih]; omega
    rw [e, fit.short.sum]
end
end K42
set_option Elab.async false
set_option linter.all false
set_option maxRecDepth 100000
set_option maxHeartbeats 4000000
/-! an own exception class over any built-in one (ValueError, LookupError), whose __init__ is walked as a def -/
namespace K42
open PySem PySem.Spec PyProof.Rows L2
/-- a base that begins with a built-in class -/
structure Bse (B newId initId : String) (tail : List Value) : Prop where
  F : ExcBaseFacts B newId initId tail
  hd : ∃ t r, tail = .type t :: r
  pass : ∀ self : Value, PySem.refuseLoop self "__setattr__" tail = pure ()
  obj : tail.contains (.type "object") = true
section
variable {tail : List Value}
theorem refsT_or (l : List Value) (e : refsT tail l = true) : (∃ c r, l = .ref c :: r ∧ refsT tail r = true) ∨ l = tail := by
  cases l with
  | nil => exact .inr (beq_iff_eq.mp e)
  | cons a r => cases a <;> first | exact .inl ⟨_, _, rfl, e⟩ | exact .inr (beq_iff_eq.mp e)
theorem refsT_pass (hp : ∀ self : Value, PySem.refuseLoop self "__setattr__" tail = pure ()) (self : Value) : ∀ l : List Value, refsT tail l = true → PySem.refuseLoop self "__setattr__" l = pure () := by
  intro l
  induction l with
  | nil =>
    intro e
    rcases refsT_or _ e with ⟨c, r, q, _⟩ | q
    · cases q
    · rw [q]; exact hp self
  | cons a r ih =>
    intro e
    rcases refsT_or (a :: r) e with ⟨c, r', q, k⟩ | q
    · obtain ⟨rfl, rfl⟩ := List.cons.inj q
      rw [refuseLoop_ref]
      exact ih k
    · rw [q]; exact hp self
theorem refsT_has (X : String) : ∀ l : List Value, refsT tail l = true → l.contains (.type X) = tail.contains (.type X) := by
  intro l
  induction l with
  | nil =>
    intro e
    rcases refsT_or _ e with ⟨c, r, q, _⟩ | q
    · cases q
    · rw [q]
  | cons a r ih =>
    intro e
    rcases refsT_or (a :: r) e with ⟨c, r', q, k⟩ | q
    · obtain ⟨rfl, rfl⟩ := List.cons.inj q
      rw [List.contains_cons, ih k]
      rfl
    · rw [q]
end
end K42
namespace PySem
namespace OEK
open Builtin Builtin.ObjectAttr PySem.W PySem.Calls PyProof.Rows PySem.HandSPX
section
variable {prog : Program} {w : World} {A : Around} {E : Value → Shared → Prop} {R : Result → Shared → Prop} {hp : Heap} {g : Array GenState} {d : Drawn} {t : Nat} {os : OsState}
/-- self.name = v on an exception that has no dict yet -/
theorem exc_osaT {K : W.Frag} {name : Str} {tk : Tok} {v : Value} {x C : Addr} {fv : Array Value} {cd : ClassData} {tail : List Value} (hpass : ∀ self : Value, refuseLoop self "__setattr__" tail = pure ()) (hobj : tail.contains (.type "object") = true)
    (X : K.In hp) (hx : hp.get? x = some { cls := .ref C, data := .fields fv }) (hcd : W.clsIn K C = some cd) (hm : K42.refsT tail cd.mro = true) (hne : cd.mro.isEmpty = false) (hh : cd.hasDict = true) (ha : W.findIn K (.ref C) name = some none)
    (hq : ∀ h' tk' dx, (∀ b o, b ≠ x → hp.get? b = some o → h'.get? b = some o) → hp.objs.size ≤ dx → dx ≠ x → h'.get? x = some { cls := .ref C, dict := some dx, data := .fields fv } →
      h'.Ns1 dx (fun y => if y = name then some v else none) → R (.ok (.ret .none)) ⟨h', g, d, tk', os⟩) :
    codeAny (model prog w) A (.call (.builtin "object.__setattr__") ⟨[.ref x, .str name tk, v], []⟩) R ⟨hp, g, d, t, os⟩ := by
  have I0 : W.InstAt hp x { cls := .ref C, data := .fields fv } C none := ⟨hx, rfl, rfl, trivial⟩
  have SO := F.store_object
  have hob : cd.mro.contains (.type "object") = true := (K42.refsT_has "object" _ hm).trans hobj
  have hxn : x ≠ hp.objs.size := Nat.ne_of_lt (Heap.lt_size hx)
  have isO : W.Looks (model prog w) hp (isInstance (.ref x) (.type "object")) true := I0.type.andThen (W.looks_mroIn X (by unfold W.mroIn; rw [hcd, Option.bind_some, if_neg (by rw [hne]; decide), hob]))
  refine codeAny_call_builtin SO.slot.plain SO.entry (@W.check_slot (model prog w) _ _ ⟨hp, g, d, t, os⟩ "object.__setattr__" "object" "__setattr__" (.ref x) [.str name tk, v] [] _ SO.kind SO.split isO (SO.args (.ref x) (.str name tk) v) ?_)
  have hmro : W.Looks (model prog w) hp (mroOf (.ref C)) cd.mro := (W.looks_clsIn X hcd).andThen .now
  have noT : W.Looks (model prog w) hp (storeTaker? none) none := .now
  have hcl : W.Looks (model prog w) hp (classData C) cd := W.looks_clsIn X hcd
  rw [W.osa_eq, refuse_eq]
  refine wpAny_bind (wpAny_bind (I0.type.at (wpAny_bind (hmro.at ?_))))
  rw [K42.refsT_pass hpass _ _ hm]
  refine wpAny_pure (wpAny_bind (I0.type.at (wpAny_bind ((W.looks_findIn X ha).at (wpAny_bind (noT.at ?_))))))
  show wpAny _ _ (storeInOwnDict (.ref x) (.ref C) (.str name tk) name v false) _ _ _
  obtain ⟨nm, bs, mro, ns, qn, hd, sn, sb, ab, col, del⟩ := cd
  dsimp only at hh
  subst hh
  unfold storeInOwnDict ownDictForStores
  repeat (first | with_reducible refine store_in_new ?_ ?_ | with_reducible refine wpAny_loadPart_at hx ?_ | with_reducible refine hcl.at ?_ | wp_step)
  · exact ⟨_, #[], _, (Heap.get?_update_ne _ _ _ _ hxn.symm).trans (Heap.get?_push_at rfl rfl), rfl, fun e he => absurd he (by simp), fun _ => rfl⟩
  · intro h' tk' hn' hs
    have hx1 : (hp.push { cls := .type "dict", data := .dict #[] }).get? x = some { cls := .ref C, data := .fields fv } := Heap.get?_push_of_some _ hx
    refine hq h' tk' hp.objs.size (fun b o hb ho => ?_) (Nat.le_refl _) hxn.symm ?_ hn'
    · exact (hs.2 b (Nat.ne_of_lt (Heap.lt_size ho))).trans ((Heap.get?_update_ne _ _ _ _ hb).trans (Heap.get?_push_of_some _ ho))
    · exact (hs.2 x hxn).trans (Heap.get?_update_self _ hx1 rfl)
end
end OEK
end PySem
namespace K42
open PySem PySem.Spec PyProof.Rows L2
theorem bse_value : Bse "ValueError" "ValueError.__new__" "ValueError.__init__" [.type "ValueError", .type "Exception", .type "BaseException", .type "object"] := ⟨F.excBase_ValueError, ⟨_, _, rfl⟩, F.store_ValueError.passes, by decide +kernel⟩
theorem bse_lookup : Bse "LookupError" "LookupError.__new__" "LookupError.__init__" [.type "LookupError", .type "Exception", .type "BaseException", .type "object"] := ⟨F.excBase_LookupError, ⟨_, _, rfl⟩, F.store_LookupError.passes, by decide +kernel⟩
/-- what the written part says of the class -/
structure OexG (K : PySem.W.Frag) (C : Addr) (B newId initId : String) (tail : List Value) : Prop where
  bse : Bse B newId initId tail
  cls : ∃ nm q N bs bm sn sub ab col dd k0 k1 k2 k3 k5, K.lookup C = some (excClassObj nm q C N bs bm true sn sub ab col dd k0 k1 k2 k3 k5 newId) ∧ refsT tail bm = true
  sa : PySem.W.findIn K (.ref C) "__setattr__" = some (some (.builtin "object.__setattr__"))
  exC : PySem.W.subIn K (.ref C) (.type "BaseException") = some true
  tyC : PySem.W.typeIn K (.ref C) = some (.type "type")
  kC : PySem.W.keepIn K (.ref C) = true
section
variable {X : Cx} {pins : List (Addr × Obj)} {σ : L2.St} {H : Hp} {s : Shared} {a C dx : Addr} {f : Str} {y : V} {u : Value} {fs : List (Str × V)} {E : Value → Shared → Prop} {A : Around} {B newId initId : String} {tail : List Value}
/-- self.f = y, the first field -/
theorem ost_newG {Q : Unit → Shared → Prop} (T : OexG X.K C B newId initId tail) (I : Inv X pins σ H s) (e : H a = some (exo a C none)) (hno : PySem.W.findIn X.K (.ref C) f = some none) (ry : RelV y u)
    (h : ∀ dx s', H dx = none → dx ≠ a → Inv X pins σ (upd (upd H dx (exd dx [(f, y)])) a (exo a C (some dx))) s' → Q () s') : wpAny (model X.prog X.w) A (setAttr (.ref a) f u) Q E s := by
  obtain ⟨nm, q, N, bs, bm, sn, sub, ab, col, dd, k0, k1, k2, k3, k5, hC, hbm⟩ := T.cls
  have hcl : PySem.W.clsIn X.K C = some { name := nm, bases := bs, mro := .ref C :: bm, ns := N, qualname := q, hasDict := true, slotNames := sn, subclasses := sub, abstract := ab, collection := col, hasDel := false } := by
    unfold PySem.W.clsIn
    rw [hC] <;> rfl
  obtain ⟨t1, ho⟩ := exo_at I.hok e
  obtain ⟨hp, g, d, t, os⟩ := s
  refine PySem.W.set_plain I.kIn (ox := { cls := .ref C, dict := none, data := .fields #[.ref t1, .none, .none, .none, .bool false, .none] }) (od := none) ⟨ho, rfl, rfl, trivial⟩ T.sa ?_
  refine PySem.OEK.exc_osaT T.bse.pass T.bse.obj I.kIn ho hcl (show refsT tail (.ref C :: bm) = true from hbm) rfl rfl hno (fun h' tk' dx k dn dne hx hn => ?_)
  have hnd : H dx = none := I.hok.fresh dn
  have nd : ∀ {b : Addr} {o : Obj}, hp.get? b = some o → b ≠ dx := fun {b o} q => Nat.ne_of_lt (Nat.lt_of_lt_of_le (Heap.lt_size q) dn)
  have na : ∀ {b : Addr}, H b = none → b ≠ a := fun {b} n z => by
    rw [z, e] at n
    cases n
  have U1 : Un X.fs [] H (upd (upd H dx (exd dx [(f, y)])) a (exo a C (some dx))) hp h' := by
    refine ⟨fun b o q n _ _ => k b o (na n) q, fun b o q n _ _ => ⟨o.slots, k b o (na n) q⟩, fun b o q n _ => ?_, fun b o q _ => ?_, fun b xs q => ?_, fun b o v q => ?_, fun b ps q => ⟨#[], ?_⟩⟩
    · rw [upd_ne (na n), upd_ne (nd q)]; exact n
    · by_cases hb : b = a
      · exact ⟨_, by rw [hb]; exact hx⟩
      · exact ⟨o, k b o hb q⟩
    · rw [upd_ne (at_ne e q exo_tup), upd_ne (ne_of_none q hnd)]; exact q
    · rw [upd_ne (at_ne e q exo_frz), upd_ne (ne_of_none q hnd)]; exact q
    · rw [upd_ne (at_ne e q exo_tbl), upd_ne (ne_of_none q hnd), q]; simp
  refine h dx _ hnd dne (I.un (t' := tk') U1 fun b o q => ?_)
  by_cases hb : b = a
  · subst hb
    rw [upd_same] at q
    cases q
    exact exo_ok hx
  · rw [upd_ne hb] at q
    by_cases hd : b = dx
    · subst hd
      rw [upd_same] at q
      cases q
      exact exd_ok hn (relO_put (fs := []) ry fun g => True.intro)
    · rw [upd_ne hd] at q
      refine (I.hok b o q).stay (fun c v hc z => k c v ?_ z) (fun c hc => ?_) fun c xs hc => ?_
      · rcases hc with hc | hc
        · rw [hc]; exact hb
        · exact at_ne e hc exo_own
      · rw [upd_ne (at_ne e hc exo_own), upd_ne (ne_of_none hc hnd)]; exact hc
      · rw [upd_ne (at_ne e hc exo_tup), upd_ne (ne_of_none hc hnd)]; exact hc
/-- B.__init__(self, ..): nothing of it is told -/
theorem oinit_okG {us : List Value} {Q : Value → Shared → Prop} (T : OexG X.K C B newId initId tail) (I : Inv X pins σ H s) (e : H a = some (exo a C none)) (hl : us.length ≤ sizeLine) (h : ∀ s', Inv X pins σ H s' → Q .none s') :
    wpAny (model X.prog X.w) A (call (.builtin initId) (.ref a :: us)) Q E s := by
  obtain ⟨nm, q, N, bs, bm, sn, sub, ab, col, dd, k0, k1, k2, k3, k5, hC, hbm⟩ := T.cls
  obtain ⟨t1, ho⟩ := exo_at I.hok e
  obtain ⟨hp, g, d, t, os⟩ := s
  refine wpAny_call (PySem.HandSPX.init_base T.bse.F (fun Y => refsT_has Y bm hbm) (I.kIn _ _ hC) ho hl fun h' t2 k hx => ?_)
  have J := I.write (t' := t) (x := a) (e := a) (o := exo a C none) (by rw [e]; exact True.intro) (.inl rfl) k ⟨_, hx⟩ (exo_ok hx)
  have eu : upd H a (exo a C none) = H := by
    funext b
    by_cases hb : b = a
    · rw [hb, upd_same, e]
    · rw [upd_ne hb]
  rw [eu] at J
  exact h _ J
end
/-- D.__init__(self, ..), D an own class that has B's -/
def tBaseI (K : PySem.W.Frag) (B newId initId : String) (tail : List Value) (ta : TA) : TE := fun σ H Q => ta σ H fun vs H1 => ∃ (a C : Addr) (ws : List V), vs = .ref a :: ws ∧ ws.length ≤ 1000 ∧ OexG K C B newId initId tail ∧ H1 a = some (exo a C none) ∧ Q .non H1
/-- self.f = e, the first field -/
def tOstG (K : PySem.W.Frag) (B newId initId : String) (tail : List Value) (f : Str) (to te : TE) : TS := fun D σ H => te σ H fun y H1 => to σ H1 fun x H2 => ∃ a C : Addr, x = .ref a ∧ OexG K C B newId initId tail ∧ PySem.W.findIn K (.ref C) f = some none ∧
  H2 a = some (exo a C none) ∧ ∀ dx, H2 dx = none → dx ≠ a → D.nx σ (upd (upd H2 dx (exd dx [(f, y)])) a (exo a C (some dx)))
section
variable {X : Cx} {o e : Expr} {es : List Expr} {to te : TE} {ta : TA} {f : Str} {p p' p1 p2 pos : Pos} {B newId initId : String} {tail : List Value}
theorem pe_baseI {pl : Sem Bool} {D : Addr} {mc : Value} {x : Str} (hg : Gl X x) (hm : X.mg x = some (.ref D)) (r : ClX.CRead X.K D mc) (vI : PySem.W.findCls X.K (.ref D) mc "__init__" = some (.val (.builtin initId))) (hi : PySem.W.handedIn (.builtin initId) = true) (ha : PA X (e :: es) ta)
    (hd : (x == ("__debug__" : Str)) = false := by decide)
    (hc : eval (.Call (.Attribute (.Name x p1) "__init__" p2) (e :: es) [] pos) X.env = (do
      let ov ← eval (.Name x p1) X.env
      standAt p2.atName
      let (f, first) ← holding [ov] (getMethod ov "__init__" pl)
      callWith pos f first (backTo pos (starEach (e :: es) X.env)) (backToKw pos (keywordEach [] X.env))) := by rfl)
    (he : starEach (e :: es) X.env = (false, eval e X.env) :: starEach es X.env := by rfl) (hpl : (backTo pos (starEach es X.env)).any (·.1) = false := by rfl) :
    PE X (.Call (.Attribute (.Name x p1) "__init__" p2) (e :: es) [] pos) (tBaseI X.K B newId initId tail ta) := by
  refine ⟨fun pins s σ H Q I h => ?_⟩
  refine PySem.W.methodCall_KW (ld_glob I hg hm ?_ hd) hc
  refine PySem.W.method_cls I.kIn r.ga (PySem.W.cls_value I.kIn r.rd vI hi ?_)
  show wpAny _ _ (callWith pos (Value.builtin initId) [] (backTo pos (starEach (e :: es) X.env)) []) _ _ _
  refine PyProof.Rows.callWith_method1 (thn (ha.run pos pins _ σ H _ (I.tok _) h) fun us s1 ⟨vs, H1, I1, r1, a, C, ws, ev, hl, T, ea, q⟩ => ?_) he hpl
  subst ev
  cases r1 with
  | @cons _ u0 _ ur ra rw' =>
    obtain rfl : u0 = Value.ref a := ra
    have hlen : ur.length ≤ sizeLine := by
      rw [← Paired.length rw', sizeLine_eq]
      omega
    exact oinit_okG T I1 ea hlen fun s' J => ⟨.non, H1, J, rfl, q⟩
theorem ps_ostG (ho : PE X o to) (he : PE X e te) (hs : swapsWith e (some (.Attribute o f p')) pos.line X.env = pure false := by rfl) : PS X (.Assign [.Attribute o f p'] e pos) (tOstG X.K B newId initId tail f to te) := by
  refine ⟨fun pins s σ H D I h => ?_⟩
  refine plainObj_wpAny_Assign_Attribute (thn (he.run pins s σ H _ I h) fun v s1 ⟨y, H1, I1, r1, q1⟩ => thn (ho.run pins s1 σ H1 _ I1 q1) fun u s2 ⟨x, H2, I2, r2, a, C, ex, T, hno, ea, q⟩ => ?_) hs
  subst ex
  obtain rfl : u = Value.ref a := r2
  exact ost_newG T I2 ea hno r1 fun dx s' n ne J => ⟨σ, _, J, q dx n ne⟩
theorem pmk_oexG {CX : CXT} {x : Str} {C fI : Addr} {k : Nat} {fd : FuncData} {ps : List Str} {sp : Sp} {ds : List Value} {dvs : List V} (T : OexG X.K C B newId initId tail) (iC : PySem.W.findIn X.K (.ref C) "__init__" = some (some (.ref fI))) (tI : PySem.W.typeIn X.K (.ref fI) = some (.type "function"))
    (F1 : FnOk X.prog X.w X.K X.mg X.base CX k fI fd ps sp) (hr : Room (k + 1) X.A) (hb : Binds X.K fd ps ds) (hd : Vals dvs ds) (hx : Passes CX X (fun _ _ _ => False)) (hg : Gl X x) (hm : X.mg x = some (.ref C)) (ha : PA X (e :: es) ta)
    (hdb : (x == ("__debug__" : Str)) = false := by decide) (he : starEach (e :: es) X.env = (false, eval e X.env) :: starEach es X.env := by rfl) (hpl : (backTo pos (starEach es X.env)).any (·.1) = false := by rfl) :
    L2N.PMk X (.Call (.Name x p) (e :: es) [] pos) (tMkO C sp dvs ta) := by
  intro pins s σ H Q I h
  obtain ⟨nm, q, N, bs, bm, sn, sub, ab, col, dd, k0, k1, k2, k3, k5, hC, hbm⟩ := T.cls
  refine wpAny_Call_Name_kw (ld_glob I hg hm ?_ hdb)
  refine PySem.W.callWith_K (h₀ := X.base) I.ok.mod.kin T.kC (thn (ha.run pos pins s σ H _ I h) fun us s1 ⟨vs, H1, I1, r1, hz, q1⟩ => ⟨I1.kIn, ?_⟩) he hpl
  show wpAny _ _ (call (.ref C) us) _ _ _
  obtain ⟨hp, g, dr, tk, os⟩ := s1
  have hsz : hp.objs.size ≤ hp.objs.size + 1 := Nat.le_succ _
  have hn : H1 (hp.objs.size + 1) = none := I1.hok.fresh hsz
  have hq := q1 (hp.objs.size + 1) hn
  have kk : ∀ b o, hp.get? b = some o → ((hp.push (PySem.W.kdv_tup us)).push (PySem.HandSPX.excO C hp.objs.size)).get? b = some o := fun b o e => Heap.get?_push_of_some _ (Heap.get?_push_of_some _ e)
  have hget : ((hp.push (PySem.W.kdv_tup us)).push (PySem.HandSPX.excO C hp.objs.size)).get? (hp.objs.size + 1) = some (PySem.HandSPX.excO C hp.objs.size) := by heap_get
  have I2 : Inv X pins σ (upd H1 (hp.objs.size + 1) (exo (hp.objs.size + 1) C none)) ⟨(hp.push (PySem.W.kdv_tup us)).push (PySem.HandSPX.excO C hp.objs.size), g, dr, tk, os⟩ :=
    I1.laid (t' := tk) (a := hp.objs.size + 1) (o := exo (hp.objs.size + 1) C none) (h' := (hp.push (PySem.W.kdv_tup us)).push (PySem.HandSPX.excO C hp.objs.size)) kk hsz (exo_ok hget)
  have r2 : Vals (V.ref (hp.objs.size + 1) :: (vs ++ dvs)) (Value.ref (hp.objs.size + 1) :: (us ++ ds)) := .cons rfl (r1.append hd)
  have hl : (Value.ref (hp.objs.size + 1) :: us ++ ds).length = ps.length := by
    have e := r2.length
    rw [F1.len _ _ _ _ hq] at e
    exact e.symm
  have hus : us.length ≤ sizeLine := by
    rw [← Paired.length r1, sizeLine_eq]
    omega
  refine wpAny_call (PySem.HandSPX.call_own T.bse.F (fun Y => refsT_has Y bm hbm) (I1.kIn _ _ hC) (PySem.W.looks_findIn I1.kIn iC) (fun self => PySem.W.bind_fn I1.kIn self tI) hus
    (codeAny_mono (F1.run _ X.stack _ _ ⟨Value.ref (hp.objs.size + 1) :: us, []⟩ (Value.ref (hp.objs.size + 1) :: (us ++ ds)) _ _ (fun _ _ _ => False) (hr.make C us []) (I2.env0.make C us []) (hb _ (Value.ref (hp.objs.size + 1) :: us) I2.kIn hl) r2 hq) fun r s' hq' => ?_))
  cases r with
  | error er => exact hx pins σ _ _ er s' I2 hq'
  | ok fl =>
    cases fl with
    | ret u =>
      obtain ⟨v, H2, os2, bare2, un2, hok2, rv, ev, d, fs, ea, ed, hd1, q2⟩ := hq'
      subst ev
      obtain ⟨h2, g2, d2, t2, os'⟩ := s'
      obtain ⟨t0, G, J, kG, ge, hoe, na⟩ := mk_end0 (d2 := d2) (t2 := t2) I1 hsz kk un2 hok2 os2 bare2 ea ed hd1
      refine ⟨rv, hp.objs.size + 1, _, _, ⟨G, g2, d2, t2, os'⟩, _, .ref C, some d, rfl, J, kG, ge, hoe, ⟨rfl, rfl, fun vs e => ?_⟩, rfl, rfl, na, rfl, bare2, raises_own T.exC T.tyC, q2⟩
      injection e with e
      rw [← e]
      rfl
    | next => exact False.elim hq'
    | brk => exact False.elim hq'
    | cont => exact False.elim hq'
end
end K42
set_option Elab.async false
set_option linter.all false
set_option maxRecDepth 100000
set_option maxHeartbeats 4000000
namespace K42
open PySem PySem.Spec PyProof.Rows L2
section
variable {P : Program} {w : World} {K : PySem.W.Frag} {mg : Str → Option Value} {base : Heap}
theorem Tx.x_TooLong (T : Tx K mg base) : ExcF K "TooLong" veTl "ValueError.__new__" "found" := excB_ok (T.ex 6 rfl)
theorem Tx.x_There (T : Tx K mg base) : ExcF K "There" veTl "ValueError.__new__" "found" := excB_ok (T.ex 7 rfl)
theorem Tx.x_Full (T : Tx K mg base) : ExcF K "Full" veTl "ValueError.__new__" "many" := excB_ok (T.ex 8 rfl)
theorem Tx.x_NotThere (T : Tx K mg base) : ExcF K "NotThere" leTl "LookupError.__new__" "found" := excB_ok (T.ex 9 rfl)
theorem ExcF.ve {x f : Str} (h : ExcF K x veTl "ValueError.__new__" f) : OexG K (He.ga K x) "ValueError" "ValueError.__new__" "ValueError.__init__" veTl := ⟨bse_value, oexB_ok h.cls, h.sa, h.exC, h.tyC, h.kC⟩
theorem ExcF.le {x f : Str} (h : ExcF K x leTl "LookupError.__new__" f) : OexG K (He.ga K x) "LookupError" "LookupError.__new__" "LookupError.__init__" leTl := ⟨bse_lookup, oexB_ok h.cls, h.sa, h.exC, h.tyC, h.kC⟩
theorem Tx.g_MarkError (T : Tx K mg base) : mg "MarkError" = some (.ref (He.ga K "MarkError")) := T.glo 0 rfl
theorem Tx.g_Missing (T : Tx K mg base) : mg "Missing" = some (.ref (He.ga K "Missing")) := T.glo 1 rfl
theorem Tx.g_TooLong (T : Tx K mg base) : mg "TooLong" = some (.ref (He.ga K "TooLong")) := T.glo 9 rfl
theorem Tx.g_There (T : Tx K mg base) : mg "There" = some (.ref (He.ga K "There")) := T.glo 10 rfl
theorem Tx.g_Full (T : Tx K mg base) : mg "Full" = some (.ref (He.ga K "Full")) := T.glo 13 rfl
theorem Tx.g_NotThere (T : Tx K mg base) : mg "NotThere" = some (.ref (He.ga K "NotThere")) := T.glo 14 rfl
section
variable {X : Cx} {o e : Expr} {es : List Expr} {to te : TE} {ta : TA} {f : Str} {p p' p1 p2 pos : Pos}
theorem pe_base_MarkError {pl : Sem Bool} (T : Tx X.K X.mg X.base) (ha : PA X (e :: es) ta) (hg : Gl X "MarkError" := by rfl)
    (hc : eval (.Call (.Attribute (.Name "MarkError" p1) "__init__" p2) (e :: es) [] pos) X.env = (do
      let ov ← eval (.Name "MarkError" p1) X.env
      standAt p2.atName
      let (f, first) ← holding [ov] (getMethod ov "__init__" pl)
      callWith pos f first (backTo pos (starEach (e :: es) X.env)) (backToKw pos (keywordEach [] X.env))) := by rfl)
    (he : starEach (e :: es) X.env = (false, eval e X.env) :: starEach es X.env := by rfl) (hpl : (backTo pos (starEach es X.env)).any (·.1) = false := by rfl) :
    PE X (.Call (.Attribute (.Name "MarkError" p1) "__init__" p2) (e :: es) [] pos) (tBaseI X.K "ValueError" "ValueError.__new__" "ValueError.__init__" veTl ta) := by
  obtain ⟨h1, h2⟩ := baseB_ok (T.ex 10 rfl)
  exact pe_baseI hg T.g_MarkError h1 h2 (by decide +kernel) ha (by decide) hc he hpl
theorem pe_base_Missing {pl : Sem Bool} (T : Tx X.K X.mg X.base) (ha : PA X (e :: es) ta) (hg : Gl X "Missing" := by rfl)
    (hc : eval (.Call (.Attribute (.Name "Missing" p1) "__init__" p2) (e :: es) [] pos) X.env = (do
      let ov ← eval (.Name "Missing" p1) X.env
      standAt p2.atName
      let (f, first) ← holding [ov] (getMethod ov "__init__" pl)
      callWith pos f first (backTo pos (starEach (e :: es) X.env)) (backToKw pos (keywordEach [] X.env))) := by rfl)
    (he : starEach (e :: es) X.env = (false, eval e X.env) :: starEach es X.env := by rfl) (hpl : (backTo pos (starEach es X.env)).any (·.1) = false := by rfl) :
    PE X (.Call (.Attribute (.Name "Missing" p1) "__init__" p2) (e :: es) [] pos) (tBaseI X.K "LookupError" "LookupError.__new__" "LookupError.__init__" leTl ta) := by
  obtain ⟨h1, h2⟩ := baseB_ok (T.ex 11 rfl)
  exact pe_baseI hg T.g_Missing h1 h2 (by decide +kernel) ha (by decide) hc he hpl
theorem ps_ost_ve (ho : PE X o to) (he : PE X e te) (hs : swapsWith e (some (.Attribute o f p')) pos.line X.env = pure false := by rfl) : PS X (.Assign [.Attribute o f p'] e pos) (tOstG X.K "ValueError" "ValueError.__new__" "ValueError.__init__" veTl f to te) := ps_ostG ho he hs
theorem ps_ost_le (ho : PE X o to) (he : PE X e te) (hs : swapsWith e (some (.Attribute o f p')) pos.line X.env = pure false := by rfl) : PS X (.Assign [.Attribute o f p'] e pos) (tOstG X.K "LookupError" "LookupError.__new__" "LookupError.__init__" leTl f to te) := ps_ostG ho he hs
end
/-- x(v) is being made at a -/
def spEx (K : PySem.W.Frag) (x f : Str) : Sp := fun vs H Q _ => ∃ (a : Addr) (v : V), vs = [.ref a, v] ∧ H a = some (exo a (He.ga K x) none) ∧ ∀ dx, H dx = none → dx ≠ a → Q .non (upd (upd H dx (exd dx [(f, v)])) a (exo a (He.ga K x) (some dx)))
abbrev N_TooLong_init : List Str := ["self", "found"]
theorem sc_TooLong_init : FnScope N_TooLong_init ["self", "found"] (defScope S_TooLong_init) := ⟨rfl, rfl, rfl, by decide +kernel, rfl, by decide +kernel, by decide +kernel⟩
theorem kn_TooLong_init (T : Tx K mg base) : ∃ fd, FunD K "__init__" "TooLong.__init__" (defArgs S_TooLong_init) (defBody S_TooLong_init) (defScope S_TooLong_init) (([] : List He.Dv).map (He.Dv.v K)) [] (He.ma K (He.ga K "TooLong") "__init__") fd ∧ FnOk P w K mg base CX0 2 (He.ma K (He.ga K "TooLong") "__init__") fd ["self", "found"] (spEx K "TooLong" "found") ∧ Binds K fd ["self", "found"] [] := by
  refine init_ofB "TooLong" T 0 S_TooLong_init [] rfl sc_TooLong_init (fun vs H Q E h => by obtain ⟨_, _, rfl, _⟩ := h; rfl) (fun _ _ _ _ _ _ us hl => match us, hl with | [_, _], _ => rfl) (fun cdv A outer s H vs Q E hr h => ⟨_, PSs.nox (pss_cons (ps_expr (pe_base_MarkError T (pa_cons (pv 0) (pa_cons pe_str pa_nil))))
    (pss_one (ps_ost_ve (pv 0) (pv 1)))), ?_⟩)
  obtain ⟨a, v, rfl, ha, q⟩ := h
  exact ⟨_, rfl, _, _, _, rfl, by decide, T.x_TooLong.ve, ha, _, rfl, _, rfl, _, _, rfl, T.x_TooLong.ve, T.x_TooLong.no, ha, q⟩
abbrev N_There_init : List Str := ["self", "found"]
theorem sc_There_init : FnScope N_There_init ["self", "found"] (defScope S_There_init) := ⟨rfl, rfl, rfl, by decide +kernel, rfl, by decide +kernel, by decide +kernel⟩
theorem kn_There_init (T : Tx K mg base) : ∃ fd, FunD K "__init__" "There.__init__" (defArgs S_There_init) (defBody S_There_init) (defScope S_There_init) (([] : List He.Dv).map (He.Dv.v K)) [] (He.ma K (He.ga K "There") "__init__") fd ∧ FnOk P w K mg base CX0 2 (He.ma K (He.ga K "There") "__init__") fd ["self", "found"] (spEx K "There" "found") ∧ Binds K fd ["self", "found"] [] := by
  refine init_ofB "There" T 1 S_There_init [] rfl sc_There_init (fun vs H Q E h => by obtain ⟨_, _, rfl, _⟩ := h; rfl) (fun _ _ _ _ _ _ us hl => match us, hl with | [_, _], _ => rfl) (fun cdv A outer s H vs Q E hr h => ⟨_, PSs.nox (pss_cons (ps_expr (pe_base_MarkError T (pa_cons (pv 0) (pa_cons pe_str pa_nil))))
    (pss_one (ps_ost_ve (pv 0) (pv 1)))), ?_⟩)
  obtain ⟨a, v, rfl, ha, q⟩ := h
  exact ⟨_, rfl, _, _, _, rfl, by decide, T.x_There.ve, ha, _, rfl, _, rfl, _, _, rfl, T.x_There.ve, T.x_There.no, ha, q⟩
abbrev N_Full_init : List Str := ["self", "many"]
theorem sc_Full_init : FnScope N_Full_init ["self", "many"] (defScope S_Full_init) := ⟨rfl, rfl, rfl, by decide +kernel, rfl, by decide +kernel, by decide +kernel⟩
theorem kn_Full_init (T : Tx K mg base) : ∃ fd, FunD K "__init__" "Full.__init__" (defArgs S_Full_init) (defBody S_Full_init) (defScope S_Full_init) (([] : List He.Dv).map (He.Dv.v K)) [] (He.ma K (He.ga K "Full") "__init__") fd ∧ FnOk P w K mg base CX0 2 (He.ma K (He.ga K "Full") "__init__") fd ["self", "many"] (spEx K "Full" "many") ∧ Binds K fd ["self", "many"] [] := by
  refine init_ofB "Full" T 2 S_Full_init [] rfl sc_Full_init (fun vs H Q E h => by obtain ⟨_, _, rfl, _⟩ := h; rfl) (fun _ _ _ _ _ _ us hl => match us, hl with | [_, _], _ => rfl) (fun cdv A outer s H vs Q E hr h => ⟨_, PSs.nox (pss_cons (ps_expr (pe_base_MarkError T (pa_cons (pv 0) (pa_cons pe_str pa_nil))))
    (pss_one (ps_ost_ve (pv 0) (pv 1)))), ?_⟩)
  obtain ⟨a, v, rfl, ha, q⟩ := h
  exact ⟨_, rfl, _, _, _, rfl, by decide, T.x_Full.ve, ha, _, rfl, _, rfl, _, _, rfl, T.x_Full.ve, T.x_Full.no, ha, q⟩
abbrev N_NotThere_init : List Str := ["self", "found"]
theorem sc_NotThere_init : FnScope N_NotThere_init ["self", "found"] (defScope S_NotThere_init) := ⟨rfl, rfl, rfl, by decide +kernel, rfl, by decide +kernel, by decide +kernel⟩
theorem kn_NotThere_init (T : Tx K mg base) : ∃ fd, FunD K "__init__" "NotThere.__init__" (defArgs S_NotThere_init) (defBody S_NotThere_init) (defScope S_NotThere_init) (([] : List He.Dv).map (He.Dv.v K)) [] (He.ma K (He.ga K "NotThere") "__init__") fd ∧ FnOk P w K mg base CX0 2 (He.ma K (He.ga K "NotThere") "__init__") fd ["self", "found"] (spEx K "NotThere" "found") ∧ Binds K fd ["self", "found"] [] := by
  refine init_ofB "NotThere" T 3 S_NotThere_init [] rfl sc_NotThere_init (fun vs H Q E h => by obtain ⟨_, _, rfl, _⟩ := h; rfl) (fun _ _ _ _ _ _ us hl => match us, hl with | [_, _], _ => rfl) (fun cdv A outer s H vs Q E hr h => ⟨_, PSs.nox (pss_cons (ps_expr (pe_base_Missing T (pa_cons (pv 0) (pa_cons pe_str pa_nil))))
    (pss_one (ps_ost_le (pv 0) (pv 1)))), ?_⟩)
  obtain ⟨a, v, rfl, ha, q⟩ := h
  exact ⟨_, rfl, _, _, _, rfl, by decide, T.x_NotThere.le, ha, _, rfl, _, rfl, _, _, rfl, T.x_NotThere.le, T.x_NotThere.no, ha, q⟩
end
end K42
set_option Elab.async false
set_option linter.all false
set_option maxRecDepth 100000
set_option maxHeartbeats 4000000
namespace K42
open PySem PySem.Spec PyProof.Rows L2
section
variable {X : Cx} {p pos : Pos} {e : Expr} {es : List Expr} {ta : TA}
theorem pmk_TooLong (T : Tx X.K X.mg X.base) (hr : Room 3 X.A) (ha : PA X (e :: es) ta) (hg : Gl X "TooLong" := by rfl) (he : starEach (e :: es) X.env = (false, eval e X.env) :: starEach es X.env := by rfl) (hpl : (backTo pos (starEach es X.env)).any (·.1) = false := by rfl) :
    L2N.PMk X (.Call (.Name "TooLong" p) (e :: es) [] pos) (tMkO (He.ga X.K "TooLong") (spEx X.K "TooLong" "found") [] ta) := by
  obtain ⟨fd, _, F, b⟩ := kn_TooLong_init (P := X.prog) (w := X.w) T
  exact pmk_oexG T.x_TooLong.ve T.x_TooLong.iC T.x_TooLong.tI F hr b .nil pass0 hg T.g_TooLong ha (by decide) he hpl
theorem pmk_There (T : Tx X.K X.mg X.base) (hr : Room 3 X.A) (ha : PA X (e :: es) ta) (hg : Gl X "There" := by rfl) (he : starEach (e :: es) X.env = (false, eval e X.env) :: starEach es X.env := by rfl) (hpl : (backTo pos (starEach es X.env)).any (·.1) = false := by rfl) :
    L2N.PMk X (.Call (.Name "There" p) (e :: es) [] pos) (tMkO (He.ga X.K "There") (spEx X.K "There" "found") [] ta) := by
  obtain ⟨fd, _, F, b⟩ := kn_There_init (P := X.prog) (w := X.w) T
  exact pmk_oexG T.x_There.ve T.x_There.iC T.x_There.tI F hr b .nil pass0 hg T.g_There ha (by decide) he hpl
theorem pmk_Full (T : Tx X.K X.mg X.base) (hr : Room 3 X.A) (ha : PA X (e :: es) ta) (hg : Gl X "Full" := by rfl) (he : starEach (e :: es) X.env = (false, eval e X.env) :: starEach es X.env := by rfl) (hpl : (backTo pos (starEach es X.env)).any (·.1) = false := by rfl) :
    L2N.PMk X (.Call (.Name "Full" p) (e :: es) [] pos) (tMkO (He.ga X.K "Full") (spEx X.K "Full" "many") [] ta) := by
  obtain ⟨fd, _, F, b⟩ := kn_Full_init (P := X.prog) (w := X.w) T
  exact pmk_oexG T.x_Full.ve T.x_Full.iC T.x_Full.tI F hr b .nil pass0 hg T.g_Full ha (by decide) he hpl
theorem pmk_NotThere (T : Tx X.K X.mg X.base) (hr : Room 3 X.A) (ha : PA X (e :: es) ta) (hg : Gl X "NotThere" := by rfl) (he : starEach (e :: es) X.env = (false, eval e X.env) :: starEach es X.env := by rfl) (hpl : (backTo pos (starEach es X.env)).any (·.1) = false := by rfl) :
    L2N.PMk X (.Call (.Name "NotThere" p) (e :: es) [] pos) (tMkO (He.ga X.K "NotThere") (spEx X.K "NotThere" "found") [] ta) := by
  obtain ⟨fd, _, F, b⟩ := kn_NotThere_init (P := X.prog) (w := X.w) T
  exact pmk_oexG T.x_NotThere.le T.x_NotThere.iC T.x_NotThere.tI F hr b .nil pass0 hg T.g_NotThere ha (by decide) he hpl
/-- the end of raise x(v) -/
theorem raise_read {K : PySem.W.Frag} {x f : Str} {v : V} {H1 : Hp} {Q : XK} (q : ∀ dx, H1 dx = none → Q (.ref (He.ga K x)) (some dx) (upd H1 dx (.xd [(f, v)]))) :
    [v].length ≤ 1000 ∧ ∀ a, H1 a = none → spEx K x f (.ref a :: ([v] ++ [])) (upd H1 a (exo a (He.ga K x) none))
      (fun w H2 => w = .non ∧ ∃ (d : Addr) (fs : List (Str × V)), H2 a = some (exo a (He.ga K x) (some d)) ∧ H2 d = some (exd d fs) ∧ H1 d = none ∧ Q (.ref (He.ga K x)) (some d) (upd (del H2 a) d (.xd fs))) (fun _ _ _ => False) := by
  refine ⟨by simp, fun a ha => ⟨a, v, rfl, upd_same, fun dx hdx hne => ⟨rfl, dx, [(f, v)], upd_same, by rw [upd_ne hne]; exact upd_same, ?_, ?_⟩⟩⟩
  · rw [upd_ne hne] at hdx; exact hdx
  · have h1 : H1 dx = none := by rw [upd_ne hne] at hdx; exact hdx
    have e : upd (del (upd (upd (upd H1 a (exo a (He.ga K x) none)) dx (exd dx [(f, v)])) a (exo a (He.ga K x) (some dx))) a) dx (.xd [(f, v)]) = upd H1 dx (.xd [(f, v)]) := by
      funext b
      by_cases hb : b = dx
      · subst hb; rw [upd_same, upd_same]
      · rw [upd_ne hb, upd_ne hb]
        by_cases hba : b = a
        · subst hba; rw [del_same, ha]
        · rw [del_ne hba, upd_ne hba, upd_ne hb, upd_ne hba]
    rw [e]
    exact q dx h1
abbrev CXN (P : Program) (w : World) : CXT := L2N.CX P w
/-- a def that may raise, called -/
theorem pe_fnX {lvl : Nat} {ps : List Str} {sp : Sp} {x : Str} {W : WX} (c : Kn X.prog X.w X.K X.mg X.base (CXN X.prog X.w) lvl x ps sp) (hr : Room lvl X.A) (tk : L2N.Takes X W) (ha : PA X (e :: es) ta) (hg : Gl X x := by rfl)
    (hdb : (x == ("__debug__" : Str)) = false := by decide) (he : starEach (e :: es) X.env = (false, eval e X.env) :: starEach es X.env := by rfl) (hpl : (backTo pos (starEach es X.env)).any (·.1) = false := by rfl) :
    PE X (.Call (.Name x p) (e :: es) [] pos) (tCallS sp (WE W) ta) := by
  obtain ⟨fd, F, b⟩ := c.ok
  exact pe_callS F hr hg c.g c.kp b (fun σ => L2N.passAt tk σ) ha hdb he hpl
def tMethX (C : Addr) (m : Str) (sp : Sp) (W : WX) (to : TE) (t : TA) : TE := fun σ H Q => to σ H fun x H1 => ∃ a dx fs, x = .ref a ∧ H1 a = some (.ins C dx fs) ∧ fs.lookup m = none ∧ t σ H1 fun vs H2 => sp (x :: vs) H2 Q (WE W σ)
/-- a method that may raise -/
theorem pe_kmX {lvl : Nat} {ps : List Str} {sp : Sp} {C m : Str} {W : WX} {o : Expr} {to : TE} {apos : Pos} {pl : Sem Bool} (c : Km X.prog X.w X.K X.mg X.base (CXN X.prog X.w) lvl C m ps sp) (hr : Room lvl X.A) (tk : L2N.Takes X W) (ho : PE X o to) (ha : PA X (e :: es) ta)
    (hst : starEach (e :: es) X.env = (false, eval e X.env) :: starEach es X.env := by rfl) (hpl : (backTo pos (starEach es X.env)).any (·.1) = false := by rfl)
    (ht : eval (.Call (.Attribute o m apos) (e :: es) [] pos) X.env = (do
      let ov ← eval o X.env
      standAt apos.atName
      let (f, first) ← holding [ov] (getMethod ov m pl)
      callWith pos f first (backTo pos (starEach (e :: es) X.env)) (backToKw pos (keywordEach [] X.env))) := by rfl) :
    PE X (.Call (.Attribute o m apos) (e :: es) [] pos) (tMethX (He.ga X.K C) m sp W to ta) := by
  obtain ⟨fd, F, b⟩ := c.ok
  refine ⟨fun pins s σ H Q I h => ?_⟩
  refine PySem.W.methodCall_KW (pl := pl) (thn (ho.run pins s σ H _ I h) fun u s1 ⟨x, H1, I1, rx, a, dx, fs, ex, ea, l, q⟩ => ?_) ht
  subst ex
  obtain rfl : u = Value.ref a := rx
  refine getmeth_ok I1 ea c.cl c.me l ?_
  refine PySem.W.callWith_K (first := [.ref a]) (h₀ := X.base) I.ok.mod.kin c.me.kp (thn (ha.run pos pins s1 σ H1 _ I1 q) fun us s2 ⟨vs, H2, I2, r, q2⟩ => ⟨I2.kIn, ?_⟩) hst hpl
  exact run_fnS (us := .ref a :: us) (vs := .ref a :: vs) F hr b (L2N.passAt tk σ) I2 (.cons rfl r) q2
end
end K42
set_option Elab.async false
set_option linter.all false
set_option maxRecDepth 100000
set_option maxHeartbeats 4000000
namespace K42
open PySem PySem.Spec PyProof.Rows L2
theorem rise_lt {ms : List Mk} (h : Rise ms) {j k : Nat} {a b : Mk} (ha : ms[j]? = some a) (hb : ms[k]? = some b) (hl : kLt a b = true) : j < k := by
  rcases Nat.lt_trichotomy j k with z | z | z
  · exact z
  · subst z
    rw [ha] at hb; cases hb
    rw [kLt_irr] at hl; cases hl
  · have := kLt_asym (rise_at h z hb ha)
    rw [hl] at this; cases this
theorem Plc.at_ {ms : List Mk} {m : Mk} {k : Nat} (p : Plc ms m k) (h : Rise ms) (hm : m ∈ ms) : ms[k]? = some m := by
  obtain ⟨j, hj⟩ := List.getElem?_of_mem hm
  rcases Nat.lt_trichotomy j k with z | z | z
  · have := p.lo j m z hj
    rw [kLt_irr] at this; cases this
  · subst z; exact hj
  · have hl := (List.getElem?_eq_some_iff.mp hj).1
    have e0 : ms[k]? = some ms[k] := List.getElem?_eq_getElem (by omega)
    have h1 := rise_at h z e0 hj
    have h2 := p.hi k _ (Nat.le_refl _) e0
    rw [h1] at h2; cases h2
theorem Plc.mem_iff {ms : List Mk} {m : Mk} {k : Nat} (p : Plc ms m k) (h : Rise ms) : m ∈ ms ↔ ms[k]? = some m := ⟨p.at_ h, List.mem_of_getElem?⟩
/-- m put at k -/
def insM (ms : List Mk) (m : Mk) (k : Nat) : List Mk := ms.take k ++ [m] ++ ms.drop k
theorem Plc.ins_rise {ms : List Mk} {m : Mk} {k : Nat} (p : Plc ms m k) (h : Rise ms) (ok : Ok m) (oks : ∀ x ∈ ms, Ok x) (hm : m ∉ ms) : Rise (insM ms m k) := by
  have hlo : ∀ x ∈ ms.take k, kLt x m = true := fun x hx => by
    obtain ⟨j, hj⟩ := List.getElem?_of_mem hx
    have hjk : j < k := by
      have := (List.getElem?_eq_some_iff.mp hj).1
      rw [List.length_take] at this
      omega
    rw [List.getElem?_take_of_lt hjk] at hj
    exact p.lo j x hjk hj
  have hhi : ∀ x ∈ ms.drop k, kLt m x = true := fun x hx => by
    obtain ⟨j, hj⟩ := List.getElem?_of_mem hx
    rw [List.getElem?_drop] at hj
    have h1 := p.hi _ x (Nat.le_add_right k j) hj
    cases z : kLt m x with
    | true => rfl
    | false =>
      have e := kLt_tot ok (oks x (List.mem_of_getElem? hj)) z h1
      rw [← e] at hj
      exact absurd (List.mem_of_getElem? hj) hm
  unfold insM
  refine List.pairwise_append.mpr ⟨List.pairwise_append.mpr ⟨List.Pairwise.sublist (List.take_sublist k ms) h, List.pairwise_singleton _ _, fun a ha b hb => ?_⟩, List.Pairwise.sublist (List.drop_sublist k ms) h, fun a ha b hb => ?_⟩
  · rw [List.mem_singleton.mp hb]
    exact hlo a ha
  · rcases List.mem_append.mp ha with z | z
    · exact kLt_tr (hlo a z) (hhi b hb)
    · rw [List.mem_singleton.mp z]
      exact hhi b hb
theorem ins_perm (ms : List Mk) (m : Mk) (k : Nat) : (insM ms m k).Perm (ms ++ [m]) := by
  unfold insM
  have h1 : (ms.take k ++ [m] ++ ms.drop k).Perm (ms.take k ++ (ms.drop k ++ [m])) := by
    rw [List.append_assoc]
    exact List.Perm.append_left _ List.perm_append_comm
  rw [← List.append_assoc, List.take_append_drop] at h1
  exact h1
theorem ins_len (ms : List Mk) (m : Mk) (k : Nat) : (insM ms m k).length = ms.length + 1 := by
  rw [(ins_perm ms m k).length_eq, List.length_append]; rfl
theorem ins_mem {ms : List Mk} {m x : Mk} {k : Nat} : x ∈ insM ms m k ↔ x ∈ ms ∨ x = m := by
  rw [(ins_perm ms m k).mem_iff, List.mem_append, List.mem_singleton]
theorem rise_perm {a b : List Mk} (ha : Rise a) (hb : Rise b) (p : a.Perm b) : a = b :=
  p.eq_of_pairwise (le := fun x y => kLt x y = true) (fun x y _ _ h1 h2 => by have := kLt_asym h1; rw [h2] at this; cases this) ha hb
theorem Plc.ins_sort {ms : List Mk} {m : Mk} {k : Nat} (p : Plc ms m k) (h : Rise ms) (ok : Ok m) (oks : ∀ x ∈ ms, Ok x) (hm : m ∉ ms) : insM ms m k = kSort (ms ++ [m]) := by
  refine rise_perm (p.ins_rise h ok oks hm) (kSort_rise (fun x hx => ?_) ?_) ((ins_perm ms m k).trans (kSort_perm _).symm)
  · rcases List.mem_append.mp hx with z | z
    · exact oks x z
    · rw [List.mem_singleton.mp z]; exact ok
  · refine List.nodup_append.mpr ⟨rise_nodup h, List.pairwise_singleton _ _, fun a ha b hb e => hm ?_⟩
    rw [List.mem_singleton.mp hb] at e
    rw [← e]; exact ha
theorem erase_filter : ∀ {ms : List Mk} {m : Mk} {k : Nat}, ms.Nodup → ms[k]? = some m → ms.eraseIdx k = ms.filter fun x => decide (x ≠ m) := by
  intro ms
  induction ms with
  | nil => intro m k _ h; cases h
  | cons a r ih =>
    intro m k hn h
    obtain ⟨h1, h2⟩ := List.nodup_cons.mp hn
    cases k with
    | zero =>
      cases h
      rw [List.filter_cons_of_neg (by simp), List.eraseIdx_cons_zero]
      exact (List.filter_eq_self.mpr fun x hx => by simpa using (fun (e : x = a) => h1 (by rw [← e]; exact hx))).symm
    | succ k =>
      have hne : a ≠ m := fun e => h1 (e ▸ List.mem_of_getElem? (by simpa using h))
      rw [List.filter_cons_of_pos (by simpa using hne), List.eraseIdx_cons_succ, ih h2 (by simpa using h)]
theorem rise_sub {a b : List Mk} (s : a.Sublist b) (h : Rise b) : Rise a := List.Pairwise.sublist s h
theorem Fit.ins {ms : List Mk} {m : Mk} {k : Nat} (f : Fit ms) (p : Plc ms m k) (ok : Ok m) (hz : (text m).length ≤ 24) (hm : m ∉ ms) (hl : ms.length < 12) : Fit (insM ms m k) where
  ok := fun x hx => (ins_mem.mp hx).elim (f.ok x) fun e => e ▸ ok
  few := fun x hx => (ins_mem.mp hx).elim (f.few x) fun e => e ▸ hz
  rise := p.ins_rise f.rise ok f.ok hm
  len := by rw [ins_len]; omega
theorem Fit.sub {a ms : List Mk} (f : Fit ms) (s : a.Sublist ms) : Fit a where
  ok := fun x hx => f.ok x (s.subset hx)
  few := fun x hx => f.few x (s.subset hx)
  rise := rise_sub s f.rise
  len := Nat.le_trans s.length_le f.len
theorem pair_app {α β : Type} {F : α → β → Prop} : ∀ {xs ys : List α} {ms ns : List β}, Paired F xs ms → Paired F ys ns → Paired F (xs ++ ys) (ms ++ ns)
  | _, _, _, _, .nil, h => h
  | _, _, _, _, .cons a r, h => .cons a (pair_app r h)
theorem pair_take {α β : Type} {F : α → β → Prop} : ∀ {xs : List α} {ms : List β} (k : Nat), Paired F xs ms → Paired F (xs.take k) (ms.take k)
  | _, _, 0, _ => by rw [List.take_zero, List.take_zero]; exact .nil
  | _, _, _ + 1, .nil => .nil
  | _, _, k + 1, .cons a r => .cons a (pair_take k r)
theorem pair_drop {α β : Type} {F : α → β → Prop} : ∀ {xs : List α} {ms : List β} (k : Nat), Paired F xs ms → Paired F (xs.drop k) (ms.drop k)
  | _, _, 0, h => h
  | _, _, _ + 1, .nil => .nil
  | _, _, k + 1, .cons _ r => pair_drop k r
theorem pair_erase {α β : Type} {F : α → β → Prop} : ∀ {xs : List α} {ms : List β} (k : Nat), Paired F xs ms → Paired F (xs.eraseIdx k) (ms.eraseIdx k)
  | _, _, _, .nil => .nil
  | _, _, 0, .cons _ r => r
  | _, _, k + 1, .cons a r => .cons a (pair_erase k r)
end K42
set_option Elab.async false
set_option linter.all false
set_option maxRecDepth 100000
set_option maxHeartbeats 4000000
namespace K42
open PySem PySem.Spec PyProof.Rows L2
theorem tkF {X : Cx} : L2N.Takes X (fun _ _ _ _ => False) := fun _ _ ⟨_, _, _, _, _, _, _, _, _, _, _, _, _, _, _, _, w⟩ => w.elim
theorem seqIx {k n : Nat} (h : k < n) : seqIndex? (k : Int) n = some k := by
  unfold seqIndex?
  simp
  omega
theorem hu2 {k : Nat} {A : Around} (hr : Room k A) : A.units + 1 < cLine := by have := hr.un; omega
section
variable {P : Program} {w : World} {K : PySem.W.Frag} {mg : Str → Option Value} {base : Heap}
/-- what raise x(v) leaves -/
abbrev Rz (K : PySem.W.Frag) (x f : Str) (v : V) (E : XK) (H : Hp) : Prop := ∀ dx, H dx = none → E (.ref (He.ga K x)) (some dx) (upd H dx (.xd [(f, v)]))
def spFewX (K : PySem.W.Frag) : Sp := fun vs H Q E => ∃ (G : Hp) (v : V) (m : Mk), vs = [v] ∧ Sb G H ∧ MarkAt K G v m ∧ Ok m ∧ ((text m).length ≤ 24 → Q .non H) ∧ (24 < (text m).length → Rz K "TooLong" "found" v E H)
theorem kn_need_fewX (T : Tx K mg base) : Kn P w K mg base (CXN P w) 4 "need_few" ["mark"] (spFewX K) := by
  refine kn_of "need_few" T 35 33 S_need_few rfl rfl sc_need_few (fun vs H Q E h => by obtain ⟨_, _, _, rfl, _⟩ := h; rfl) (fun _ _ _ _ _ _ us hl => match us, hl with | [_], _ => rfl) (fun cdv A outer s H vs Q E hr h => ⟨_, (pss_one (ps_if (pt_cmpR op_gt (pe_callB (call_lenM (kn_Mark_len T) (hr.mono (by decide))) (by rfl) T.f_len (by decide +kernel) (pa_cons (pv 0) pa_nil)) (T.gi_MOST_SIGNS) (nomark _)) (pss_one (L2N.ps_raise rfl (L2N.takes_of rfl rfl rfl rfl) (pmk_TooLong T (hr.mono (by decide)) (pa_cons (pv 0) pa_nil)))) pss_nil)), ?_⟩)
  obtain ⟨G, v, m, rfl, sb, hv, ok, q1, q2⟩ := h
  obtain ⟨a, dx, t, rfl, h1⟩ := hv.o sb
  refine ⟨_, rfl, a, dx, _, rfl, h1, a, dx, t, m, rfl, h1, ok, ⟨_, rfl, ?_⟩, _, _, rfl, rfl, _, rfl, ifC (fun hl => ?_) fun hl => q1 (by omega)⟩
  · have := text_short m ok
    omega
  · exact ⟨_, rfl, raise_read (q2 (by omega))⟩
def spShortX (K : PySem.W.Frag) : Sp := fun vs H Q E => ∃ (G : Hp) (x a : Addr) (ms : List Mk) (v : V) (m : Mk), vs = [.ref x, v] ∧ Sb G H ∧ SAt K G H x a ms ∧ Fit ms ∧ MarkAt K G v m ∧ Ok m ∧
  (∀ (k : Nat) (c : Mk) (u : V) (G' H' : Hp), GR K S0 G H G' H' → ms[k]? = some m → (shortOf ms)[k]? = some c → MarkAt K G' u c → Q u H') ∧ (m ∉ ms → ∀ G' H', GR K S0 G H G' H' → Rz K "NotThere" "found" v E H')
abbrev N_Shorts_short_of : List Str := ["self", "mark", "place", "there"]
theorem sc_Shorts_short_of : FnScope N_Shorts_short_of ["self", "mark"] (defScope S_Shorts_short_of) := ⟨rfl, rfl, rfl, by decide +kernel, rfl, by decide +kernel, by decide +kernel⟩
theorem kn_Shorts_short_ofX (T : Tx K mg base) : Km P w K mg base (CXN P w) 8 "Shorts" "short_of" ["self", "mark"] (spShortX K) := by
  refine km_of "Shorts" "short_of" T 48 131 99 S_Shorts_short_of rfl rfl rfl sc_Shorts_short_of (fun vs H Q E h => by obtain ⟨_, _, _, _, _, _, rfl, _⟩ := h; rfl) (fun _ _ _ _ _ _ us hl => match us, hl with | [_, _], _ => rfl) (fun cdv A outer s H vs Q E hr h => ⟨_, (pss_cons (ps_asg (pe_fn (kn_place_in T) (hr.mono (by decide)) (pa_cons (pe_fld (pv 0) rfl) (pa_cons (pv 1) pa_nil))) (pg_tup rfl (pgs_cons (pg_name (i := 2) sc_Shorts_short_of.nd rfl (Or.inl rfl)) (pgs_cons (pg_name (i := 3) sc_Shorts_short_of.nd rfl (Or.inl rfl)) pgs_nil))))
    (pss_cons (ps_if (pt_not (pt_val (pv 3))) (pss_one (L2N.ps_raise rfl (L2N.takes_of rfl rfl rfl rfl) (pmk_NotThere T (hr.mono (by decide)) (pa_cons (pv 1) pa_nil)))) pss_nil)
    (pss_one (ps_ret (pe_ix ix_list (pe_fld (pv 0) rfl) (pv 2) (fun _ _ => rfl)))))), ?_⟩)
  obtain ⟨G, x, a, ms, v, m, rfl, sb, hs, fit, hv, ok, q1, q2⟩ := h
  obtain ⟨dx, sv, r, xs, h1, h2, h3, h4⟩ := hs.at_
  refine ⟨_, rfl, x, _, dx, _, _, rfl, h1, T.cS, T.nS_marks, rfl, _, rfl, G, a, v, ms, m, rfl, sb, hs.ml, Nat.le_trans fit.len (by decide), fit.rise, hv, ok, fit.ok, fun k G1 H1 p g1 hp1 hpl => ?_⟩
  refine ⟨p, _, rfl, SqT.of hp1, rfl, _, _, rfl, _, _, rfl, rfl, _, rfl, _, rfl, ifN (fun hne => ?_) fun hyes => ?_⟩
  · exact ⟨_, rfl, raise_read (q2 (fun hm => hne (hpl.at_ fit.rise hm)) G1 H1 g1)⟩
  · obtain ⟨c, hc⟩ : ∃ c, (shortOf ms)[k]? = some c := ⟨_, List.getElem?_eq_getElem (by rw [fit.short.len]; exact (List.getElem?_eq_some_iff.mp hyes).1)⟩
    obtain ⟨u, hu, hmu⟩ := pair_get h4 hc
    refine ⟨_, rfl, x, _, dx, _, _, rfl, g1.keep h1 trivial id, T.cS, T.nS_row, rfl, _, rfl, _, _, _, u, rfl, rfl, SqL.of (g1.sb _ _ (g1.gg _ _ h3)).1, atI_nat hu, ?_⟩
    exact q1 k c u G1 H1 g1 hyes hc (hmu.mono g1.gg)
def spMeant (K : PySem.W.Frag) : Sp := fun vs H Q _ => ∃ (G : Hp) (x a : Addr) (ms : List Mk) (t : Str), vs = [.ref x, .str t] ∧ Sb G H ∧ SAt K G H x a ms ∧ Fit ms ∧
  ∀ H', GR K S0 G H G H' → Q (oV ((shortOf ms).findIdx? fun c => decide (S (text c) = t))) H'
abbrev N_Shorts_meant : List Str := ["self", "text", "number", "mark"]
theorem sc_Shorts_meant : FnScope N_Shorts_meant ["self", "text"] (defScope S_Shorts_meant) := ⟨rfl, rfl, rfl, by decide +kernel, rfl, by decide +kernel, by decide +kernel⟩
theorem kn_Shorts_meant (T : Tx K mg base) : Km P w K mg base CX0 6 "Shorts" "meant" ["self", "text"] (spMeant K) := by
  refine km_of "Shorts" "meant" T 49 132 99 S_Shorts_meant rfl rfl rfl sc_Shorts_meant (fun vs H Q E h => by obtain ⟨_, _, _, _, _, rfl, _⟩ := h; rfl) (fun _ _ _ _ _ _ us hl => match us, hl with | [_, _], _ => rfl) (fun cdv A outer s H vs Q E hr h => ⟨_, PSs.nox (pss_cons (ps_for PassesOwn.never rfl (pi_enum (by rfl) T.f_enumerate (pa_cons (pe_fld (pv 0) rfl) pa_nil)) (pg_tup rfl (pgs_cons (pg_name (i := 2) sc_Shorts_meant.nd rfl (Or.inl rfl)) (pgs_cons (pg_name (i := 3) sc_Shorts_meant.nd rfl (Or.inl rfl)) pgs_nil))) (pss_one (ps_if (PW.pt (pw_and (pt_val (pe_callB call_isi (by rfl) T.f_isinstance (by decide +kernel) (pa_cons (pv 1) (pa_cons (pe_bltn (v := .ty "str") (by rfl) T.f_str (by decide +kernel) rfl) pa_nil)))) (pw_and1 (pt_cmpR op_eq (pe_callTy (call_strM (kn_Mark_str T) (hr.mono (by decide))) (by rfl) T.f_str (by decide +kernel) (pa_cons (pv 3) pa_nil)) (pv 1) (nomark _))))) (pss_one (ps_ret (pv 2))) pss_nil)))
    (pss_one (ps_ret pe_non))), ?_⟩)
  obtain ⟨G, x, a, ms, t, rfl, sb, hs, fit, q⟩ := h
  obtain ⟨dx, sv, r, xs, h1, h2, h3, h4⟩ := hs.at_
  have hl := pair_len h4
  have h30 := (sb _ _ h3).1
  refine ⟨_, rfl, x, _, dx, _, _, rfl, h1, T.cS, T.nS_row, rfl, r, xs, rfl, SqL.of h30, ?_⟩
  refine for_it (walk_enum (xs := xs)) (fun i σ H' => (∃ c d : Option V, σ = [some (.ref x), some (.str t), c, d]) ∧ GR K S0 G H G H' ∧ ∀ j c, j < i → (shortOf ms)[j]? = some c → S (text c) ≠ t) ⟨⟨_, _, rfl⟩, GR.refl sb, fun j c hj => absurd hj (by omega)⟩ ?_ ?_ ?_
  · rintro i σ H1 hi ⟨⟨c, d, rfl⟩, g, _⟩
    exact SqL.of (g.keep h30 trivial id)
  · rintro i y σ H1 H2 hi ⟨⟨c, d, rfl⟩, g, hno⟩ ⟨p, u, v, rfl, hp, rfl, hu, hv⟩
    have eu : u = .int (i : Nat) := by injection hu with hu; exact hu.symm
    subst eu
    obtain ⟨n, hn, hm⟩ := pair_get' h4 (show xs[i]? = some v from hv)
    have g2 := g.newM hp (o := .tup [.int (i : Nat), v])
    obtain ⟨b, dxb, tb, rfl, hb⟩ := hm.o g2.sb
    refine ⟨p, _, rfl, SqT.of upd_same, rfl, _, _, rfl, _, _, rfl, rfl, ?_⟩
    have okn := fit.short.each fit.ok n (List.mem_of_getElem? hn)
    refine ⟨_, rfl, _, _, _, _, _, rfl, .ty _, .base (.str _), k_ss, _, rfl, iteT ⟨_, rfl, b, dxb, _, rfl, hb, b, dxb, tb, n, rfl, hb, okn, ⟨⟨_, rfl⟩, _, rfl, rfl, _, rfl, ifC (fun he => ?_) fun he => ?_⟩⟩⟩
    · have hf : (shortOf ms).findIdx? (fun c => decide (S (text c) = t)) = some i := by
        refine List.findIdx?_eq_some_iff_getElem.mpr ⟨(List.getElem?_eq_some_iff.mp hn).1, ?_, fun j hj => ?_⟩
        · rw [(List.getElem?_eq_some_iff.mp hn).2]
          exact decide_eq_true (V.str.inj he)
        · have hjl : j < (shortOf ms).length := Nat.lt_trans hj (List.getElem?_eq_some_iff.mp hn).1
          have := hno j _ hj (List.getElem?_eq_getElem hjl)
          simpa using this
      have q' := q _ g2
      rw [hf] at q'
      exact ⟨_, rfl, q'⟩
    · refine ⟨⟨_, _, rfl⟩, g2, fun j c hj hc => ?_⟩
      by_cases hji : j < i
      · exact hno j c hji hc
      · rw [show j = i by omega, hn] at hc
        cases hc
        exact fun z => he (congrArg V.str z)
  · rintro σ H1 ⟨⟨c, d, rfl⟩, g, hno⟩
    have hf : (shortOf ms).findIdx? (fun c => decide (S (text c) = t)) = none := by
      refine List.findIdx?_eq_none_iff.mpr fun c hc => ?_
      obtain ⟨j, hj⟩ := List.getElem?_of_mem hc
      exact decide_eq_false (hno j c (by rw [hl]; exact (List.getElem?_eq_some_iff.mp hj).1) hj)
    have q' := q _ g
    rw [hf] at q'
    exact q'
def spPutX (K : PySem.W.Frag) : Sp := fun vs H Q E => ∃ (G : Hp) (x a : Addr) (ms : List Mk) (v : V) (m : Mk), vs = [.ref x, v] ∧ Sb G H ∧ LamX.Tabs (Tq K) H ∧ SAt K G H x a ms ∧ Fit ms ∧ MarkAt K G v m ∧ Ok m ∧
  (24 < (text m).length → Rz K "TooLong" "found" v E H) ∧
  ((text m).length ≤ 24 → m ∈ ms → ∀ (G' H' : Hp), GR K S0 G H G' H' → Rz K "There" "found" v E H') ∧
  ((text m).length ≤ 24 → m ∉ ms → ms.length = 12 → ∀ (G' H' : Hp), GR K S0 G H G' H' → Rz K "Full" "many" (.int 12) E H') ∧
  ((text m).length ≤ 24 → m ∉ ms → ms.length < 12 → ∀ (k : Nat) (G' H' : Hp), GR K (S2 x a) G H G' H' → Plc ms m k → SAt K G' H' x a (insM ms m k) → Q .non H')
abbrev N_Shorts_put : List Str := ["self", "mark", "place", "there"]
theorem sc_Shorts_put : FnScope N_Shorts_put ["self", "mark"] (defScope S_Shorts_put) := ⟨rfl, rfl, rfl, by decide +kernel, rfl, by decide +kernel, by decide +kernel⟩
theorem kn_Shorts_putX (T : Tx K mg base) : Km P w K mg base (CXN P w) 12 "Shorts" "put" ["self", "mark"] (spPutX K) := by
  refine km_of "Shorts" "put" T 50 133 99 S_Shorts_put rfl rfl rfl sc_Shorts_put (fun vs H Q E h => by obtain ⟨_, _, _, _, _, _, rfl, _⟩ := h; rfl) (fun _ _ _ _ _ _ us hl => match us, hl with | [_, _], _ => rfl) (fun cdv A outer s H vs Q E hr h => ⟨_, (pss_cons (ps_expr (pe_fnX (kn_need_fewX T) (hr.mono (by decide)) (L2N.takes_of rfl rfl rfl rfl) (pa_cons (pv 1) pa_nil)))
    (pss_cons (ps_asg (pe_fn (kn_place_in T) (hr.mono (by decide)) (pa_cons (pe_fld (pv 0) rfl) (pa_cons (pv 1) pa_nil))) (pg_tup rfl (pgs_cons (pg_name (i := 2) sc_Shorts_put.nd rfl (Or.inl rfl)) (pgs_cons (pg_name (i := 3) sc_Shorts_put.nd rfl (Or.inl rfl)) pgs_nil))))
    (pss_cons (ps_if (pt_val (pv 3)) (pss_one (L2N.ps_raise rfl (L2N.takes_of rfl rfl rfl rfl) (pmk_There T (hr.mono (by decide)) (pa_cons (pv 1) pa_nil)))) pss_nil)
    (pss_cons (ps_if (pt_cmpR op_eq (pe_callB call_len_seq (by rfl) T.f_len (by decide +kernel) (pa_cons (pe_fld (pv 0) rfl) pa_nil)) (T.gi_MOST_MARKS) (nomark _)) (pss_one (L2N.ps_raise rfl (L2N.takes_of rfl rfl rfl rfl) (pmk_Full T (hr.mono (by decide)) (pa_cons (T.gi_MOST_MARKS) pa_nil)))) pss_nil)
    (pss_cons (ps_expr (pe_bm PySem.F.plainAttrs_list PySem.F.slot_list_insert PySem.F.type_list_insert mt_insert (pe_fld (pv 0) rfl) (pa_cons (pv 2) (pa_cons (pv 1) pa_nil))))
    (pss_one (ps_expr (pe_km0 (kn_Shorts_work T) (hr.mono (by decide)) (pv 0))))))))), ?_⟩)
  obtain ⟨G, x, a, ms, v, m, rfl, sb, tb, hs, fit, hv, ok, q1, q2, q3, q4⟩ := h
  obtain ⟨dx, sv, r, xs, h1, h2, h3, h4⟩ := hs.at_
  have gm := fun (S : Addr → Prop) => (GR.refl (K := K) (S := S) sb)
  refine ⟨_, rfl, G, v, m, rfl, sb, hv, ok, fun hz => ?_, q1⟩
  refine ⟨_, rfl, x, _, dx, _, _, rfl, h1, T.cS, T.nS_marks, rfl, _, rfl, G, a, v, ms, m, rfl, sb, hs.ml, Nat.le_trans fit.len (by decide), fit.rise, hv, ok, fit.ok, fun k G1 H1 p g1 hp1 hpl => ?_⟩
  refine ⟨p, _, rfl, SqT.of hp1, rfl, _, _, rfl, _, _, rfl, rfl, ?_⟩
  refine ⟨_, rfl, _, rfl, ifC (fun hyes => ?_) fun hne => ?_⟩
  · exact ⟨_, rfl, raise_read (q2 hz (List.mem_of_getElem? hyes) G1 H1 g1)⟩
  have hm : m ∉ ms := fun hm => hne (hpl.at_ fit.rise hm)
  have hx1 := g1.keep h1 trivial id
  obtain ⟨ys, h5, h6⟩ := hs.ml.keep g1 id
  have hyl := pair_len h6
  refine ⟨_, rfl, x, _, dx, _, _, rfl, hx1, T.cS, T.nS_marks, rfl, _, _, rfl, .inl (SqL.of h5), rfl, _, rfl, ifC (fun hl => ?_) fun hl => ?_⟩
  · exact raise_read (q3 hz hm (by have := V.int.inj hl; omega) G1 H1 g1)
  have hl2 : ms.length < 12 := by
    have h12 := fit.len
    refine Nat.lt_of_le_of_ne h12 fun e => hl ?_
    rw [hyl, e]; rfl
  have nxa : x ≠ a := ne_of hx1 h5 (fun e => nomatch e)
  have ga1 : G1 a = none := by
    obtain ⟨y0, e0, _⟩ := hs.ml
    exact g1.nofrz e0 hs.ga
  have g2 := (g1.weak (S := S2 x a)).wr (.inl (.inr rfl)) ga1 h5 (o' := .lst (ys.take k ++ [v] ++ ys.drop k)) trivial
  have hx2 : upd H1 a (.lst (ys.take k ++ [v] ++ ys.drop k)) x = some (.ins (He.ga K "Shorts") dx (sflds a sv r)) := by rw [upd_ne nxa]; exact hx1
  refine ⟨_, rfl, x, _, dx, _, _, rfl, hx1, T.cS, T.nS_marks, rfl, .inl ⟨rfl, _, SqL.of h5⟩, _, rfl, _, rfl, a, ys, _, v, rfl, rfl, h5, ?_, ?_, ?_, ?_⟩
  · rw [sizeLine_eq]; omega
  · omega
  · have := fit.len; have := hpl.le; omega
  refine ⟨_, rfl, x, dx, _, rfl, hx2, rfl, G1, x, dx, a, _, insM ms m k, rfl, g2.sb, g2.tb tb, hx2, .inr ⟨sv, r, rfl⟩, g1.nofrz h1 hs.gx, ga1, ⟨_, upd_same, ?_⟩, fit.ins hpl ok hz hm hl2, fun G' H' gw hs' => ?_⟩
  · exact pair_app (pair_app (pair_take k h6) (.cons (hv.mono g1.gg) .nil)) (pair_drop k h6)
  · exact q4 hz hm hl2 k G' H' (g2.call gw fun b e => .inl (.inl e)) hpl hs'
def spTakeX (K : PySem.W.Frag) : Sp := fun vs H Q E => ∃ (G : Hp) (x a : Addr) (ms : List Mk) (v : V) (m : Mk), vs = [.ref x, v] ∧ Sb G H ∧ LamX.Tabs (Tq K) H ∧ SAt K G H x a ms ∧ Fit ms ∧ MarkAt K G v m ∧ Ok m ∧
  (m ∉ ms → ∀ (G' H' : Hp), GR K S0 G H G' H' → Rz K "NotThere" "found" v E H') ∧
  (∀ (k : Nat) (G' H' : Hp), ms[k]? = some m → GR K (S2 x a) G H G' H' → SAt K G' H' x a (ms.eraseIdx k) → Q .non H')
abbrev N_Shorts_take : List Str := ["self", "mark", "place", "there"]
theorem sc_Shorts_take : FnScope N_Shorts_take ["self", "mark"] (defScope S_Shorts_take) := ⟨rfl, rfl, rfl, by decide +kernel, rfl, by decide +kernel, by decide +kernel⟩
theorem kn_Shorts_takeX (T : Tx K mg base) : Km P w K mg base (CXN P w) 12 "Shorts" "take" ["self", "mark"] (spTakeX K) := by
  refine km_of "Shorts" "take" T 51 134 99 S_Shorts_take rfl rfl rfl sc_Shorts_take (fun vs H Q E h => by obtain ⟨_, _, _, _, _, _, rfl, _⟩ := h; rfl) (fun _ _ _ _ _ _ us hl => match us, hl with | [_, _], _ => rfl) (fun cdv A outer s H vs Q E hr h => ⟨_, (pss_cons (ps_asg (pe_fn (kn_place_in T) (hr.mono (by decide)) (pa_cons (pe_fld (pv 0) rfl) (pa_cons (pv 1) pa_nil))) (pg_tup rfl (pgs_cons (pg_name (i := 2) sc_Shorts_take.nd rfl (Or.inl rfl)) (pgs_cons (pg_name (i := 3) sc_Shorts_take.nd rfl (Or.inl rfl)) pgs_nil))))
    (pss_cons (ps_if (pt_not (pt_val (pv 3))) (pss_one (L2N.ps_raise rfl (L2N.takes_of rfl rfl rfl rfl) (pmk_NotThere T (hr.mono (by decide)) (pa_cons (pv 1) pa_nil)))) pss_nil)
    (pss_cons (ps_expr (pe_bm PySem.F.plainAttrs_list PySem.F.slot_list_pop PySem.F.type_list_pop mt_popAt (pe_fld (pv 0) rfl) (pa_cons (pv 2) pa_nil)))
    (pss_one (ps_expr (pe_km0 (kn_Shorts_work T) (hr.mono (by decide)) (pv 0))))))), ?_⟩)
  obtain ⟨G, x, a, ms, v, m, rfl, sb, tb, hs, fit, hv, ok, q1, q2⟩ := h
  obtain ⟨dx, sv, r, xs, h1, h2, h3, h4⟩ := hs.at_
  refine ⟨_, rfl, x, _, dx, _, _, rfl, h1, T.cS, T.nS_marks, rfl, _, rfl, G, a, v, ms, m, rfl, sb, hs.ml, Nat.le_trans fit.len (by decide), fit.rise, hv, ok, fit.ok, fun k G1 H1 p g1 hp1 hpl => ?_⟩
  refine ⟨p, _, rfl, SqT.of hp1, rfl, _, _, rfl, _, _, rfl, rfl, _, rfl, _, rfl, ifN (fun hne => ?_) fun hyes => ?_⟩
  · exact ⟨_, rfl, raise_read (q1 (fun hm => hne (hpl.at_ fit.rise hm)) G1 H1 g1)⟩
  have hx1 := g1.keep h1 trivial id
  obtain ⟨ys, h5, h6⟩ := hs.ml.keep g1 id
  have hyl := pair_len h6
  have hk := (List.getElem?_eq_some_iff.mp hyes).1
  have nxa : x ≠ a := ne_of hx1 h5 (fun e => nomatch e)
  have ga1 : G1 a = none := by
    obtain ⟨y0, e0, _⟩ := hs.ml
    exact g1.nofrz e0 hs.ga
  have g2 := (g1.weak (S := S2 x a)).wr (.inl (.inr rfl)) ga1 h5 (o' := .lst (ys.eraseIdx k)) trivial
  have hx2 : upd H1 a (.lst (ys.eraseIdx k)) x = some (.ins (He.ga K "Shorts") dx (sflds a sv r)) := by rw [upd_ne nxa]; exact hx1
  obtain ⟨y, hy⟩ : ∃ y, ys[k]? = some y := ⟨_, List.getElem?_eq_getElem (by omega)⟩
  refine ⟨_, rfl, x, _, dx, _, _, rfl, hx1, T.cS, T.nS_marks, rfl, .inl ⟨rfl, _, SqL.of h5⟩, _, rfl, a, ys, _, k, y, rfl, rfl, h5, ?_, ?_, ?_, hy, ?_⟩
  · have := fit.len; omega
  · have := fit.len; omega
  · exact seqIx (by omega)
  refine ⟨_, rfl, x, dx, _, rfl, hx2, rfl, G1, x, dx, a, _, ms.eraseIdx k, rfl, g2.sb, g2.tb tb, hx2, .inr ⟨sv, r, rfl⟩, g1.nofrz h1 hs.gx, ga1, ⟨_, upd_same, pair_erase k h6⟩, fit.sub (List.eraseIdx_sublist ms k), fun G' H' gw hs' => ?_⟩
  exact q2 k G' H' hyes (g2.call gw fun b e => .inl (.inl e)) hs'
end
end K42
set_option Elab.async false
set_option linter.all false
set_option maxRecDepth 100000
set_option maxHeartbeats 4000000
namespace K42
open PySem PySem.Spec PyProof.Rows L2
/-- the dict of a row: texts, sums -/
def pap (es : List Ent) : List (Key × V) := es.map fun e => (.inr (S (text e.c)), oV e.s)
theorem pap_none {es : List Ent} {t : Str} (h : ∀ e ∈ es, S (text e.c) ≠ t) : valV (pap es) (.inr t) = none := by
  induction es with
  | nil => rfl
  | cons e r ih =>
    rw [show pap (e :: r) = (.inr (S (text e.c)), oV e.s) :: pap r from rfl, valV_neg (fun z => h e (.head _) (Sum.inr.inj z))]
    exact ih fun x hx => h x (.tail _ hx)
theorem pap_put {es : List Ent} {e : Ent} (h : ∀ x ∈ es, text x.c ≠ text e.c) : putK (pap es) (.inr (S (text e.c))) (oV e.s) = pap (es ++ [e]) := by
  rw [putK_new _ (pap_none fun x hx z => h x hx (S_inj z))]
  unfold pap
  rw [List.map_append]
  rfl
section
variable {P : Program} {w : World} {K : PySem.W.Frag} {mg : Str → Option Value} {base : Heap}
def PapAt (G : Hp) (v : V) (es : List Ent) : Prop := ∃ d, v = .ref d ∧ G d = some (.dK (pap es))
theorem PapAt.mono {G G' : Hp} {v : V} {es : List Ent} (h : PapAt G v es) (l : Le G G') : PapAt G' v es := by
  obtain ⟨d, rfl, e⟩ := h
  exact ⟨d, rfl, l _ _ e⟩
/-- a new list of dicts -/
def spPaper (K : PySem.W.Frag) : Sp := fun vs H Q _ => ∃ (G : Hp) (x a : Addr) (ms : List Mk), vs = [.ref x] ∧ Sb G H ∧ SAt K G H x a ms ∧ Fit ms ∧ ∀ (G' H' : Hp) (p : Addr) (ds : List V), GR K S0 G H G' H' → G' p = some (.lst ds) → Paired (PapAt G') ds (sumsOf ms) → Q (.ref p) H'
abbrev N_Shorts_paper : List Str := ["self", "papers", "row", "sums", "cut", "size", "before"]
theorem sc_Shorts_paper : FnScope N_Shorts_paper ["self"] (defScope S_Shorts_paper) := ⟨rfl, rfl, rfl, by decide +kernel, rfl, by decide +kernel, by decide +kernel⟩
theorem kn_Shorts_paper (T : Tx K mg base) : Km P w K mg base CX0 6 "Shorts" "paper" ["self"] (spPaper K) := by
  refine km_of "Shorts" "paper" T 52 135 99 S_Shorts_paper rfl rfl rfl sc_Shorts_paper (fun vs H Q E h => by obtain ⟨_, _, _, _, rfl, _⟩ := h; rfl) (fun _ _ _ _ _ _ us hl => match us, hl with | [_], _ => rfl) (fun cdv A outer s H vs Q E hr h => ⟨_, PSs.nox (pss_cons (ps_set (i := 1) sc_Shorts_paper.nd rfl (Or.inl rfl) (pe_lst pa_nil))
    (pss_cons (ps_for PassesOwn.never rfl (pi_list (pe_fld (pv 0) rfl)) (pg_name (i := 2) sc_Shorts_paper.nd rfl (Or.inl rfl)) (pss_cons (ps_set (i := 3) sc_Shorts_paper.nd rfl (Or.inl rfl) pe_dnewK)
    (pss_cons (ps_for PassesOwn.never rfl (pi_list (pv 2)) (pg_tup rfl (pgs_cons (pg_name (i := 4) sc_Shorts_paper.nd rfl (Or.inl rfl)) (pgs_cons (pg_name (i := 5) sc_Shorts_paper.nd rfl (Or.inl rfl)) (pgs_cons (pg_name (i := 6) sc_Shorts_paper.nd rfl (Or.inl rfl)) pgs_nil)))) (pss_one (ps_dput (hu2 hr) (pv 3) (pe_callTy (call_strM (kn_Mark_str T) (hr.mono (by decide))) (by rfl) T.f_str (by decide +kernel) (pa_cons (pv 4) pa_nil)) (pv 5) rfl)))
    (pss_one (ps_expr (pe_bm PySem.F.plainAttrs_list PySem.F.slot_list_append PySem.F.type_list_append mt_append (pv 1) (pa_cons (pv 3) pa_nil)))))))
    (pss_one (ps_ret (pv 1))))), ?_⟩)
  obtain ⟨G, x, a, ms, rfl, sb, hs, fit, q⟩ := h
  obtain ⟨dx, sv, r, xs0, h1, ⟨ra, rws, rfl, hra, hrp⟩, h3, h4⟩ := hs.at_
  have hrl := pair_len hrp
  have hfl := fit.len
  have hra0 := (sb _ _ hra).1
  refine ⟨size_of (n := 0) (by decide), fun d hd => ?_⟩
  have g1 := (GR.refl (K := K) (S := S0) sb).newM hd (o := .lst [])
  refine ⟨_, rfl, x, _, dx, _, _, rfl, g1.keep h1 trivial id, T.cS, T.nS_sums, rfl, ra, rfl, ⟨_, SqL.of (g1.keep hra0 trivial id)⟩, ?_⟩
  refine for_list (K := K) (a := ra) (xs := rws) (fun i σ H' => ∃ (G' : Hp) (zs : List V) (e f g h k : Option V), σ = [some (.ref x), some (.ref d), e, f, g, h, k] ∧ GR K S0 G H G' H' ∧ G' d = none ∧ H' d = some (.lst zs) ∧ Paired (PapAt G') zs ((sumsOf ms).take i)) ?_ ?_ ?_ ?_
  · exact ⟨G, [], none, none, none, none, none, rfl, g1, sb.no hd, upd_same, .nil⟩
  · rintro i σ H1 hi ⟨G1, zs, e, f, g', h', k, rfl, g, _⟩
    exact SqL.of (g.keep hra0 trivial id)
  · rintro i y σ H1 hyi ⟨G1, zs, e, f, g', h', k, rfl, g, gd, hzs, hpz⟩
    obtain ⟨es, hes, b, cs, rfl, hb, hbp⟩ := pair_get' hrp hyi
    have hn := pair_len hpz
    have hcl := pair_len hbp
    obtain ⟨m', hm', hrc⟩ := sumsOf_rows es (List.mem_of_getElem? hes)
    have okm' := fit.ok m' hm'
    have hel : es.length ≤ 12016004 := by
      have := cuts_len okm'
      rw [← hrc, List.length_map] at this
      exact this
    have hnew : ∀ (j : Nat) (en : Ent), es[j]? = some en → ∀ z ∈ es.take j, text z.c ≠ text en.c := by
      intro j en hj z hz ht
      have nd : (es.map Ent.c).Nodup := by
        rw [hrc]
        exact rise_nodup (cuts_rise okm')
      obtain ⟨k, hk⟩ := List.getElem?_of_mem hz
      have hkj : k < j := by
        have := (List.getElem?_eq_some_iff.mp hk).1
        rw [List.length_take] at this
        omega
      rw [List.getElem?_take_of_lt hkj] at hk
      have mc : ∀ e ∈ es, Ok e.c := fun e he => cuts_ok okm' (by rw [← hrc]; exact List.mem_map_of_mem he)
      have ec := text_inj (mc z (List.mem_of_getElem? hk)) (mc en (List.mem_of_getElem? hj)) ht
      have h1 : (es.map Ent.c)[k]? = some z.c := by rw [List.getElem?_map, hk]; rfl
      have h2 : (es.map Ent.c)[j]? = some en.c := by rw [List.getElem?_map, hj]; rfl
      have := (List.getElem?_inj (List.getElem?_eq_some_iff.mp h1).1 nd).mp (h1.trans ((congrArg some ec).trans h2.symm))
      omega
    refine fun e0 he0 => ?_
    have k1 := (GR.refl (K := K) (S := S0) g.sb).newM he0 (o := .dK [])
    have hb1 := (k1.sb _ _ (g.gg _ _ hb)).1
    refine ⟨_, rfl, b, rfl, ⟨_, SqL.of hb1⟩, ?_⟩
    refine for_list (K := K) (a := b) (xs := cs) (fun j σ H' => ∃ (G' : Hp) (g h k : Option V), σ = [some (.ref x), some (.ref d), some (.ref b), some (.ref e0), g, h, k] ∧ GR K S0 G1 H1 G' H' ∧ G' e0 = none ∧ H' e0 = some (.dK (pap (es.take j)))) ?_ ?_ ?_ ?_
    · exact ⟨G1, _, _, _, rfl, k1, g.sb.no he0, upd_same⟩
    · rintro j σ H2 hj ⟨G2, g2, h2, k2, rfl, gr, _⟩
      exact SqL.of (gr.sb _ _ (gr.gg _ _ (g.gg _ _ hb))).1
    · rintro j y σ H2 hyj ⟨G2, g2, h2, k2, rfl, gr, ge, hd2⟩
      obtain ⟨en, hen, t, cv, rfl, ht, hmc⟩ := pair_get' hbp hyj
      have ht2 := (gr.sb _ _ (gr.gg _ _ (g.gg _ _ ht))).1
      obtain ⟨ca, dxc, tc, rfl, hca⟩ := (hmc.mono (g.gg.trans gr.gg)).o gr.sb
      have okc : Ok en.c := cuts_ok okm' (by rw [← hrc]; exact List.mem_map_of_mem (List.mem_of_getElem? hen))
      have hput := pap_put (hnew j en hen)
      refine ⟨t, _, rfl, SqT.of ht2, rfl, _, _, rfl, _, _, rfl, _, _, rfl, rfl, ?_⟩
      refine ⟨_, rfl, _, rfl, _, rfl, ca, dxc, _, rfl, hca, ca, dxc, tc, en.c, rfl, hca, okc, ⟨⟨_, rfl⟩, e0, _, rfl, DPut.k (k := .inr (S (text en.c))) hd2 ?_, ?_⟩⟩
      · have : (pap (es.take j)).length ≤ es.length := by
          unfold pap
          rw [List.length_map, List.length_take]
          omega
        rw [sizeLine_eq]
        omega
      rw [hput]
      refine ⟨G2, _, _, _, rfl, gr.wr (.inr he0) ge hd2 trivial, ge, ?_⟩
      rw [List.take_add_one, hen]
      exact upd_same
    · rintro σ H2 ⟨G2, g2, h2, k2, rfl, gr, ge, hd2⟩
      rw [hcl, List.take_of_length_le (Nat.le_refl _)] at hd2
      have k3 := gr.freezeN (.of he0) hd2 trivial
      have hz2 := k3.keep hzs trivial id
      have gd2 := k3.nofrz hzs gd
      refine ⟨_, rfl, .inl ⟨rfl, _, SqL.of hz2⟩, _, rfl, d, zs, _, rfl, rfl, hz2, ?_, ?_⟩
      · rw [hn, sizeLine_eq]
        have h5 : ((sumsOf ms).take i).length ≤ (sumsOf ms).length := List.length_take_le' i _
        rw [sumsOf_len] at h5
        omega
      · refine ⟨_, zs ++ [.ref e0], _, _, _, _, _, rfl, (g.trans k3).wr (.inr hd) gd2 hz2 trivial, gd2, upd_same, ?_⟩
        rw [List.take_add_one, hes]
        exact (pair_imp hpz fun _ _ z => z.mono k3.gg).snoc ⟨e0, rfl, upd_same⟩
  · rintro σ H1 ⟨G1, zs, e, f, g', h', k, rfl, g, gd, hzs, hpz⟩
    rw [hrl, List.take_of_length_le (Nat.le_refl _)] at hpz
    exact ⟨_, rfl, q _ _ d zs (g.freezeN (.of hd) hzs trivial) upd_same (pair_imp hpz fun _ _ z => z.mono (Le.up gd))⟩
end
end K42
set_option Elab.async false
set_option linter.all false
set_option maxRecDepth 100000
set_option maxHeartbeats 4000000
namespace K42
open PySem PySem.Spec PyProof.Rows L2
section
variable {P : Program} {w : World} {K : PySem.W.Frag} {mg : Str → Option Value} {base : Heap}
/-- a script's cell or 0 -/
def spCell (K : PySem.W.Frag) : Sp := fun vs H Q _ => ∃ (a : Addr) (ns : List Int) (k : Nat), vs = [.ref a, .int k] ∧ SqL K H a (ns.map V.int) ∧ ns.length ≤ 1000 ∧ ∀ z : Int, Q (.int z) H
abbrev N__law_cell_at : List Str := ["_law_script", "_law_k"]
theorem sc__law_cell_at : FnScope N__law_cell_at ["_law_script", "_law_k"] (defScope S__law_cell_at) := ⟨rfl, rfl, rfl, by decide +kernel, rfl, by decide +kernel, by decide +kernel⟩
theorem kn__law_cell_at (T : Tx K mg base) : Kn P w K mg base CX0 2 "_law_cell_at" ["_law_script", "_law_k"] (spCell K) := by
  refine kn_of "_law_cell_at" T 53 41 S__law_cell_at rfl rfl sc__law_cell_at (fun vs H Q E h => by obtain ⟨_, _, _, rfl, _⟩ := h; rfl) (fun _ _ _ _ _ _ us hl => match us, hl with | [_, _], _ => rfl) (fun cdv A outer s H vs Q E hr h => ⟨_, PSs.nox (pss_cons (ps_if (pt_cmpR op_lt (pv 1) (pe_callB call_len_seq (by rfl) T.f_len (by decide +kernel) (pa_cons (pv 0) pa_nil)) (nomark _)) (pss_one (ps_ret (pe_ix ix_list (pv 0) (pv 1) (fun _ _ => rfl)))) pss_nil)
    (pss_one (ps_ret pe_int))), ?_⟩)
  obtain ⟨a, ns, k, rfl, h1, hz, q⟩ := h
  refine ⟨_, rfl, _, rfl, a, _, rfl, .inl h1, _, _, rfl, rfl, _, rfl, ifC (fun hl => ?_) fun _ => q 0⟩
  obtain ⟨z, hz⟩ : ∃ z, ns[k]? = some z := ⟨_, List.getElem?_eq_getElem (by simpa using hl)⟩
  exact ⟨_, rfl, _, rfl, _, _, _, .int z, rfl, rfl, h1, atI_nat (by rw [List.getElem?_map, hz]; rfl), q z⟩
def spPool : Sp := fun vs H Q _ => ∃ (z : Int), vs = [.int z] ∧ ∀ (p : Addr) (n : Nat), H p = none → Q (.ref p) (upd H p (.lst [.int n]))
theorem natI {z : Int} (h : 0 ≤ z) : ∃ n : Nat, z = n := ⟨z.toNat, by omega⟩
theorem pM : (0 : Int) < 2147483647 := by decide
theorem pN : (0 : Int) < 2147483629 := by decide
theorem cpow5 {z : Int} (h : z.natAbs < 2 ^ 64) : CPow z 5 := ⟨by decide, by decide, h⟩
abbrev N__law_pool : List Str := ["_law_cell", "_law_number", "_law_k", "_law_mix"]
theorem sc__law_pool : FnScope N__law_pool ["_law_cell"] (defScope S__law_pool) := ⟨rfl, rfl, rfl, by decide +kernel, rfl, by decide +kernel, by decide +kernel⟩
theorem kn__law_pool (T : Tx K mg base) : Kn P w K mg base CX0 2 "_law_pool" ["_law_cell"] spPool := by
  refine kn_of "_law_pool" T 54 42 S__law_pool rfl rfl sc__law_pool (fun vs H Q E h => by obtain ⟨_, rfl, _⟩ := h; rfl) (fun _ _ _ _ _ _ us hl => match us, hl with | [_], _ => rfl) (fun cdv A outer s H vs Q E hr h => ⟨_, PSs.nox (pss_cons (ps_if (pt_cmpR op_ge (pv 0) (pe_op op_pow pe_int pe_int) (nomark _)) (pss_one (ps_ret (pe_lst (pa_cons (pv 0) pa_nil)))) pss_nil)
    (pss_cons (ps_set (i := 1) sc__law_pool.nd rfl (Or.inl rfl) pe_int)
    (pss_cons (ps_for PassesOwn.never rfl (pi_range1 (by rfl) T.f_range (pa_cons pe_int pa_nil)) (pg_name (i := 2) sc__law_pool.nd rfl (Or.inl rfl)) (pss_cons (ps_set (i := 3) sc__law_pool.nd rfl (Or.inl rfl) (pe_op op_mod (pe_op op_pow (pe_op op_add (pe_op op_add (pe_op op_mul (pe_op op_mod (pv 0) pe_int) pe_int) (pe_op op_mul pe_int (pv 2))) pe_int) pe_int) pe_int))
    (pss_one (ps_set (i := 1) sc__law_pool.nd rfl (Or.inl rfl) (pe_op op_add (pe_op op_mul (pv 1) pe_int) (pe_op op_mod (pe_op op_pow (pe_op op_add (pe_op op_mul (pv 3) pe_int) (pv 2)) pe_int) pe_int))))))
    (pss_one (ps_ret (pe_lst (pa_cons (pv 1) pa_nil))))))), ?_⟩)
  obtain ⟨z, rfl, q⟩ := h
  refine ⟨_, rfl, _, _, rfl, rfl, ⟨by decide, by decide, by decide⟩, _, _, rfl, rfl, _, rfl, ifC (fun hz => ?_) fun _ => ?_⟩
  · obtain ⟨n, rfl⟩ := natI (z := z) (Int.le_trans (by decide) hz)
    exact ⟨_, rfl, size_of (n := 1) (by decide), fun p hp => q p n hp⟩
  refine ⟨9, rfl, by decide, by decide, for_range (fun i σ H' => H' = H ∧ ∃ (n : Nat) (u v : Option V), σ = [some (.int z), some (.int n), u, v]) ⟨rfl, 0, none, none, rfl⟩ ?_ ?_⟩
  · rintro i σ H1 hi ⟨rfl, n, u, v, rfl⟩
    have m0 : 0 ≤ z % 2147483647 := Int.emod_nonneg _ (by decide)
    have m1 : z % 2147483647 < 2147483647 := Int.emod_lt_of_pos _ (by decide)
    generalize hm : z % 2147483647 = m at m0 m1
    have b1 : ((m * 69621 + 7919 * (0 + (i : Int)) + 11 : Int)).natAbs < 2 ^ 64 := by omega
    refine ⟨_, rfl, _, _, rfl, rfl, pM, _, _, rfl, rfl, .inr ⟨by decide, by decide⟩, _, rfl, _, _, rfl, rfl, .inl ⟨by decide, by decide⟩, _, _, rfl, rfl, _, _, rfl, rfl, _, _, rfl, rfl, ?_, _, _, rfl, rfl, pM, ?_⟩
    · rw [hm]
      exact cpow5 b1
    rw [hm]
    dsimp only
    generalize hx : (m * 69621 + 7919 * (0 + (i : Int)) + 11) ^ (5 : Int).toNat % 2147483647 = x
    have x0 : 0 ≤ x := by rw [← hx]; exact Int.emod_nonneg _ (by decide)
    have x1 : x < 2147483647 := by rw [← hx]; exact Int.emod_lt_of_pos _ (by decide)
    have b2 : ((x * 48271 + (0 + (i : Int)) : Int)).natAbs < 2 ^ 64 := by omega
    refine ⟨_, rfl, _, _, rfl, rfl, .inr ⟨by decide, by decide⟩, _, rfl, _, _, rfl, rfl, .inr ⟨by decide, by decide⟩, _, rfl, _, _, rfl, rfl, _, _, rfl, rfl, cpow5 b2, _, _, rfl, rfl, pN, _, _, rfl, rfl, ?_⟩
    dsimp only
    generalize hy : (x * 48271 + (0 + (i : Int))) ^ (5 : Int).toNat % 2147483629 = y
    have y0 : 0 ≤ y := by rw [← hy]; exact Int.emod_nonneg _ (by decide)
    obtain ⟨k, hk⟩ := natI (z := (n : Int) * 2147483629 + y) (Int.add_nonneg (Int.mul_nonneg (Int.natCast_nonneg n) (by decide)) y0)
    exact ⟨rfl, k, _, _, by rw [← hk]; rfl⟩
  · rintro σ H1 ⟨rfl, n, u, v, rfl⟩
    exact ⟨_, rfl, size_of (n := 1) (by decide), fun p hp => q p n hp⟩
def spTake : Sp := fun vs H Q _ => ∃ (p : Addr) (n s : Nat), vs = [.ref p, .int s] ∧ H p = some (.lst [.int n]) ∧ 1 ≤ s ∧ s ≤ 100000 ∧ ∀ r n' : Nat, r < s → Q (.int r) (upd H p (.lst [.int n']))
abbrev N__law_take : List Str := ["_law_pool_here", "_law_size", "_law_found"]
theorem sc__law_take : FnScope N__law_take ["_law_pool_here", "_law_size"] (defScope S__law_take) := ⟨rfl, rfl, rfl, by decide +kernel, rfl, by decide +kernel, by decide +kernel⟩
theorem kn__law_take (T : Tx K mg base) : Kn P w K mg base CX0 2 "_law_take" ["_law_pool_here", "_law_size"] spTake := by
  refine kn_of "_law_take" T 55 43 S__law_take rfl rfl sc__law_take (fun vs H Q E h => by obtain ⟨_, _, _, rfl, _⟩ := h; rfl) (fun _ _ _ _ _ _ us hl => match us, hl with | [_, _], _ => rfl) (fun cdv A outer s H vs Q E hr h => ⟨_, PSs.nox (pss_cons (ps_set (i := 2) sc__law_take.nd rfl (Or.inl rfl) (pe_op op_mod (pe_ix ix_list (pv 0) pe_int (fun _ _ => rfl)) (pv 1)))
    (pss_cons (ps_asg (pe_op op_fdiv (pe_ix ix_list (pv 0) pe_int (fun _ _ => rfl)) (pv 1)) (pg_sub (pv 0) pe_int set_list))
    (pss_one (ps_ret (pv 2))))), ?_⟩)
  obtain ⟨p, n, s, rfl, hp, h1, h2, q⟩ := h
  have hs : SqL K H p [.int n] := SqL.of hp
  refine ⟨_, rfl, _, _, _, .int n, rfl, rfl, hs, rfl, _, rfl, _, _, rfl, rfl, by omega, ?_⟩
  refine ⟨_, rfl, _, _, _, .int n, rfl, rfl, hs, rfl, _, rfl, _, _, rfl, rfl, ⟨by omega, by omega⟩, ?_⟩
  exact ⟨_, rfl, p, _, _, 0, rfl, rfl, hp, rfl, _, rfl, q (n % s) (n / s) (Nat.mod_lt _ h1)⟩
/-- the pool at p -/
def PoolAt (G H : Hp) (p : Addr) : Prop := G p = none ∧ ∃ n : Nat, H p = some (.lst [.int n])
theorem PoolAt.wr {G H : Hp} {p : Addr} {n' : Nat} (h : PoolAt G H p) : PoolAt G (upd H p (.lst [.int n'])) p := ⟨h.1, n', upd_same⟩
theorem PoolAt.keep {S : Addr → Prop} {G H G' H' : Hp} {p : Addr} (h : PoolAt G H p) (g : GR K S G H G' H') (n : ¬ S p) : PoolAt G' H' p := by
  obtain ⟨h1, k, h2⟩ := h
  exact ⟨g.nofrz h2 h1, k, g.keep h2 trivial n⟩
/-- one more number is taken -/
theorem PoolAt.take {G H : Hp} {p : Addr} (h : PoolAt G H p) (sb : Sb G H) : ∃ n : Nat, H p = some (.lst [.int n]) ∧ ∀ n' : Nat, GR K (S1 p) G H G (upd H p (.lst [.int n'])) ∧ PoolAt G (upd H p (.lst [.int n'])) p := by
  obtain ⟨gp, n, hp⟩ := h
  exact ⟨n, hp, fun n' => ⟨(GR.refl sb).wr (.inl rfl) gp hp trivial, gp, n', upd_same⟩⟩
/-- signs of a literal -/
theorem lit_at {t : Str} {n : Nat} {p : Nat → Bool} (h : ∀ r : Fin n, (t.cps.toList[r.val]?).any p = true) {r : Nat} (hr : r < n) : ∃ c, atI t.cps.toList (r : Int) = some c ∧ p c = true := by
  have e := h ⟨r, hr⟩
  cases q : t.cps.toList[r]? with
  | none =>
    rw [show t.cps.toList[(⟨r, hr⟩ : Fin n).val]? = none from q] at e
    cases e
  | some c =>
    rw [show t.cps.toList[(⟨r, hr⟩ : Fin n).val]? = some c from q] at e
    exact ⟨c, atI_nat q, e⟩
theorem lit_let {r : Nat} (h : r < 26) : ∃ c, atI ("abcdefghijklmnopqrstuvwxyz" : Str).cps.toList (r : Int) = some c ∧ isLet c = true := lit_at (n := 26) (by decide +kernel) h
theorem lit_abcd {r : Nat} (h : r < 4) : ∃ c, atI ("abcd" : Str).cps.toList (r : Int) = some c ∧ isLet c = true := lit_at (n := 4) (by decide +kernel) h
theorem lit_fig {r : Nat} (h : r < 10) : ∃ c, atI ("0123456789" : Str).cps.toList (r : Int) = some c ∧ isFig c = true := lit_at (n := 10) (by decide +kernel) h
theorem lit_nz {r : Nat} (h : r < 9) : ∃ c, atI ("123456789" : Str).cps.toList (r : Int) = some c ∧ isFig c = true ∧ c ≠ 48 := by
  obtain ⟨c, h1, h2⟩ := lit_at (t := "123456789") (n := 9) (p := fun c => isFig c && c != 48) (by decide +kernel) h
  rw [Bool.and_eq_true, bne_iff_ne] at h2
  exact ⟨c, h1, h2⟩
theorem lit_len {t : Str} (h : t.length ≤ 1000 := by decide +kernel) : t.length ≤ sizeLine := Nat.le_trans h (size_of (by decide))
theorem sV_snoc (l : List Nat) (c : Nat) : V.str (S l ++ ⟨#[c]⟩) = sV (l ++ [c]) := congrArg V.str (S_app l [c])
theorem sV_cons (l : List Nat) (c : Nat) : V.str (⟨#[c]⟩ ++ S l) = sV (c :: l) := congrArg V.str (S_app [c] l)
theorem figs_snoc {l : List Nat} {c : Nat} (h : ∀ x ∈ l, isFig x = true) (hc : isFig c = true) (h0 : c ≠ 48) : figs (l ++ [c]) = true := by
  refine figs_of (by simp) (fun x hx => ?_) ?_
  · rcases List.mem_append.mp hx with z | z
    · exact h x z
    · rw [List.mem_singleton.mp z]; exact hc
  · rw [List.getLast?_append]
    simp [h0]
def spFigsL (K : PySem.W.Frag) : Sp := fun vs H Q _ => ∃ (G : Hp) (p : Addr) (s : Nat), vs = [.ref p, .int s] ∧ Sb G H ∧ PoolAt G H p ∧ 1 ≤ s ∧ s ≤ 100 ∧ ∀ (f : List Nat) (H' : Hp), figs f = true → f.length ≤ s → GR K (S1 p) G H G H' → PoolAt G H' p → Q (sV f) H'
abbrev N__law_figures : List Str := ["_law_pool_here", "_law_most", "_law_signs", "_law_k"]
theorem sc__law_figures : FnScope N__law_figures ["_law_pool_here", "_law_most"] (defScope S__law_figures) := ⟨rfl, rfl, rfl, by decide +kernel, rfl, by decide +kernel, by decide +kernel⟩
theorem kn__law_figures (T : Tx K mg base) : Kn P w K mg base CX0 3 "_law_figures" ["_law_pool_here", "_law_most"] (spFigsL K) := by
  refine kn_of "_law_figures" T 56 44 S__law_figures rfl rfl sc__law_figures (fun vs H Q E h => by obtain ⟨_, _, _, rfl, _⟩ := h; rfl) (fun _ _ _ _ _ _ us hl => match us, hl with | [_, _], _ => rfl) (fun cdv A outer s H vs Q E hr h => ⟨_, PSs.nox (pss_cons (ps_set (i := 2) sc__law_figures.nd rfl (Or.inl rfl) pe_str)
    (pss_cons (ps_for PassesOwn.never rfl (pi_range1 (by rfl) T.f_range (pa_cons (pe_fn (kn__law_take T) (hr.mono (by decide)) (pa_cons (pv 0) (pa_cons (pv 1) pa_nil))) pa_nil)) (pg_name (i := 3) sc__law_figures.nd rfl (Or.inl rfl)) (pss_one (ps_set (i := 2) sc__law_figures.nd rfl (Or.inl rfl) (pe_op op_add_str (pv 2) (pe_ix ix_str pe_str (pe_fn (kn__law_take T) (hr.mono (by decide)) (pa_cons (pv 0) (pa_cons pe_int pa_nil))) (fun _ _ => rfl))))))
    (pss_one (ps_ret (pe_op op_add_str (pv 2) (pe_ix ix_str pe_str (pe_fn (kn__law_take T) (hr.mono (by decide)) (pa_cons (pv 0) (pa_cons pe_int pa_nil))) (fun _ _ => rfl))))))), ?_⟩)
  obtain ⟨G, p, s, rfl, sb, hp, h1, h2, q⟩ := h
  refine ⟨_, rfl, _, rfl, ?_⟩
  obtain ⟨n0, e0, k0⟩ := hp.take (K := K) sb
  refine ⟨p, n0, s, rfl, e0, h1, by omega, fun r n1 hr1 => ?_⟩
  obtain ⟨g1, hp1⟩ := k0 n1
  refine ⟨r, rfl, by omega, by omega, ?_⟩
  refine for_range (fun i σ H' => ∃ (l : List Nat) (u : Option V), σ = [some (.ref p), some (.int s), some (sV l), u] ∧ l.length ≤ i ∧ (∀ x ∈ l, isFig x = true) ∧ GR K (S1 p) G H G H' ∧ PoolAt G H' p) ⟨[], none, by rw [strE]; rfl, Nat.le_refl _, (fun x h => nomatch h), g1, hp1⟩ ?_ ?_
  · rintro i σ H2 hi ⟨l, u, rfl, hl, hf, g2, hp2⟩
    obtain ⟨n2, e2, k2⟩ := hp2.take (K := K) g2.sb
    refine ⟨_, rfl, _, rfl, p, n2, _, rfl, e2, by decide, by decide, fun r2 n3 hr2 => ?_⟩
    obtain ⟨g3, hp3⟩ := k2 n3
    obtain ⟨c, hc, hcf⟩ := lit_fig hr2
    refine ⟨_, _, c, rfl, rfl, lit_len, hc, _, _, rfl, rfl, ?_, l ++ [c], _, by rw [← sV_snoc]; rfl, by simp; omega, fun x hx => ?_, g2.trans g3, hp3⟩
    · rw [S_len]
      show l.length + 1 ≤ _
      exact size_of (by omega)
    · rcases List.mem_append.mp hx with z | z
      · exact hf x z
      · rw [List.mem_singleton.mp z]; exact hcf
  · rintro σ H2 ⟨l, u, rfl, hl, hf, g2, hp2⟩
    obtain ⟨n2, e2, k2⟩ := hp2.take (K := K) g2.sb
    refine ⟨_, rfl, _, rfl, p, n2, _, rfl, e2, by decide, by decide, fun r2 n3 hr2 => ?_⟩
    obtain ⟨g3, hp3⟩ := k2 n3
    obtain ⟨c, hc, hcf, hc0⟩ := lit_nz hr2
    refine ⟨_, _, c, rfl, rfl, lit_len, hc, _, _, rfl, rfl, ?_, ?_⟩
    · rw [S_len]
      show l.length + 1 ≤ _
      exact size_of (by omega)
    · refine qV (sV_snoc l c) (q (l ++ [c]) _ (figs_snoc hf hcf hc0) ?_ (g2.trans g3) hp3)
      rw [List.length_append, List.length_singleton]
      omega
def spMkrL (K : PySem.W.Frag) : Sp := fun vs H Q _ => ∃ (G : Hp) (p : Addr) (s : Nat), vs = [.ref p, .int s] ∧ Sb G H ∧ PoolAt G H p ∧ 1 ≤ s ∧ s ≤ 100 ∧ ∀ (f : List Nat) (H' : Hp), mkr f = true → f.length ≤ s + 1 → GR K (S1 p) G H G H' → PoolAt G H' p → Q (sV f) H'
abbrev N__law_maker : List Str := ["_law_pool_here", "_law_most", "_law_letter"]
theorem sc__law_maker : FnScope N__law_maker ["_law_pool_here", "_law_most"] (defScope S__law_maker) := ⟨rfl, rfl, rfl, by decide +kernel, rfl, by decide +kernel, by decide +kernel⟩
theorem kn__law_maker (T : Tx K mg base) : Kn P w K mg base CX0 4 "_law_maker" ["_law_pool_here", "_law_most"] (spMkrL K) := by
  refine kn_of "_law_maker" T 57 45 S__law_maker rfl rfl sc__law_maker (fun vs H Q E h => by obtain ⟨_, _, _, rfl, _⟩ := h; rfl) (fun _ _ _ _ _ _ us hl => match us, hl with | [_, _], _ => rfl) (fun cdv A outer s H vs Q E hr h => ⟨_, PSs.nox (pss_cons (ps_set (i := 2) sc__law_maker.nd rfl (Or.inl rfl) (pe_ix ix_str pe_str (pe_fn (kn__law_take T) (hr.mono (by decide)) (pa_cons (pv 0) (pa_cons pe_int pa_nil))) (fun _ _ => rfl)))
    (Evl.pss_cut (ps_if (pt_cmpR op_eq (pe_fn (kn__law_take T) (hr.mono (by decide)) (pa_cons (pv 0) (pa_cons pe_int pa_nil))) pe_int (nomark _)) (pss_one (ps_set (i := 2) sc__law_maker.nd rfl (Or.inl rfl) (pe_ix ix_str pe_str (pe_fn (kn__law_take T) (hr.mono (by decide)) (pa_cons (pv 0) (pa_cons pe_int pa_nil))) (fun _ _ => rfl)))) pss_nil)
    (pss_one (ps_ret (pe_op op_add_str (pv 2) (pe_fn (kn__law_figures T) (hr.mono (by decide)) (pa_cons (pv 0) (pa_cons (pv 1) pa_nil)))))))), ?_⟩)
  obtain ⟨G, p, s, rfl, sb, hp, h1, h2, q⟩ := h
  obtain ⟨n0, e0, k0⟩ := hp.take (K := K) sb
  refine ⟨_, rfl, p, n0, _, rfl, e0, by decide, by decide, fun r n1 hr1 => ?_⟩
  obtain ⟨g1, hp1⟩ := k0 n1
  obtain ⟨c, hc, hcl⟩ := lit_let hr1
  refine ⟨_, _, c, rfl, rfl, lit_len, hc, fun σ H' => ∃ c, isLet c = true ∧ σ = [some (.ref p), some (.int s), some (sV [c])] ∧ GR K (S1 p) G H G H' ∧ PoolAt G H' p, ?_, ?_⟩
  · obtain ⟨n2, e2, k2⟩ := hp1.take (K := K) g1.sb
    refine ⟨_, rfl, p, n2, _, rfl, e2, by decide, by decide, fun r2 n3 hr2 => ⟨rfl, _, rfl, ifC (fun _ => ?_) fun _ => ?_⟩⟩
    · obtain ⟨g3, hp3⟩ := k2 n3
      obtain ⟨n4, e4, k4⟩ := hp3.take (K := K) g3.sb
      refine ⟨_, rfl, p, n4, _, rfl, e4, by decide, by decide, fun r4 n5 hr4 => ?_⟩
      obtain ⟨g5, hp5⟩ := k4 n5
      obtain ⟨c4, hc4, hl4⟩ := lit_abcd hr4
      exact ⟨_, _, c4, rfl, rfl, lit_len, hc4, c4, hl4, rfl, (g1.trans g3).trans g5, hp5⟩
    · obtain ⟨g3, hp3⟩ := k2 n3
      exact ⟨c, hcl, rfl, g1.trans g3, hp3⟩
  · rintro σ H2 ⟨c, hcl, rfl, g2, hp2⟩
    refine ⟨_, rfl, _, rfl, _, rfl, G, p, s, rfl, g2.sb, hp2, h1, h2, fun f H3 hf hfl g3 hp3 => ⟨_, _, rfl, rfl, ?_, ?_⟩⟩
    · rw [S_len, S_len]
      exact size_of (by simp; omega)
    · refine qV (congrArg V.str (S_app [c] f)) (q (c :: f) H3 ?_ (by simp; omega) (g2.trans g3) hp3)
      show (isLet c && figs f) = true
      rw [hcl, hf]; rfl
end
end K42
set_option Elab.async false
set_option linter.all false
set_option maxRecDepth 100000
set_option maxHeartbeats 4000000
namespace K42
open PySem PySem.Spec PyProof.Rows L2
section
variable {P : Program} {w : World} {K : PySem.W.Frag} {mg : Str → Option Value} {base : Heap}
/-- a mark's parts as a list -/
abbrev pV (m : Mk) (h : Addr) : List V := [sV m.l, .int m.n, sV m.p, .ref h, oV m.y, oV m.c]
def PtIn (H : Hp) (v : V) (m : Mk) : Prop := ∃ a h, v = .ref a ∧ H a = some (.lst (pV m h)) ∧ H h = some (.lst (msV m.ms))
theorem PtIn.mono {G G' : Hp} {v : V} {m : Mk} (h : PtIn G v m) (l : Le G G') : PtIn G' v m := by
  obtain ⟨a, b, rfl, h1, h2⟩ := h
  exact ⟨a, b, rfl, l _ _ h1, l _ _ h2⟩
theorem PtIn.keep {G H G' H' : Hp} {v : V} {m : Mk} (h : PtIn H v m) (g : GR K S0 G H G' H') : PtIn H' v m := by
  obtain ⟨a, b, rfl, h1, h2⟩ := h
  exact ⟨a, b, rfl, g.keep h1 trivial id, g.keep h2 trivial id⟩
theorem pe_mark4 {X : Cx} {p pos kp1 kp2 kp3 kp4 : Pos} {e : Expr} {es : List Expr} {e1 e2 e3 e4 : Expr} {t : TA} {t1 t2 t3 t4 : TE} (T : Tx X.K X.mg X.base) (hr : Room 6 X.A) (ha : PA X (e :: es) t) (h1 : PE X e1 t1) (h2 : PE X e2 t2) (h3 : PE X e3 t3) (h4 : PE X e4 t4) (hg : Gl X "Mark" := by rfl)
    (he : starEach (e :: es) X.env = (false, eval e X.env) :: starEach es X.env := by rfl) (hpl : ((backTo pos (starEach (e :: es) X.env)).any (·.1) || (backToKw pos (keywordEach [⟨some "points", e1, kp1⟩, ⟨some "makers", e2, kp2⟩, ⟨some "year", e3, kp3⟩, ⟨some "copy", e4, kp4⟩] X.env)).any (·.1.isNone)) = false := by rfl) :
    PE X (.Call (.Name "Mark" p) (e :: es) [⟨some "points", e1, kp1⟩, ⟨some "makers", e2, kp2⟩, ⟨some "year", e3, kp3⟩, ⟨some "copy", e4, kp4⟩] pos) (tMakeN (He.ga X.K "Mark") 2 4 (spInit X.K) (fun vs zs => vs ++ zs) E0 t (tCons t1 (tCons t2 (tCons t3 (tCons t4 tNil))))) := by
  obtain ⟨fd, F, FF⟩ := kn_Mark_init (P := X.prog) (w := X.w) T
  obtain ⟨its, kb⟩ := F.kbindsD (ps := ["self", "letters", "number", "points", "makers", "year", "copy"]) 3 ["points", "makers", "year", "copy"] (fun us _ zs => us ++ zs) (by simp) (fun r _ r2 => r.append r2)
    (fun T kV doc pm an cdv ct us its ws hu hi hw => match us, hu, its, hi, ws, hw with | [_, _, _], _, [_, _, _, _], _, [_, _, _, _], _ => ⟨_, rfl, rfl⟩)
  exact pe_makeN (n := 2) T.m_Mark FF hr hg T.g_Mark kb pass0 ha (pk_cons h1 (pk_cons h2 (pk_cons h3 (pk_cons h4 pk_nil)))) (he := he) (hpl := hpl)
def spMarkL (K : PySem.W.Frag) : Sp := fun vs H Q _ => ∃ (G : Hp) (v : V) (m : Mk), vs = [v] ∧ Sb G H ∧ PtIn H v m ∧ Ok m ∧ ∀ (G' H' : Hp) (u : V), GR K S0 G H G' H' → MarkAt K G' u m → Q u H'
abbrev N__law_mark : List Str := ["_law_parts"]
theorem sc__law_mark : FnScope N__law_mark ["_law_parts"] (defScope S__law_mark) := ⟨rfl, rfl, rfl, by decide +kernel, rfl, by decide +kernel, by decide +kernel⟩
theorem kn__law_mark (T : Tx K mg base) : Kn P w K mg base CX0 7 "_law_mark" ["_law_parts"] (spMarkL K) := by
  refine kn_of "_law_mark" T 58 46 S__law_mark rfl rfl sc__law_mark (fun vs H Q E h => by obtain ⟨_, _, _, rfl, _⟩ := h; rfl) (fun _ _ _ _ _ _ us hl => match us, hl with | [_], _ => rfl) (fun cdv A outer s H vs Q E hr h => ⟨_, PSs.nox (pss_one (ps_ret (pe_mark4 T (hr.mono (by decide)) (pa_cons (pe_ix ix_list (pv 0) pe_int (fun _ _ => rfl)) (pa_cons (pe_ix ix_list (pv 0) pe_int (fun _ _ => rfl)) pa_nil)) (pe_ix ix_list (pv 0) pe_int (fun _ _ => rfl)) (pe_callTy call_list_of (by rfl) T.f_list (by decide +kernel) (pa_cons (pe_ix ix_list (pv 0) pe_int (fun _ _ => rfl)) pa_nil)) (pe_ix ix_list (pv 0) pe_int (fun _ _ => rfl)) (pe_ix ix_list (pv 0) pe_int (fun _ _ => rfl))))), ?_⟩)
  obtain ⟨G, v, m, rfl, sb, ⟨a, hl, rfl, ha, hh⟩, ok, q⟩ := h
  have hs := SqL.of (K := K) ha
  refine ⟨_, rfl, _, _, _, _, rfl, rfl, hs, rfl, _, rfl, _, _, _, _, rfl, rfl, hs, rfl, _, rfl, _, _, _, _, rfl, rfl, hs, rfl, _, rfl, _, _, _, _, rfl, rfl, hs, rfl, hl, _, rfl, .inl (SqL.of hh), fun l hl0 => ?_⟩
  have g1 := (GR.refl (K := K) (S := S0) sb).newM hl0 (o := .lst (msV m.ms))
  have hs1 := SqL.of (K := K) (g1.keep ha trivial id)
  refine ⟨_, rfl, _, _, _, _, rfl, rfl, hs1, rfl, _, rfl, _, _, _, _, rfl, rfl, hs1, rfl, rfl, rfl, ?_⟩
  exact make_read (K := K) g1.sb ok (.inl upd_same) fun G' H' u g2 hu => q G' H' u (g1.trans g2) hu
def spKeyL : Sp := fun vs H Q _ => ∃ (v : V) (m : Mk), vs = [v] ∧ PtIn H v m ∧ ∀ t p, H t = none → upd H t (.tup (msV m.ms)) p = none → Q (.ref p) (upd (upd H t (.tup (msV m.ms))) p (.tup [sV m.l, .int m.n, sV m.p, .ref t, .int (oi m.y), .int (oi m.c)]))
abbrev N__law_key : List Str := ["_law_parts", "_law_age", "_law_twin"]
theorem sc__law_key : FnScope N__law_key ["_law_parts"] (defScope S__law_key) := ⟨rfl, rfl, rfl, by decide +kernel, rfl, by decide +kernel, by decide +kernel⟩
theorem kn__law_key (T : Tx K mg base) : Kn P w K mg base CX0 2 "_law_key" ["_law_parts"] spKeyL := by
  refine kn_of "_law_key" T 59 47 S__law_key rfl rfl sc__law_key (fun vs H Q E h => by obtain ⟨_, _, rfl, _⟩ := h; rfl) (fun _ _ _ _ _ _ us hl => match us, hl with | [_], _ => rfl) (fun cdv A outer s H vs Q E hr h => ⟨_, PSs.nox (pss_cons (ps_set (i := 1) sc__law_key.nd rfl (Or.inl rfl) (pe_ifExp (pt_cmpR op_isN (pe_ix ix_list (pv 0) pe_int (fun _ _ => rfl)) pe_non (nomark _)) pe_int (pe_ix ix_list (pv 0) pe_int (fun _ _ => rfl))))
    (pss_cons (ps_set (i := 2) sc__law_key.nd rfl (Or.inl rfl) (pe_ifExp (pt_cmpR op_isN (pe_ix ix_list (pv 0) pe_int (fun _ _ => rfl)) pe_non (nomark _)) pe_int (pe_ix ix_list (pv 0) pe_int (fun _ _ => rfl))))
    (pss_one (ps_ret (pe_tup (pa_cons (pe_ix ix_list (pv 0) pe_int (fun _ _ => rfl)) (pa_cons (pe_ix ix_list (pv 0) pe_int (fun _ _ => rfl)) (pa_cons (pe_ix ix_list (pv 0) pe_int (fun _ _ => rfl)) (pa_cons (pe_callTy call_tuple_of (by rfl) T.f_tuple (by decide +kernel) (pa_cons (pe_ix ix_list (pv 0) pe_int (fun _ _ => rfl)) pa_nil)) (pa_cons (pv 1) (pa_cons (pv 2) pa_nil))))))))))), ?_⟩)
  obtain ⟨v, m, rfl, ⟨a, hl, rfl, ha, hh⟩, q⟩ := h
  have hs := SqL.of (K := K) ha
  have rd : ∀ {i : Nat} {x : V}, (pV m hl)[i]? = some x → atI (pV m hl) (i : Int) = some x := fun h => atI_nat h
  refine ⟨_, rfl, _, _, _, _, rfl, rfl, hs, rd (i := 4) rfl, rfl, _, rfl, ?_⟩
  obtain ⟨l, n, p, ms, y, c⟩ := m
  cases y <;> cases c
  · exact ⟨_, rfl, _, _, _, _, rfl, rfl, hs, rd (i := 5) rfl, rfl, _, rfl, _, rfl, _, _, _, _, rfl, rfl, hs, rd (i := 0) rfl, _, rfl, _, _, _, _, rfl, rfl, hs, rd (i := 1) rfl, _, rfl, _, _, _, _, rfl, rfl, hs, rd (i := 2) rfl, _, rfl, _, _, _, _, rfl, rfl, hs, rd (i := 3) rfl, hl, _, rfl, .inl ⟨SqL.of hh, fun t ht => ⟨_, rfl, _, rfl, size_of (n := 6) (by decide), fun p hp => q t p ht hp⟩⟩⟩
  · exact ⟨_, rfl, _, _, _, _, rfl, rfl, hs, rd (i := 5) rfl, rfl, _, rfl, _, rfl, _, _, _, _, rfl, rfl, hs, rd (i := 5) rfl, _, rfl, _, _, _, _, rfl, rfl, hs, rd (i := 0) rfl, _, rfl, _, _, _, _, rfl, rfl, hs, rd (i := 1) rfl, _, rfl, _, _, _, _, rfl, rfl, hs, rd (i := 2) rfl, _, rfl, _, _, _, _, rfl, rfl, hs, rd (i := 3) rfl, hl, _, rfl, .inl ⟨SqL.of hh, fun t ht => ⟨_, rfl, _, rfl, size_of (n := 6) (by decide), fun p hp => q t p ht hp⟩⟩⟩
  · exact ⟨_, rfl, _, _, _, _, rfl, rfl, hs, rd (i := 4) rfl, _, rfl, _, _, _, _, rfl, rfl, hs, rd (i := 5) rfl, rfl, _, rfl, _, rfl, _, _, _, _, rfl, rfl, hs, rd (i := 0) rfl, _, rfl, _, _, _, _, rfl, rfl, hs, rd (i := 1) rfl, _, rfl, _, _, _, _, rfl, rfl, hs, rd (i := 2) rfl, _, rfl, _, _, _, _, rfl, rfl, hs, rd (i := 3) rfl, hl, _, rfl, .inl ⟨SqL.of hh, fun t ht => ⟨_, rfl, _, rfl, size_of (n := 6) (by decide), fun p hp => q t p ht hp⟩⟩⟩
  · exact ⟨_, rfl, _, _, _, _, rfl, rfl, hs, rd (i := 4) rfl, _, rfl, _, _, _, _, rfl, rfl, hs, rd (i := 5) rfl, rfl, _, rfl, _, rfl, _, _, _, _, rfl, rfl, hs, rd (i := 5) rfl, _, rfl, _, _, _, _, rfl, rfl, hs, rd (i := 0) rfl, _, rfl, _, _, _, _, rfl, rfl, hs, rd (i := 1) rfl, _, rfl, _, _, _, _, rfl, rfl, hs, rd (i := 2) rfl, _, rfl, _, _, _, _, rfl, rfl, hs, rd (i := 3) rfl, hl, _, rfl, .inl ⟨SqL.of hh, fun t ht => ⟨_, rfl, _, rfl, size_of (n := 6) (by decide), fun p hp => q t p ht hp⟩⟩⟩
theorem cat_ok {a b t : List Nat} (r : List Nat) (h : a ++ b ++ r = t) (hz : t.length ≤ 16000000) : (S a).length + (S b).length ≤ sizeLine := by
  rw [S_len, S_len, ← List.length_append]
  refine size_of (Nat.le_trans ?_ hz)
  rw [← h, List.length_append (as := a ++ b)]
  exact Nat.le_add_right _ _
theorem drop_at {α : Type} {l : List α} {i : Nat} {k : α} (h : l[i]? = some k) : l.drop i = k :: l.drop (i + 1) := by
  obtain ⟨h1, h2⟩ := List.getElem?_eq_some_iff.mp h
  rw [List.drop_eq_getElem_cons h1, h2]
theorem dotS : ("." : Str) = S [46] := by decide +kernel
theorem blkS : (" " : Str) = S [32] := by decide +kernel
theorem copS : (" c." : Str) = S [32, 99, 46] := by decide +kernel
def spTextL : Sp := fun vs H Q _ => ∃ (v : V) (m : Mk), vs = [v] ∧ PtIn H v m ∧ Ok m ∧ Q (sV (text m)) H
abbrev N__law_text : List Str := ["_law_parts", "_law_signs", "_law_maker_here"]
theorem sc__law_text : FnScope N__law_text ["_law_parts"] (defScope S__law_text) := ⟨rfl, rfl, rfl, by decide +kernel, rfl, by decide +kernel, by decide +kernel⟩
theorem kn__law_text (T : Tx K mg base) : Kn P w K mg base CX0 2 "_law_text" ["_law_parts"] spTextL := by
  refine kn_of "_law_text" T 60 48 S__law_text rfl rfl sc__law_text (fun vs H Q E h => by obtain ⟨_, _, rfl, _⟩ := h; rfl) (fun _ _ _ _ _ _ us hl => match us, hl with | [_], _ => rfl) (fun cdv A outer s H vs Q E hr h => ⟨_, PSs.nox (pss_cons (ps_set (i := 1) sc__law_text.nd rfl (Or.inl rfl) (pe_op op_add_str (pe_ix ix_list (pv 0) pe_int (fun _ _ => rfl)) (pe_callTy call_str_int (by rfl) T.f_str (by decide +kernel) (pa_cons (pe_ix ix_list (pv 0) pe_int (fun _ _ => rfl)) pa_nil))))
    (Evl.pss_cut (ps_if (pt_cmpR op_ne (pe_ix ix_list (pv 0) pe_int (fun _ _ => rfl)) pe_str (nomark _)) (pss_one (ps_set (i := 1) sc__law_text.nd rfl (Or.inl rfl) (pe_op op_add_str (pe_op op_add_str (pv 1) pe_str) (pe_ix ix_list (pv 0) pe_int (fun _ _ => rfl))))) pss_nil)
    (pss_cons (ps_for PassesOwn.never rfl (pi_list (pe_ix ix_list (pv 0) pe_int (fun _ _ => rfl))) (pg_name (i := 2) sc__law_text.nd rfl (Or.inl rfl)) (pss_one (ps_set (i := 1) sc__law_text.nd rfl (Or.inl rfl) (pe_op op_add_str (pe_op op_add_str (pv 1) pe_str) (pv 2)))))
    (Evl.pss_cut (ps_if (pt_cmpR op_notN (pe_ix ix_list (pv 0) pe_int (fun _ _ => rfl)) pe_non (nomark _)) (pss_one (ps_set (i := 1) sc__law_text.nd rfl (Or.inl rfl) (pe_op op_add_str (pe_op op_add_str (pv 1) pe_str) (pe_callTy call_str_int (by rfl) T.f_str (by decide +kernel) (pa_cons (pe_ix ix_list (pv 0) pe_int (fun _ _ => rfl)) pa_nil))))) pss_nil)
    (Evl.pss_cut (ps_if (pt_cmpR op_notN (pe_ix ix_list (pv 0) pe_int (fun _ _ => rfl)) pe_non (nomark _)) (pss_one (ps_set (i := 1) sc__law_text.nd rfl (Or.inl rfl) (pe_op op_add_str (pe_op op_add_str (pv 1) pe_str) (pe_callTy call_str_int (by rfl) T.f_str (by decide +kernel) (pa_cons (pe_ix ix_list (pv 0) pe_int (fun _ _ => rfl)) pa_nil))))) pss_nil)
    (pss_one (ps_ret (pv 1)))))))), ?_⟩)
  obtain ⟨v, m, rfl, ⟨a, hl, rfl, ha, hh⟩, ok, q⟩ := h
  have hs := SqL.of (K := K) ha
  have rd : ∀ {i : Nat} {x : V}, (pV m hl)[i]? = some x → atI (pV m hl) (i : Int) = some x := fun h => atI_nat h
  have tz : (text m).length ≤ 16000000 := Nat.le_trans (text_short m ok) (by decide)
  have hw : headW m ++ glue (wordsOf m) = text m := by unfold headW text; simp only [List.append_assoc]
  have n9 := ok.n9
  refine ⟨_, rfl, _, _, _, _, rfl, rfl, hs, rd (i := 0) rfl, _, rfl, _, _, _, _, rfl, rfl, hs, rd (i := 1) rfl, _, rfl, log_small (by omega), _, _, rfl, rfl, ?_, ?_⟩
  · rw [str_num]
    exact cat_ok (pts m.p ++ glue (wordsOf m)) (by unfold text; simp only [List.append_assoc]) tz
  refine ⟨fun σ H' => H' = H ∧ ∃ u, σ = [some (.ref a), some (sV (headW m)), u], ?_, ?_⟩
  · refine ⟨_, rfl, _, _, _, _, rfl, rfl, hs, rd (i := 2) rfl, rfl, _, rfl, ?_⟩
    by_cases pe : m.p = []
    · refine ifN (fun z => (z (by rw [pe, strE]; rfl)).elim) fun _ => ⟨rfl, none, ?_⟩
      rw [str_num]
      have e : headW m = m.l ++ TL.numL m.n := by simp [headW, pts, pe]
      rw [e, show sV (m.l ++ TL.numL m.n) = V.str (S m.l ++ S (TL.numL m.n)) by rw [S_app]; rfl]
      rfl
    · refine ifN (fun _ => ?_) fun z => (ne_empty pe z).elim
      have ep : pts m.p = 46 :: m.p := by simp [pts, pe]
      rw [str_num]
      refine ⟨_, rfl, _, _, rfl, rfl, ?_, _, rfl, _, _, _, _, rfl, rfl, hs, rd (i := 2) rfl, _, _, rfl, rfl, ?_, rfl, none, ?_⟩
      · rw [S_app, dotS]
        exact cat_ok (m.p ++ glue (wordsOf m)) (by unfold text; rw [ep]; simp only [List.append_assoc, List.cons_append, List.nil_append]) tz
      · rw [S_app, dotS, S_app]
        exact cat_ok (glue (wordsOf m)) (by unfold text; rw [ep]; simp only [List.append_assoc, List.cons_append, List.nil_append]) tz
      · have e : headW m = m.l ++ TL.numL m.n ++ [46] ++ m.p := by unfold headW; rw [ep]; simp only [List.append_assoc, List.cons_append, List.nil_append]
        rw [e, show sV (m.l ++ TL.numL m.n ++ [46] ++ m.p) = V.str (S m.l ++ S (TL.numL m.n) ++ "." ++ S m.p) by rw [dotS, S_app, S_app, S_app]; rfl]
        rfl
  rintro σ H1 ⟨rfl, u, rfl⟩
  refine ⟨_, rfl, _, _, _, _, rfl, rfl, hs, rd (i := 3) rfl, hl, rfl, ⟨_, SqL.of hh⟩, ?_⟩
  refine for_list (K := K) (a := hl) (xs := msV m.ms) (fun i σ H' => H' = H1 ∧ ∃ u, σ = [some (.ref a), some (sV (headW m ++ glue (m.ms.take i))), u]) ⟨rfl, u, by rw [List.take_zero, glue_nil, List.append_nil]⟩ ?_ ?_ ?_
  · rintro i σ H2 _ ⟨rfl, _⟩
    exact SqL.of hh
  · rintro i x σ H2 hx ⟨rfl, u, rfl⟩
    rw [show (msV m.ms)[i]? = (m.ms[i]?).map sV by simp [msV]] at hx
    obtain ⟨k, hk, rfl⟩ := Option.map_eq_some_iff.mp hx
    have ew : wordsOf m = m.ms.take i ++ (k :: (m.ms.drop (i + 1) ++ wordsY m.y ++ wordsC m.c)) := by
      unfold wordsOf
      have e1 : m.ms = m.ms.take i ++ k :: m.ms.drop (i + 1) := by
        rw [← drop_at hk, List.take_append_drop]
      conv => lhs; rw [e1]
      simp only [List.append_assoc, List.cons_append]
    have et : headW m ++ glue (m.ms.take i) ++ [32] ++ k ++ glue (m.ms.drop (i + 1) ++ wordsY m.y ++ wordsC m.c) = text m := by
      rw [← hw, ew]
      simp only [glue_app, glue_cons, List.append_assoc, List.cons_append, List.nil_append]
    refine ⟨_, rfl, _, _, rfl, rfl, ?_, _, rfl, _, _, rfl, rfl, ?_, rfl, some (sV k), ?_⟩
    · rw [blkS]
      exact cat_ok (k ++ glue (m.ms.drop (i + 1) ++ wordsY m.y ++ wordsC m.c)) (by rw [← et]; simp only [List.append_assoc]) tz
    · rw [blkS, S_app]
      exact cat_ok _ et tz
    · rw [List.take_add_one, hk, blkS, S_app, S_app]
      show _ = [some (V.ref a), some (sV (headW m ++ glue (m.ms.take i ++ [k]))), some (sV k)]
      rw [glue_app, glue_cons, glue_nil]
      simp only [List.append_assoc, List.cons_append, List.nil_append, List.append_nil]
      rfl
  rintro σ H2 ⟨rfl, u, rfl⟩
  rw [show (msV m.ms).length = m.ms.length by simp [msV], List.take_of_length_le (Nat.le_refl _)]
  have d4 : ∀ n : Nat, n ≤ 99999 → ((n : Nat) : Int).natAbs.log2 < 1920 := fun n h => log_small h
  refine ⟨fun σ H' => H' = H2 ∧ ∃ u, σ = [some (.ref a), some (sV (headW m ++ glue (m.ms ++ wordsY m.y))), u], ?_, ?_⟩
  · refine ⟨_, rfl, _, _, _, _, rfl, rfl, hs, rd (i := 4) rfl, rfl, _, rfl, ?_⟩
    cases ey : m.y with
    | none => exact ⟨rfl, u, by simp [wordsY]⟩
    | some y =>
      have y9 := (ok.yr y ey).2
      have et : headW m ++ glue m.ms ++ [32] ++ TL.numL y ++ glue (wordsC m.c) = text m := by
        rw [← hw]
        unfold wordsOf
        rw [ey, glue_app, glue_app, show wordsY (some y) = [TL.numL y] from rfl, glue_cons, glue_nil]
        simp only [List.append_assoc, List.cons_append, List.nil_append, List.append_nil]
      refine ⟨_, rfl, _, _, rfl, rfl, ?_, _, rfl, _, _, _, _, rfl, rfl, hs, rd (i := 4) (x := .int y) (by show some (oV m.y) = _; rw [ey]; rfl), _, rfl, d4 y (by omega), _, _, rfl, rfl, ?_, rfl, u, ?_⟩
      · rw [blkS]
        exact cat_ok (TL.numL y ++ glue (wordsC m.c)) (by rw [← et]; simp only [List.append_assoc]) tz
      · rw [blkS, S_app, str_num]
        exact cat_ok _ et tz
      · rw [blkS, S_app, str_num, S_app, show wordsY (some y) = [TL.numL y] from rfl, glue_app, glue_cons, glue_nil]
        simp only [List.append_assoc, List.cons_append, List.nil_append, List.append_nil]
        rfl
  rintro σ H3 ⟨rfl, u, rfl⟩
  refine ⟨fun σ H' => H' = H3 ∧ ∃ u, σ = [some (.ref a), some (sV (text m)), u], ?_, ?_⟩
  · refine ⟨_, rfl, _, _, _, _, rfl, rfl, hs, rd (i := 5) rfl, rfl, _, rfl, ?_⟩
    cases ec : m.c with
    | none =>
      refine ⟨rfl, u, ?_⟩
      rw [← hw]
      simp [wordsOf, wordsC, ec]
    | some c =>
      have c9 := (ok.cp c ec).2
      have et : headW m ++ glue (m.ms ++ wordsY m.y) ++ [32, 99, 46] ++ TL.numL c ++ [] = text m := by
        rw [← hw]
        unfold wordsOf
        rw [ec, show wordsC (some c) = [99 :: 46 :: TL.numL c] from rfl]
        simp only [glue_app, glue_cons, glue_nil, List.append_assoc, List.cons_append, List.nil_append, List.append_nil]
      refine ⟨_, rfl, _, _, rfl, rfl, ?_, _, rfl, _, _, _, _, rfl, rfl, hs, rd (i := 5) (x := .int c) (by show some (oV m.c) = _; rw [ec]; rfl), _, rfl, d4 c (by omega), _, _, rfl, rfl, ?_, rfl, u, ?_⟩
      · rw [copS]
        exact cat_ok (TL.numL c) (by rw [← et]; simp only [List.append_assoc, List.append_nil]) tz
      · rw [copS, S_app, str_num]
        exact cat_ok _ et tz
      · rw [copS, S_app, str_num, S_app, ← et, List.append_nil]
        rfl
  rintro σ H4 ⟨rfl, u, rfl⟩
  exact ⟨_, rfl, q⟩
end
end K42
set_option Elab.async false
set_option linter.all false
set_option maxRecDepth 100000
set_option maxHeartbeats 4000000
namespace K42
open PySem PySem.Spec PyProof.Rows L2
section
variable {P : Program} {w : World} {K : PySem.W.Frag} {mg : Str → Option Value} {base : Heap}
theorem Ok.noC {m : Mk} (o : Ok m) : Ok { m with c := none } := ⟨o.l1, o.l3, o.la, o.n1, o.n9, o.pt, o.pz, o.mo, o.mz, o.m3, o.yr, fun _ e => nomatch e⟩
theorem Ok.noY {m : Mk} (o : Ok m) : Ok { m with y := none } := ⟨o.l1, o.l3, o.la, o.n1, o.n9, o.pt, o.pz, o.mo, o.mz, o.m3, (fun _ e => nomatch e), o.cp⟩
theorem Ok.noP {m : Mk} (o : Ok m) : Ok { m with p := [] } := ⟨o.l1, o.l3, o.la, o.n1, o.n9, .inl rfl, Nat.zero_le _, o.mo, o.mz, o.m3, o.yr, o.cp⟩
theorem Ok.popM {m : Mk} (o : Ok m) : Ok { m with ms := m.ms.dropLast } := ⟨o.l1, o.l3, o.la, o.n1, o.n9, o.pt, o.pz, fun k h => o.mo k (List.dropLast_subset _ h), fun k h => o.mz k (List.dropLast_subset _ h), by
  have := o.m3
  rw [List.length_dropLast]
  show m.ms.length - 1 ≤ 3
  omega, o.yr, o.cp⟩
/-- the row that _law_few works at -/
structure Fs (K : PySem.W.Frag) (G H0 H : Hp) (r h : Addr) (m : Mk) : Prop where
  g : GR K S0 G H0 G H
  hr : H r = some (.lst (pV m h))
  hh : H h = some (.lst (msV m.ms))
  nr : H0 r = none
  nh : H0 h = none
  ne : r ≠ h
  gr : G r = none
  gh : G h = none
  ok : Ok m
theorem Fs.row {G H0 H : Hp} {r h : Addr} {m m' : Mk} (s : Fs K G H0 H r h m) (e : m'.ms = m.ms) (ok : Ok m') : Fs K G H0 (upd H r (.lst (pV m' h))) r h m' :=
  ⟨s.g.wr (.inr s.nr) s.gr s.hr trivial, upd_same, by rw [upd_ne s.ne.symm, e]; exact s.hh, s.nr, s.nh, s.ne, s.gr, s.gh, ok⟩
theorem Fs.pop {G H0 H : Hp} {r h : Addr} {m : Mk} (s : Fs K G H0 H r h m) : Fs K G H0 (upd H h (.lst (msV m.ms.dropLast))) r h { m with ms := m.ms.dropLast } :=
  ⟨s.g.wr (.inr s.nh) s.gh s.hh trivial, by rw [upd_ne s.ne]; exact s.hr, upd_same, s.nr, s.nh, s.ne, s.gr, s.gh, s.ok.popM⟩
theorem Fs.new {G H0 H : Hp} {r h e : Addr} {m : Mk} {o : HO} (s : Fs K G H0 H r h m) (he : H e = none) : Fs K G H0 (upd H e o) r h m :=
  ⟨s.g.newM he, by rw [upd_ne (ne_of_none s.hr he)]; exact s.hr, by rw [upd_ne (ne_of_none s.hh he)]; exact s.hh, s.nr, s.nh, s.ne, s.gr, s.gh, s.ok⟩
theorem Fs.pt {G H0 H : Hp} {r h : Addr} {m : Mk} (s : Fs K G H0 H r h m) : PtIn H (.ref r) m := ⟨r, h, rfl, s.hr, s.hh⟩
theorem Fs.done {G H0 H : Hp} {r h : Addr} {m : Mk} (s : Fs K G H0 H r h m) : ∃ G', GR K S0 G H0 G' H ∧ PtIn G' (.ref r) m := by
  have g1 := s.g.freeze s.nh s.hh trivial
  have g2 := g1.freeze s.nr s.hr trivial
  exact ⟨_, g2, r, h, rfl, upd_same, by rw [upd_ne s.ne.symm]; exact upd_same⟩
def spFewL (K : PySem.W.Frag) : Sp := fun vs H Q _ => ∃ (G : Hp) (v : V) (m : Mk) (z : Nat), vs = [v, .int z] ∧ Sb G H ∧ PtIn H v m ∧ Ok m ∧ 16 ≤ z ∧ ∀ (G' H' : Hp) (u : V) (m' : Mk), GR K S0 G H G' H' → PtIn G' u m' → Ok m' → (text m').length ≤ z → Q u H'
abbrev N__law_few : List Str := ["_law_parts", "_law_most", "_law_row"]
theorem sc__law_few : FnScope N__law_few ["_law_parts", "_law_most"] (defScope S__law_few) := ⟨rfl, rfl, rfl, by decide +kernel, rfl, by decide +kernel, by decide +kernel⟩
theorem kn__law_few (T : Tx K mg base) : Kn P w K mg base CX0 4 "_law_few" ["_law_parts", "_law_most"] (spFewL K) := by
  refine kn_of "_law_few" T 61 49 S__law_few rfl rfl sc__law_few (fun vs H Q E h => by obtain ⟨_, _, _, _, rfl, _⟩ := h; rfl) (fun _ _ _ _ _ _ us hl => match us, hl with | [_, _], _ => rfl) (fun cdv A outer s H vs Q E hr h => ⟨_, PSs.nox (pss_cons (ps_set (i := 2) sc__law_few.nd rfl (Or.inl rfl) (pe_lst (pa_cons (pe_ix ix_list (pv 0) pe_int (fun _ _ => rfl)) (pa_cons (pe_ix ix_list (pv 0) pe_int (fun _ _ => rfl)) (pa_cons (pe_ix ix_list (pv 0) pe_int (fun _ _ => rfl)) (pa_cons (pe_callTy call_list_of (by rfl) T.f_list (by decide +kernel) (pa_cons (pe_ix ix_list (pv 0) pe_int (fun _ _ => rfl)) pa_nil)) (pa_cons (pe_ix ix_list (pv 0) pe_int (fun _ _ => rfl)) (pa_cons (pe_ix ix_list (pv 0) pe_int (fun _ _ => rfl)) pa_nil))))))))
    (Evl.pss_cut (ps_if (pt_cmpR op_gt (pe_callB call_len_str (by rfl) T.f_len (by decide +kernel) (pa_cons (pe_fn (kn__law_text T) (hr.mono (by decide)) (pa_cons (pv 2) pa_nil)) pa_nil)) (pv 1) (nomark _)) (pss_one (ps_asg pe_non (pg_sub (pv 2) pe_int set_list))) pss_nil)
    (Evl.pss_cut (ps_while PassesOwn.never (PW.pt (pw_and (pt_cmpR op_gt (pe_callB call_len_str (by rfl) T.f_len (by decide +kernel) (pa_cons (pe_fn (kn__law_text T) (hr.mono (by decide)) (pa_cons (pv 2) pa_nil)) pa_nil)) (pv 1) (nomark _)) (pw_and1 (pt_cmpR (op_neNil hr) (pe_ix ix_list (pv 2) pe_int (fun _ _ => rfl)) (pe_lst pa_nil) (nomark _))))) (pss_one (ps_expr (pe_bm0 PySem.F.plainAttrs_list PySem.F.slot_list_pop PySem.F.type_list_pop mt_pop (pe_ix ix_list (pv 2) pe_int (fun _ _ => rfl))))))
    (Evl.pss_cut (ps_if (pt_cmpR op_gt (pe_callB call_len_str (by rfl) T.f_len (by decide +kernel) (pa_cons (pe_fn (kn__law_text T) (hr.mono (by decide)) (pa_cons (pv 2) pa_nil)) pa_nil)) (pv 1) (nomark _)) (pss_one (ps_asg pe_str (pg_sub (pv 2) pe_int set_list))) pss_nil)
    (Evl.pss_cut (ps_if (pt_cmpR op_gt (pe_callB call_len_str (by rfl) T.f_len (by decide +kernel) (pa_cons (pe_fn (kn__law_text T) (hr.mono (by decide)) (pa_cons (pv 2) pa_nil)) pa_nil)) (pv 1) (nomark _)) (pss_one (ps_asg pe_non (pg_sub (pv 2) pe_int set_list))) pss_nil)
    (pss_one (ps_ret (pv 2)))))))), ?_⟩)
  obtain ⟨G, v, m, z, rfl, sb, ⟨a, hl, rfl, ha, hh⟩, ok, hz, q⟩ := h
  have hs := SqL.of (K := K) ha
  have rd : ∀ {i : Nat} {x : V}, (pV m hl)[i]? = some x → atI (pV m hl) (i : Int) = some x := fun h => atI_nat h
  refine ⟨_, rfl, _, _, _, _, rfl, rfl, hs, rd (i := 0) rfl, _, rfl, _, _, _, _, rfl, rfl, hs, rd (i := 1) rfl, _, rfl, _, _, _, _, rfl, rfl, hs, rd (i := 2) rfl, _, rfl, _, _, _, _, rfl, rfl, hs, rd (i := 3) rfl, hl, _, rfl, .inl (SqL.of hh), fun h hn => ?_⟩
  have g1 := (GR.refl (K := K) (S := S0) sb).newM hn (o := .lst (msV m.ms))
  have hs1 := SqL.of (K := K) (g1.keep ha trivial id)
  refine ⟨_, rfl, _, _, _, _, rfl, rfl, hs1, rd (i := 4) rfl, _, rfl, _, _, _, _, rfl, rfl, hs1, rd (i := 5) rfl, size_of (n := 6) (by decide), fun r hr0 => ?_⟩
  have hrh : r ≠ h := fun e => by rw [e, upd_same] at hr0; cases hr0
  have f0 : Fs K G H (upd (upd H h (.lst (msV m.ms))) r (.lst (pV m h))) r h m :=
    ⟨g1.newM hr0, upd_same, by rw [upd_ne hrh.symm]; exact upd_same, by rw [upd_ne hrh] at hr0; exact hr0, hn, hrh, g1.sb.no hr0, sb.no hn, ok⟩
  generalize upd (upd H h (.lst (msV m.ms))) r (.lst (pV m h)) = H1 at f0
  have okc : ∀ {m : Mk}, (text m).length ≤ z ∨ m.c = none ∧ m.ms = [] ∧ m.p = [] ∧ m.y = none → Ok m → (text m).length ≤ z := by
    rintro ⟨l, n, p, ms, y, c⟩ (h | ⟨h1, h2, h3, h4⟩) o
    · exact h
    · dsimp only at h1 h2 h3 h4
      subst h1 h2 h3 h4
      have e : text ⟨l, n, [], [], none, none⟩ = l ++ (TL.numL n ++ ([] ++ [])) := rfl
      rw [e]
      have h5 := o.l3
      have h6 := numL_5 (n := n) (by have := o.n9; dsimp only at this; omega)
      dsimp only at h5
      simp only [List.append_nil, List.length_append]
      omega
  refine ⟨fun σ H' => σ = [some (.ref a), some (.int z), some (.ref r)] ∧ ∃ m, Fs K G H H' r h m ∧ ((text m).length ≤ z ∨ m.c = none), ?_, ?_⟩
  · refine ⟨_, rfl, .ref r, m, rfl, f0.pt, f0.ok, _, rfl, text_fits m f0.ok, _, rfl, _, _, rfl, rfl, _, rfl, ifC (fun hl => ?_) fun hl => ?_⟩
    · exact ⟨_, rfl, r, _, _, 5, rfl, rfl, f0.hr, rfl, rfl, { m with c := none }, f0.row (m' := { m with c := none }) rfl f0.ok.noC, .inr rfl⟩
    · exact ⟨rfl, m, f0, .inl (by rw [S_len] at hl; omega)⟩
  rintro σ H2 ⟨rfl, m1, f1, c1⟩
  refine ⟨fun σ H' => σ = [some (.ref a), some (.int z), some (.ref r)] ∧ ∃ m, Fs K G H H' r h m ∧ ((text m).length ≤ z ∨ m.c = none ∧ m.ms = []), ?_, ?_⟩
  · refine ⟨fun d σ H' => σ = [some (.ref a), some (.int z), some (.ref r)] ∧ ∃ m, d = m.ms.length ∧ Fs K G H H' r h m ∧ ((text m).length ≤ z ∨ m.c = none), ⟨m1.ms.length, rfl, m1, rfl, f1, c1⟩, ?_⟩
    rintro d σ H3 ⟨rfl, m2, rfl, f2, c2⟩
    refine ⟨_, rfl, .ref r, m2, rfl, f2.pt, f2.ok, _, rfl, text_fits m2 f2.ok, _, rfl, _, _, rfl, rfl, _, rfl, ifC (fun hl => ?_) fun hl => ?_⟩
    · have c3 : m2.c = none := c2.resolve_left (by rw [S_len] at hl; omega)
      refine ⟨_, rfl, r, _, _, .ref h, rfl, rfl, SqL.of f2.hr, rfl, size_of (n := 0) (by decide), fun e0 he0 => ?_⟩
      have f3 := f2.new (o := .lst []) he0
      refine ⟨h, e0, msV m2.ms, rfl, rfl, SqL.of f3.hh, SqL.of upd_same, _, rfl, ?_⟩
      cases em : m2.ms with
      | nil => exact ⟨rfl, m2, f3, .inr ⟨c3, em⟩⟩
      | cons k ks =>
        obtain ⟨y, hy⟩ : ∃ y, (msV m2.ms)[(msV m2.ms).length - 1]? = some y := by
          have hl0 : 0 < (msV m2.ms).length := by rw [em]; simp [msV]
          exact ⟨_, List.getElem?_eq_getElem (by omega)⟩
        refine ⟨fun σ' H' => ∃ d', d' < (k :: ks).length ∧ σ' = [some (.ref a), some (.int z), some (.ref r)] ∧ ∃ m, d' = m.ms.length ∧ Fs K G H H' r h m ∧ ((text m).length ≤ z ∨ m.c = none), fun σ' H' z => z, ?_⟩
        refine ⟨_, rfl, r, _, _, .ref h, rfl, rfl, SqL.of f3.hr, rfl, .inl ⟨rfl, _, SqL.of f3.hh⟩, h, _, y, rfl, rfl, f3.hh, hy, ?_⟩
        have e2 : (msV m2.ms).dropLast = msV m2.ms.dropLast := by simp [msV]
        rw [e2]
        exact ⟨_, by rw [← em]; show m2.ms.length - 1 < m2.ms.length; rw [em]; simp, rfl, { m2 with ms := m2.ms.dropLast }, by simp, f3.pop, .inr c3⟩
    · exact ⟨rfl, m2, f2, .inl (by rw [S_len] at hl; omega)⟩
  rintro σ H3 ⟨rfl, m3, f3, c3⟩
  refine ⟨fun σ H' => σ = [some (.ref a), some (.int z), some (.ref r)] ∧ ∃ m, Fs K G H H' r h m ∧ ((text m).length ≤ z ∨ m.c = none ∧ m.ms = [] ∧ m.p = []), ?_, ?_⟩
  · refine ⟨_, rfl, .ref r, m3, rfl, f3.pt, f3.ok, _, rfl, text_fits m3 f3.ok, _, rfl, _, _, rfl, rfl, _, rfl, ifC (fun hl => ?_) fun hl => ?_⟩
    · have c4 := c3.resolve_left (by rw [S_len] at hl; omega)
      exact ⟨_, rfl, r, _, _, 2, rfl, rfl, f3.hr, rfl, rfl, { m3 with p := [] }, f3.row (m' := { m3 with p := [] }) rfl f3.ok.noP, .inr ⟨c4.1, c4.2, rfl⟩⟩
    · exact ⟨rfl, m3, f3, .inl (by rw [S_len] at hl; omega)⟩
  rintro σ H4 ⟨rfl, m4, f4, c4⟩
  refine ⟨fun σ H' => σ = [some (.ref a), some (.int z), some (.ref r)] ∧ ∃ m, Fs K G H H' r h m ∧ ((text m).length ≤ z ∨ m.c = none ∧ m.ms = [] ∧ m.p = [] ∧ m.y = none), ?_, ?_⟩
  · refine ⟨_, rfl, .ref r, m4, rfl, f4.pt, f4.ok, _, rfl, text_fits m4 f4.ok, _, rfl, _, _, rfl, rfl, _, rfl, ifC (fun hl => ?_) fun hl => ?_⟩
    · have c5 := c4.resolve_left (by rw [S_len] at hl; omega)
      exact ⟨_, rfl, r, _, _, 4, rfl, rfl, f4.hr, rfl, rfl, { m4 with y := none }, f4.row (m' := { m4 with y := none }) rfl f4.ok.noY, .inr ⟨c5.1, c5.2.1, c5.2.2, rfl⟩⟩
    · exact ⟨rfl, m4, f4, .inl (by rw [S_len] at hl; omega)⟩
  rintro σ H5 ⟨rfl, m5, f5, c5⟩
  obtain ⟨G', g5, p5⟩ := f5.done
  exact ⟨_, rfl, q G' H5 _ m5 g5 p5 f5.ok (okc c5 f5.ok)⟩
end
end K42
set_option Elab.async false
set_option linter.all false
set_option maxRecDepth 100000
set_option maxHeartbeats 4000000
namespace K42
open PySem PySem.Spec PyProof.Rows L2
section
variable {P : Program} {w : World} {K : PySem.W.Frag} {mg : Str → Option Value} {base : Heap}
structure Bd (b : Nat) (m : Mk) : Prop where
  p : m.p.length ≤ b
  k : ∀ k ∈ m.ms, k.length ≤ b
/-- only the pool at p was written -/
structure Ps (K : PySem.W.Frag) (G H0 H : Hp) (p : Addr) : Prop where
  g : GR K (S1 p) G H0 G H
  pool : PoolAt G H p
theorem Ps.take {G H0 H : Hp} {p : Addr} (s : Ps K G H0 H p) : ∃ n : Nat, H p = some (.lst [.int n]) ∧ ∀ n' : Nat, Ps K G H0 (upd H p (.lst [.int n'])) p := by
  obtain ⟨n, e, k⟩ := s.pool.take (K := K) s.g.sb
  exact ⟨n, e, fun n' => ⟨s.g.trans (k n').1, (k n').2⟩⟩
theorem Ps.new {G H0 H : Hp} {p e : Addr} {o : HO} (s : Ps K G H0 H p) (he : H e = none) : Ps K G H0 (upd H e o) p := by
  obtain ⟨gp, n, h⟩ := s.pool
  exact ⟨s.g.newM he, gp, n, by rw [upd_ne (ne_of_none h he)]; exact h⟩
theorem Ps.start {G H : Hp} {p : Addr} (sb : Sb G H) (h : PoolAt G H p) : Ps K G H H p := ⟨GR.refl sb, h⟩
theorem Ps.call {G H0 H H' : Hp} {p : Addr} (s : Ps K G H0 H p) (g : GR K (S1 p) G H G H') (h : PoolAt G H' p) : Ps K G H0 H' p := ⟨s.g.trans g, h⟩
theorem Ps.at_ {G H0 H : Hp} {p d : Addr} (s : Ps K G H0 H p) (hd : H d = none) (L o : HO) : upd (upd H d L) p o d = some L := by
  obtain ⟨gp, n, h⟩ := s.pool
  rw [upd_ne (ne_of_none h hd).symm]
  exact upd_same
theorem Ps.keep {G H0 H : Hp} {p d : Addr} {o o' : HO} (s : Ps K G H0 H p) (hd : H d = some o) (h : Pl o) (hl : ∀ n : Nat, o ≠ .lst [.int n]) : upd H p o' d = some o := by
  obtain ⟨gp, n, h⟩ := s.pool
  rw [upd_ne (fun e => by rw [e, h] at hd; exact hl n (by injection hd with hd; exact hd.symm))]
  exact hd
theorem Ps.wr {G H0 H : Hp} {p d : Addr} {o o' : HO} (s : Ps K G H0 H p) (nw : Nw H0 d) (gd : G d = none) (e : H d = some o) (h : Pl o) (hp : d ≠ p) (h' : Pl o' := by trivial) : Ps K G H0 (upd H d o') p := by
  obtain ⟨gp, n, hn⟩ := s.pool
  exact ⟨s.g.wrN nw gd e h h', gp, n, by rw [upd_ne hp.symm]; exact hn⟩
theorem tri {a b c : V} {r : Nat} (h : r < 3) : ∃ v, atI [a, b, c] (r : Int) = some v ∧ (v = a ∨ v = b ∨ v = c) := by
  match r, h with
  | 0, _ => exact ⟨a, rfl, .inl rfl⟩
  | 1, _ => exact ⟨b, rfl, .inr (.inl rfl)⟩
  | 2, _ => exact ⟨c, rfl, .inr (.inr rfl)⟩
def spSmall (K : PySem.W.Frag) : Sp := fun vs H Q _ => ∃ (G : Hp) (p : Addr), vs = [.ref p] ∧ Sb G H ∧ PoolAt G H p ∧ ∀ (G' H' : Hp) (u : V) (m : Mk), GR K (S1 p) G H G' H' → PoolAt G' H' p → PtIn G' u m → Ok m → Bd 5 m → Q u H'
abbrev N__law_small : List Str := ["_law_pool_here", "_law_way", "_law_letters", "_law_number", "_law_tens", "_law_hands", "_law_k", "_law_age", "_law_twin"]
theorem sc__law_small : FnScope N__law_small ["_law_pool_here"] (defScope S__law_small) := ⟨rfl, rfl, rfl, by decide +kernel, rfl, by decide +kernel, by decide +kernel⟩
theorem kn__law_small (T : Tx K mg base) : Kn P w K mg base CX0 5 "_law_small" ["_law_pool_here"] (spSmall K) := by
  refine kn_of "_law_small" T 62 50 S__law_small rfl rfl sc__law_small (fun vs H Q E h => by obtain ⟨_, _, rfl, _⟩ := h; rfl) (fun _ _ _ _ _ _ us hl => match us, hl with | [_], _ => rfl) (fun cdv A outer s H vs Q E hr h => ⟨_, PSs.nox (pss_cons (ps_set (i := 1) sc__law_small.nd rfl (Or.inl rfl) (pe_fn (kn__law_take T) (hr.mono (by decide)) (pa_cons (pv 0) (pa_cons pe_int pa_nil))))
    (pss_cons (ps_set (i := 2) sc__law_small.nd rfl (Or.inl rfl) pe_str)
    (pss_cons (ps_set (i := 3) sc__law_small.nd rfl (Or.inl rfl) pe_int)
    (Evl.pss_cut (ps_if (pt_cmpR op_eq (pv 1) pe_int (nomark _)) (pss_one (ps_set (i := 2) sc__law_small.nd rfl (Or.inl rfl) (pe_op op_add_str (pe_ix ix_str pe_str (pe_fn (kn__law_take T) (hr.mono (by decide)) (pa_cons (pv 0) (pa_cons pe_int pa_nil))) (fun _ _ => rfl)) (pe_ix ix_list (pe_lst (pa_cons pe_str (pa_cons pe_str (pa_cons pe_str pa_nil)))) (pe_fn (kn__law_take T) (hr.mono (by decide)) (pa_cons (pv 0) (pa_cons pe_int pa_nil))) (fun _ _ => rfl))))) pss_nil)
    (Evl.pss_cut (ps_if (pt_cmpR op_lt (pv 1) pe_int (nomark _)) (pss_one (ps_set (i := 3) sc__law_small.nd rfl (Or.inl rfl) (pe_op op_add pe_int (pe_fn (kn__law_take T) (hr.mono (by decide)) (pa_cons (pv 0) (pa_cons (pe_ix ix_list (pe_lst (pa_cons pe_int (pa_cons pe_int (pa_cons pe_int pa_nil)))) (pe_fn (kn__law_take T) (hr.mono (by decide)) (pa_cons (pv 0) (pa_cons pe_int pa_nil))) (fun _ _ => rfl)) pa_nil)))))) pss_nil)
    (Evl.pss_cut (ps_set (i := 4) sc__law_small.nd rfl (Or.inl rfl) (pe_ifExp (pt_cmpR op_eq (pe_fn (kn__law_take T) (hr.mono (by decide)) (pa_cons (pv 0) (pa_cons pe_int pa_nil))) pe_int (nomark _)) pe_str (pe_fn (kn__law_figures T) (hr.mono (by decide)) (pa_cons (pv 0) (pa_cons pe_int pa_nil)))))
    (pss_cons (ps_set (i := 5) sc__law_small.nd rfl (Or.inl rfl) (pe_lst pa_nil))
    (pss_cons (ps_for PassesOwn.never rfl (pi_range1 (by rfl) T.f_range (pa_cons (pe_fn (kn__law_take T) (hr.mono (by decide)) (pa_cons (pv 0) (pa_cons pe_int pa_nil))) pa_nil)) (pg_name (i := 6) sc__law_small.nd rfl (Or.inl rfl)) (pss_one (ps_expr (pe_bm PySem.F.plainAttrs_list PySem.F.slot_list_append PySem.F.type_list_append mt_append (pv 5) (pa_cons (pe_fn (kn__law_maker T) (hr.mono (by decide)) (pa_cons (pv 0) (pa_cons pe_int pa_nil))) pa_nil)))))
    (pss_cons (ps_set (i := 7) sc__law_small.nd rfl (Or.inl rfl) (pe_ix ix_list (pe_lst (pa_cons pe_non (pa_cons (pe_op op_add pe_int (pe_fn (kn__law_take T) (hr.mono (by decide)) (pa_cons (pv 0) (pa_cons pe_int pa_nil)))) (pa_cons pe_non pa_nil)))) (pe_fn (kn__law_take T) (hr.mono (by decide)) (pa_cons (pv 0) (pa_cons pe_int pa_nil))) (fun _ _ => rfl)))
    (pss_cons (ps_set (i := 8) sc__law_small.nd rfl (Or.inl rfl) (pe_ix ix_list (pe_lst (pa_cons pe_non (pa_cons (pe_op op_add pe_int (pe_fn (kn__law_take T) (hr.mono (by decide)) (pa_cons (pv 0) (pa_cons pe_int pa_nil)))) (pa_cons pe_non pa_nil)))) (pe_fn (kn__law_take T) (hr.mono (by decide)) (pa_cons (pv 0) (pa_cons pe_int pa_nil))) (fun _ _ => rfl)))
    (pss_one (ps_ret (pe_lst (pa_cons (pv 2) (pa_cons (pv 3) (pa_cons (pv 4) (pa_cons (pv 5) (pa_cons (pv 7) (pa_cons (pv 8) pa_nil))))))))))))))))))), ?_⟩)
  obtain ⟨G, p, rfl, sb, hp, q⟩ := h
  have s0 : Ps K G H H p := .start sb hp
  obtain ⟨n0, e0, k0⟩ := s0.take
  refine ⟨_, rfl, p, n0, _, rfl, e0, by decide, by decide, fun way n1 hway => ?_⟩
  have s1 := k0 n1
  generalize upd H p (.lst [.int n1]) = H1 at s1
  refine ⟨fun σ H' => (∃ l : List Nat, σ = [some (.ref p), some (.int way), some (sV l), some (.int 76), none, none, none, none, none] ∧ 1 ≤ l.length ∧ l.length ≤ 3 ∧ ∀ c ∈ l, isLet c = true) ∧ Ps K G H H' p, ?_, ?_⟩
  · refine ⟨_, rfl, rfl, _, rfl, ifC (fun _ => ?_) fun _ => ?_⟩
    · obtain ⟨n2, e2, k2⟩ := s1.take
      refine ⟨_, rfl, p, n2, _, rfl, e2, by decide, by decide, fun r n3 hr2 => ?_⟩
      have s2 := k2 n3
      obtain ⟨c, hc, hcl⟩ := lit_let hr2
      refine ⟨_, _, c, rfl, rfl, lit_len, hc, size_of (n := 3) (by decide), fun d hd => ?_⟩
      have s3 := s2.new (o := .lst [.str "", .str "q", .str "fa"]) hd
      obtain ⟨n4, e4, k4⟩ := s3.take
      refine ⟨_, rfl, p, n4, _, rfl, e4, by decide, by decide, fun r4 n5 hr4 => ?_⟩
      have s4 := k4 n5
      obtain ⟨v, hv, hvv⟩ := tri (a := .str "") (b := .str "q") (c := .str "fa") hr4
      have fin : ∀ l : List Nat, l.length ≤ 2 → (∀ c ∈ l, isLet c = true) → v = sV l → ∃ i j, V.str ⟨#[c]⟩ = V.str i ∧ v = V.str j ∧ i.length + j.length ≤ sizeLine ∧ ((∃ l, [some (V.ref p), some (V.int way), some (V.str (i ++ j)), some (.int 76), none, none, none, none, none] = [some (.ref p), some (.int way), some (sV l), some (.int 76), none, none, none, none, none] ∧ 1 ≤ l.length ∧ l.length ≤ 3 ∧ ∀ c ∈ l, isLet c = true) ∧ Ps K G H (upd (upd (upd H1 p (.lst [.int n3])) d (.lst [.str "", .str "q", .str "fa"])) p (.lst [.int n5])) p) := by
        intro l hl hla ev
        refine ⟨⟨#[c]⟩, S l, rfl, ev, ?_, ⟨c :: l, ?_, by simp, by simp; omega, fun x hx => ?_⟩, s4⟩
        · rw [S_len]
          show 1 + _ ≤ _
          exact size_of (by omega)
        · rw [show (⟨#[c]⟩ : Str) ++ S l = S (c :: l) from S_app [c] l]
          rfl
        · rcases List.mem_cons.mp hx with rfl | z
          · exact hcl
          · exact hla x z
      refine ⟨d, _, _, v, rfl, rfl, SqL.of (s2.at_ hd _ _), hv, ?_⟩
      rcases hvv with e | e | e
      · exact fin [] (by decide) (fun _ z => nomatch z) e
      · exact fin [113] (by decide) (by decide) e
      · exact fin [102, 97] (by decide) (by decide) e
    · exact ⟨⟨[113], rfl, by decide, by decide, by decide⟩, s1⟩
  rintro σ H2 ⟨⟨l, rfl, l1, l3, la⟩, s2⟩
  refine ⟨fun σ H' => (∃ n : Nat, σ = [some (.ref p), some (.int way), some (sV l), some (.int n), none, none, none, none, none] ∧ 1 ≤ n ∧ n ≤ 9999) ∧ Ps K G H H' p, ?_, ?_⟩
  · refine ⟨_, rfl, _, _, rfl, rfl, _, rfl, ifC (fun _ => ?_) fun _ => ?_⟩
    · refine ⟨_, rfl, size_of (n := 3) (by decide), fun d hd => ?_⟩
      have s3 := s2.new (o := .lst [.int 9, .int 99, .int 9999]) hd
      obtain ⟨n4, e4, k4⟩ := s3.take
      refine ⟨_, rfl, p, n4, _, rfl, e4, by decide, by decide, fun r4 n5 hr4 => ?_⟩
      have s4 := k4 n5
      obtain ⟨v, hv, hvv⟩ := tri (a := .int 9) (b := .int 99) (c := .int 9999) hr4
      obtain ⟨z, rfl, z1, z9⟩ : ∃ z : Nat, v = .int z ∧ 1 ≤ z ∧ z ≤ 9999 := by
        rcases hvv with e | e | e
        · exact ⟨9, e, by decide, by decide⟩
        · exact ⟨99, e, by decide, by decide⟩
        · exact ⟨9999, e, by decide, by decide⟩
      obtain ⟨n6, e6, k6⟩ := s4.take
      refine ⟨d, _, _, .int z, rfl, rfl, SqL.of (s2.at_ hd _ _), hv, p, n6, z, rfl, e6, z1, by omega, fun r6 n7 hr6 => ⟨_, _, rfl, rfl, ⟨1 + r6, ?_, by omega, by omega⟩, k6 n7⟩⟩
      rw [Int.natCast_add]
      rfl
    · exact ⟨⟨76, rfl, by decide, by decide⟩, s2⟩
  rintro σ H3 ⟨⟨n, rfl, nn1, nn9⟩, s3⟩
  refine ⟨fun σ H' => (∃ f : List Nat, σ = [some (.ref p), some (.int way), some (sV l), some (.int n), some (sV f), none, none, none, none] ∧ (f = [] ∨ figs f = true) ∧ f.length ≤ 4) ∧ Ps K G H H' p, ?_, ?_⟩
  · obtain ⟨n4, e4, k4⟩ := s3.take
    refine ⟨_, rfl, p, n4, _, rfl, e4, by decide, by decide, fun r4 n5 hr4 => ⟨rfl, _, rfl, ifC (fun _ => ?_) fun _ => ?_⟩⟩
    · exact ⟨⟨[], by rw [strE]; rfl, .inl rfl, by decide⟩, k4 n5⟩
    · have s5 := k4 n5
      refine ⟨_, rfl, G, p, 4, rfl, s5.g.sb, s5.pool, by decide, by decide, fun f H' hf hl g1 hp1 => ⟨⟨f, rfl, .inr hf, hl⟩, s5.call g1 hp1⟩⟩
  rintro σ H4 ⟨⟨f, rfl, f1, f4⟩, s4⟩
  refine ⟨size_of (n := 0) (by decide), fun d hd => ?_⟩
  have s5 := s4.new (o := .lst []) hd
  have hdp : d ≠ p := by
    obtain ⟨gp, n, h⟩ := s4.pool
    exact (ne_of_none h hd).symm
  obtain ⟨n6, e6, k6⟩ := s5.take
  refine ⟨_, rfl, p, n6, _, rfl, e6, by decide, by decide, fun r6 n7 hr6 => ?_⟩
  have s6 := k6 n7
  have hr6' : r6 < 4 := hr6
  refine ⟨_, rfl, by omega, by omega, ?_⟩
  refine for_range (fun i σ H' => (∃ (u : Option V), σ = [some (.ref p), some (.int way), some (sV l), some (.int n), some (sV f), some (.ref d), u, none, none]) ∧ Ps K G H H' p ∧ ∃ ms : List (List Nat), H' d = some (.lst (msV ms)) ∧ ms.length = i ∧ (∀ k ∈ ms, mkr k = true) ∧ ∀ k ∈ ms, k.length ≤ 4) ⟨⟨none, rfl⟩, s6, [], s4.at_ hd _ _, rfl, (fun _ z => nomatch z), (fun _ z => nomatch z)⟩ ?_ ?_
  · rintro i σ H5 hi ⟨⟨u, rfl⟩, s7, ms, hms, hml, hmo, hmz⟩
    refine ⟨_, rfl, .inl ⟨rfl, _, SqL.of hms⟩, _, rfl, G, p, 3, rfl, s7.g.sb, s7.pool, by decide, by decide, fun k H6 hk hkl g1 hp1 => ?_⟩
    have hms2 := g1.keep hms trivial hdp
    have gd : G d = none := s4.g.sb.no hd
    have s8 := (s7.call g1 hp1).wr (o' := .lst (msV ms ++ [sV k])) (s4.g.nw (.of hd)) gd hms2 trivial hdp
    refine ⟨d, _, _, rfl, rfl, hms2, ?_, ⟨_, rfl⟩, s8, ms ++ [k], ?_, ?_, ?_, ?_⟩
    · rw [show (msV ms).length = ms.length by simp [msV], sizeLine_eq]
      omega
    · rw [upd_same]
      simp [msV]
    · simp [hml]
    · intro x hx
      rcases List.mem_append.mp hx with z | z
      · exact hmo x z
      · rw [List.mem_singleton.mp z]; exact hk
    · intro x hx
      rcases List.mem_append.mp hx with z | z
      · exact hmz x z
      · rw [List.mem_singleton.mp z]; exact hkl
  · rintro σ H5 ⟨⟨u, rfl⟩, s7, ms, hms, hml, hmo, hmz⟩
    have t7 : Ps K G H5 H5 p := .start s7.g.sb s7.pool
    obtain ⟨n8, e8, k8⟩ := t7.take
    refine ⟨_, rfl, p, n8, _, rfl, e8, by decide, by decide, fun r8 n9 hr8 => ?_⟩
    have hr8' : r8 < 2000 := hr8
    have s8 := k8 n9
    refine ⟨_, _, rfl, rfl, size_of (n := 3) (by decide), fun b hb => ?_⟩
    have s9 := s8.new (o := .lst [.non, .int (1000 + r8), .non]) hb
    obtain ⟨n10, e10, k10⟩ := s9.take
    refine ⟨_, rfl, p, n10, _, rfl, e10, by decide, by decide, fun r10 n11 hr10 => ?_⟩
    have s10 := k10 n11
    obtain ⟨v, hv, hvv⟩ := tri (a := .non) (b := .int (1000 + r8)) (c := .non) hr10
    obtain ⟨y, rfl, hy⟩ : ∃ y : Option Nat, v = oV y ∧ ∀ z, y = some z → 1000 ≤ z ∧ z ≤ 2999 := by
      rcases hvv with e | e | e
      · exact ⟨none, e, fun _ z => nomatch z⟩
      · refine ⟨some (1000 + r8), by rw [e]; show _ = V.int ((1000 + r8 : Nat) : Int); rw [Int.natCast_add]; rfl, fun z hz => ?_⟩
        have := Option.some.inj hz
        omega
      · exact ⟨none, e, fun _ z => nomatch z⟩
    refine ⟨b, _, _, _, rfl, rfl, SqL.of (s8.at_ hb _ _), hv, ?_⟩
    obtain ⟨n12, e12, k12⟩ := s10.take
    refine ⟨_, rfl, p, n12, _, rfl, e12, by decide, by decide, fun r12 n13 hr12 => ?_⟩
    have hr12' : r12 < 98 := hr12
    have s12 := k12 n13
    refine ⟨_, _, rfl, rfl, size_of (n := 3) (by decide), fun b2 hb2 => ?_⟩
    have s13 := s12.new (o := .lst [.non, .int (2 + r12), .non]) hb2
    obtain ⟨n14, e14, k14⟩ := s13.take
    refine ⟨_, rfl, p, n14, _, rfl, e14, by decide, by decide, fun r14 n15 hr14 => ?_⟩
    have s14 := k14 n15
    obtain ⟨v, hv, hvv⟩ := tri (a := .non) (b := .int (2 + r12)) (c := .non) hr14
    obtain ⟨c, rfl, hc⟩ : ∃ c : Option Nat, v = oV c ∧ ∀ z, c = some z → 2 ≤ z ∧ z ≤ 99999 := by
      rcases hvv with e | e | e
      · exact ⟨none, e, fun _ z => nomatch z⟩
      · refine ⟨some (2 + r12), by rw [e]; show _ = V.int ((2 + r12 : Nat) : Int); rw [Int.natCast_add]; rfl, fun z hz => ?_⟩
        have := Option.some.inj hz
        omega
      · exact ⟨none, e, fun _ z => nomatch z⟩
    refine ⟨b2, _, _, _, rfl, rfl, SqL.of (s12.at_ hb2 _ _), hv, ?_⟩
    refine ⟨_, rfl, _, rfl, _, rfl, _, rfl, _, rfl, _, rfl, size_of (n := 6) (by decide), fun r hr0 => ?_⟩
    have hd2 := s14.g.keep hms trivial hdp
    have gd : G d = none := s4.g.sb.no hd
    have m1 := (s7.g.trans s14.g).freezeN (s4.g.nw (.of hd)) hd2 trivial
    have hrd : r ≠ d := (ne_of_none hd2 hr0).symm
    have m2 := m1.new hr0 (o := .lst (pV ⟨l, n, f, ms, y, c⟩ d)) trivial
    have pool2 : PoolAt _ _ p := (s7.call s14.g s14.pool).new (o := .lst (pV ⟨l, n, f, ms, y, c⟩ d)) hr0 |>.pool
    refine q _ _ _ ⟨l, n, f, ms, y, c⟩ m2 ⟨?_, pool2.2⟩ ⟨r, d, rfl, upd_same, ?_⟩ ?_ ?_
    · obtain ⟨gp, k, hk⟩ := s14.pool
      rw [upd_ne (ne_of_none hk hr0), upd_ne hdp.symm]
      exact gp
    · rw [upd_ne hrd.symm]
      exact upd_same
    · exact ⟨l1, l3, la, nn1, nn9, f1, Nat.le_trans f4 (by decide), hmo, fun k hk => Nat.le_trans (hmz k hk) (by decide), by show ms.length ≤ 3; omega, hy, hc⟩
    · exact ⟨Nat.le_trans f4 (by decide), fun k hk => Nat.le_trans (hmz k hk) (by decide)⟩
end
end K42
set_option Elab.async false
set_option linter.all false
set_option maxRecDepth 100000
set_option maxHeartbeats 4000000
namespace K42
open PySem PySem.Spec PyProof.Rows L2
section
variable {P : Program} {w : World} {K : PySem.W.Frag} {mg : Str → Option Value} {base : Heap}
theorem Ok.mkP {m : Mk} (o : Ok m) {p : List Nat} (h : p = [] ∨ figs p = true) (z : p.length ≤ 1000) : Ok { m with p := p } := ⟨o.l1, o.l3, o.la, o.n1, o.n9, h, z, o.mo, o.mz, o.m3, o.yr, o.cp⟩
theorem Ok.mkM {m : Mk} (o : Ok m) {ms : List (List Nat)} (h1 : ∀ k ∈ ms, mkr k = true) (h2 : ∀ k ∈ ms, k.length ≤ 1000) (h3 : ms.length ≤ 3) : Ok { m with ms := ms } := ⟨o.l1, o.l3, o.la, o.n1, o.n9, o.pt, o.pz, h1, h2, h3, o.yr, o.cp⟩
theorem Ok.mkY {m f : Mk} (o : Ok m) (o' : Ok f) : Ok { m with y := f.y } := ⟨o.l1, o.l3, o.la, o.n1, o.n9, o.pt, o.pz, o.mo, o.mz, o.m3, o'.yr, o.cp⟩
theorem Ok.mkC {m f : Mk} (o : Ok m) (o' : Ok f) : Ok { m with c := f.c } := ⟨o.l1, o.l3, o.la, o.n1, o.n9, o.pt, o.pz, o.mo, o.mz, o.m3, o.yr, o'.cp⟩
theorem mix_set {m f : Mk} (om : Ok m) (of : Ok f) {k : Nat} (h2 : 2 ≤ k) (h5 : k ≤ 5) (h0 hf : Addr) : ∃ x m1 h1, (pV f hf)[k]? = some x ∧ (pV m h0).set k x = pV m1 h1 ∧ Ok m1 ∧ ((h1 = h0 ∧ m1.ms = m.ms) ∨ (h1 = hf ∧ m1.ms = f.ms)) ∧ (k ≠ 3 → h1 = h0) := by
  match k, h2, h5 with
  | 2, _, _ => exact ⟨_, { m with p := f.p }, h0, rfl, rfl, om.mkP of.pt of.pz, .inl ⟨rfl, rfl⟩, fun _ => rfl⟩
  | 3, _, _ => exact ⟨_, { m with ms := f.ms }, hf, rfl, rfl, om.mkM of.mo of.mz of.m3, .inr ⟨rfl, rfl⟩, fun z => (z rfl).elim⟩
  | 4, _, _ => exact ⟨_, { m with y := f.y }, h0, rfl, rfl, om.mkY of, .inl ⟨rfl, rfl⟩, fun _ => rfl⟩
  | 5, _, _ => exact ⟨_, { m with c := f.c }, h0, rfl, rfl, om.mkC of, .inl ⟨rfl, rfl⟩, fun _ => rfl⟩
theorem mix_cat {m f : Mk} (om : Ok m) (of : Ok f) {k : Nat} (h2 : 2 ≤ k) (h5 : k ≤ 5) (h0 hf : Addr) : ∃ m1 h1, (pV m h0).take (k + 1) ++ (pV f hf).drop (k + 1) = pV m1 h1 ∧ Ok m1 ∧ ((h1 = h0 ∧ m1.ms = m.ms) ∨ (h1 = hf ∧ m1.ms = f.ms)) := by
  match k, h2, h5 with
  | 2, _, _ => exact ⟨{ m with ms := f.ms, y := f.y, c := f.c }, hf, rfl, ((om.mkM of.mo of.mz of.m3).mkY of).mkC of, .inr ⟨rfl, rfl⟩⟩
  | 3, _, _ => exact ⟨{ m with y := f.y, c := f.c }, h0, rfl, (om.mkY of).mkC of, .inl ⟨rfl, rfl⟩⟩
  | 4, _, _ => exact ⟨{ m with c := f.c }, h0, rfl, om.mkC of, .inl ⟨rfl, rfl⟩⟩
  | 5, _, _ => exact ⟨m, h0, rfl, om, .inl ⟨rfl, rfl⟩⟩
/-- only the pool at p was written, new things are frozen -/
structure Pg (K : PySem.W.Frag) (G0 H0 G H : Hp) (p : Addr) : Prop where
  g : GR K (S1 p) G0 H0 G H
  pool : PoolAt G H p
theorem Pg.take {G0 H0 G H : Hp} {p : Addr} (s : Pg K G0 H0 G H p) : ∃ n : Nat, H p = some (.lst [.int n]) ∧ ∀ n' : Nat, Pg K G0 H0 G (upd H p (.lst [.int n'])) p := by
  obtain ⟨n, e, k⟩ := s.pool.take (K := K) s.g.sb
  exact ⟨n, e, fun n' => ⟨s.g.trans (k n').1, (k n').2⟩⟩
theorem Pg.new {G0 H0 G H : Hp} {p e : Addr} {o : HO} (s : Pg K G0 H0 G H p) (he : H e = none) : Pg K G0 H0 G (upd H e o) p := by
  obtain ⟨gp, n, h⟩ := s.pool
  exact ⟨s.g.newM he, gp, n, by rw [upd_ne (ne_of_none h he)]; exact h⟩
theorem Pg.newF {G0 H0 G H : Hp} {p e : Addr} {o : HO} (s : Pg K G0 H0 G H p) (he : H e = none) (hp : Pl o) : Pg K G0 H0 (upd G e o) (upd H e o) p := by
  obtain ⟨gp, n, h⟩ := s.pool
  exact ⟨s.g.new he hp, by rw [upd_ne (ne_of_none h he)]; exact gp, n, by rw [upd_ne (ne_of_none h he)]; exact h⟩
theorem Pg.start {G H : Hp} {p : Addr} (sb : Sb G H) (h : PoolAt G H p) : Pg K G H G H p := ⟨GR.refl sb, h⟩
theorem Pg.call {G0 H0 G H G' H' : Hp} {p : Addr} (s : Pg K G0 H0 G H p) (g : GR K (S1 p) G H G' H') (h : PoolAt G' H' p) : Pg K G0 H0 G' H' p := ⟨s.g.trans g, h⟩
theorem Pg.wr {G0 H0 G H : Hp} {p d : Addr} {o o' : HO} (s : Pg K G0 H0 G H p) (nw : Nw H0 d) (gd : G d = none) (e : H d = some o) (h : Pl o) (hp : d ≠ p) (h' : Pl o' := by trivial) : Pg K G0 H0 G (upd H d o') p := by
  obtain ⟨gp, n, hn⟩ := s.pool
  exact ⟨s.g.wrN nw gd e h h', gp, n, by rw [upd_ne hp.symm]; exact hn⟩
theorem Pg.trans {G0 H0 G1 H1 G H : Hp} {p : Addr} (s : Pg K G0 H0 G1 H1 p) (t : Pg K G1 H1 G H p) : Pg K G0 H0 G H p := ⟨s.g.trans t.g, t.pool⟩
theorem Pg.np {G0 H0 G H : Hp} {p d : Addr} (s : Pg K G0 H0 G H p) (hd : H d = none) : d ≠ p := by
  obtain ⟨gp, n, h⟩ := s.pool
  exact (ne_of_none h hd).symm
/-- the scratch row at r -/
def Bs (K : PySem.W.Frag) (G0 H0 G1 H : Hp) (p r : Addr) : Prop := ∃ (G : Hp) (m : Mk) (h : Addr), Pg K G0 H0 G H p ∧ Le G1 G ∧ H r = some (.lst (pV m h)) ∧ G r = none ∧ G h = some (.lst (msV m.ms)) ∧ Ok m
theorem ixN_nat {n k : Nat} (h : k < n) : ixN n (k : Int) = some k := by
  unfold ixN
  rw [if_pos (by omega), if_pos (by omega)]
  simp
theorem figs_more {l : List Nat} {c : Nat} (h : l = [] ∨ figs l = true) (hc : isFig c = true) (h0 : c ≠ 48) : figs (l ++ [c]) = true := by
  refine figs_snoc (fun x hx => ?_) hc h0
  rcases h with rfl | h
  · cases hx
  · exact (figs_all h).2.1 x hx
theorem mkr_more {k : List Nat} {c : Nat} (h : mkr k = true) (hc : isFig c = true) (h0 : c ≠ 48) : mkr (k ++ [c]) = true := by
  obtain ⟨a, r, rfl, ha, hr⟩ := mkr_cons h
  show (isLet a && figs (r ++ [c])) = true
  rw [ha, figs_more (.inr hr) hc h0]; rfl
theorem cut_hi {xs : List V} (k : Nat) : cutV xs none (some (k : Int)) = xs.take k := by
  unfold cutV
  rw [HT.sIx_none, HT.sIx_nat, List.drop_zero, Nat.sub_zero]
  rcases Nat.le_total k xs.length with h | h
  · rw [Nat.min_eq_left h]
  · rw [Nat.min_eq_right h, List.take_of_length_le (Nat.le_refl _), List.take_of_length_le h]
theorem cut_lo {xs : List V} (k : Nat) : cutV xs (some (k : Int)) none = xs.drop k := by
  unfold cutV
  rw [HT.sIx_none, HT.sIx_nat]
  rcases Nat.le_total k xs.length with h | h
  · rw [Nat.min_eq_left h, List.take_of_length_le (by rw [List.length_drop]; exact Nat.le_refl _)]
  · rw [Nat.min_eq_right h, Nat.sub_self, List.take_zero, List.drop_eq_nil_of_le h]
theorem cut_neg {xs : List V} (k : Nat) (h : 1 ≤ k) : cutV xs none (some (-(k : Int))) = xs.take (xs.length - k) := by
  unfold cutV
  have e : HT.sIx xs.length xs.length (some (-(k : Int))) = xs.length - k := by
    show (if (-(k : Int)) < 0 then ((-(k : Int)) + (xs.length : Int)).toNat else min (-(k : Int)).toNat xs.length) = _
    rw [if_pos (by omega)]
    omega
  rw [HT.sIx_none, e, List.drop_zero, Nat.sub_zero]
def spBeside (K : PySem.W.Frag) : Sp := fun vs H Q _ => ∃ (G : Hp) (p : Addr) (v : V) (m : Mk) (k : Nat), vs = [v, .int k, .ref p] ∧ Sb G H ∧ PoolAt G H p ∧ PtIn G v m ∧ Ok m ∧ Bd 100 m ∧ 2 ≤ k ∧ k ≤ 5 ∧ ∀ (G' H' : Hp) (u : V) (m' : Mk), GR K (S1 p) G H G' H' → PoolAt G' H' p → PtIn G' u m' → Ok m' → Q u H'
abbrev N__law_beside : List Str := ["_law_parts", "_law_at", "_law_pool_here", "_law_tail", "_law_way", "_law_fresh", "_law_row"]
theorem sc__law_beside : FnScope N__law_beside ["_law_parts", "_law_at", "_law_pool_here"] (defScope S__law_beside) := ⟨rfl, rfl, rfl, by decide +kernel, rfl, by decide +kernel, by decide +kernel⟩
theorem kn__law_beside (T : Tx K mg base) : Kn P w K mg base CX0 6 "_law_beside" ["_law_parts", "_law_at", "_law_pool_here"] (spBeside K) := by
  refine kn_of "_law_beside" T 63 51 S__law_beside rfl rfl sc__law_beside (fun vs H Q E h => by obtain ⟨_, _, _, _, _, rfl, _⟩ := h; rfl) (fun _ _ _ _ _ _ us hl => match us, hl with | [_, _, _], _ => rfl) (fun cdv A outer s H vs Q E hr h => ⟨_, PSs.nox (pss_cons (ps_set (i := 3) sc__law_beside.nd rfl (Or.inl rfl) (pe_fn (kn__law_take T) (hr.mono (by decide)) (pa_cons (pv 2) (pa_cons pe_int pa_nil))))
    (pss_cons (ps_set (i := 4) sc__law_beside.nd rfl (Or.inl rfl) (pe_fn (kn__law_take T) (hr.mono (by decide)) (pa_cons (pv 2) (pa_cons pe_int pa_nil))))
    (pss_cons (ps_set (i := 5) sc__law_beside.nd rfl (Or.inl rfl) (pe_fn (kn__law_small T) (hr.mono (by decide)) (pa_cons (pv 2) pa_nil)))
    (pss_cons (ps_set (i := 6) sc__law_beside.nd rfl (Or.inl rfl) (pe_lst (pa_cons (pe_ix ix_list (pv 0) pe_int (fun _ _ => rfl)) (pa_cons (pe_ix ix_list (pv 0) pe_int (fun _ _ => rfl)) (pa_cons (pe_ix ix_list (pv 0) pe_int (fun _ _ => rfl)) (pa_cons (pe_callTy call_list_of (by rfl) T.f_list (by decide +kernel) (pa_cons (pe_ix ix_list (pv 0) pe_int (fun _ _ => rfl)) pa_nil)) (pa_cons (pe_ix ix_list (pv 0) pe_int (fun _ _ => rfl)) (pa_cons (pe_ix ix_list (pv 0) pe_int (fun _ _ => rfl)) pa_nil))))))))
    (pss_cons (ps_asg (pe_ix ix_list (pv 5) (pv 1) (fun _ _ => rfl)) (pg_sub (pv 6) (pv 1) set_list))
    (Evl.pss_cut (ps_if (PW.pt (pw_and (pt_cmpR op_gt (pv 4) pe_int (nomark _)) (pw_and1 (pt_cmpR op_eq (pv 1) pe_int (nomark _))))) (pss_one (ps_asg (pe_op op_add_str (pe_ix ix_list (pv 0) pe_int (fun _ _ => rfl)) (pe_ix ix_str pe_str (pe_fn (kn__law_take T) (hr.mono (by decide)) (pa_cons (pv 2) (pa_cons pe_int pa_nil))) (fun _ _ => rfl))) (pg_sub (pv 6) pe_int set_list))) pss_nil)
    (Evl.pss_cut (ps_if (PW.pt (pw_and (pt_cmpR op_gt (pv 4) pe_int (nomark _)) (pw_and1 (pt_cmpR op_eq (pv 1) pe_int (nomark _))))) (pss_one (ps_asg (pe_slice sl_list (pe_op op_cat (pe_ix ix_list (pv 0) pe_int (fun _ _ => rfl)) (pe_ix ix_list (pv 5) pe_int (fun _ _ => rfl))) po_none (po_some pe_int)) (pg_sub (pv 6) pe_int set_list))) pss_nil)
    (Evl.pss_cut (ps_if (PW.pt (pw_and (pt_cmpR op_eq (pv 4) pe_int (nomark _)) (pw_and (pt_cmpR op_eq (pv 1) pe_int (nomark _)) (pw_and1 (pt_cmpR (op_neNil hr) (pe_ix ix_list (pv 0) pe_int (fun _ _ => rfl)) (pe_lst pa_nil) (nomark _)))))) (pss_one (ps_asg (pe_op op_cat (pe_slice sl_list (pe_ix ix_list (pv 0) pe_int (fun _ _ => rfl)) po_none (po_some (pe_un un_neg pe_int))) (pe_lst (pa_cons (pe_op op_add_str (pe_ix ix_list (pe_ix ix_list (pv 0) pe_int (fun _ _ => rfl)) (pe_un un_neg pe_int) (fun _ _ => rfl)) (pe_ix ix_str pe_str (pe_fn (kn__law_take T) (hr.mono (by decide)) (pa_cons (pv 2) (pa_cons pe_int pa_nil))) (fun _ _ => rfl))) pa_nil))) (pg_sub (pv 6) pe_int set_list))) pss_nil)
    (pss_one (ps_ret (pe_op op_cat (pe_slice sl_list (pv 6) po_none (po_some (pe_op op_add (pv 1) pe_int))) (pe_slice sl_list (pe_ix ix_list (pe_lst (pa_cons (pv 6) (pa_cons (pv 5) pa_nil))) (pv 3) (fun _ _ => rfl)) (po_some (pe_op op_add (pv 1) pe_int)) po_none)))))))))))), ?_⟩)
  obtain ⟨G, p, v, m, k, rfl, sb, hp, ⟨a, hl, rfl, ha, hh⟩, ok, bd, k2, k5, q⟩ := h
  have s0 : Pg K G H G H p := .start sb hp
  obtain ⟨n0, e0, k0⟩ := s0.take
  refine ⟨_, rfl, p, n0, _, rfl, e0, by decide, by decide, fun tail n1 htail => ?_⟩
  have s1 := k0 n1
  obtain ⟨n2, e2, t2⟩ := s1.take
  refine ⟨_, rfl, p, n2, _, rfl, e2, by decide, by decide, fun way n3 hway => ?_⟩
  have s2 := t2 n3
  refine ⟨_, rfl, G, p, rfl, s2.g.sb, s2.pool, fun G1 H1 u f g1 hp1 ⟨fa, hf, eu, hfa, hfh⟩ of bf => ?_⟩
  subst eu
  have s3 := s2.call g1 hp1
  clear k0 t2 s1 s2 e0 e2
  have ha1 := (s3.g.sb _ _ (s3.g.gg _ _ ha)).1
  have hs := SqL.of (K := K) ha1
  have rd : ∀ {i : Nat} {x : V}, (pV m hl)[i]? = some x → atI (pV m hl) (i : Int) = some x := fun h => atI_nat h
  refine ⟨_, rfl, _, _, _, _, rfl, rfl, hs, rd (i := 0) rfl, _, rfl, _, _, _, _, rfl, rfl, hs, rd (i := 1) rfl, _, rfl, _, _, _, _, rfl, rfl, hs, rd (i := 2) rfl, _, rfl, _, _, _, _, rfl, rfl, hs, rd (i := 3) rfl, hl, _, rfl, .inl (SqL.of (s3.g.sb _ _ (s3.g.gg _ _ hh)).1), fun h hn => ?_⟩
  have s4 := s3.newF hn (o := .lst (msV m.ms)) trivial
  have le4 : Le G1 (upd G1 h (.lst (msV m.ms))) := Le.up (s3.g.sb.no hn)
  have ha2 := (s4.g.sb _ _ (s4.g.gg _ _ ha)).1
  have hs2 := SqL.of (K := K) ha2
  refine ⟨_, rfl, _, _, _, _, rfl, rfl, hs2, rd (i := 4) rfl, _, rfl, _, _, _, _, rfl, rfl, hs2, rd (i := 5) rfl, size_of (n := 6) (by decide), fun r hr0 => ?_⟩
  have s5 := s4.new hr0 (o := .lst (pV m h))
  have hrp : r ≠ p := s4.np hr0
  have nwr : Nw H r := s4.g.nw (.of hr0)
  have gr4 := s4.g.sb.no hr0
  have hfa5 : upd (upd H1 h (.lst (msV m.ms))) r (.lst (pV m h)) fa = some (.lst (pV f hf)) := (s5.g.sb _ _ (le4 _ _ hfa)).1
  obtain ⟨x, m1, h1, hx, hset, ok1, hms, h13⟩ := mix_set ok of k2 k5 h hf
  refine ⟨_, rfl, _, rfl, _, _, _, x, rfl, rfl, SqL.of hfa5, atI_nat hx, _, rfl, _, rfl, r, _, _, k, rfl, rfl, upd_same, ?_, ?_⟩
  · exact ixN_nat (show k < 6 by omega)
  rw [show (pV m h).set k x = pV m1 h1 from hset]
  have s6 := s5.wr (o' := .lst (pV m1 h1)) nwr gr4 upd_same trivial hrp
  have gh1 : upd G1 h (.lst (msV m.ms)) h1 = some (.lst (msV m1.ms)) := by
    rcases hms with ⟨rfl, e⟩ | ⟨rfl, e⟩
    · rw [e]; exact upd_same
    · rw [e]; exact le4 _ _ hfh
  have b1 : Bs K G H G1 _ p r := ⟨_, m1, h1, s6, le4, upd_same, gr4, gh1, ok1⟩
  clear s4 s5 s6 gh1 hset hms h13 hfa5 hs2 ha2
  generalize upd (upd (upd H1 h (.lst (msV m.ms))) r (.lst (pV m h))) r (.lst (pV m1 h1)) = H3 at b1 ⊢
  have ga1 := s3.g.gg _ _ ha
  have gh1 := s3.g.gg _ _ hh
  refine ⟨fun σ H' => σ = [some (.ref a), some (.int k), some (.ref p), some (.int tail), some (.int way), some (.ref fa), some (.ref r)] ∧ Bs K G H G1 H' p r, ?_, ?_⟩
  · refine ⟨_, rfl, _, _, rfl, rfl, _, rfl, ifC (fun _ => ⟨_, rfl, rfl, _, rfl, ifC (fun _ => ?_) fun _ => ⟨rfl, b1⟩⟩) fun _ => ?_⟩
    · obtain ⟨G2, m2, h2, t2, l2, r2, g2, gh2, ok2⟩ := b1
      have ha3 := (t2.g.sb _ _ (l2 _ _ ga1)).1
      obtain ⟨n4, e4, k4⟩ := t2.take
      refine ⟨_, rfl, _, _, _, _, rfl, rfl, SqL.of ha3, rd (i := 2) rfl, _, rfl, p, n4, _, rfl, e4, by decide, by decide, fun r4 n5 hr4 => ?_⟩
      have t4 := k4 n5
      obtain ⟨c, hc, hcf, hc0⟩ := lit_nz hr4
      have r4' : upd H3 p (.lst [.int n5]) r = some (.lst (pV m2 h2)) := by rw [upd_ne hrp]; exact r2
      refine ⟨_, _, c, rfl, rfl, lit_len, hc, _, _, rfl, rfl, ?_, _, rfl, r, _, _, 2, rfl, rfl, r4', rfl, rfl, ?_⟩
      · have := bd.p
        rw [S_len]
        show _ + 1 ≤ _
        exact size_of (by omega)
      · rw [sV_snoc]
        exact ⟨G2, { m2 with p := m.p ++ [c] }, h2, t4.wr nwr g2 r4' trivial hrp, l2, upd_same, g2, gh2, ok2.mkP (.inr (figs_more ok.pt hcf hc0)) (by have := bd.p; simp; omega)⟩
    · exact iteF ⟨rfl, b1⟩
  clear b1
  rintro σ H2 ⟨rfl, b1⟩
  refine ⟨fun σ H' => σ = [some (.ref a), some (.int k), some (.ref p), some (.int tail), some (.int way), some (.ref fa), some (.ref r)] ∧ Bs K G H G1 H' p r, ?_, ?_⟩
  · refine ⟨_, rfl, _, _, rfl, rfl, _, rfl, ifC (fun _ => ⟨_, rfl, rfl, _, rfl, ifC (fun _ => ?_) fun _ => ⟨rfl, b1⟩⟩) fun _ => ?_⟩
    · obtain ⟨G2, m2, h2, t2, l2, r2, g2, gh2, ok2⟩ := b1
      have ha3 := (t2.g.sb _ _ (l2 _ _ ga1)).1
      have hh3 := (t2.g.sb _ _ (l2 _ _ gh1)).1
      have fa3 := (t2.g.sb _ _ (l2 _ _ hfa)).1
      have fh3 := (t2.g.sb _ _ (l2 _ _ hfh)).1
      refine ⟨_, rfl, _, _, _, _, rfl, rfl, SqL.of ha3, rd (i := 3) rfl, _, rfl, _, _, _, .ref hf, rfl, rfl, SqL.of fa3, atI_nat (j := 3) rfl, hl, hf, _, _, rfl, rfl, hh3, fh3, ?_, fun d hd => ?_⟩
      · simp only [msV, List.length_map]
        have := ok.m3
        have := of.m3
        exact size_of (by omega)
      have t3 := t2.new hd (o := .lst (msV m.ms ++ msV f.ms))
      refine ⟨_, rfl, d, _, rfl, SqL.of upd_same, fun d2 hd2 => ?_⟩
      rw [show cutV (msV m.ms ++ msV f.ms) none (some 3) = msV ((m.ms ++ f.ms).take 3) by rw [show (some (3 : Int)) = some ((3 : Nat) : Int) from rfl, cut_hi]; simp [msV]]
      have t4 := t3.newF hd2 (o := .lst (msV ((m.ms ++ f.ms).take 3))) trivial
      have hrd : r ≠ d := ne_of_none r2 hd
      have r3 : upd H2 d (.lst (msV m.ms ++ msV f.ms)) r = some (.lst (pV m2 h2)) := by rw [upd_ne hrd]; exact r2
      have hrd2 : r ≠ d2 := ne_of_none r3 hd2
      have r4 : upd (upd H2 d (.lst (msV m.ms ++ msV f.ms))) d2 (.lst (msV ((m.ms ++ f.ms).take 3))) r = some (.lst (pV m2 h2)) := by rw [upd_ne hrd2]; exact r3
      have gr5 : upd G2 d2 (.lst (msV ((m.ms ++ f.ms).take 3))) r = none := by rw [upd_ne hrd2]; exact g2
      refine ⟨_, rfl, r, _, _, 3, rfl, rfl, r4, rfl, rfl, ?_⟩
      have om : ∀ k ∈ (m.ms ++ f.ms).take 3, k ∈ m.ms ∨ k ∈ f.ms := fun k hk => List.mem_append.mp (List.mem_of_mem_take hk)
      exact ⟨_, { m2 with ms := (m.ms ++ f.ms).take 3 }, d2, t4.wr nwr gr5 r4 trivial hrp, l2.trans (Le.up (t3.g.sb.no hd2)), upd_same, gr5, upd_same, ok2.mkM (fun k hk => (om k hk).elim (ok.mo k) (of.mo k)) (fun k hk => (om k hk).elim (ok.mz k) (of.mz k)) (List.length_take_le _ _)⟩
    · exact iteF ⟨rfl, b1⟩
  clear b1
  rintro σ H4 ⟨rfl, b1⟩
  refine ⟨fun σ H' => σ = [some (.ref a), some (.int k), some (.ref p), some (.int tail), some (.int way), some (.ref fa), some (.ref r)] ∧ Bs K G H G1 H' p r, ?_, ?_⟩
  · refine ⟨_, rfl, rfl, _, rfl, ifC (fun _ => ⟨_, rfl, rfl, _, rfl, ifC (fun _ => ?_) fun _ => ⟨rfl, b1⟩⟩) fun _ => ?_⟩
    · obtain ⟨G2, m2, h2, t2, l2, r2, g2, gh2, ok2⟩ := b1
      have ha3 := (t2.g.sb _ _ (l2 _ _ ga1)).1
      have hh3 := (t2.g.sb _ _ (l2 _ _ gh1)).1
      refine ⟨_, rfl, _, _, _, _, rfl, rfl, SqL.of ha3, rd (i := 3) rfl, size_of (n := 0) (by decide), fun d hd => ?_⟩
      have t3 := t2.new hd (o := .lst [])
      have hh4 := (t3.g.sb _ _ (l2 _ _ gh1)).1
      refine ⟨hl, d, msV m.ms, rfl, rfl, SqL.of hh4, SqL.of upd_same, _, rfl, ?_⟩
      rcases List.eq_nil_or_concat m.ms with e0 | ⟨ini, la, e0⟩
      · rw [show (msV m.ms).isEmpty = true by rw [e0]; rfl]
        have t3' : Bs K G H G1 _ p r := ⟨G2, m2, h2, t3, l2, by rw [upd_ne (ne_of_none r2 hd)]; exact r2, g2, gh2, ok2⟩
        exact ⟨rfl, t3'⟩
      · rw [List.concat_eq_append] at e0
        rw [show (msV m.ms).isEmpty = false by rw [e0]; simp [msV]]
        have hla : mkr la = true := ok.mo la (by rw [e0]; simp)
        have hlz : la.length ≤ 100 := bd.k la (by rw [e0]; simp)
        have ha4 := (t3.g.sb _ _ (l2 _ _ ga1)).1
        have r3 : upd H4 d (.lst []) r = some (.lst (pV m2 h2)) := by rw [upd_ne (ne_of_none r2 hd)]; exact r2
        refine ⟨_, rfl, _, _, _, _, rfl, rfl, SqL.of ha4, rd (i := 3) rfl, _, rfl, _, rfl, hl, _, rfl, SqL.of hh4, fun d2 hd2 => ?_⟩
        have t4 := t3.new hd2 (o := .lst (msV ini))
        have ecut : cutV (msV m.ms) none (some (-1)) = msV ini := by
          rw [show (some (-1 : Int)) = some (-((1 : Nat) : Int)) from rfl, cut_neg 1 (by decide), e0]
          simp [msV]
        rw [ecut]
        have ha5 := (t4.g.sb _ _ (l2 _ _ ga1)).1
        have hh5 := (t4.g.sb _ _ (l2 _ _ gh1)).1
        have hlast : atI (msV m.ms) (-1) = some (sV la) := last_atV (by rw [e0]; simp [msV])
        obtain ⟨n6, e6, k6⟩ := t4.take
        have r5 : upd (upd H4 d (.lst [])) d2 (.lst (msV ini)) r = some (.lst (pV m2 h2)) := by rw [upd_ne (ne_of_none r3 hd2)]; exact r3
        refine ⟨_, rfl, _, _, _, .ref hl, rfl, rfl, SqL.of ha5, rd (i := 3) rfl, _, rfl, hl, _, _, sV la, rfl, rfl, SqL.of hh5, hlast, _, rfl, p, n6, _, rfl, e6, by decide, by decide, fun r6 n7 hr6 => ?_⟩
        have t5 := k6 n7
        obtain ⟨c, hc, hcf, hc0⟩ := lit_nz hr6
        have hd2p : d2 ≠ p := t3.np hd2
        have d2k : upd (upd (upd H4 d (.lst [])) d2 (.lst (msV ini))) p (.lst [.int n7]) d2 = some (.lst (msV ini)) := by rw [upd_ne hd2p]; exact upd_same
        have r6' : upd (upd (upd H4 d (.lst [])) d2 (.lst (msV ini))) p (.lst [.int n7]) r = some (.lst (pV m2 h2)) := by rw [upd_ne hrp]; exact r5
        generalize upd (upd (upd H4 d (.lst [])) d2 (.lst (msV ini))) p (.lst [.int n7]) = H6 at t5 d2k r6' ⊢
        refine ⟨_, _, c, rfl, rfl, lit_len, hc, _, _, rfl, rfl, ?_, size_of (n := 1) (by decide), fun d3 hd3 => ?_⟩
        · rw [S_len]
          show _ + 1 ≤ _
          exact size_of (by omega)
        rw [sV_snoc]
        have t6 := t5.new hd3 (o := .lst [sV (la ++ [c])])
        have d2k3 : upd H6 d3 (.lst [sV (la ++ [c])]) d2 = some (.lst (msV ini)) := by rw [upd_ne (ne_of_none d2k hd3)]; exact d2k
        have r7 : upd H6 d3 (.lst [sV (la ++ [c])]) r = some (.lst (pV m2 h2)) := by rw [upd_ne (ne_of_none r6' hd3)]; exact r6'
        refine ⟨d2, d3, msV ini, [sV (la ++ [c])], rfl, rfl, d2k3, upd_same, ?_, fun d4 hd4 => ?_⟩
        · have := ok.m3
          rw [e0] at this
          simp at this
          simp [msV]
          exact size_of (by omega)
        have t7 := t6.newF hd4 (o := .lst (msV (ini ++ [la ++ [c]]))) trivial
        rw [show msV ini ++ [sV (la ++ [c])] = msV (ini ++ [la ++ [c]]) by simp [msV]]
        have r8 : upd (upd H6 d3 (.lst [sV (la ++ [c])])) d4 (.lst (msV (ini ++ [la ++ [c]]))) r = some (.lst (pV m2 h2)) := by rw [upd_ne (ne_of_none r7 hd4)]; exact r7
        have gr8 : upd G2 d4 (.lst (msV (ini ++ [la ++ [c]]))) r = none := by rw [upd_ne (ne_of_none r7 hd4)]; exact g2
        refine ⟨_, rfl, r, _, _, 3, rfl, rfl, r8, rfl, rfl, ?_⟩
        have om : ∀ k ∈ ini ++ [la ++ [c]], k ∈ m.ms ∨ k = la ++ [c] := fun k hk => by
          rcases List.mem_append.mp hk with z | z
          · exact .inl (by rw [e0]; exact List.mem_append_left _ z)
          · exact .inr (List.mem_singleton.mp z)
        refine ⟨_, { m2 with ms := ini ++ [la ++ [c]] }, d4, t7.wr nwr gr8 r8 trivial hrp, l2.trans (Le.up (t6.g.sb.no hd4)), upd_same, gr8, upd_same, ok2.mkM (fun k hk => ?_) (fun k hk => ?_) ?_⟩
        · rcases om k hk with z | rfl
          · exact ok.mo k z
          · exact mkr_more hla hcf hc0
        · rcases om k hk with z | rfl
          · exact ok.mz k z
          · simp; omega
        · have := ok.m3
          rw [e0] at this
          simpa using this
    · exact iteF ⟨rfl, b1⟩
  clear b1
  rintro σ H5 ⟨rfl, b1⟩
  obtain ⟨G2, m2, h2, t2, l2, r2, g2, gh2, ok2⟩ := b1
  have fa2 := (t2.g.sb _ _ (l2 _ _ hfa)).1
  have hrfa : r ≠ fa := fun e => by rw [e, l2 _ _ hfa] at g2; cases g2
  refine ⟨_, rfl, _, rfl, _, _, rfl, rfl, _, rfl, r, _, rfl, SqL.of r2, fun d hd => ?_⟩
  rw [show (some ((k : Int) + 1)) = some ((k + 1 : Nat) : Int) by simp, cut_hi]
  have t3 := t2.new hd (o := .lst ((pV m2 h2).take (k + 1)))
  have rr3 : upd H5 d (.lst ((pV m2 h2).take (k + 1))) r = some (.lst (pV m2 h2)) := by rw [upd_ne (ne_of_none r2 hd)]; exact r2
  have fa3 : upd H5 d (.lst ((pV m2 h2).take (k + 1))) fa = some (.lst (pV f hf)) := by rw [upd_ne (ne_of_none fa2 hd)]; exact fa2
  have d3 : upd H5 d (.lst ((pV m2 h2).take (k + 1))) d = some (.lst ((pV m2 h2).take (k + 1))) := upd_same
  generalize upd H5 d (.lst ((pV m2 h2).take (k + 1))) = H6 at t3 rr3 fa3 d3 ⊢
  refine ⟨_, rfl, _, rfl, size_of (n := 2) (by decide), fun e he => ?_⟩
  have t4 := t3.new he (o := .lst [.ref r, .ref fa])
  have rr4 : upd H6 e (.lst [.ref r, .ref fa]) r = some (.lst (pV m2 h2)) := by rw [upd_ne (ne_of_none rr3 he)]; exact rr3
  have fa4 : upd H6 e (.lst [.ref r, .ref fa]) fa = some (.lst (pV f hf)) := by rw [upd_ne (ne_of_none fa3 he)]; exact fa3
  have d4 : upd H6 e (.lst [.ref r, .ref fa]) d = some (.lst ((pV m2 h2).take (k + 1))) := by rw [upd_ne (ne_of_none d3 he)]; exact d3
  obtain ⟨xa, mx, hx, e1, e2, okx, ghx⟩ : ∃ (xa : Addr) (mx : Mk) (hx : Addr), atI [V.ref r, V.ref fa] (tail : Int) = some (.ref xa) ∧ upd H6 e (.lst [.ref r, .ref fa]) xa = some (.lst (pV mx hx)) ∧ Ok mx ∧ G2 hx = some (.lst (msV mx.ms)) := by
    have ht : tail < 2 := htail
    match tail, ht with
    | 0, _ => exact ⟨r, m2, h2, rfl, rr4, ok2, gh2⟩
    | 1, _ => exact ⟨fa, f, hf, rfl, fa4, of, l2 _ _ hfh⟩
  refine ⟨_, rfl, e, _, _, .ref xa, rfl, rfl, SqL.of upd_same, e1, _, rfl, _, _, rfl, rfl, _, rfl, xa, _, rfl, SqL.of e2, fun b hb => ?_⟩
  rw [show (some ((k : Int) + 1)) = some ((k + 1 : Nat) : Int) by simp, cut_lo]
  have t5 := t4.new hb (o := .lst ((pV mx hx).drop (k + 1)))
  obtain ⟨m3, h3, ecat, ok3, hms⟩ := mix_cat ok2 okx k2 k5 h2 hx
  refine ⟨d, b, _, _, rfl, rfl, by rw [upd_ne (ne_of_none d4 hb)]; exact d4, upd_same, ?_, fun z hz => ?_⟩
  · rw [List.length_take, List.length_drop]
    show min _ 6 + (6 - _) ≤ _
    exact size_of (by omega)
  rw [ecat]
  have t6 := t5.newF hz (o := .lst (pV m3 h3)) trivial
  refine q _ _ _ m3 t6.g t6.pool ⟨z, h3, rfl, upd_same, ?_⟩ ok3
  have gh3 : G2 h3 = some (.lst (msV m3.ms)) := by
    rcases hms with ⟨rfl, e⟩ | ⟨rfl, e⟩
    · rw [e]; exact gh2
    · rw [e]; exact ghx
  exact Le.up (t5.g.sb.no hz) _ _ gh3
end
end K42
set_option Elab.async false
set_option linter.all false
set_option maxRecDepth 100000
set_option maxHeartbeats 4000000
namespace K42
open PySem PySem.Spec PyProof.Rows L2
section
variable {K : PySem.W.Frag}
def oD : Option Nat → PyData
  | none => .none
  | some n => .int (n : Int)
def partsD (m : Mk) : PyData := .list [.str (S m.l), .int m.n, .str (S m.p), .list (msD m.ms), oD m.y, oD m.c]
theorem oD_dp {H : Hp} (o : Option Nat) : Dp K H (oV o) (oD o) := by
  cases o with
  | none => exact .non
  | some n => exact .int _
theorem ms_dp {H : Hp} : ∀ ms : List (List Nat), DpAll K H (msV ms) (msD ms)
  | [] => .nil
  | _ :: ms => .cons (.str _) (ms_dp ms)
theorem PtIn.dp {H : Hp} {v : V} {m : Mk} (h : PtIn H v m) : Dp K H v (partsD m) := by
  obtain ⟨a, b, rfl, h1, h2⟩ := h
  exact .lst (SqL.of h1) (.cons (.str _) (.cons (.int _) (.cons (.str _) (.cons (.lst (SqL.of h2) (ms_dp m.ms)) (.cons (oD_dp m.y) (.cons (oD_dp m.c) .nil))))))
theorem pts_dp {H : Hp} : ∀ {xs : List V} {ms : List Mk}, Paired (PtIn H) xs ms → DpAll K H xs (ms.map partsD)
  | _, _, .nil => .nil
  | _, _, .cons h t => .cons h.dp (pts_dp t)
theorem oD_eqv (a b : Option Nat) : PyData.eqv (oD a) (oD b) = decide (a = b) := by
  cases a with
  | none => cases b <;> rfl
  | some x =>
    cases b with
    | none => rfl
    | some y =>
      show ((x : Int) == (y : Int)) = _
      by_cases h : x = y
      · subst h; simp
      · rw [decide_eq_false (by simpa using h)]
        exact beq_eq_false_iff_ne.mpr fun e => h (by omega)
theorem msD_eqv : ∀ a b : List (List Nat), PyData.eqvAll (msD a) (msD b) = decide (a = b)
  | [], [] => rfl
  | [], _ :: _ => rfl
  | _ :: _, [] => rfl
  | x :: a, y :: b => by
    show ((S x == S y) && PyData.eqvAll (msD a) (msD b)) = _
    rw [msD_eqv a b]
    by_cases h : x = y
    · subst h
      simp
    · have : (S x == S y) = false := by
        simpa using fun e => h (S_inj e)
      rw [this]
      simp [h]
theorem parts_eqv (a b : Mk) : PyData.eqv (partsD a) (partsD b) = decide (a = b) := by
  obtain ⟨l, n, p, ms, y, c⟩ := a
  obtain ⟨l', n', p', ms', y', c'⟩ := b
  show ((S l == S l') && (((n : Int) == (n' : Int)) && ((S p == S p') && (PyData.eqvAll (msD ms) (msD ms') && (PyData.eqv (oD y) (oD y') && (PyData.eqv (oD c) (oD c') && true)))))) = _
  rw [msD_eqv, oD_eqv, oD_eqv]
  have e1 : ∀ a b : List Nat, (S a == S b) = decide (a = b) := fun a b => by
    by_cases h : a = b
    · subst h; simp
    · rw [decide_eq_false h]
      simpa using fun e => h (S_inj e)
  have e2 : ((n : Int) == (n' : Int)) = decide (n = n') := by
    by_cases h : n = n'
    · subst h; simp
    · rw [decide_eq_false h]
      exact beq_eq_false_iff_ne.mpr fun e => h (by omega)
  rw [e1, e1, e2]
  simp only [Bool.and_true, ← Bool.decide_and]
  refine decide_eq_decide.mpr ?_
  simp [Mk.mk.injEq]
/-- what == may be asked of -/
theorem strOk_S {l : List Nat} (h : ∀ c ∈ l, c < 1000) : PyData.strOk (S l) = true := by
  unfold PyData.strOk
  rw [Array.all_eq_true]
  intro i hi
  have : (S l).cps[i] ∈ l := by
    have := Array.getElem_mem hi
    exact Array.mem_def.mp this
  have := h _ this
  exact decide_eq_true (by omega)
theorem let_low {c : Nat} (h : isLet c = true) : c < 1000 := by
  simp only [isLet, Bool.and_eq_true, decide_eq_true_eq] at h
  omega
theorem fig_low {c : Nat} (h : isFig c = true) : c < 1000 := by
  simp only [isFig, Bool.and_eq_true, decide_eq_true_eq] at h
  omega
theorem figs_low {l : List Nat} (h : l = [] ∨ figs l = true) : ∀ c ∈ l, c < 1000 := by
  rcases h with rfl | h
  · intro c hc; cases hc
  · exact fun c hc => fig_low ((figs_all h).2.1 c hc)
theorem mkr_low {l : List Nat} (h : mkr l = true) : ∀ c ∈ l, c < 1000 := by
  obtain ⟨a, r, rfl, ha, hr⟩ := mkr_cons h
  intro c hc
  rcases List.mem_cons.mp hc with rfl | z
  · exact let_low ha
  · exact figs_low (.inr hr) c z
theorem lay_ms {ms : List (List Nat)} (h : ∀ k ∈ ms, mkr k = true) : PyData.canLayAll0 (msD ms) = true := by
  induction ms with
  | nil => rfl
  | cons k r ih =>
    show (PyData.strOk (S k) && PyData.canLayAll0 (msD r)) = true
    rw [strOk_S (mkr_low (h k (.head _))), ih fun x hx => h x (.tail _ hx)]
    rfl
theorem oD_lay (o : Option Nat) : PyData.canLay0 (oD o) = true := by cases o <;> rfl
theorem key_lay {m : Mk} (o : Ok m) : PyData.canLay0 (keyD m) = true := by
  show (PyData.strOk (S m.l) && (true && (PyData.strOk (S m.p) && (PyData.canLayAll0 (msD m.ms) && (true && (true && true)))))) = true
  rw [strOk_S fun c hc => let_low (o.la c hc), strOk_S (figs_low o.pt), lay_ms o.mo]
  rfl
theorem parts_lay {m : Mk} (o : Ok m) : PyData.canLay0 (partsD m) = true := by
  show (PyData.strOk (S m.l) && (true && (PyData.strOk (S m.p) && (PyData.canLayAll0 (msD m.ms) && (PyData.canLay0 (oD m.y) && (PyData.canLay0 (oD m.c) && true)))))) = true
  rw [strOk_S fun c hc => let_low (o.la c hc), strOk_S (figs_low o.pt), lay_ms o.mo, oD_lay, oD_lay]
  rfl
theorem ms_depth (ms : List (List Nat)) : PyData.depthAll (msD ms) = 0 := by
  induction ms with
  | nil => rfl
  | cons k r ih =>
    show max 0 (PyData.depthAll (msD r)) = 0
    rw [ih]; rfl
theorem oD_depth (o : Option Nat) : PyData.depth (oD o) = 0 := by cases o <;> rfl
theorem parts_depth (m : Mk) : (partsD m).depth = 2 := by
  show max 0 (max 0 (max 0 (max (PyData.depthAll (msD m.ms) + 1) (max (PyData.depth (oD m.y)) (max (PyData.depth (oD m.c)) 0))))) + 1 = 2
  rw [ms_depth, oD_depth, oD_depth]; rfl
theorem key_depth2 (m : Mk) : (keyD m).depth = 2 := by
  show max 0 (max 0 (max 0 (max (PyData.depthAll (msD m.ms) + 1) (max 0 (max 0 0))))) + 1 = 2
  rw [ms_depth]; rfl
theorem parts_shaped {m : Mk} (o : Ok m) : SeqAt.shaped (partsD m) = true := by
  unfold SeqAt.shaped
  rw [parts_lay o, parts_depth]; rfl
theorem key_shaped {m : Mk} (o : Ok m) : SeqAt.shaped (keyD m) = true := by
  unfold SeqAt.shaped
  rw [key_lay o, key_depth2]; rfl
/-- a shelf of parts as data -/
def shelfD (ms : List Mk) : PyData := .list (ms.map partsD)
theorem shelf_shaped {ms : List Mk} (o : ∀ m ∈ ms, Ok m) : SeqAt.shaped (shelfD ms) = true := by
  have h1 : PyData.canLayAll0 (ms.map partsD) = true := by
    induction ms with
    | nil => rfl
    | cons m r ih =>
      show (PyData.canLay0 (partsD m) && PyData.canLayAll0 (r.map partsD)) = true
      rw [parts_lay (o m (.head _)), ih fun x hx => o x (.tail _ hx)]; rfl
  have h2 : PyData.depthAll (ms.map partsD) ≤ 2 := by
    clear h1 o
    induction ms with
    | nil => decide
    | cons m r ih =>
      show max (PyData.depth (partsD m)) (PyData.depthAll (r.map partsD)) ≤ 2
      rw [parts_depth]
      omega
  unfold SeqAt.shaped
  have e : (shelfD ms).depth = PyData.depthAll (ms.map partsD) + 1 := rfl
  rw [show PyData.canLay0 (shelfD ms) = PyData.canLayAll0 (ms.map partsD) from rfl, h1, e]
  exact decide_eq_true (by omega)
theorem shelf_has (ms : List Mk) (m : Mk) : ((ms.map partsD).any fun z => PyData.eqv z (partsD m)) = decide (m ∈ ms) := by
  induction ms with
  | nil => rfl
  | cons a r ih =>
    rw [List.map_cons, List.any_cons, ih, parts_eqv]
    by_cases h : a = m
    · subst h; simp
    · simp [h, Ne.symm h]
theorem shelf_eqv (a b : List Mk) : PyData.eqv (shelfD a) (shelfD b) = decide (a = b) := by
  show PyData.eqvAll (a.map partsD) (b.map partsD) = _
  induction a generalizing b with
  | nil => cases b <;> rfl
  | cons x a ih =>
    cases b with
    | nil => rfl
    | cons y b =>
      show (PyData.eqv (partsD x) (partsD y) && PyData.eqvAll (a.map partsD) (b.map partsD)) = _
      rw [parts_eqv, ih]
      by_cases h : x = y
      · subst h; simp
      · simp [h]
end
end K42
set_option Elab.async false
set_option linter.all false
set_option maxRecDepth 100000
set_option maxHeartbeats 4000000
namespace K42
open PySem PySem.Spec PyProof.Rows L2
section
variable {P : Program} {w : World} {K : PySem.W.Frag} {mg : Str → Option Value} {base : Heap}
theorem glue_mem : ∀ {ws : List (List Nat)} {k : List Nat}, k ∈ ws → k.length ≤ (glue ws).length
  | w :: ws, k, h => by
    rw [glue_cons, List.length_cons, List.length_append]
    rcases List.mem_cons.mp h with rfl | h
    · omega
    · have := glue_mem h
      omega
theorem Bd.of_text {m : Mk} {b : Nat} (h : (text m).length ≤ b) : Bd b m := by
  have e : (text m).length = m.l.length + ((TL.numL m.n).length + ((pts m.p).length + (glue (wordsOf m)).length)) := by
    unfold text
    simp only [List.length_append]
  refine ⟨?_, fun k hk => ?_⟩
  · have : m.p.length ≤ (pts m.p).length := by
      unfold pts
      split
      · rename_i h; rw [h]; exact Nat.le_refl _
      · rw [List.length_cons]; omega
    omega
  · have := glue_mem (show k ∈ wordsOf m from List.mem_append_left _ (List.mem_append_left _ hk))
    omega
theorem Bd.le {m : Mk} {b c : Nat} (h : Bd b m) (l : b ≤ c) : Bd c m := ⟨Nat.le_trans h.p l, fun k hk => Nat.le_trans (h.k k hk) l⟩
/-- a frozen shelf -/
def ShelfAt (G : Hp) (v : V) (ms : List Mk) : Prop := ∃ a xs, v = .ref a ∧ G a = some (.lst xs) ∧ Paired (PtIn G) xs ms
theorem ShelfAt.mono {G G' : Hp} {v : V} {ms : List Mk} (h : ShelfAt G v ms) (l : Le G G') : ShelfAt G' v ms := by
  obtain ⟨a, xs, rfl, h1, h2⟩ := h
  exact ⟨a, xs, rfl, l _ _ h1, pair_imp h2 fun _ _ z => z.mono l⟩
theorem sqL_gr {S : Addr → Prop} {G H G' H' : Hp} {a : Addr} {xs : List V} (h : SqL K H a xs) (g : GR K S G H G' H') (n : ¬ S a) : SqL K H' a xs :=
  h.elim (fun h => .inl (h.elim (fun h => .inl (g.hh a _ n h (fun _ e => nomatch e))) fun ⟨o, h⟩ => .inr ⟨o, g.hh a _ n h (fun _ e => nomatch e)⟩)) fun h => .inr h
/-- the key of parts -/
theorem key_new {S : Addr → Prop} {G0 H0 G H : Hp} {m : Mk} {t p : Addr} (g : GR K S G0 H0 G H) (ht : H t = none) (hp : upd H t (.tup (msV m.ms)) p = none) :
    ∃ G', GR K S G0 H0 G' (upd (upd H t (.tup (msV m.ms))) p (.tup [sV m.l, .int m.n, sV m.p, .ref t, .int (oi m.y), .int (oi m.c)])) ∧ Le G G' ∧ KeyAt G' (.ref p) m := by
  have g1 := g.new ht (o := .tup (msV m.ms)) trivial
  have l1 : Le G (upd G t (.tup (msV m.ms))) := Le.up (g.sb.no ht)
  have l2 := l1.trans (Le.up (o := .tup [sV m.l, .int m.n, sV m.p, .ref t, .int (oi m.y), .int (oi m.c)]) (g1.sb.no hp))
  exact ⟨_, g1.new hp trivial, l2, p, t, rfl, upd_same, Le.up (g1.sb.no hp) _ _ upd_same⟩
/-- what the shelf's rows are, so far -/
structure Rows (K : PySem.W.Frag) (G0 H0 G H : Hp) (d : Addr) (ms : List Mk) : Prop where
  g : GR K S0 G0 H0 G H
  gd : G d = none
  xs : ∃ xs, H d = some (.lst xs) ∧ Paired (PtIn G) xs ms
  ok : ∀ m ∈ ms, Ok m ∧ (text m).length ≤ 24
/-- each once -/
structure Ded (K : PySem.W.Frag) (G0 H0 G1 G H : Hp) (e : Addr) (ms : List Mk) (i : Nat) (zs : List V) (acc : List Mk) : Prop where
  g : GR K S0 G0 H0 G H
  le : Le G1 G
  ge : G e = none
  he : H e = some (.lst zs)
  pz : Paired (PtIn G) zs acc
  rise : Rise acc
  sub : ∀ x ∈ acc, x ∈ ms
  len : acc.length ≤ i
  last : acc.getLast? = ((kSort ms).take i).getLast?
theorem ded_rise {ms acc : List Mk} {i : Nat} {m : Mk} (ho : ∀ x ∈ ms, Ok x) (hm : (kSort ms)[i]? = some m) (r : Rise acc) (hs : ∀ x ∈ acc, x ∈ ms) (hl : acc.getLast? = ((kSort ms).take i).getLast?) (hne : acc.getLast? ≠ some m) : Rise (acc ++ [m]) := by
  refine List.pairwise_append.mpr ⟨r, List.pairwise_singleton _ _, fun x hx y hy => ?_⟩
  rw [List.mem_singleton.mp hy]
  obtain ⟨ini, l, e⟩ : ∃ ini l, acc = ini ++ [l] := by
    rcases List.eq_nil_or_concat acc with e | ⟨ini, l, e⟩
    · rw [e] at hx; cases hx
    · exact ⟨ini, l, by rw [e, List.concat_eq_append]⟩
  have el : acc.getLast? = some l := by rw [e]; simp
  rw [el] at hl hne
  have hlm : l ∈ (kSort ms).take i := List.mem_of_getLast? hl.symm
  have hpw := kSort_pw ms
  rw [← List.take_append_drop i (kSort ms), drop_at hm] at hpw
  have hle := (List.pairwise_append.mp hpw).2.2 l hlm m (List.mem_cons_self ..)
  rw [kLe_eq] at hle
  have okl : Ok l := ho l (hs l (by rw [e]; simp))
  have okm : Ok m := ho m ((kSort_perm ms).mem_iff.mp (List.mem_of_getElem? hm))
  have llm : kLt l m = true := by
    cases q : kLt l m with
    | true => rfl
    | false => exact (hne (congrArg some (kLt_tot okl okm q (by simpa using hle)))).elim
  rw [e] at hx r
  rcases List.mem_append.mp hx with z | z
  · exact kLt_tr ((List.pairwise_append.mp r).2.2 x z l (List.mem_singleton.mpr rfl)) llm
  · rw [List.mem_singleton.mp z]; exact llm
theorem Ded.push {G0 H0 G1 G H G' H' : Hp} {e : Addr} {ms : List Mk} {i : Nat} {zs : List V} {acc : List Mk} {y : V} {m : Mk} (d : Ded K G0 H0 G1 G H e ms i zs acc) (g : GR K S0 G H G' H') (nw : Nw H0 e) (ho : ∀ x ∈ ms, Ok x) (hm : (kSort ms)[i]? = some m) (hv : PtIn G y m) (hne : acc.getLast? ≠ some m) :
    H' e = some (.lst zs) ∧ Ded K G0 H0 G1 G' (upd H' e (.lst (zs ++ [y]))) e ms (i + 1) (zs ++ [y]) (acc ++ [m]) := by
  have he' := g.keep d.he trivial id
  have ge' := g.nofrz d.he d.ge
  refine ⟨he', (d.g.trans g).wrN nw ge' he' trivial, d.le.trans g.gg, ge', upd_same, (pair_imp d.pz fun _ _ z => z.mono g.gg).snoc (hv.mono g.gg), ded_rise ho hm d.rise d.sub d.last hne, fun x hx => ?_, by have := d.len; simp; omega, ?_⟩
  · rcases List.mem_append.mp hx with z | z
    · exact d.sub x z
    · rw [List.mem_singleton.mp z]; exact (kSort_perm ms).mem_iff.mp (List.mem_of_getElem? hm)
  · rw [List.take_add_one, hm]; simp
theorem Ded.skip {G0 H0 G1 G H G' H' : Hp} {e : Addr} {ms : List Mk} {i : Nat} {zs : List V} {acc : List Mk} {m : Mk} (d : Ded K G0 H0 G1 G H e ms i zs acc) (g : GR K S0 G H G' H') (hm : (kSort ms)[i]? = some m) (heq : acc.getLast? = some m) :
    Ded K G0 H0 G1 G' H' e ms (i + 1) zs acc :=
  ⟨d.g.trans g, d.le.trans g.gg, g.nofrz d.he d.ge, g.keep d.he trivial id, pair_imp d.pz fun _ _ z => z.mono g.gg, d.rise, d.sub, Nat.le_succ_of_le d.len, by rw [List.take_add_one, hm, heq]; simp⟩
theorem six {r : Nat} (h : r < 6) : ∃ k : Nat, atI [V.int 2, .int 3, .int 4, .int 5, .int 3, .int 2] (r : Int) = some (.int k) ∧ 2 ≤ k ∧ k ≤ 5 := by
  match r, h with
  | 0, _ => exact ⟨2, rfl, by decide, by decide⟩
  | 1, _ => exact ⟨3, rfl, by decide, by decide⟩
  | 2, _ => exact ⟨4, rfl, by decide, by decide⟩
  | 3, _ => exact ⟨5, rfl, by decide, by decide⟩
  | 4, _ => exact ⟨3, rfl, by decide, by decide⟩
  | 5, _ => exact ⟨2, rfl, by decide, by decide⟩
def spShelf (K : PySem.W.Frag) : Sp := fun vs H Q _ => ∃ (G : Hp) (a : Addr) (ns : List Int) (n : Nat), vs = [.ref a, .int n] ∧ Sb G H ∧ SqL K H a (ns.map V.int) ∧ ns.length ≤ 1000 ∧ n ≤ 12 ∧
  ∀ (G' H' : Hp) (u : V) (ms : List Mk), GR K S0 G H G' H' → ShelfAt G' u ms → Fit ms → ms.length ≤ n → Q u H'
abbrev N__law_shelf : List Str := ["_law_script", "_law_count", "_law_rows", "_law_k", "_law_cell", "_law_pool_here", "_law_way", "_law_which", "_law_at", "_law_parts", "_law_due_here"]
theorem sc__law_shelf : FnScope N__law_shelf ["_law_script", "_law_count"] (defScope S__law_shelf) := ⟨rfl, rfl, rfl, by decide +kernel, rfl, by decide +kernel, by decide +kernel⟩
theorem kn__law_shelf (T : Tx K mg base) : Kn P w K mg base CX0 8 "_law_shelf" ["_law_script", "_law_count"] (spShelf K) := by
  refine kn_of "_law_shelf" T 64 52 S__law_shelf rfl rfl sc__law_shelf (fun vs H Q E h => by obtain ⟨_, _, _, _, rfl, _⟩ := h; rfl) (fun _ _ _ _ _ _ us hl => match us, hl with | [_, _], _ => rfl) (fun cdv A outer s H vs Q E hr h => ⟨_, PSs.nox (pss_cons (ps_set (i := 2) sc__law_shelf.nd rfl (Or.inl rfl) (pe_lst pa_nil))
    (pss_cons (ps_for PassesOwn.never rfl (pi_range1 (by rfl) T.f_range (pa_cons (pv 1) pa_nil)) (pg_name (i := 3) sc__law_shelf.nd rfl (Or.inl rfl)) (pss_cons (ps_set (i := 4) sc__law_shelf.nd rfl (Or.inl rfl) (pe_fn (kn__law_cell_at T) (hr.mono (by decide)) (pa_cons (pv 0) (pa_cons (pe_op op_mod (pv 3) (pe_callB (call_max2 rfl) (by rfl) T.f_max (by decide +kernel) (pa_cons pe_int (pa_cons (pe_callB call_len_seq (by rfl) T.f_len (by decide +kernel) (pa_cons (pv 0) pa_nil)) pa_nil)))) pa_nil))))
    (Evl.pss_cut (ps_if (pt_cmpR op_ge (pv 3) (pe_callB call_len_seq (by rfl) T.f_len (by decide +kernel) (pa_cons (pv 0) pa_nil)) (nomark _)) (pss_one (ps_set (i := 4) sc__law_shelf.nd rfl (Or.inl rfl) (pe_op op_add (pe_op op_add (pe_op op_mul (pe_op op_mod (pv 4) pe_int) pe_int) (pe_op op_mul (pe_op op_mul (pv 3) (pv 3)) pe_int)) pe_int))) pss_nil)
    (pss_cons (ps_set (i := 5) sc__law_shelf.nd rfl (Or.inl rfl) (pe_fn (kn__law_pool T) (hr.mono (by decide)) (pa_cons (pv 4) pa_nil)))
    (pss_cons (ps_set (i := 6) sc__law_shelf.nd rfl (Or.inl rfl) (pe_fn (kn__law_take T) (hr.mono (by decide)) (pa_cons (pv 5) (pa_cons pe_int pa_nil))))
    (pss_cons (ps_set (i := 7) sc__law_shelf.nd rfl (Or.inl rfl) (pe_fn (kn__law_take T) (hr.mono (by decide)) (pa_cons (pv 5) (pa_cons pe_int pa_nil))))
    (Evl.pss_cut (ps_set (i := 8) sc__law_shelf.nd rfl (Or.inl rfl) (pe_ix ix_list (pe_lst (pa_cons pe_int (pa_cons pe_int (pa_cons pe_int (pa_cons pe_int (pa_cons pe_int (pa_cons pe_int pa_nil))))))) (pe_fn (kn__law_take T) (hr.mono (by decide)) (pa_cons (pv 5) (pa_cons pe_int pa_nil))) (fun _ _ => rfl)))
    (pss_cons (ps_set (i := 9) sc__law_shelf.nd rfl (Or.inl rfl) (pe_fn (kn__law_small T) (hr.mono (by decide)) (pa_cons (pv 5) pa_nil)))
    (Evl.pss_cut (ps_if (PW.pt (pw_and (pt_cmpR (op_neNil hr) (pv 2) (pe_lst pa_nil) (nomark _)) (pw_and1 (pt_cmpR op_gt (pv 6) pe_int (nomark _))))) (pss_one (ps_set (i := 9) sc__law_shelf.nd rfl (Or.inl rfl) (pe_fn (kn__law_beside T) (hr.mono (by decide)) (pa_cons (pe_ix ix_list (pv 2) (pe_op op_mod (pv 7) (pe_callB call_len_seq (by rfl) T.f_len (by decide +kernel) (pa_cons (pv 2) pa_nil))) (fun _ _ => rfl)) (pa_cons (pv 8) (pa_cons (pv 5) pa_nil)))))) pss_nil)
    (pss_one (ps_expr (pe_bm PySem.F.plainAttrs_list PySem.F.slot_list_append PySem.F.type_list_append mt_append (pv 2) (pa_cons (pe_fn (kn__law_few T) (hr.mono (by decide)) (pa_cons (pv 9) (pa_cons (pe_ifExp (pt_cmpR op_eq (pv 3) pe_int (nomark _)) pe_int pe_int) pa_nil))) pa_nil)))))))))))))
    (pss_cons (ps_set (i := 10) sc__law_shelf.nd rfl (Or.inl rfl) (pe_lst pa_nil))
    (pss_cons (ps_for PassesOwn.never rfl (pi_list (pe_sortF (x := "") (kn__law_key T) T (hr.mono (by decide)) (pv 2))) (pg_name (i := 9) sc__law_shelf.nd rfl (Or.inl rfl)) (pss_one (ps_if (PW.pt (pw_or (pt_cmpR (op_eqNil hr) (pv 10) (pe_lst pa_nil) (nomark _)) (pw_or1 (pt_cmpR (op_neD hr.units) (pe_fn (kn__law_key T) (hr.mono (by decide)) (pa_cons (pe_ix ix_list (pv 10) (pe_un un_neg pe_int) (fun _ _ => rfl)) pa_nil)) (pe_fn (kn__law_key T) (hr.mono (by decide)) (pa_cons (pv 9) pa_nil)) (nomark _))))) (pss_one (ps_expr (pe_bm PySem.F.plainAttrs_list PySem.F.slot_list_append PySem.F.type_list_append mt_append (pv 10) (pa_cons (pv 9) pa_nil)))) pss_nil)))
    (pss_one (ps_ret (pv 10))))))), ?_⟩)
  obtain ⟨G, a, ns, n, rfl, sb, hs, hz, hn, q⟩ := h
  refine ⟨size_of (n := 0) (by decide), fun d hd => ?_⟩
  have g1 := (GR.refl (K := K) (S := S0) sb).newM hd (o := .lst [])
  refine ⟨_, rfl, _, rfl, by omega, by omega, ?_⟩
  refine for_range (fun i σ H' => (∃ x3 x4 x5 x6 x7 x8 x9 x10 : Option V, σ = [some (.ref a), some (.int n), some (.ref d), x3, x4, x5, x6, x7, x8, x9, x10]) ∧ ∃ G' ms, Rows K G H G' H' d ms ∧ ms.length = i) ⟨⟨_, _, _, _, _, _, _, _, rfl⟩, G, [], ⟨g1, sb.no hd, ⟨[], upd_same, .nil⟩, (fun _ h => nomatch h)⟩, rfl⟩ ?_ ?_
  · rintro i σ H1 hi ⟨⟨x3, x4, x5, x6, x7, x8, x9, x10, rfl⟩, G1, ms, r1, hml⟩
    have hi' : i < n := by simpa using hi
    have hs1 := sqL_gr hs r1.g id
    have lenI : ((ns.map V.int).length : Int) = (ns.length : Nat) := by rw [List.length_map]
    obtain ⟨k, hk⟩ := natI (z := (0 + (i : Int)) % (if ((ns.map V.int).length : Int) > 1 then ((ns.map V.int).length : Int) else 1)) (Int.emod_nonneg _ (by split <;> omega))
    refine ⟨_, rfl, _, rfl, _, rfl, a, _, rfl, .inl hs1, _, _, rfl, _, _, rfl, rfl, by show 0 < _; split <;> omega, a, ns, k, by rw [← hk]; rfl, hs1, hz, fun z => ?_⟩
    refine ⟨fun σ H' => H' = H1 ∧ ∃ z : Int, σ = [some (.ref a), some (.int n), some (.ref d), some (.int (0 + (i : Int))), some (.int z), x5, x6, x7, x8, x9, x10], ?_, ?_⟩
    · refine ⟨_, rfl, _, rfl, a, _, rfl, .inl hs1, _, _, rfl, rfl, _, rfl, ifC (fun _ => ?_) fun _ => ⟨rfl, _, rfl⟩⟩
      exact ⟨_, rfl, _, _, rfl, rfl, by show (0 : Int) < 1000003; decide, _, _, rfl, rfl, .inr ⟨by decide, by decide⟩, _, rfl, _, rfl, _, _, rfl, rfl, .inl ⟨by omega, by omega⟩, _, _, rfl, rfl, .inr ⟨by decide, by decide⟩, _, _, rfl, rfl, _, _, rfl, rfl, rfl, _, rfl⟩
    rintro σ H2 ⟨rfl, z, rfl⟩
    refine ⟨_, rfl, z, rfl, fun p n0 hp => ?_⟩
    have s0 : Pg K G1 H2 G1 (upd H2 p (.lst [.int n0])) p := ⟨(GR.refl r1.g.sb).newM hp, r1.g.sb.no hp, n0, upd_same⟩
    obtain ⟨xs, hd1, hpr⟩ := r1.xs
    have hdp : d ≠ p := ne_of_none hd1 hp
    obtain ⟨n1, e1, k1⟩ := s0.take
    refine ⟨_, rfl, p, n1, _, rfl, e1, by decide, by decide, fun way n2 hway => ?_⟩
    have s1 := k1 n2
    obtain ⟨n3, e3, k3⟩ := s1.take
    refine ⟨_, rfl, p, n3, _, rfl, e3, by decide, by decide, fun which n4 hwhich => ?_⟩
    have s2 := k3 n4
    refine ⟨fun σ H' => ∃ k : Nat, 2 ≤ k ∧ k ≤ 5 ∧ σ = [some (.ref a), some (.int n), some (.ref d), some (.int (0 + (i : Int))), some (.int z), some (.ref p), some (.int way), some (.int which), some (.int k), x9, x10] ∧ Pg K G1 H2 G1 H' p, ?_, ?_⟩
    · refine ⟨size_of (n := 6) (by decide), fun b hb => ?_⟩
      have s3 := s2.new hb (o := .lst [.int 2, .int 3, .int 4, .int 5, .int 3, .int 2])
      obtain ⟨n5, e5, k5⟩ := s3.take
      refine ⟨_, rfl, p, n5, _, rfl, e5, by decide, by decide, fun r n6 hr6 => ?_⟩
      have s4 := k5 n6
      obtain ⟨k, hk, h2, h5⟩ := six hr6
      exact ⟨b, _, _, .int k, rfl, rfl, SqL.of (by rw [upd_ne (s2.np hb)]; exact upd_same), hk, k, h2, h5, rfl, s4⟩
    rintro σ H3 ⟨k, k2, k5, rfl, s3⟩
    refine ⟨_, rfl, G1, p, rfl, s3.g.sb, s3.pool, fun G2 H4 u f g4 hp4 hu of bf => ?_⟩
    have s4 := s3.call g4 hp4
    refine ⟨fun σ H' => ∃ G' u f, σ = [some (.ref a), some (.int n), some (.ref d), some (.int (0 + (i : Int))), some (.int z), some (.ref p), some (.int way), some (.int which), some (.int k), some u, x10] ∧ Pg K G1 H2 G' H' p ∧ PtIn G' u f ∧ Ok f, ?_, ?_⟩
    · refine ⟨_, rfl, size_of (n := 0) (by decide), fun e he => ?_⟩
      have s5 := s4.new he (o := .lst [])
      have hd5 := s5.g.keep hd1 trivial hdp
      refine ⟨d, e, xs, rfl, rfl, SqL.of hd5, SqL.of upd_same, _, rfl, ?_⟩
      cases xs with
      | nil => exact ⟨G2, u, f, rfl, s5, hu, of⟩
      | cons x0 xr =>
        refine ⟨_, rfl, _, _, rfl, rfl, _, rfl, ifC (fun _ => ?_) fun _ => ⟨G2, u, f, rfl, s5, hu, of⟩⟩
        have hlt : which % (x0 :: xr).length < (x0 :: xr).length := Nat.mod_lt _ (by simp)
        obtain ⟨x, hx⟩ : ∃ x, (x0 :: xr)[which % (x0 :: xr).length]? = some x := ⟨_, List.getElem?_eq_getElem hlt⟩
        obtain ⟨mx, hmx, hpx⟩ := pair_get' hpr hx
        obtain ⟨okx, hzx⟩ := r1.ok mx (List.mem_of_getElem? hmx)
        exact ⟨_, rfl, _, rfl, _, rfl, d, _, rfl, .inl (SqL.of hd5), _, _, rfl, rfl, by show (0 : Int) < ((xr.length + 1 : Nat) : Int); omega, d, _, _, x, rfl, rfl, SqL.of hd5, atI_nat hx, _, rfl, _, rfl, G2, p, x, mx, k, rfl, s5.g.sb, s5.pool, hpx.mono s4.g.gg, okx, Bd.le (Bd.of_text hzx) (by decide), k2, k5, fun G6 H6 u' m' g6 hp6 hu' ok' => ⟨G6, u', m', rfl, s5.call g6 hp6, hu', ok'⟩⟩
    rintro σ H5 ⟨G5, u, f, rfl, s5, hu, of⟩
    have hd5 := s5.g.keep hd1 trivial hdp
    have gd5 := s5.g.nofrz hd1 r1.gd
    have fin : ∀ (G6 H6 : Hp) (v : V) (m' : Mk), GR K S0 G5 H5 G6 H6 → PtIn G6 v m' → Ok m' → (text m').length ≤ 24 → H6 d = some (.lst xs) ∧ ∃ G' ms, Rows K G H G' (upd H6 d (.lst (xs ++ [v]))) d ms ∧ ms.length = i + 1 := by
      intro G6 H6 v m' g6 hv ok' hz'
      have hd6 := g6.keep hd5 trivial id
      have gd6 := g6.nofrz hd5 gd5
      have gall := r1.g.callN (s5.g.call0 g6) fun b (e : b = p) => .inr (by rw [e]; exact r1.g.nw (.of hp))
      refine ⟨hd6, G6, ms ++ [m'], ⟨gall.wr (.inr hd) gd6 hd6 trivial, gd6, ⟨xs ++ [v], upd_same, (pair_imp hpr fun _ _ z => z.mono (s5.g.gg.trans g6.gg)).snoc hv⟩, fun x hx => ?_⟩, by simp [hml]⟩
      rcases List.mem_append.mp hx with h | h
      · exact r1.ok x h
      · rw [List.mem_singleton.mp h]; exact ⟨ok', hz'⟩
    have hxl : xs.length < sizeLine := by rw [pair_len hpr, hml, sizeLine_eq]; omega
    refine ⟨_, rfl, .inl ⟨rfl, _, SqL.of hd5⟩, _, rfl, _, rfl, rfl, _, rfl, ifC (fun _ => ?_) fun _ => ?_⟩
    · refine ⟨G5, u, f, 24, rfl, s5.g.sb, hu.mono s5.g.sb.le, of, by decide, fun G6 H6 v m' g6 hv ok' hz => ?_⟩
      obtain ⟨hd6, h7⟩ := fin G6 H6 v m' g6 hv ok' hz
      exact ⟨d, xs, v, rfl, rfl, hd6, hxl, ⟨_, _, _, _, _, _, _, _, rfl⟩, h7⟩
    · refine ⟨G5, u, f, 16, rfl, s5.g.sb, hu.mono s5.g.sb.le, of, by decide, fun G6 H6 v m' g6 hv ok' hz => ?_⟩
      obtain ⟨hd6, h7⟩ := fin G6 H6 v m' g6 hv ok' (by omega)
      exact ⟨d, xs, v, rfl, rfl, hd6, hxl, ⟨_, _, _, _, _, _, _, _, rfl⟩, h7⟩
  · rintro σ H1 ⟨⟨x3, x4, x5, x6, x7, x8, x9, x10, rfl⟩, G1, ms, r1, hml⟩
    have hml' : ms.length ≤ 12 := by omega
    obtain ⟨xs, hd1, hpr⟩ := r1.xs
    have ho : ∀ x ∈ ms, Ok x := fun x hx => (r1.ok x hx).1
    refine ⟨size_of (n := 0) (by decide), fun e he => ?_⟩
    have nwe : Nw H e := r1.g.nw (.of he)
    have g2 := r1.g.newM he (o := .lst [])
    have hd2 : upd H1 e (.lst []) d = some (.lst xs) := by rw [upd_ne (ne_of_none hd1 he)]; exact hd1
    refine ⟨_, rfl, _, rfl, rfl, d, G1, xs, ms, rfl, g2.sb, SqL.of hd2, pair_len hpr, fun i x m G3 H3 hx hm g3 => ?_, fun G3 H3 p ys g3 hp0 hp1 hys => ⟨p, rfl, ⟨_, SqL.of upd_same⟩, ?_⟩⟩
    · refine ⟨x, m, rfl, ((pair_at hpr hx hm).mono g3.gg).mono g3.sb.le, fun t p ht hp => ?_⟩
      obtain ⟨G', g, l, k⟩ := key_new (GR.refl (K := K) (S := S0) g3.sb) ht hp
      exact ⟨G', g, k⟩
    have g4 := (g2.trans g3).new hp1 (o := .lst ys) trivial
    have he3 := g3.keep (p := e) upd_same trivial id
    have ge3 := g3.nofrz (p := e) upd_same (r1.g.sb.no he)
    have hep : e ≠ p := ne_of_none he3 hp1
    have l13 : Le G1 (upd G3 p (.lst ys)) := g3.gg.trans (Le.up (g3.sb.no hp1))
    refine for_list (K := K) (a := p) (xs := ys) (fun i σ H' => (∃ y3 y4 y5 y6 y7 y8 y9 : Option V, σ = [some (.ref a), some (.int n), some (.ref d), y3, y4, y5, y6, y7, y8, y9, some (.ref e)]) ∧ ∃ G' zs acc, Ded K G H (upd G3 p (.lst ys)) G' H' e ms i zs acc) ?_ ?_ ?_ ?_
    · exact ⟨⟨_, _, _, _, _, _, _, rfl⟩, _, [], [], ⟨g4, Le.refl _, by rw [upd_ne hep]; exact ge3, by rw [upd_ne hep]; exact he3, .nil, .nil, (fun _ h => nomatch h), Nat.le_refl _, by simp⟩⟩
    · rintro i σ H5 hi ⟨_, G5, zs, acc, D⟩
      exact SqL.of (D.g.sb _ _ (D.le _ _ upd_same)).1
    · rintro i y σ H5 hy ⟨⟨y3, y4, y5, y6, y7, y8, y9, rfl⟩, G5, zs, acc, D⟩
      obtain ⟨m, hm, hzip⟩ := pair_get' hys hy
      have hpt : PtIn G5 y m := (pair_zip hpr hzip).mono (l13.trans D.le)
      have hzl : zs.length < sizeLine := by
        rw [pair_len D.pz, sizeLine_eq]
        have h1 := D.len
        have h2 := (List.getElem?_eq_some_iff.mp hm).1
        rw [(kSort_perm ms).length_eq] at h2
        omega
      refine ⟨_, rfl, size_of (n := 0) (by decide), fun b hb => ?_⟩
      have g6 := (GR.refl (K := K) (S := S0) D.g.sb).newM hb (o := .lst [])
      have he6 := g6.keep D.he trivial id
      refine ⟨e, b, zs, rfl, rfl, SqL.of he6, SqL.of upd_same, _, rfl, ?_⟩
      rcases List.eq_nil_or_concat acc with ea | ⟨ini, l, ea⟩
      · have ez : zs = [] := List.length_eq_zero_iff.mp (by rw [pair_len D.pz, ea]; rfl)
        obtain ⟨he7, D7⟩ := D.push g6 nwe ho hm hpt (by rw [ea]; exact fun z => nomatch z)
        rw [show (zs.isEmpty == true) = true by rw [ez]; rfl]
        exact ⟨_, rfl, .inl ⟨rfl, _, SqL.of he7⟩, _, rfl, e, zs, y, rfl, rfl, he7, hzl, ⟨_, _, _, _, _, _, _, rfl⟩, _, _, _, D7⟩
      · rw [List.concat_eq_append] at ea
        have el : acc.getLast? = some l := by rw [ea]; simp
        obtain ⟨x, hx, hxl⟩ := pair_last D.pz el
        rw [show (zs.isEmpty == true) = false by
          cases zs with
          | nil => cases hx
          | cons _ _ => rfl]
        have okl : Ok l := ho l (D.sub l (by rw [ea]; simp))
        have okm : Ok m := ho m ((kSort_perm ms).mem_iff.mp (List.mem_of_getElem? hm))
        refine ⟨_, rfl, _, rfl, e, _, _, x, rfl, rfl, SqL.of he6, last_atV hx, x, l, rfl, hxl.mono g6.sb.le, fun t p ht hp => ?_⟩
        obtain ⟨G7, g7, l7, k7⟩ := key_new g6 ht hp
        refine ⟨_, rfl, y, m, rfl, (hpt.mono l7).mono g7.sb.le, fun t2 p2 ht2 hp2 => ?_⟩
        obtain ⟨G8, g8, l8, k8⟩ := key_new g7 ht2 hp2
        refine ⟨keyD l, keyD m, (k7.le l8).dp g8.sb, k8.dp g8.sb, key_shaped okl, key_shaped okm, _, rfl, ?_⟩
        rw [key_eqv okl okm]
        refine ifN (fun hne => ?_) fun heq => ?_
        · obtain ⟨he7, D7⟩ := D.push g8 nwe ho hm hpt (by rw [el]; exact fun z => hne (Option.some.inj z))
          exact ⟨_, rfl, .inl ⟨rfl, _, SqL.of he7⟩, _, rfl, e, zs, y, rfl, rfl, he7, hzl, ⟨_, _, _, _, _, _, _, rfl⟩, _, _, _, D7⟩
        · exact ⟨⟨_, _, _, _, _, _, _, rfl⟩, _, _, _, D.skip g8 hm (by rw [el, heq])⟩
    · rintro σ H5 ⟨⟨y3, y4, y5, y6, y7, y8, y9, rfl⟩, G5, zs, acc, D⟩
      have hlen : acc.length ≤ ms.length := by
        have h1 := D.len
        rw [pair_len hys, (kSort_perm ms).length_eq] at h1
        exact h1
      refine ⟨_, rfl, q _ _ _ acc (D.g.freezeN nwe D.he trivial) ⟨e, zs, rfl, upd_same, pair_imp D.pz fun _ _ z => z.mono (Le.up D.ge)⟩ ⟨fun x hx => (r1.ok x (D.sub x hx)).1, fun x hx => (r1.ok x (D.sub x hx)).2, D.rise, by omega⟩ (by omega)⟩
end
end K42
set_option Elab.async false
set_option linter.all false
set_option maxRecDepth 100000
set_option maxHeartbeats 4000000
namespace K42
open PySem PySem.Spec PyProof.Rows L2
theorem rep_fold (c : Nat) : ∀ (k : Nat) (acc : Array Nat), (List.replicate k #[c]).foldl (· ++ ·) acc = acc ++ (List.replicate k c).toArray
  | 0, acc => by simp
  | k + 1, acc => by
    rw [List.replicate_succ, List.foldl_cons, rep_fold c k, List.replicate_succ]
    apply Array.ext'
    simp
theorem mul_one' {c k : Nat} (h : 1 ≤ k) : Txt.mul ⟨#[c]⟩ (k : Int) = S (List.replicate k c) := by
  unfold Txt.mul
  rw [if_neg (by omega)]
  by_cases e : k = 1
  · subst e
    rfl
  · rw [if_neg (by
      intro z
      rcases Bool.or_eq_true_iff.mp z with z | z
      · have := eq_of_beq z
        omega
      · exact absurd (eq_of_beq z) (by show ¬ (1 = 0); decide))]
    show (⟨_⟩ : Str) = ⟨_⟩
    rw [Int.toNat_natCast, rep_fold]
    simp
theorem op_repS {X : Cx} : OpR X (binaryOp .Mult) (fun x y H Q => ∃ c k : Nat, x = .str ⟨#[c]⟩ ∧ y = .int (k : Int) ∧ 1 ≤ k ∧ k ≤ 1000 ∧ Q (sV (List.replicate k c)) H) := by
  intro pins s σ H x y v u Q I rx ry h
  obtain ⟨c, k, rfl, rfl, h1, h2, q⟩ := h
  obtain ⟨t, rfl⟩ := rx
  obtain ⟨t', rfl⟩ := ry
  refine SB.mul (PyProof.Rows.mulOk_of 16 1048576 (by show 1 ≤ 16; decide) (by omega) (by omega) (by decide) (by decide)) fun t1 tk => ⟨_, H, I.tok _, ?_, q⟩
  rw [mul_one' h1]
  exact ⟨_, rfl⟩
theorem cutV_len (xs : List V) (i j : Option Int) : (cutV xs i j).length ≤ xs.length := by
  unfold cutV
  rw [List.length_take, List.length_drop]
  omega
theorem figs_rep {k : Nat} (h : 1 ≤ k) : figs (List.replicate k 55) = true := by
  refine figs_of ?_ (fun c hc => ?_) ?_
  · intro e
    have := congrArg List.length e
    simp at this
    omega
  · rw [(List.mem_replicate.mp hc).2]; rfl
  · rw [List.getLast?_replicate, if_neg (by omega)]
    decide
theorem s7 : ("7" : Str) = ⟨#[55]⟩ := by decide +kernel
theorem sA : ("a" : Str) = S [97] := by decide +kernel
section
variable {P : Program} {w : World} {K : PySem.W.Frag} {mg : Str → Option Value} {base : Heap}
theorem Pg.keep {G0 H0 G H : Hp} {p d : Addr} {o : HO} (s : Pg K G0 H0 G H p) (h : H0 d = some o) (hp : Pl o) (n : d ≠ p) : H d = some o := s.g.keep h hp n
def spDrawn (K : PySem.W.Frag) : Sp := fun vs H Q _ => ∃ (G : Hp) (p : Addr) (v : V) (ms : List Mk), vs = [v, .ref p] ∧ Sb G H ∧ PoolAt G H p ∧ ShelfAt G v ms ∧ (∀ m ∈ ms, Ok m ∧ (text m).length ≤ 24) ∧
  ∀ (G' H' : Hp) (u : V) (m' : Mk), GR K (S1 p) G H G' H' → PtIn G' u m' → Ok m' → Q u H'
abbrev N__law_drawn : List Str := ["_law_shelf_here", "_law_pool_here", "_law_way", "_law_which", "_law_at", "_law_parts"]
theorem sc__law_drawn : FnScope N__law_drawn ["_law_shelf_here", "_law_pool_here"] (defScope S__law_drawn) := ⟨rfl, rfl, rfl, by decide +kernel, rfl, by decide +kernel, by decide +kernel⟩
theorem kn__law_drawn (T : Tx K mg base) : Kn P w K mg base CX0 7 "_law_drawn" ["_law_shelf_here", "_law_pool_here"] (spDrawn K) := by
  refine kn_of "_law_drawn" T 75 63 S__law_drawn rfl rfl sc__law_drawn (fun vs H Q E h => by obtain ⟨_, _, _, _, rfl, _⟩ := h; rfl) (fun _ _ _ _ _ _ us hl => match us, hl with | [_, _], _ => rfl) (fun cdv A outer s H vs Q E hr h => ⟨_, PSs.nox (pss_cons (ps_set (i := 2) sc__law_drawn.nd rfl (Or.inl rfl) (pe_fn (kn__law_take T) (hr.mono (by decide)) (pa_cons (pv 1) (pa_cons pe_int pa_nil))))
    (pss_cons (ps_set (i := 3) sc__law_drawn.nd rfl (Or.inl rfl) (pe_fn (kn__law_take T) (hr.mono (by decide)) (pa_cons (pv 1) (pa_cons pe_int pa_nil))))
    (Evl.pss_cut (ps_set (i := 4) sc__law_drawn.nd rfl (Or.inl rfl) (pe_ix ix_list (pe_lst (pa_cons pe_int (pa_cons pe_int (pa_cons pe_int (pa_cons pe_int (pa_cons pe_int (pa_cons pe_int pa_nil))))))) (pe_fn (kn__law_take T) (hr.mono (by decide)) (pa_cons (pv 1) (pa_cons pe_int pa_nil))) (fun _ _ => rfl)))
    (pss_cons (ps_set (i := 5) sc__law_drawn.nd rfl (Or.inl rfl) (pe_fn (kn__law_small T) (hr.mono (by decide)) (pa_cons (pv 1) pa_nil)))
    (Evl.pss_cut (ps_if (PW.pt (pw_and (pt_cmpR (op_neNil hr) (pv 0) (pe_lst pa_nil) (nomark _)) (pw_and1 (pt_cmpR op_lt (pv 2) pe_int (nomark _))))) (pss_one (ps_set (i := 5) sc__law_drawn.nd rfl (Or.inl rfl) (pe_fn (kn__law_beside T) (hr.mono (by decide)) (pa_cons (pe_ix ix_list (pv 0) (pe_op op_mod (pv 3) (pe_callB call_len_seq (by rfl) T.f_len (by decide +kernel) (pa_cons (pv 0) pa_nil))) (fun _ _ => rfl)) (pa_cons (pv 4) (pa_cons (pv 1) pa_nil)))))) pss_nil)
    (Evl.pss_cut (ps_if (PW.pt (pw_and (pt_cmpR (op_neNil hr) (pv 0) (pe_lst pa_nil) (nomark _)) (pw_and1 (pt_cmpR op_eq (pv 2) pe_int (nomark _))))) (pss_one (ps_set (i := 5) sc__law_drawn.nd rfl (Or.inl rfl) (pe_callTy call_list_of (by rfl) T.f_list (by decide +kernel) (pa_cons (pe_ix ix_list (pv 0) (pe_op op_mod (pv 3) (pe_callB call_len_seq (by rfl) T.f_len (by decide +kernel) (pa_cons (pv 0) pa_nil))) (fun _ _ => rfl)) pa_nil)))) pss_nil)
    (Evl.pss_cut (ps_if (PW.pt (pw_and (pt_cmpR op_eq (pv 2) pe_int (nomark _)) (pw_and1 (pt_cmpR op_eq (pe_op op_mod (pv 3) pe_int) pe_int (nomark _))))) (pss_one (ps_ret (pe_op op_cat (pe_slice sl_list (pv 5) po_none (po_some pe_int)) (pe_lst (pa_cons pe_str (pa_cons (pe_lst (pa_cons (pe_op op_add_str pe_str (pe_op op_repS pe_str (pe_op op_add pe_int (pv 3)))) pa_nil)) (pa_cons pe_non (pa_cons pe_non pa_nil)))))))) pss_nil)
    (Evl.pss_cut (ps_if (pt_cmpR op_eq (pv 2) pe_int (nomark _)) (pss_one (ps_ret (pe_op op_cat (pe_op op_cat (pe_slice sl_list (pv 5) po_none (po_some pe_int)) (pe_lst (pa_cons (pe_op op_repS pe_str (pe_op op_add pe_int (pv 3))) pa_nil))) (pe_slice sl_list (pv 5) (po_some pe_int) po_none)))) pss_nil)
    (pss_one (ps_ret (pe_fn (kn__law_few T) (hr.mono (by decide)) (pa_cons (pv 5) (pa_cons (pe_ifExp (PW.pt (pw_and (pt_cmpR op_eq (pv 3) pe_int (nomark _)) (pw_and1 (pt_cmpR op_lt (pe_callB call_len_seq (by rfl) T.f_len (by decide +kernel) (pa_cons (pv 0) pa_nil)) pe_int (nomark _))))) pe_int pe_int) pa_nil))))))))))))), ?_⟩)
  obtain ⟨G, p, v, ms, rfl, sb, hp, ⟨a, xs, rfl, ha, hpr⟩, hok, q⟩ := h
  have s0 : Pg K G H G H p := .start sb hp
  obtain ⟨n1, e1, k1⟩ := s0.take
  refine ⟨_, rfl, p, n1, _, rfl, e1, by decide, by decide, fun way n2 hway => ?_⟩
  have s1 := k1 n2
  obtain ⟨n3, e3, k3⟩ := s1.take
  refine ⟨_, rfl, p, n3, _, rfl, e3, by decide, by decide, fun which n4 hwhich => ?_⟩
  have s2 := k3 n4
  have hwh : which < 12 := hwhich
  clear k1 k3 e1 e3
  refine ⟨fun σ H' => ∃ k : Nat, 2 ≤ k ∧ k ≤ 5 ∧ σ = [some (.ref a), some (.ref p), some (.int way), some (.int which), some (.int k), none] ∧ Pg K G H G H' p, ?_, ?_⟩
  · refine ⟨size_of (n := 6) (by decide), fun b hb => ?_⟩
    have s3 := s2.new hb (o := .lst [.int 2, .int 3, .int 4, .int 5, .int 3, .int 2])
    obtain ⟨n5, e5, k5⟩ := s3.take
    refine ⟨_, rfl, p, n5, _, rfl, e5, by decide, by decide, fun r n6 hr6 => ?_⟩
    have s4 := k5 n6
    obtain ⟨k, hk, h2, h5⟩ := six hr6
    exact ⟨b, _, _, .int k, rfl, rfl, SqL.of (by rw [upd_ne (s2.np hb)]; exact upd_same), hk, k, h2, h5, rfl, s4⟩
  rintro σ H3 ⟨k, k2, k5, rfl, s3⟩
  clear s0 s1 s2
  refine ⟨_, rfl, G, p, rfl, s3.g.sb, s3.pool, fun G2 H4 u f g4 hp4 hu of bf => ?_⟩
  have s4 := s3.call g4 hp4
  have pick : ∀ {x0 : V} {xr : List V}, xs = x0 :: xr → ∃ x mx, xs[which % (x0 :: xr).length]? = some x ∧ PtIn G x mx ∧ Ok mx ∧ (text mx).length ≤ 24 := by
    intro x0 xr e
    have hlt : which % (x0 :: xr).length < xs.length := by rw [e]; exact Nat.mod_lt _ (by simp)
    obtain ⟨x, hx⟩ : ∃ x, xs[which % (x0 :: xr).length]? = some x := ⟨_, List.getElem?_eq_getElem hlt⟩
    obtain ⟨mx, hmx, hpx⟩ := pair_get' hpr hx
    obtain ⟨okx, hzx⟩ := hok mx (List.mem_of_getElem? hmx)
    exact ⟨x, mx, hx, hpx, okx, hzx⟩
  refine ⟨fun σ H' => ∃ G' u f, σ = [some (.ref a), some (.ref p), some (.int way), some (.int which), some (.int k), some u] ∧ Pg K G H G' H' p ∧ PtIn G' u f ∧ Ok f, ?_, ?_⟩
  · refine ⟨_, rfl, size_of (n := 0) (by decide), fun e he => ?_⟩
    have s5 := s4.new he (o := .lst [])
    have ha5 := (s5.g.sb _ _ (s5.g.gg _ _ ha)).1
    refine ⟨a, e, xs, rfl, rfl, SqL.of ha5, SqL.of upd_same, _, rfl, ?_⟩
    cases xs with
    | nil => exact ⟨G2, u, f, rfl, s5, hu, of⟩
    | cons x0 xr =>
      obtain ⟨x, mx, hx, hpx, okx, hzx⟩ := pick rfl
      refine ⟨_, rfl, _, _, rfl, rfl, _, rfl, ifC (fun _ => ?_) fun _ => ⟨G2, u, f, rfl, s5, hu, of⟩⟩
      exact ⟨_, rfl, _, rfl, _, rfl, a, _, rfl, .inl (SqL.of ha5), _, _, rfl, rfl, by show (0 : Int) < ((xr.length + 1 : Nat) : Int); omega, a, _, _, x, rfl, rfl, SqL.of ha5, atI_nat hx, _, rfl, _, rfl, G2, p, x, mx, k, rfl, s5.g.sb, s5.pool, hpx.mono s4.g.gg, okx, Bd.le (Bd.of_text hzx) (by decide), k2, k5, fun G6 H6 u' m' g6 hp6 hu' ok' => ⟨G6, u', m', rfl, s5.call g6 hp6, hu', ok'⟩⟩
  clear s3 s4 g4 hp4 hu of bf
  rintro σ H5 ⟨G5, u, f, rfl, s5, hu, of⟩
  refine ⟨fun σ H' => ∃ G' u f, σ = [some (.ref a), some (.ref p), some (.int way), some (.int which), some (.int k), some u] ∧ Pg K G H G' H' p ∧ PtIn G' u f ∧ Ok f, ?_, ?_⟩
  · refine ⟨_, rfl, size_of (n := 0) (by decide), fun e he => ?_⟩
    have s6 := s5.new he (o := .lst [])
    have ha5 := (s6.g.sb _ _ (s6.g.gg _ _ ha)).1
    refine ⟨a, e, xs, rfl, rfl, SqL.of ha5, SqL.of upd_same, _, rfl, ?_⟩
    cases xs with
    | nil => exact ⟨G5, u, f, rfl, s6, hu, of⟩
    | cons x0 xr =>
      obtain ⟨x, mx, hx, ⟨xa, xh, rfl, hxa, hxh⟩, okx, hzx⟩ := pick rfl
      refine ⟨_, rfl, rfl, _, rfl, ifC (fun _ => ?_) fun _ => ⟨G5, u, f, rfl, s6, hu, of⟩⟩
      have hxa6 := (s6.g.sb _ _ (s6.g.gg _ _ hxa)).1
      refine ⟨_, rfl, _, rfl, _, rfl, a, _, rfl, .inl (SqL.of ha5), _, _, rfl, rfl, by show (0 : Int) < ((xr.length + 1 : Nat) : Int); omega, a, _, _, _, rfl, rfl, SqL.of ha5, atI_nat hx, xa, _, rfl, .inl (SqL.of hxa6), fun l hl => ?_⟩
      exact ⟨_, _, mx, rfl, s6.newF hl trivial, ⟨l, xh, rfl, upd_same, Le.up (s6.g.sb.no hl) _ _ (s6.g.gg _ _ hxh)⟩, okx⟩
  clear s5 hu of
  rintro σ H5 ⟨G5, u, f, rfl, s5, ⟨ua, uh, rfl, hua, huh⟩, of⟩
  have hua5 := (s5.g.sb _ _ hua).1
  refine ⟨fun σ H' => H' = H5 ∧ σ = [some (.ref a), some (.ref p), some (.int way), some (.int which), some (.int k), some (.ref ua)], ?_, ?_⟩
  · refine ⟨_, rfl, rfl, _, rfl, ifC (fun _ => ⟨_, rfl, _, _, rfl, rfl, by show (0 : Int) < 2; decide, rfl, _, rfl, ifC (fun _ => ?_) fun _ => ⟨rfl, rfl⟩⟩) fun _ => ⟨rfl, rfl⟩⟩
    refine ⟨_, rfl, _, rfl, ua, _, rfl, SqL.of hua5, fun d hd => ?_⟩
    have s6 := s5.new hd (o := .lst (cutV (pV f uh) none (some 2)))
    have hlen : 1 ≤ 8 + which ∧ 8 + which ≤ 1000 := by omega
    refine ⟨_, rfl, _, _, rfl, rfl, 55, 8 + which, congrArg V.str s7, by simp, hlen.1, hlen.2, _, _, rfl, rfl, ?_, size_of (n := 1) (by decide), fun e he => ?_⟩
    · rw [sA, S_len, S_len, List.length_replicate]
      exact size_of (by show 1 + _ ≤ _; omega)
    rw [show V.str (("a" : Str) ++ S (List.replicate (8 + which) 55)) = sV (97 :: List.replicate (8 + which) 55) by rw [sA, S_app]; rfl]
    have s7' := s6.newF he (o := .lst (msV [97 :: List.replicate (8 + which) 55])) trivial
    refine ⟨size_of (n := 4) (by decide), fun b hb => ?_⟩
    have s8 := s7'.new hb (o := .lst [.str "", .ref e, .non, .non])
    have hde : d ≠ e := fun z => by rw [← z, upd_same] at he; cases he
    have hd7 : upd (upd H5 d (.lst (cutV (pV f uh) none (some 2)))) e (.lst (msV [97 :: List.replicate (8 + which) 55])) d = some (.lst (cutV (pV f uh) none (some 2))) := by rw [upd_ne hde]; exact upd_same
    have hdb : d ≠ b := ne_of_none hd7 hb
    refine ⟨d, b, _, _, rfl, rfl, by rw [upd_ne hdb]; exact hd7, upd_same, Nat.le_trans (Nat.add_le_add_right (cutV_len (pV f uh) none (some 2)) _) (size_of (n := 6 + 4) (by decide)), fun z hz => ?_⟩
    rw [show cutV (pV f uh) none (some 2) ++ [V.str "", .ref e, .non, .non] = pV ⟨f.l, f.n, [], [97 :: List.replicate (8 + which) 55], none, none⟩ e by rw [show (some (2 : Int)) = some ((2 : Nat) : Int) from rfl, cut_hi, strE]; rfl]
    have s9 := s8.newF hz (o := .lst (pV ⟨f.l, f.n, [], [97 :: List.replicate (8 + which) 55], none, none⟩ e)) trivial
    refine q _ _ _ _ s9.g ⟨z, e, rfl, upd_same, Le.up (s8.g.sb.no hz) _ _ upd_same⟩ ⟨of.l1, of.l3, of.la, of.n1, of.n9, .inl rfl, Nat.zero_le _, fun k hk => ?_, fun k hk => ?_, by show 1 ≤ 3; decide, (fun _ e => nomatch e), fun _ e => nomatch e⟩
    · rw [List.mem_singleton.mp hk]
      show (isLet 97 && figs _) = true
      rw [figs_rep hlen.1]; rfl
    · rw [List.mem_singleton.mp hk]
      simp
      omega
  rintro σ H6 ⟨rfl, rfl⟩
  refine ⟨fun σ H' => H' = H6 ∧ σ = [some (.ref a), some (.ref p), some (.int way), some (.int which), some (.int k), some (.ref ua)], ?_, ?_⟩
  · refine ⟨_, rfl, rfl, _, rfl, ifC (fun _ => ?_) fun _ => ⟨rfl, rfl⟩⟩
    refine ⟨_, rfl, _, rfl, ua, _, rfl, SqL.of hua5, fun d hd => ?_⟩
    have s6 := s5.new hd (o := .lst (cutV (pV f uh) none (some 2)))
    have hlen : 1 ≤ 10 + which ∧ 10 + which ≤ 1000 := by omega
    refine ⟨_, rfl, _, _, rfl, rfl, 55, 10 + which, congrArg V.str s7, by simp, hlen.1, hlen.2, size_of (n := 1) (by decide), fun e he => ?_⟩
    have s7' := s6.new he (o := .lst [sV (List.replicate (10 + which) 55)])
    have hde : d ≠ e := fun z => by rw [← z, upd_same] at he; cases he
    refine ⟨d, e, _, _, rfl, rfl, by rw [upd_ne hde]; exact upd_same, upd_same, Nat.le_trans (Nat.add_le_add_right (cutV_len (pV f uh) none (some 2)) _) (size_of (n := 6 + 1) (by decide)), fun b hb => ?_⟩
    have s8 := s7'.new hb (o := .lst (cutV (pV f uh) none (some 2) ++ [sV (List.replicate (10 + which) 55)]))
    refine ⟨_, rfl, _, rfl, ua, _, rfl, SqL.of (s8.g.sb _ _ hua).1, fun c hc => ?_⟩
    have s9 := s8.new hc (o := .lst (cutV (pV f uh) (some 3) none))
    have hbc : b ≠ c := fun z => by rw [← z, upd_same] at hc; cases hc
    refine ⟨b, c, _, _, rfl, rfl, by rw [upd_ne hbc]; exact upd_same, upd_same, ?_, fun z hz => ?_⟩
    · have h1 := cutV_len (pV f uh) none (some 2)
      have h2 := cutV_len (pV f uh) (some 3) none
      rw [List.length_append, List.length_singleton]
      simp only [List.length_cons, List.length_nil] at h1 h2
      exact size_of (by omega)
    rw [show cutV (pV f uh) none (some 2) ++ [sV (List.replicate (10 + which) 55)] ++ cutV (pV f uh) (some 3) none = pV { f with p := List.replicate (10 + which) 55 } uh by rw [show (some (2 : Int)) = some ((2 : Nat) : Int) from rfl, show (some (3 : Int)) = some ((3 : Nat) : Int) from rfl, cut_hi, cut_lo]; rfl]
    have sA := s9.newF hz (o := .lst (pV { f with p := List.replicate (10 + which) 55 } uh)) trivial
    exact q _ _ _ _ sA.g ⟨z, uh, rfl, upd_same, Le.up (s9.g.sb.no hz) _ _ huh⟩ (of.mkP (.inr (figs_rep hlen.1)) (by simp; omega))
  rintro σ H7 ⟨rfl, rfl⟩
  have hu : PtIn G5 (.ref ua) f := ⟨ua, uh, rfl, hua, huh⟩
  refine ⟨_, rfl, _, rfl, rfl, _, rfl, ifC (fun _ => ⟨_, rfl, a, _, rfl, .inl (SqL.of (s5.g.sb _ _ (s5.g.gg _ _ ha)).1), _, _, rfl, rfl, _, rfl, ifC (fun _ => ?_) fun _ => ?_⟩) fun _ => ?_⟩
  · exact ⟨G5, _, f, 24, rfl, s5.g.sb, hu.mono s5.g.sb.le, of, by decide, fun G6 H6 v m' g6 hv ok' hz => q G6 H6 v m' (s5.g.call0 g6) hv ok'⟩
  · exact ⟨G5, _, f, 16, rfl, s5.g.sb, hu.mono s5.g.sb.le, of, by decide, fun G6 H6 v m' g6 hv ok' hz => q G6 H6 v m' (s5.g.call0 g6) hv ok'⟩
  · exact ⟨G5, _, f, 16, rfl, s5.g.sb, hu.mono s5.g.sb.le, of, by decide, fun G6 H6 v m' g6 hv ok' hz => q G6 H6 v m' (s5.g.call0 g6) hv ok'⟩
end
end K42
set_option Elab.async false
set_option linter.all false
set_option maxRecDepth 100000
set_option maxHeartbeats 4000000
namespace K42
open PySem PySem.Spec PyProof.Rows L2
section
variable {P : Program} {w : World} {K : PySem.W.Frag} {mg : Str → Option Value} {base : Heap}
/-- a list of texts, frozen -/
def LsAt (G : Hp) (v : V) (ms : List (List Nat)) : Prop := ∃ a, v = .ref a ∧ G a = some (.lst (msV ms))
theorem LsAt.mono {G G' : Hp} {v : V} {ms : List (List Nat)} (h : LsAt G v ms) (l : Le G G') : LsAt G' v ms := by
  obtain ⟨a, rfl, e⟩ := h
  exact ⟨a, rfl, l _ _ e⟩
/-- rows of a kind, at d, so far -/
structure RowsP {α : Type} (F : Hp → V → α → Prop) (K : PySem.W.Frag) (G0 H0 G H : Hp) (d : Addr) (ms : List α) : Prop where
  g : GR K S0 G0 H0 G H
  gd : G d = none
  xs : ∃ xs, H d = some (.lst xs) ∧ Paired (F G) xs ms
theorem RowsP.push {α : Type} {F : Hp → V → α → Prop} (mono : ∀ G G' v m, F G v m → Le G G' → F G' v m) {G0 H0 G H G' H' : Hp} {d : Addr} {ms : List α} {v : V} {m : α} (r : RowsP F K G0 H0 G H d ms) (nw : Nw H0 d) (g : GR K S0 G H G' H') (hv : F G' v m) :
    ∃ xs, H' d = some (.lst xs) ∧ xs.length = ms.length ∧ RowsP F K G0 H0 G' (upd H' d (.lst (xs ++ [v]))) d (ms ++ [m]) := by
  obtain ⟨xs, h1, h2⟩ := r.xs
  have h1' := g.keep h1 trivial id
  have gd' := g.nofrz h1 r.gd
  exact ⟨xs, h1', pair_len h2, (r.g.trans g).wrN nw gd' h1' trivial, gd', xs ++ [v], upd_same, (pair_imp h2 fun _ _ z => mono _ _ _ _ z g.gg).snoc hv⟩
theorem RowsP.keep {α : Type} {F : Hp → V → α → Prop} (mono : ∀ G G' v m, F G v m → Le G G' → F G' v m) {G0 H0 G H G' H' : Hp} {d : Addr} {ms : List α} (r : RowsP F K G0 H0 G H d ms) (g : GR K S0 G H G' H') : RowsP F K G0 H0 G' H' d ms := by
  obtain ⟨xs, h1, h2⟩ := r.xs
  exact ⟨r.g.trans g, g.nofrz h1 r.gd, xs, g.keep h1 trivial id, pair_imp h2 fun _ _ z => mono _ _ _ _ z g.gg⟩
/-- the cuts of the i-th maker by signs below 2 + n -/
def hcN (ms : List (List Nat)) (i : Nat) (k : List Nat) (n : Nat) : List (List (List Nat)) := ((List.range' 2 n).filter fun z => k[z - 1]? != some 48).map fun z => ms.take i ++ [k.take z]
theorem hcN_succ (ms : List (List Nat)) (i : Nat) (k : List Nat) (n : Nat) : hcN ms i k (n + 1) = hcN ms i k n ++ (if (k[2 + n - 1]? != some 48) = true then [ms.take i ++ [k.take (2 + n)]] else []) := by
  unfold hcN
  rw [List.range'_concat, List.filter_append, List.map_append, Nat.one_mul]
  congr 1
  rw [List.filter_cons, List.filter_nil]
  split
  · rfl
  · rfl
theorem hcN_at {ms : List (List Nat)} {i : Nat} {k : List Nat} (h : ms[i]? = some k) (hk : mkr k = true) : hcN ms i k (k.length - 1) = mcutsAt ms i := by
  obtain ⟨a, r, rfl, ha, hr⟩ := mkr_cons hk
  unfold mcutsAt hcN begs
  rw [h]
  show _ = _
  simp only [List.length_cons, Nat.add_sub_cancel]
  rw [show List.range' 2 r.length = (List.range' 1 r.length).map (· + 1) by rw [List.range'_eq_map_range, List.range'_eq_map_range, List.map_map]; exact List.map_congr_left fun x _ => by show 2 + x = 1 + x + 1; omega]
  rw [List.filter_map, List.map_map, List.map_map]
  have e : (List.range' 1 r.length).filter ((fun z => (a :: r)[z - 1]? != some 48) ∘ (· + 1)) = (List.range' 1 r.length).filter (begOk r) := by
    refine List.filter_congr fun x hx => ?_
    have h1 := (List.mem_range'_1.mp hx).1
    show ((a :: r)[x + 1 - 1]? != some 48) = (x == 0 || r[x - 1]? != some 48)
    obtain ⟨y, rfl⟩ : ∃ y, x = y + 1 := ⟨x - 1, by omega⟩
    simp
  rw [e]
  rfl
def spHands (K : PySem.W.Frag) : Sp := fun vs H Q _ => ∃ (G : Hp) (a : Addr) (ms : List (List Nat)), vs = [.ref a] ∧ Sb G H ∧ G a = some (.lst (msV ms)) ∧ ms.length ≤ 3 ∧ (∀ k ∈ ms, mkr k = true ∧ k.length ≤ 1000) ∧
  ∀ (G' H' : Hp) (p : Addr) (xs : List V), GR K S0 G H G' H' → G' p = some (.lst xs) → Paired (LsAt G') xs (mcuts ms) → Q (.ref p) H'
abbrev N__law_hands_cut : List Str := ["_law_hands", "_law_rows", "_law_at", "_law_size"]
theorem sc__law_hands_cut : FnScope N__law_hands_cut ["_law_hands"] (defScope S__law_hands_cut) := ⟨rfl, rfl, rfl, by decide +kernel, rfl, by decide +kernel, by decide +kernel⟩
theorem kn__law_hands_cut (T : Tx K mg base) : Kn P w K mg base CX0 2 "_law_hands_cut" ["_law_hands"] (spHands K) := by
  refine kn_of "_law_hands_cut" T 65 53 S__law_hands_cut rfl rfl sc__law_hands_cut (fun vs H Q E h => by obtain ⟨_, _, _, rfl, _⟩ := h; rfl) (fun _ _ _ _ _ _ us hl => match us, hl with | [_], _ => rfl) (fun cdv A outer s H vs Q E hr h => ⟨_, PSs.nox (pss_cons (ps_set (i := 1) sc__law_hands_cut.nd rfl (Or.inl rfl) (pe_lst (pa_cons (pe_lst pa_nil) pa_nil)))
    (pss_cons (ps_for PassesOwn.never rfl (pi_range1 (by rfl) T.f_range (pa_cons (pe_callB call_len_seq (by rfl) T.f_len (by decide +kernel) (pa_cons (pv 0) pa_nil)) pa_nil)) (pg_name (i := 2) sc__law_hands_cut.nd rfl (Or.inl rfl)) (pss_one (ps_for PassesOwn.never rfl (pi_range2 (by rfl) T.f_range (pa_cons pe_int (pa_cons (pe_op op_add (pe_callB call_len_str (by rfl) T.f_len (by decide +kernel) (pa_cons (pe_ix ix_list (pv 0) (pv 2) (fun _ _ => rfl)) pa_nil)) pe_int) pa_nil))) (pg_name (i := 3) sc__law_hands_cut.nd rfl (Or.inl rfl)) (pss_one (ps_if (pt_cmpR op_ne (pe_ix ix_str (pe_ix ix_list (pv 0) (pv 2) (fun _ _ => rfl)) (pe_op op_sub (pv 3) pe_int) (fun _ _ => rfl)) pe_str (nomark _)) (pss_one (ps_expr (pe_bm PySem.F.plainAttrs_list PySem.F.slot_list_append PySem.F.type_list_append mt_append (pv 1) (pa_cons (pe_op op_cat (pe_slice sl_list (pv 0) po_none (po_some (pv 2))) (pe_lst (pa_cons (pe_slice sl_str (pe_ix ix_list (pv 0) (pv 2) (fun _ _ => rfl)) po_none (po_some (pv 3))) pa_nil))) pa_nil)))) pss_nil)))))
    (pss_one (ps_ret (pv 1))))), ?_⟩)
  obtain ⟨G, a, ms, rfl, sb, ha, h3, hk, q⟩ := h
  refine ⟨size_of (n := 0) (by decide), fun e he => ?_⟩
  have g1 := (GR.refl (K := K) (S := S0) sb).new he (o := .lst []) trivial
  refine ⟨size_of (n := 1) (by decide), fun d hd => ?_⟩
  have g2 := g1.newM hd (o := .lst [.ref e])
  have hde : d ≠ e := fun z => by rw [z, upd_same] at hd; cases hd
  have gd2 : upd G e (.lst []) d = none := g1.sb.no hd
  have nwd : Nw H d := g1.nw (.of hd)
  have r0 : RowsP LsAt K G H (upd G e (.lst [])) (upd (upd H e (.lst [])) d (.lst [.ref e])) d [[]] := ⟨g2, gd2, [.ref e], upd_same, .cons ⟨e, rfl, upd_same⟩ .nil⟩
  have haG : ∀ {G' H' : Hp} {l : List (List (List Nat))}, RowsP LsAt K G H G' H' d l → H' a = some (.lst (msV ms)) := fun r => (r.g.sb _ _ (r.g.gg _ _ ha)).1
  have hml : (msV ms).length = ms.length := by simp [msV]
  have mono : ∀ (G G' : Hp) (v : V) (m : List (List Nat)), LsAt G v m → Le G G' → LsAt G' v m := fun _ _ _ _ h l => h.mono l
  refine ⟨_, rfl, a, _, rfl, .inl (SqL.of (haG r0)), _, rfl, by omega, by omega, ?_⟩
  refine for_range (fun i σ H' => (∃ x2 x3 : Option V, σ = [some (.ref a), some (.ref d), x2, x3]) ∧ ∃ G', RowsP LsAt K G H G' H' d ([] :: (List.range i).flatMap (mcutsAt ms))) ⟨⟨_, _, rfl⟩, _, r0⟩ ?_ ?_
  · rintro i σ H1 hi ⟨⟨x2, x3, rfl⟩, G1, r1⟩
    have hi' : i < ms.length := by rw [hml] at hi; simpa using hi
    obtain ⟨k, hki⟩ : ∃ k, ms[i]? = some k := ⟨_, List.getElem?_eq_getElem hi'⟩
    obtain ⟨hkm, hkz⟩ := hk k (List.mem_of_getElem? hki)
    have ha1 := haG r1
    have hat : ∀ j : Int, j = (i : Int) → atI (msV ms) j = some (sV k) := fun j e => by rw [e]; exact atI_nat (by simp [msV, hki])
    have hkl : (S k).length ≤ sizeLine := by rw [S_len]; exact size_of (by omega)
    have hk2 : 2 ≤ k.length := by
      obtain ⟨b, r, rfl, hb, hr⟩ := mkr_cons hkm
      have := (figs_all hr).1
      cases r with
      | nil => exact (this rfl).elim
      | cons _ _ => simp
    have hsl := S_len k
    refine ⟨_, rfl, _, rfl, a, _, _, sV k, rfl, rfl, SqL.of ha1, hat _ (by omega), _, rfl, hkl, _, _, rfl, rfl, 2, _, rfl, ⟨by omega, by omega, by omega, by omega⟩, ?_⟩
    have hnn : ((((S k).length : Nat) : Int) + 1 - 2).toNat = k.length - 1 := by rw [S_len]; omega
    rw [hnn]
    refine for_range (fun j σ H' => (∃ x3 : Option V, σ = [some (.ref a), some (.ref d), some (.int (0 + (i : Int))), x3]) ∧ ∃ G', RowsP LsAt K G H G' H' d ([] :: (List.range i).flatMap (mcutsAt ms) ++ hcN ms i k j)) ⟨⟨_, rfl⟩, G1, by simpa [hcN] using r1⟩ ?_ ?_
    · rintro j σ H2 hj ⟨⟨x3, rfl⟩, G2, r2⟩
      have ha2 := haG r2
      have hlt : 2 + j - 1 < k.length := by omega
      obtain ⟨c, hc⟩ : ∃ c, k[2 + j - 1]? = some c := ⟨_, List.getElem?_eq_getElem hlt⟩
      have hca : atI (S k).cps.toList ((2 : Int) + (j : Int) - 1) = some c := by
        rw [show ((2 : Int) + (j : Int) - 1) = ((2 + j - 1 : Nat) : Int) by omega]
        exact atI_nat hc
      refine ⟨_, rfl, _, rfl, a, _, _, sV k, rfl, rfl, SqL.of ha2, hat _ (by omega), _, rfl, _, _, rfl, rfl, _, _, c, rfl, rfl, hkl, hca, rfl, _, rfl, ifN (fun hne => ?_) fun heq => ?_⟩
      · have hne' : (k[2 + j - 1]? != some 48) = true := by
          rw [hc]
          refine bne_iff_ne.mpr fun e => hne ?_
          rw [str0, Option.some.inj e]
        have els : ∀ (x y : V), x = V.ref d → True := fun _ _ _ => trivial
        obtain ⟨xs2, hd2, hpx⟩ := r2.xs
        refine ⟨_, rfl, .inl ⟨rfl, _, SqL.of hd2⟩, _, rfl, _, rfl, _, rfl, a, _, rfl, SqL.of ha2, fun b hb => ?_⟩
        have g3 := (GR.refl (K := K) (S := S0) r2.g.sb).newM hb (o := .lst (cutV (msV ms) none (some (0 + (i : Int)))))
        have ha3 := (g3.sb _ _ (r2.g.gg _ _ ha)).1
        refine ⟨_, rfl, _, rfl, a, _, _, sV k, rfl, rfl, SqL.of ha3, hat _ (by omega), _, rfl, _, rfl, _, rfl, hkl, size_of (n := 1) (by decide), fun f hf => ?_⟩
        have g4 := g3.newM hf (o := .lst [V.str (cutS (S k) none (some (2 + (j : Int))))])
        have hbf : b ≠ f := fun z => by rw [← z, upd_same] at hf; cases hf
        have ecut : cutV (msV ms) none (some (0 + (i : Int))) = msV (ms.take i) := by
          rw [show (0 + (i : Int)) = ((i : Nat) : Int) by omega, cut_hi]
          simp [msV]
        have ecs : V.str (cutS (S k) none (some (2 + (j : Int)))) = sV (k.take (2 + j)) := congrArg V.str (sl_to k _ (2 + j) (by omega))
        refine ⟨b, f, _, _, rfl, rfl, by rw [upd_ne hbf]; exact upd_same, upd_same, ?_, fun p hp => ?_⟩
        · rw [ecut]
          show (msV (ms.take i)).length + 1 ≤ sizeLine
          have : (msV (ms.take i)).length ≤ 3 := by
            simp only [msV, List.length_map, List.length_take]
            omega
          exact size_of (by omega)
        rw [ecut, ecs]
        have g5 := g4.new hp (o := .lst (msV (ms.take i) ++ [sV (k.take (2 + j))])) trivial
        rw [ecut, ecs] at g5
        obtain ⟨xs3, hd3, hl3, r3⟩ := r2.push (F := LsAt) mono nwd g5 (v := .ref p) (m := ms.take i ++ [k.take (2 + j)]) ⟨p, rfl, by rw [upd_same, show msV (ms.take i ++ [k.take (2 + j)]) = msV (ms.take i) ++ [sV (k.take (2 + j))] by simp [msV]]⟩
        have e3 : hcN ms i k j ++ [ms.take i ++ [k.take (2 + j)]] = hcN ms i k (j + 1) := by rw [hcN_succ, if_pos hne']
        rw [List.append_assoc, e3] at r3
        refine ⟨d, xs3, .ref p, rfl, rfl, hd3, ?_, ⟨_, rfl⟩, _, r3⟩
        · rw [hl3, sizeLine_eq]
          have b1 : ((List.range i).flatMap (mcutsAt ms)).length ≤ i * 1000 := by
            have := flat_len (c := 1000) (f := mcutsAt ms) (List.range i) fun x _ => mcutsAt_len (fun k hk' => (hk k hk').2) x
            simpa using this
          have b2 : (hcN ms i k j).length ≤ j := by
            unfold hcN
            rw [List.length_map]
            exact Nat.le_trans (List.length_filter_le _ _) (by rw [List.length_range']; exact Nat.le_refl _)
          have b3 : i * 1000 ≤ 3 * 1000 := Nat.mul_le_mul_right _ (by omega)
          simp only [List.length_append, List.length_cons]
          omega
      · have heq' : ¬ (k[2 + j - 1]? != some 48) = true := by
          rw [hc]
          intro z
          refine bne_iff_ne.mp z ?_
          by_cases hz : c = 48
          · rw [hz]
          · exact (ne_zero hz heq).elim
        refine ⟨⟨_, rfl⟩, G2, ?_⟩
        rw [hcN_succ, if_neg heq', List.append_nil]
        exact r2
    · rintro σ H2 ⟨⟨x3, rfl⟩, G2, r2⟩
      refine ⟨⟨_, _, rfl⟩, G2, ?_⟩
      rw [hcN_at hki hkm] at r2
      rw [List.range_succ, List.flatMap_append]
      simpa using r2
  · rintro σ H1 ⟨⟨x2, x3, rfl⟩, G1, r1⟩
    obtain ⟨xs, hd1, hp1⟩ := r1.xs
    rw [hml] at hp1
    exact ⟨_, rfl, q _ _ d xs (r1.g.freezeN nwd hd1 trivial) upd_same (by simpa [mcuts] using pair_imp hp1 fun _ _ z => z.mono (Le.up r1.gd))⟩
end
end K42
set_option Elab.async false
set_option linter.all false
set_option maxRecDepth 100000
set_option maxHeartbeats 4000000
namespace K42
open PySem PySem.Spec PyProof.Rows L2
section
variable {P : Program} {w : World} {K : PySem.W.Frag} {mg : Str → Option Value} {base : Heap}
/-- from (G1, H1) on, the list of parts at d has grown to stand for acc -/
structure Rq (K : PySem.W.Frag) (d : Addr) (G1 H1 G H : Hp) (acc : List Mk) (n : Nat) : Prop where
  g : GR K (S1 d) G1 H1 G H
  gd : G d = none
  xs : ∃ xs, H d = some (.lst xs) ∧ Paired (PtIn G) xs acc
  le : acc.length ≤ n
theorem Rq.trans {d : Addr} {G1 H1 G2 H2 G3 H3 : Hp} {acc acc' : List Mk} {n n' : Nat} (r : Rq K d G1 H1 G2 H2 acc n) (r' : Rq K d G2 H2 G3 H3 acc' n') : Rq K d G1 H1 G3 H3 acc' n' := ⟨r.g.call r'.g fun _ q => .inl q, r'.gd, r'.xs, r'.le⟩
theorem Rq.start {d : Addr} {G1 H1 G2 H2 : Hp} {acc : List Mk} {n : Nat} (r : Rq K d G1 H1 G2 H2 acc n) : Rq K d G2 H2 G2 H2 acc n := ⟨GR.refl r.g.sb, r.gd, r.xs, r.le⟩
theorem Rq.step {d : Addr} {G1 H1 G2 H2 G3 H3 : Hp} {acc : List Mk} {n : Nat} (r : Rq K d G1 H1 G2 H2 acc n) (c : GR K S0 G2 H2 G3 H3) : Rq K d G1 H1 G3 H3 acc n := by
  obtain ⟨xs, hx, hp⟩ := r.xs
  exact ⟨r.g.call0 c, c.nofrz hx r.gd, ⟨xs, c.keep hx trivial id, pair_imp hp fun _ _ z => z.mono c.gg⟩, r.le⟩
theorem Rq.push {d : Addr} {G1 H1 G2 H2 : Hp} {acc : List Mk} {n : Nat} {v : V} {m : Mk} (r : Rq K d G1 H1 G2 H2 acc n) (hv : PtIn G2 v m) (hn : n < 16000000) : ∃ xs, H2 d = some (.lst xs) ∧ xs.length < sizeLine ∧ Rq K d G1 H1 G2 (upd H2 d (.lst (xs ++ [v]))) (acc ++ [m]) (n + 1) := by
  obtain ⟨xs, hx, hp⟩ := r.xs
  have hl := pair_len hp
  have hle := r.le
  refine ⟨xs, hx, by rw [sizeLine_eq]; omega, r.g.wr (.inl rfl) r.gd hx trivial, r.gd, ⟨_, upd_same, hp.snoc hv⟩, ?_⟩
  rw [List.length_append, List.length_singleton]
  omega
/-- a loop whose turns push what f tells -/
theorem loopQ {α : Type} {d e : Addr} {vs : List V} {ds : List α} {f : α → List Mk} {c : Nat} {g : TG} {tb : TS} {D : Ends} {σ : L2.St} {G1 H1 : Hp} {acc : List Mk} {n : Nat} (P : L2.St → Prop) (hP : P σ) (he : H1 e = some (.lst vs)) (hne : e ≠ d) (hl : vs.length = ds.length) (r0 : Rq K d G1 H1 G1 H1 acc n)
    (body : ∀ (i : Nat) (x : V) (y : α) (σ : L2.St) (G2 H2 : Hp) (acc2 : List Mk) (n2 : Nat) (N : L2.St → Hp → Prop), vs[i]? = some x → ds[i]? = some y → P σ → Rq K d G1 H1 G2 H2 acc2 n2 → n2 = n + i * c → (∀ σ' G3 H3, P σ' → Rq K d G2 H2 G3 H3 (acc2 ++ f y) (n2 + c) → N σ' H3) →
      g x σ H2 fun σ2 H3 => tb { D with nx := N, ct := N, bk := D.nx } σ2 H3)
    (fin : ∀ σ' G3 H3, P σ' → Rq K d G1 H1 G3 H3 (acc ++ ds.flatMap f) (n + ds.length * c) → D.nx σ' H3) :
    ∃ W : Nat → Nat → L2.St → Hp → Prop, (∃ m, W 0 m σ H1) ∧ ∀ i m σ H, W i m σ H →
      ((Itl K e).stop i H ∧ D.nx σ H) ∨ ((Itl K e).go i H ∧ ∃ N : L2.St → Hp → Prop, (∀ σ' H', N σ' H' → ∃ m', m' < m ∧ W (i + 1) m' σ' H') ∧ ∀ x H', (Itl K e).yld i H x H' → g x σ H' fun σ2 H2 => tb { D with nx := N, ct := N, bk := D.nx } σ2 H2) := by
  refine for_list (K := K) (a := e) (xs := vs) (fun i σ H => ∃ G2, P σ ∧ Rq K d G1 H1 G2 H (acc ++ (ds.take i).flatMap f) (n + i * c)) ⟨G1, hP, by simpa using r0⟩ ?_ ?_ ?_
  · rintro i σ H hi ⟨G2, _, r⟩
    exact SqL.of (r.g.keep he trivial hne)
  · rintro i x σ H hx ⟨G2, p, r⟩
    obtain ⟨y, hy⟩ : ∃ y, ds[i]? = some y := ⟨_, List.getElem?_eq_getElem (by rw [← hl]; exact (List.getElem?_eq_some_iff.mp hx).1)⟩
    refine body i x y σ G2 H _ _ _ hx hy p r rfl fun σ' G3 H3 p' r' => ⟨G3, p', ?_⟩
    have z := r.trans r'
    rw [List.take_add_one, hy, List.flatMap_append, Nat.succ_mul]
    simpa [List.append_assoc, Nat.add_assoc] using z
  · rintro σ H ⟨G2, p, r⟩
    rw [hl, List.take_of_length_le (Nat.le_refl _)] at r
    exact fin σ G2 H p r
theorem cut_age (y : Option Nat) : cutV [V.non, oV y] (some (if decide (oV y = .non) = true then 1 else 0)) none = oVs y := by cases y <;> rfl
def spLCuts (K : PySem.W.Frag) : Sp := fun vs H Q _ => ∃ (G : Hp) (v : V) (m : Mk), vs = [v] ∧ Sb G H ∧ PtIn G v m ∧ Ok m ∧
  ∀ (G' H' : Hp) (p : Addr) (xs : List V), GR K S0 G H G' H' → G' p = some (.lst xs) → Paired (PtIn G') xs (cuts m) → Q (.ref p) H'
abbrev N__law_cuts : List Str := ["_law_parts", "_law_rows", "_law_size", "_law_hands", "_law_age", "_law_twin"]
theorem sc__law_cuts : FnScope N__law_cuts ["_law_parts"] (defScope S__law_cuts) := ⟨rfl, rfl, rfl, by decide +kernel, rfl, by decide +kernel, by decide +kernel⟩
theorem kn__law_cuts (T : Tx K mg base) : Kn P w K mg base CX0 5 "_law_cuts" ["_law_parts"] (spLCuts K) := by
  refine kn_of "_law_cuts" T 66 54 S__law_cuts rfl rfl sc__law_cuts (fun vs H Q E h => by obtain ⟨_, _, _, rfl, _⟩ := h; rfl) (fun _ _ _ _ _ _ us hl => match us, hl with | [_], _ => rfl) (fun cdv A outer s H vs Q E hr h => ⟨_, PSs.nox (pss_cons (ps_set (i := 1) sc__law_cuts.nd rfl (Or.inl rfl) (pe_lst pa_nil))
    (pss_cons (ps_for PassesOwn.never rfl (pi_range1 (by rfl) T.f_range (pa_cons (pe_op op_add (pe_callB call_len_str (by rfl) T.f_len (by decide +kernel) (pa_cons (pe_ix ix_list (pv 0) pe_int (fun _ _ => rfl)) pa_nil)) pe_int) pa_nil)) (pg_name (i := 2) sc__law_cuts.nd rfl (Or.inl rfl)) (pss_one (ps_if (PW.pt (pw_or (pt_cmpR op_eq (pv 2) pe_int (nomark _)) (pw_or1 (pt_cmpR op_ne (pe_ix ix_str (pe_ix ix_list (pv 0) pe_int (fun _ _ => rfl)) (pe_op op_sub (pv 2) pe_int) (fun _ _ => rfl)) pe_str (nomark _))))) (pss_one (ps_for PassesOwn.never rfl (pi_list (pe_fn (kn__law_hands_cut T) (hr.mono (by decide)) (pa_cons (pe_ix ix_list (pv 0) pe_int (fun _ _ => rfl)) pa_nil))) (pg_name (i := 3) sc__law_cuts.nd rfl (Or.inl rfl)) (pss_one (ps_for PassesOwn.never rfl (pi_list (pe_slice sl_list (pe_lst (pa_cons pe_non (pa_cons (pe_ix ix_list (pv 0) pe_int (fun _ _ => rfl)) pa_nil))) (po_some (pe_callTy call_int1 (by rfl) T.f_int (by decide +kernel) (pa_cons (pe_cmpR op_isN (pe_ix ix_list (pv 0) pe_int (fun _ _ => rfl)) pe_non (nomark _)) pa_nil))) po_none)) (pg_name (i := 4) sc__law_cuts.nd rfl (Or.inl rfl)) (pss_one (ps_for PassesOwn.never rfl (pi_list (pe_slice sl_list (pe_lst (pa_cons pe_non (pa_cons (pe_ix ix_list (pv 0) pe_int (fun _ _ => rfl)) pa_nil))) (po_some (pe_callTy call_int1 (by rfl) T.f_int (by decide +kernel) (pa_cons (pe_cmpR op_isN (pe_ix ix_list (pv 0) pe_int (fun _ _ => rfl)) pe_non (nomark _)) pa_nil))) po_none)) (pg_name (i := 5) sc__law_cuts.nd rfl (Or.inl rfl)) (pss_one (ps_expr (pe_bm PySem.F.plainAttrs_list PySem.F.slot_list_append PySem.F.type_list_append mt_append (pv 1) (pa_cons (pe_lst (pa_cons (pe_ix ix_list (pv 0) pe_int (fun _ _ => rfl)) (pa_cons (pe_ix ix_list (pv 0) pe_int (fun _ _ => rfl)) (pa_cons (pe_slice sl_str (pe_ix ix_list (pv 0) pe_int (fun _ _ => rfl)) po_none (po_some (pv 2))) (pa_cons (pv 3) (pa_cons (pv 4) (pa_cons (pv 5) pa_nil))))))) pa_nil)))))))))) pss_nil)))
    (pss_one (ps_ret (pe_sortF (x := "") (kn__law_key T) T (hr.mono (by decide)) (pv 1)))))), ?_⟩)
  obtain ⟨G, v, m, rfl, sb, ⟨a, hl, rfl, ha, hh⟩, ok, q⟩ := h
  have ha0 := (sb _ _ ha).1
  have rd : ∀ {i : Nat} {x : V}, (pV m hl)[i]? = some x → atI (pV m hl) (i : Int) = some x := fun h => atI_nat h
  have hpz := ok.pz
  have hsl := S_len m.p
  have hpl : (S m.p).length ≤ sizeLine := by rw [hsl]; exact size_of (by omega)
  refine ⟨size_of (n := 0) (by decide), fun d hd => ?_⟩
  have g1 := (GR.refl (K := K) (S := S0) sb).newM hd (o := .lst [])
  have hd' : ∀ b, S1 d b → S0 b ∨ H b = none := fun b hb => .inr (by rw [show b = d from hb]; exact hd)
  have r0 : Rq K d G (upd H d (.lst [])) G (upd H d (.lst [])) [] 0 := ⟨GR.refl g1.sb, sb.no hd, ⟨[], upd_same, .nil⟩, Nat.le_refl _⟩
  refine ⟨_, rfl, _, _, _, _, rfl, rfl, SqL.of (g1.keep ha0 trivial id), rd (i := 2) rfl, _, rfl, hpl, _, _, rfl, rfl, _, rfl, by omega, by omega, ?_⟩
  rw [show (((S m.p).length : Nat) + 1 : Int).toNat = m.p.length + 1 by omega]
  refine for_range (fun i σ H' => (∃ b c e f, σ = [some (.ref a), some (.ref d), b, c, e, f]) ∧ ∃ G', Rq K d G (upd H d (.lst [])) G' H' ((begsN m.p 0 i).flatMap (rawM m)) (i * 12004)) ⟨⟨_, _, _, _, rfl⟩, G, by simpa [begsN] using r0⟩ ?_ ?_
  · rintro i σ H3 hi ⟨⟨b, c, e, f, rfl⟩, G3, r3⟩
    have g3 : GR K S0 G H G3 H3 := g1.call r3.g hd'
    have ha3 := g3.keep ha0 trivial id
    refine (fun (body : begOk m.p i = true → ?T) => ?main) ?rest
    case main =>
      refine ⟨_, rfl, rfl, _, rfl, ifC (fun hz => ?_) fun hnz => ?_⟩
      · have hi0 : i = 0 := by have := V.int.inj hz; omega
        exact body (by rw [hi0]; rfl)
      · have hi0 : i ≠ 0 := fun z => hnz (by rw [z]; rfl)
        obtain ⟨c, hc⟩ : ∃ c, m.p[i - 1]? = some c := ⟨_, List.getElem?_eq_getElem (by omega)⟩
        have hca : atI (S m.p).cps.toList ((0 : Int) + (i : Int) - 1) = some c := by
          rw [show ((0 : Int) + (i : Int) - 1) = ((i - 1 : Nat) : Int) by omega]
          exact atI_nat hc
        refine ⟨_, rfl, _, _, _, _, rfl, rfl, SqL.of ha3, rd (i := 2) rfl, _, rfl, _, _, rfl, rfl, _, _, c, rfl, rfl, hpl, hca, rfl, _, rfl, ifN (fun hne => ?_) fun heq => ?_⟩
        · refine body ?_
          show (i == 0 || m.p[i - 1]? != some 48) = true
          rw [hc]
          refine Bool.or_eq_true_iff.mpr (.inr (bne_iff_ne.mpr fun e => hne ?_))
          rw [str0, Option.some.inj e]
        · refine ⟨⟨_, _, _, _, rfl⟩, G3, ?_⟩
          have hb : ¬ begOk m.p (0 + i) = true := by
            rw [Nat.zero_add]
            show ¬ (i == 0 || m.p[i - 1]? != some 48) = true
            rw [hc]
            intro z
            rcases Bool.or_eq_true_iff.mp z with z | z
            · exact hi0 (eq_of_beq z)
            · refine bne_iff_ne.mp z ?_
              by_cases hz : c = 48
              · rw [hz]
              · exact (ne_zero hz heq).elim
          rw [begsN_succ, if_neg hb, List.append_nil]
          exact ⟨r3.g, r3.gd, r3.xs, Nat.le_trans r3.le (Nat.mul_le_mul_right _ (Nat.le_succ i))⟩
    case rest =>
      intro hb
      have hpb : m.p.take i ∈ begs m.p 0 := begs_mem.mpr ⟨i, Nat.zero_le _, by omega, hb, rfl⟩
      refine ⟨_, rfl, _, _, _, .ref hl, rfl, rfl, SqL.of ha3, rd (i := 3) rfl, G3, hl, m.ms, rfl, g3.sb, g3.gg _ _ hh, ok.m3, fun k hk => ⟨ok.mo k hk, ok.mz k hk⟩, fun G4 H4 d3 xs3 g4 e3 hp3 => ⟨d3, rfl, ⟨_, SqL.of (g4.sb _ _ e3).1⟩, ?_⟩⟩
      have r4 := r3.start.step g4
      have n3 : d3 ≠ d := fun z => by rw [z, r4.gd] at e3; cases e3
      refine loopQ (ds := mcuts m.ms) (f := rawY m (m.p.take i)) (c := 4) (fun σ => ∃ c e f, σ = [some (.ref a), some (.ref d), some (.int (0 + (i : Int))), c, e, f]) ⟨_, _, _, rfl⟩ (g4.sb _ _ e3).1 n3 (pair_len hp3) r4.start ?_ ?_
      · rintro i2 x ms σ G5 H5 acc2 n2 N2 hx hms ⟨c, e, f, rfl⟩ r5 hn5 k5
        have r45 := r4.trans r5
        have g5 : GR K S0 G H G5 H5 := g3.call r45.g hd'
        have ha5 := g5.keep ha0 trivial id
        obtain ⟨tm, rfl, htm⟩ := pair_at hp3 hx hms
        have htm5 := r5.g.gg _ _ htm
        have hms3 := (List.getElem?_eq_some_iff.mp hms).1
        have hl3 := mcuts_len ok.m3 ok.mz
        refine ⟨_, rfl, _, _, _, oV m.y, rfl, rfl, SqL.of ha5, rd (i := 4) rfl, size_of (n := 2) (by decide), fun l4 hl4 => ?_⟩
        have k4 := (GR.refl (K := K) (S := S0) r5.g.sb).newM hl4 (o := .lst [.non, oV m.y])
        refine ⟨_, rfl, _, _, _, oV m.y, rfl, rfl, SqL.of (k4.keep ha5 trivial id), rd (i := 4) rfl, rfl, .inr ⟨_, rfl, ?_⟩⟩
        refine ⟨_, rfl, l4, _, rfl, SqL.of upd_same, fun d4 hd4 => ⟨d4, rfl, ⟨_, SqL.of upd_same⟩, ?_⟩⟩
        rw [cut_age]
        obtain ⟨xs5, hx5, _⟩ := (r5.start.step k4).xs
        have r6 := r5.start.step (k4.newM hd4 (o := .lst (oVs m.y)))
        refine loopQ (ds := orN m.y) (f := rawC m (m.p.take i) ms) (c := 2) (fun σ => ∃ e f, σ = [some (.ref a), some (.ref d), some (.int (0 + (i : Int))), some (.ref tm), e, f]) ⟨_, _, rfl⟩ upd_same (ne_of_none' hx5 hd4) (List.length_map _) r6.start ?_ ?_
        · rintro i4 x y σ G7 H7 acc4 n4 N4 hx hy ⟨e, f, rfl⟩ r7 hn7 k7
          obtain rfl : x = oV y := by
            rw [oVs, List.getElem?_map, hy] at hx
            injection hx with hx
            exact hx.symm
          have hi4 := (List.getElem?_eq_some_iff.mp hy).1
          have hl4' := orN_len m.y
          have g7 : GR K S0 G H G7 H7 := g5.call (r6.trans r7).g hd'
          have ha7 := g7.keep ha0 trivial id
          refine ⟨_, rfl, _, _, _, oV m.c, rfl, rfl, SqL.of ha7, rd (i := 5) rfl, size_of (n := 2) (by decide), fun l5 hl5 => ?_⟩
          have k5' := (GR.refl (K := K) (S := S0) r7.g.sb).newM hl5 (o := .lst [.non, oV m.c])
          refine ⟨_, rfl, _, _, _, oV m.c, rfl, rfl, SqL.of (k5'.keep ha7 trivial id), rd (i := 5) rfl, rfl, .inr ⟨_, rfl, ?_⟩⟩
          refine ⟨_, rfl, l5, _, rfl, SqL.of upd_same, fun d5 hd5 => ⟨d5, rfl, ⟨_, SqL.of upd_same⟩, ?_⟩⟩
          rw [cut_age]
          obtain ⟨xs7, hx7, _⟩ := (r7.start.step k5').xs
          have r8 := r7.start.step (k5'.newM hd5 (o := .lst (oVs m.c)))
          refine loopQ (ds := orN m.c) (f := fun c => [⟨m.l, m.n, m.p.take i, ms, y, c⟩]) (c := 1) (fun σ => ∃ f, σ = [some (.ref a), some (.ref d), some (.int (0 + (i : Int))), some (.ref tm), some (oV y), f]) ⟨_, rfl⟩ upd_same (ne_of_none' hx7 hd5) (List.length_map _) r8.start ?_ ?_
          · rintro i5 x cc σ G9 H9 acc5 n5 N5 hx hc ⟨f, rfl⟩ r9 hn9 k9
            obtain rfl : x = oV cc := by
              rw [oVs, List.getElem?_map, hc] at hx
              injection hx with hx
              exact hx.symm
            have hi5 := (List.getElem?_eq_some_iff.mp hc).1
            have hl5' := orN_len m.c
            have g9 : GR K S0 G H G9 H9 := g7.call (r8.trans r9).g hd'
            have ha9 := SqL.of (K := K) (g9.keep ha0 trivial id)
            obtain ⟨xs9, hx9, _⟩ := r9.xs
            refine ⟨_, rfl, .inl ⟨rfl, _, SqL.of hx9⟩, ?_⟩
            refine ⟨_, rfl, _, _, _, _, rfl, rfl, ha9, rd (i := 0) rfl, _, rfl, _, _, _, _, rfl, rfl, ha9, rd (i := 1) rfl, _, rfl, _, _, _, _, rfl, rfl, ha9, rd (i := 2) rfl, _, rfl, _, rfl, _, rfl, hpl, _, rfl, _, rfl, _, rfl, size_of (n := 6) (by decide), fun z hz => ?_⟩
            rw [show V.str (cutS (S m.p) none (some (0 + (i : Int)))) = sV (m.p.take i) from congrArg V.str (sl_to m.p _ i (by omega))]
            have g10 := (GR.refl (K := K) (S := S0) r9.g.sb).new hz (o := .lst (pV ⟨m.l, m.n, m.p.take i, ms, y, cc⟩ tm)) trivial
            have r10 := r9.start.step g10
            obtain ⟨ys, hy10, hz10, rr⟩ := r10.push (v := .ref z) (m := ⟨m.l, m.n, m.p.take i, ms, y, cc⟩) ⟨z, tm, rfl, upd_same, Le.up (r9.g.sb.no hz) _ _ ((r6.trans (r7.trans (r8.trans r9))).g.gg _ _ htm5)⟩ (by omega)
            exact ⟨d, ys, _, rfl, rfl, hy10, hz10, k9 _ _ _ ⟨_, rfl⟩ rr⟩
          · rintro σ' G9 H9 ⟨f, rfl⟩ r9
            refine k7 _ G9 H9 ⟨_, _, rfl⟩ ?_
            have z := r8.trans r9
            have e1 : (orN m.c).flatMap (fun c => [(⟨m.l, m.n, m.p.take i, ms, y, c⟩ : Mk)]) = rawC m (m.p.take i) ms y := by
              unfold rawC
              rw [List.map_eq_flatMap]
            rw [e1] at z
            have := orN_len m.c
            exact ⟨z.g, z.gd, z.xs, Nat.le_trans z.le (by omega)⟩
        · rintro σ' G7 H7 ⟨e, f, rfl⟩ r7
          refine k5 _ G7 H7 ⟨_, _, _, rfl⟩ ?_
          have z := r6.trans r7
          have := orN_len m.y
          exact ⟨z.g, z.gd, z.xs, Nat.le_trans z.le (by omega)⟩
      · rintro σ' G5 H5 ⟨c, e, f, rfl⟩ r5
        refine ⟨⟨_, _, _, _, rfl⟩, G5, ?_⟩
        have z := r3.trans (r4.trans r5)
        have hl3 := mcuts_len ok.m3 ok.mz
        rw [begsN_succ, if_pos (by rw [Nat.zero_add]; exact hb), Nat.zero_add, List.flatMap_append]
        refine ⟨z.g, z.gd, ?_, ?_⟩
        · simpa [rawM] using z.xs
        · have := z.le
          simp [rawM] at this ⊢
          omega
  · rintro σ H3 ⟨⟨b, c, e, f, rfl⟩, G3, r3⟩
    have g3 : GR K S0 G H G3 H3 := g1.call r3.g hd'
    obtain ⟨xs, hx, hp⟩ := r3.xs
    rw [show (begsN m.p 0 (m.p.length + 1)).flatMap (rawM m) = rawCuts m from rfl] at hp
    refine ⟨_, rfl, _, rfl, rfl, d, G3, xs, rawCuts m, rfl, g3.sb, SqL.of hx, pair_len hp, fun i x k G4 H4 hx hk g4 => ?_, fun G4 H4 p ys g4 hp0 hp1 hys => ?_⟩
    · refine ⟨x, k, rfl, ((pair_at hp hx hk).mono g4.gg).mono g4.sb.le, fun t p ht hp => ?_⟩
      obtain ⟨G', g, l, k⟩ := key_new (GR.refl (K := K) (S := S0) g4.sb) ht hp
      exact ⟨G', g, k⟩
    · refine q _ _ p ys ((g3.trans g4).new hp1 trivial) upd_same (pair_imp hys fun _ _ z => ?_)
      exact (pair_zip hp z).mono (g4.gg.trans (Le.up (g4.sb.no hp1)))
end
end K42
set_option Elab.async false
set_option linter.all false
set_option maxRecDepth 100000
set_option maxHeartbeats 4000000
namespace K42
open PySem PySem.Spec PyProof.Rows L2
/-! ### least sums by all pairs, and by the first least one -/
abbrev Ah := List (Option Mk × Option Nat)
def ahLt (k : Option Mk) (c : Mk) : Bool := match k with
  | none => true
  | some x => kLt x c
def sm1 (c : Mk) (p : Option Mk × Option Nat) : Option Nat := if ahLt p.1 c = true then p.2 else none
def sms (A : Ah) (c : Mk) : List Nat := A.filterMap (sm1 c)
def ahOf (prev : Option (List Ent)) : Ah := match prev with
  | none => [(none, some 0)]
  | some es => es.map fun e => (some e.c, e.s)
theorem sms_mem {es : List Ent} {c : Mk} (hr : Rise (es.map Ent.c)) {y : Nat} : y ∈ sms (ahOf (some es)) c ↔ ∃ j, j < cnt es c ∧ sizeAt es j = some y := by
  unfold sms ahOf
  rw [List.mem_filterMap]
  constructor
  · rintro ⟨p, hp, hy⟩
    obtain ⟨e, he, rfl⟩ := List.mem_map.mp hp
    obtain ⟨j, hj⟩ := List.getElem?_of_mem he
    unfold sm1 at hy
    split at hy
    · rename_i hlt
      refine ⟨j, Nat.lt_of_not_le fun hle => ?_, by rw [sizeAt_of hj]; exact hy⟩
      obtain ⟨e2, he2⟩ : ∃ e2, es[cnt es c]? = some e2 := ⟨_, List.getElem?_eq_getElem (Nat.lt_of_le_of_lt hle (List.getElem?_eq_some_iff.mp hj).1)⟩
      have h2 := cnt_end he2
      have hlt : kLt e.c c = true := hlt
      rcases Nat.eq_or_lt_of_le hle with q | q
      · rw [← q, he2] at hj
        cases hj
        rw [h2] at hlt; cases hlt
      · have := rise_at hr q (a := e2.c) (b := e.c) (by rw [List.getElem?_map, he2]; rfl) (by rw [List.getElem?_map, hj]; rfl)
        rw [kLt_tr this hlt] at h2; cases h2
    · cases hy
  · rintro ⟨j, hj, hy⟩
    obtain ⟨e, he⟩ : ∃ e, es[j]? = some e := ⟨_, List.getElem?_eq_getElem (Nat.lt_of_lt_of_le hj (cnt_le es c))⟩
    refine ⟨_, List.mem_map_of_mem (List.mem_of_getElem? he), ?_⟩
    unfold sm1
    rw [if_pos (show ahLt (some e.c) c = true from cnt_lt hj he)]
    rw [sizeAt_of he] at hy
    exact hy
theorem next_size {prev : Option (List Ent)} {m : Mk} (hr : ∀ es, prev = some es → Rise (es.map Ent.c)) {i : Nat} {e : Ent} (he : (rowNext prev m)[i]? = some e) :
    (sms (ahOf prev) e.c = [] ∧ e.s = none) ∨ ∃ t, e.s = some (t + tl e.c) ∧ t ∈ sms (ahOf prev) e.c ∧ ∀ y ∈ sms (ahOf prev) e.c, t ≤ y := by
  obtain ⟨h1, h2, h3⟩ := rowNext_at he
  cases prev with
  | none =>
    refine .inr ⟨0, by rw [(h2 rfl).1, Nat.zero_add], ?_, fun y _ => Nat.zero_le y⟩
    show 0 ∈ [0]
    exact List.mem_singleton.mpr rfl
  | some es =>
    have ee := h3 es rfl
    have es1 : e.s = (bestIn es (cnt es e.c)).map fun i => (sizeAt es i).getD 0 + tl e.c := congrArg Ent.s ee
    obtain ⟨b1, b2⟩ := best_spec es (cnt es e.c)
    cases eb : bestIn es (cnt es e.c) with
    | none =>
      rw [eb] at es1
      refine .inl ⟨List.eq_nil_iff_forall_not_mem.mpr fun y hy => ?_, es1⟩
      obtain ⟨j, hj, hs⟩ := (sms_mem (hr es rfl)).mp hy
      rw [b1 eb j hj] at hs; cases hs
    | some b =>
      rw [eb] at es1
      obtain ⟨hb, s, hs, hle⟩ := b2 b eb
      refine .inr ⟨s, ?_, (sms_mem (hr es rfl)).mpr ⟨b, hb, hs⟩, fun y hy => ?_⟩
      · rw [es1]
        show some ((sizeAt es b).getD 0 + tl e.c) = _
        rw [hs]; rfl
      · obtain ⟨j, hj, hs'⟩ := (sms_mem (hr es rfl)).mp hy
        exact hle j y hj hs'
theorem row_new {es : List Ent} {m : Mk} (hrc : es.map Ent.c = cuts m) (ok : Ok m) {j : Nat} {en : Ent} (hj : es[j]? = some en) : ∀ z ∈ es.take j, text z.c ≠ text en.c := by
  intro z hz ht
  have nd : (es.map Ent.c).Nodup := by
    rw [hrc]
    exact rise_nodup (cuts_rise ok)
  obtain ⟨k, hk⟩ := List.getElem?_of_mem hz
  have hkj : k < j := by
    have := (List.getElem?_eq_some_iff.mp hk).1
    rw [List.length_take] at this
    omega
  rw [List.getElem?_take_of_lt hkj] at hk
  have mc : ∀ e ∈ es, Ok e.c := fun e he => cuts_ok ok (by rw [← hrc]; exact List.mem_map_of_mem he)
  have ec := text_inj (mc z (List.mem_of_getElem? hk)) (mc en (List.mem_of_getElem? hj)) ht
  have h1 : (es.map Ent.c)[k]? = some z.c := by rw [List.getElem?_map, hk]; rfl
  have h2 : (es.map Ent.c)[j]? = some en.c := by rw [List.getElem?_map, hj]; rfl
  have := (List.getElem?_inj (List.getElem?_eq_some_iff.mp h1).1 nd).mp (h1.trans ((congrArg some ec).trans h2.symm))
  omega
section
variable {P : Program} {w : World} {K : PySem.W.Frag} {mg : Str → Option Value} {base : Heap}
def ElAt (G : Hp) (k : V) : Option Mk → Prop
  | none => ∃ a, k = .ref a ∧ G a = some (.tup [])
  | some c => KeyAt G k c
def AhAt (G : Hp) (v : V) (p : Option Mk × Option Nat) : Prop := ∃ t k, v = .ref t ∧ G t = some (.tup [k, oV p.2]) ∧ ElAt G k p.1
theorem AhAt.mono {G G' : Hp} {v : V} {p : Option Mk × Option Nat} (h : AhAt G v p) (l : Le G G') : AhAt G' v p := by
  obtain ⟨t, k, rfl, h1, h2⟩ := h
  refine ⟨t, k, rfl, l _ _ h1, ?_⟩
  obtain ⟨k0, s⟩ := p
  cases k0 with
  | none =>
    obtain ⟨a, rfl, h⟩ := h2
    exact ⟨a, rfl, l _ _ h⟩
  | some c => exact KeyAt.le h2 l
/-- the comparison's data -/
theorem ElAt.dp {G H : Hp} {k : V} {p : Option Mk} (h : ElAt G k p) (sb : Sb G H) : ∃ d, Dp K H k d ∧ d ≠ .none ∧ d.depth ≤ 60 ∧ ∀ c, PySem.W.alike d (keyD c) = true ∧ PySem.W.dataLt d (keyD c) = ahLt p c := by
  cases p with
  | none =>
    obtain ⟨a, rfl, h⟩ := h
    exact ⟨.tuple [], .tup (SqT.of (sb _ _ h).1) .nil, (fun e => nomatch e), by decide, fun c => ⟨nil_alike c, nil_lt c⟩⟩
  | some x => exact ⟨keyD x, KeyAt.dp h sb, (fun e => nomatch e), key_depth x, fun c => ⟨alike_key x c, rfl⟩⟩
/-- now and the dict, so far -/
structure Inn (K : PySem.W.Frag) (G0 H0 G H : Hp) (nw dd : Addr) (es : List Ent) (j : Nat) : Prop where
  g : GR K S0 G0 H0 G H
  gn : G nw = none
  gd : G dd = none
  hn : ∃ zs, H nw = some (.lst zs) ∧ Paired (AhAt G) zs (ahOf (some (es.take j)))
  hd : H dd = some (.dK (pap (es.take j)))
theorem Inn.step {G0 H0 G H G' H' : Hp} {nw dd : Addr} {es : List Ent} {j : Nat} (r : Inn K G0 H0 G H nw dd es j) (g : GR K S0 G H G' H') : Inn K G0 H0 G' H' nw dd es j := by
  obtain ⟨zs, h1, h2⟩ := r.hn
  exact ⟨r.g.trans g, g.nofrz h1 r.gn, g.nofrz r.hd r.gd, ⟨zs, g.keep h1 trivial id, pair_imp h2 fun _ _ z => z.mono g.gg⟩, g.keep r.hd trivial id⟩
def spLSums (K : PySem.W.Frag) : Sp := fun vs H Q _ => ∃ (G : Hp) (v : V) (ms : List Mk), vs = [v] ∧ Sb G H ∧ ShelfAt G v ms ∧ Fit ms ∧
  ∀ (G' H' : Hp) (p : Addr) (ds : List V), GR K S0 G H G' H' → G' p = some (.lst ds) → Paired (PapAt G') ds (sumsOf ms) → Q (.ref p) H'
abbrev N__law_sums : List Str := ["_law_shelf_here", "_law_rows", "_law_ahead", "_law_parts", "_law_now", "_law_sums_here", "_law_cut", "_law_grade", "_law_wording", "_law_some", "_law_size", "_law_elder"]
theorem sc__law_sums : FnScope N__law_sums ["_law_shelf_here"] (defScope S__law_sums) := ⟨rfl, rfl, rfl, by decide +kernel, rfl, by decide +kernel, by decide +kernel⟩
theorem kn__law_sums (T : Tx K mg base) : Kn P w K mg base CX0 6 "_law_sums" ["_law_shelf_here"] (spLSums K) := by
  refine kn_of "_law_sums" T 67 55 S__law_sums rfl rfl sc__law_sums (fun vs H Q E h => by obtain ⟨_, _, _, rfl, _⟩ := h; rfl) (fun _ _ _ _ _ _ us hl => match us, hl with | [_], _ => rfl) (fun cdv A outer s H vs Q E hr h => ⟨_, PSs.nox (pss_cons (ps_set (i := 1) sc__law_sums.nd rfl (Or.inl rfl) (pe_lst pa_nil))
    (pss_cons (ps_set (i := 2) sc__law_sums.nd rfl (Or.inl rfl) (pe_lst (pa_cons (pe_tup (pa_cons (pe_tup pa_nil) (pa_cons pe_int pa_nil))) pa_nil)))
    (pss_cons (ps_for PassesOwn.never rfl (pi_list (pv 0)) (pg_name (i := 3) sc__law_sums.nd rfl (Or.inl rfl)) (pss_cons (ps_set (i := 4) sc__law_sums.nd rfl (Or.inl rfl) (pe_lst pa_nil))
    (pss_cons (ps_set (i := 5) sc__law_sums.nd rfl (Or.inl rfl) pe_dnewK)
    (pss_cons (ps_for PassesOwn.never rfl (pi_list (pe_fn (kn__law_cuts T) (hr.mono (by decide)) (pa_cons (pv 3) pa_nil))) (pg_name (i := 6) sc__law_sums.nd rfl (Or.inl rfl)) (pss_cons (ps_set (i := 7) sc__law_sums.nd rfl (Or.inr rfl) (pe_fn (kn__law_key T) (hr.mono (by decide)) (pa_cons (pv 6) pa_nil)))
    (pss_cons (ps_set (i := 8) sc__law_sums.nd rfl (Or.inl rfl) (pe_fn (kn__law_text T) (hr.mono (by decide)) (pa_cons (pv 6) pa_nil)))
    (pss_cons (ps_setLc (i := 9) rfl sc__law_sums.nd rfl rfl (sw_true rfl rfl rfl (by decide +kernel)) (own := [("_law_elder", 11), ("_law_size", 10)]) (pi_list (pv 2)) (blkOk_by (N := N__law_sums) (sc := defScope S__law_sums) (by decide +kernel)) (fun _ _ _ _ _ => (pg_tupE (n := 2) K rfl rfl (pgs_cons (pg_name (i := 11) sc__law_sums.nd rfl (Or.inl rfl)) (pgs_cons (pg_name (i := 10) sc__law_sums.nd rfl (Or.inl rfl)) pgs_nil)))) (fun _ _ _ _ _ => (pts_one (PW.pt (pw_and (pt_cmpR op_notN (pv 10) pe_non (nomark _)) (pw_and1 (pt_cmpR (op_ltE K rfl hr) (pv 11) (pv 7) (nomark _))))))) (fun _ _ _ _ _ => (pv 10)))
    (Evl.pss_cut (ps_set (i := 10) sc__law_sums.nd rfl (Or.inl rfl) (pe_ifExp (pt_cmpR (op_neNil hr) (pv 9) (pe_lst pa_nil) (nomark _)) (pe_op op_add (pe_callB (cr_min rfl) (by rfl) T.f_min (by decide +kernel) (pa_cons (pv 9) pa_nil)) (pe_callB call_len_str (by rfl) T.f_len (by decide +kernel) (pa_cons (pv 8) pa_nil))) pe_non))
    (pss_cons (ps_expr (pe_bm PySem.F.plainAttrs_list PySem.F.slot_list_append PySem.F.type_list_append mt_append (pv 4) (pa_cons (pe_tup (pa_cons (pv 7) (pa_cons (pv 10) pa_nil))) pa_nil)))
    (pss_one (ps_dput (hu2 hr) (pv 5) (pv 8) (pv 10) rfl))))))))
    (pss_cons (ps_set (i := 2) sc__law_sums.nd rfl (Or.inl rfl) (pv 4))
    (pss_one (ps_expr (pe_bm PySem.F.plainAttrs_list PySem.F.slot_list_append PySem.F.type_list_append mt_append (pv 1) (pa_cons (pv 5) pa_nil)))))))))
    (pss_one (ps_ret (pv 1)))))), ?_⟩)
  obtain ⟨G, v, ms, rfl, sb, ⟨a, xs, rfl, ha, hpr⟩, fit, q⟩ := h
  have hml := pair_len hpr
  have hm12 := fit.len
  refine ⟨size_of (n := 0) (by decide), fun d hd => ?_⟩
  have g1 := (GR.refl (K := K) (S := S0) sb).newM hd (o := .lst [])
  refine ⟨size_of (n := 0) (by decide), fun t0 ht0 => ?_⟩
  have c2 := (GR.refl (K := K) (S := S0) g1.sb).new ht0 (o := .tup []) trivial
  refine ⟨size_of (n := 2) (by decide), fun t1 ht1 => ?_⟩
  have c3 := c2.new ht1 (o := .tup [.ref t0, .int 0]) trivial
  refine ⟨size_of (n := 1) (by decide), fun a0 ha0 => ?_⟩
  have c4 := c3.new ha0 (o := .lst [.ref t1]) trivial
  have mono : ∀ (G G' : Hp) (v : V) (es : List Ent), PapAt G v es → Le G G' → PapAt G' v es := fun _ _ _ _ h l => h.mono l
  have r0 : RowsP PapAt K G H _ _ d ([] : List (List Ent)) := ⟨g1.trans c4, c4.nofrz upd_same (sb.no hd), [], c4.keep upd_same trivial id, .nil⟩
  have hA0 : Paired (AhAt (upd (upd (upd G t0 (.tup [])) t1 (.tup [.ref t0, .int 0])) a0 (.lst [.ref t1]))) [.ref t1] (ahOf none) :=
    .cons ⟨t1, .ref t0, rfl, Le.up (c3.sb.no ha0) _ _ upd_same, t0, rfl, Le.up (c3.sb.no ha0) _ _ (Le.up (c2.sb.no ht1) _ _ upd_same)⟩ .nil
  have nwd : Nw H d := .of hd
  have ha1 := (sb _ _ ha).1
  refine ⟨_, rfl, a, rfl, ⟨_, SqL.of ((g1.trans c4).keep ha1 trivial id)⟩, ?_⟩
  refine for_list (K := K) (a := a) (xs := xs) (fun i σ H' => ∃ (ra : Addr) (x3 x4 x5 x6 x7 x8 x9 x10 x11 : Option V), σ = [some (.ref a), some (.ref d), some (.ref ra), x3, x4, x5, x6, x7, x8, x9, x10, x11] ∧ ∃ (G' : Hp) (axs : List V) (prev : Option (List Ent)), G' ra = some (.lst axs) ∧ Paired (AhAt G') axs (ahOf prev) ∧ prev = (sumsOf (ms.take i)).getLast? ∧ RowsP PapAt K G H G' H' d (sumsOf (ms.take i))) ?_ ?_ ?_ ?_
  · exact ⟨a0, _, _, _, _, _, _, _, _, _, rfl, _, _, none, upd_same, hA0, rfl, r0⟩
  · rintro i σ H1 hi ⟨ra, x3, x4, x5, x6, x7, x8, x9, x10, x11, rfl, G1, axs, prev, _, _, _, r⟩
    exact SqL.of (r.g.keep ha1 trivial id)
  · rintro i x σ H1 hxi ⟨ra, x3, x4, x5, x6, x7, x8, x9, x10, x11, rfl, G1, axs, prev, hra, hax, hprev, r1⟩
    obtain ⟨m, hm, hmp⟩ := pair_get' hpr hxi
    have okm := fit.ok m (List.mem_of_getElem? hm)
    have hpm1 := hmp.mono r1.g.gg
    have him := (List.getElem?_eq_some_iff.mp hm).1
    have hpc : ∀ es', prev = some es' → ∃ m' ∈ ms, es'.map Ent.c = cuts m' := fun es' e => by
      rw [hprev] at e
      obtain ⟨m', hm', h⟩ := sumsOf_rows es' (List.mem_of_getLast? e)
      exact ⟨m', List.mem_of_mem_take hm', h⟩
    have hprise : ∀ es', prev = some es' → Rise (es'.map Ent.c) := fun es' e => by
      obtain ⟨m', hm', h⟩ := hpc es' e
      rw [h]
      exact cuts_rise (fit.ok m' hm')
    have hahl : (ahOf prev).length ≤ 12016004 := by
      cases prev with
      | none => show 1 ≤ _; decide
      | some es' =>
        obtain ⟨m', hm', h⟩ := hpc es' rfl
        have h2 := cuts_len (fit.ok m' hm')
        rw [← h, List.length_map] at h2
        show (es'.map _).length ≤ _
        rw [List.length_map]; exact h2
    refine ⟨size_of (n := 0) (by decide), fun nw hnw => ?_⟩
    have k1 := (GR.refl (K := K) (S := S0) r1.g.sb).newM hnw (o := .lst [])
    refine fun dd hdd => ?_
    have k2 := k1.newM hdd (o := .dK [])
    have nnd : nw ≠ dd := fun z => by rw [← z, upd_same] at hdd; cases hdd
    have hdd1 : H1 dd = none := by rw [upd_ne nnd.symm] at hdd; exact hdd
    have hnw2 : upd (upd H1 nw (.lst [])) dd (.dK []) nw = some (.lst []) := by rw [upd_ne nnd]; exact upd_same
    refine ⟨_, rfl, G1, x, m, rfl, k2.sb, hpm1, okm, fun G3 H3 p ys g3 hp3 hys => ⟨p, rfl, ⟨_, SqL.of (g3.sb _ _ hp3).1⟩, ?_⟩⟩
    have hrc := rowNext_c prev m
    generalize hes : rowNext prev m = es at hrc
    have hesl : es.length ≤ 12016004 := by
      have h2 := cuts_len okm
      rw [← hrc, List.length_map] at h2
      exact h2
    have i0 : Inn K G1 H1 G3 H3 nw dd es 0 := ⟨k2.trans g3, g3.nofrz hnw2 (r1.g.sb.no hnw), g3.nofrz upd_same (r1.g.sb.no hdd1), ⟨[], g3.keep hnw2 trivial id, .nil⟩, g3.keep upd_same trivial id⟩
    refine for_list (K := K) (a := p) (xs := ys) (fun j σ H' => (∃ x6 x7 x8 x9 x10 x11 : Option V, σ = [some (.ref a), some (.ref d), some (.ref ra), some x, some (.ref nw), some (.ref dd), x6, x7, x8, x9, x10, x11]) ∧ ∃ G', Le G3 G' ∧ Inn K G1 H1 G' H' nw dd es j) ⟨⟨_, _, _, _, _, _, rfl⟩, G3, Le.refl _, i0⟩ ?_ ?_ ?_
    · rintro j σ H4 hj ⟨_, G4, l4, in4⟩
      exact SqL.of (in4.g.sb _ _ (l4 _ _ hp3)).1
    · rintro j y σ H4 hyj ⟨⟨x6, x7, x8, x9, x10, x11, rfl⟩, G4, l4, in4⟩
      obtain ⟨c, hc, hyc⟩ := pair_get' hys hyj
      have hcm := List.mem_of_getElem? hc
      rw [← hrc, List.getElem?_map] at hc
      obtain ⟨e, he, rfl⟩ := Option.map_eq_some_iff.mp hc
      have hje := (List.getElem?_eq_some_iff.mp he).1
      have okc : Ok e.c := cuts_ok okm hcm
      have hy4 : PtIn G4 y e.c := hyc.mono l4
      refine ⟨_, rfl, y, e.c, rfl, hy4.mono in4.g.sb.le, fun t pk ht hpk => ?_⟩
      obtain ⟨G5, g5, l5, k5⟩ := key_new (GR.refl (K := K) (S := S0) in4.g.sb) ht hpk
      generalize upd (upd H4 t (.tup (msV e.c.ms))) pk (.tup [sV e.c.l, .int e.c.n, sV e.c.p, .ref t, .int (oi e.c.y), .int (oi e.c.c)]) = H5 at g5
      refine ⟨_, rfl, y, e.c, rfl, (hy4.mono l5).mono g5.sb.le, okc, ?_⟩
      have l35 : Le G1 G5 := (g3.gg.trans l4).trans l5
      have hra5 := l35 _ _ hra
      have hax5 := pair_imp hax fun _ _ z => z.mono l35
      have hal := pair_len hax5
      refine ⟨_, rfl, ra, rfl, ⟨_, SqL.of (g5.sb _ _ hra5).1⟩, fun D hD => ?_⟩
      refine lcG K (G1 := G5) (walk_list (K := K) (a := ra) (xs := axs)) g5.sb hD (fun G' acc i => G' = G5 ∧ acc = ((sms ((ahOf prev).take i) e.c).map fun n : Nat => (n : Int)).map V.int) ⟨rfl, rfl⟩ (size_of (by omega)) (fun G' acc i ez => ?_) (fun G' H' gr => SqL.of (gr.sb _ _ (gr.gg _ _ hra5)).1) (fun i2 x G' H6 H' acc N hi2 gr gD hD' rp yy ky kn => ?_) (fun G' H6 acc gr hD' gD rp => ?_)
      · rw [ez.2, List.length_map, List.length_map]
        exact Nat.le_trans (List.length_filterMap_le _ _) (List.length_take_le _ _)
      · obtain ⟨rfl, hx⟩ := yy
        obtain ⟨rfl, rfl⟩ := rp
        obtain ⟨pp, hpp, t2, kv, rfl, ht2, hkv⟩ := pair_get' hax5 hx
        have ht6 := (gr.sb _ _ ht2).1
        have nxt : sms ((ahOf prev).take (i2 + 1)) e.c = sms ((ahOf prev).take i2) e.c ++ (sm1 e.c pp).toList := by
          unfold sms
          rw [List.take_add_one, hpp, List.filterMap_append]
          congr 1
        refine ⟨t2, _, rfl, SqT.of ht6, rfl, _, _, rfl, _, _, rfl, rfl, rfl, ?_⟩
        refine ⟨_, rfl, rfl, _, rfl, ?_⟩
        cases eq2 : pp.2 with
        | none =>
          refine ifN (fun z => (z rfl).elim) fun _ => iteF (kn _ _ (GR.refl gr.sb) ⟨rfl, ?_⟩)
          rw [nxt, show sm1 e.c pp = none by unfold sm1; rw [eq2]; split <;> rfl]
          simp
        | some s =>
          refine ifN (fun _ => ?_) fun z => nomatch z
          obtain ⟨dv, hdv, hne, hdep, hcmp⟩ := hkv.dp gr.sb
          refine ⟨_, rfl, _, rfl, dv, keyD e.c, hdv, (k5.dp gr.sb), (hcmp e.c).1, hne, hdep, _, rfl, ?_⟩
          rw [(hcmp e.c).2]
          cases el : ahLt pp.1 e.c with
          | false =>
            refine iteF (kn _ _ (GR.refl gr.sb) ⟨rfl, ?_⟩)
            rw [nxt, show sm1 e.c pp = none by unfold sm1; rw [el]; rfl]
            simp
          | true =>
            refine iteT ⟨_, rfl, ky _ _ _ (GR.refl gr.sb) ⟨rfl, ?_⟩⟩
            rw [nxt, show sm1 e.c pp = some s by unfold sm1; rw [el, eq2]; rfl]
            simp [oV]
      obtain ⟨rfl, rfl⟩ := rp
      rw [show (ahOf prev).take axs.length = ahOf prev from List.take_of_length_le (by omega)] at hD'
      refine ⟨fun σ H' => σ = [some (.ref a), some (.ref d), some (.ref ra), some x, some (.ref nw), some (.ref dd), some y, some (.ref pk), some (sV (text e.c)), some (.ref D), some (oV e.s), x11] ∧ GR K S0 G' H6 G' H', ?_, ?_⟩
      · refine ⟨_, rfl, size_of (n := 0) (by decide), fun e0 he0 => ?_⟩
        have k6 := (GR.refl (K := K) (S := S0) gr.sb).newM he0 (o := .lst [])
        have hD6 := k6.keep hD' trivial id
        refine ⟨D, e0, _, rfl, rfl, SqL.of hD6, SqL.of upd_same, _, rfl, ?_⟩
        rw [← hes] at he
        rcases next_size hprise he with ⟨hsm, hs⟩ | ⟨tt, hs, htm, hle⟩
        · rw [hsm]
          exact ⟨by rw [hs]; rfl, k6⟩
        · cases esm : sms (ahOf prev) e.c with
          | nil => rw [esm] at htm; cases htm
          | cons u us =>
            rw [esm] at hD6 htm hle
            refine ⟨_, rfl, D, ((u :: us).map fun n : Nat => (n : Int)), rfl, SqL.of hD6, by simp, fun mm hmm hmin => ?_⟩
            have emm : mm = (tt : Int) := by
              obtain ⟨z, hz, rfl⟩ := List.mem_map.mp hmm
              have h1 := hle z hz
              have h2 := hmin (tt : Int) (List.mem_map_of_mem htm)
              omega
            refine ⟨_, rfl, _, rfl, text_fits e.c okc, _, _, rfl, rfl, ?_, k6⟩
            rw [emm, hs, S_len]
            rfl
      rintro σ H7 ⟨rfl, g7⟩
      have in7 := in4.step ((g5.trans gr).trans g7)
      obtain ⟨zs, hnz, hpz⟩ := in7.hn
      refine ⟨_, rfl, .inl ⟨rfl, _, SqL.of hnz⟩, _, rfl, _, rfl, size_of (n := 2) (by decide), fun tp htp => ?_⟩
      have in8 := in7.step ((GR.refl in7.g.sb).new htp (o := .tup [.ref pk, oV e.s]) trivial)
      obtain ⟨zs8, hn8, hp8⟩ := in8.hn
      have hd9 : upd (upd H7 tp (.tup [.ref pk, oV e.s])) nw (.lst (zs8 ++ [.ref tp])) dd = some (.dK (pap (es.take j))) := by rw [upd_ne nnd.symm]; exact in8.hd
      refine ⟨nw, zs8, .ref tp, rfl, rfl, hn8, ?_, ?_⟩
      · rw [pair_len hp8, sizeLine_eq]
        show ((es.take j).map _).length < _
        rw [List.length_map, List.length_take]
        omega
      refine ⟨_, rfl, _, rfl, _, rfl, dd, _, rfl, DPut.k (k := .inr (S (text e.c))) hd9 ?_, ?_⟩
      · unfold pap
        rw [List.length_map, List.length_take, sizeLine_eq]
        omega
      rw [pap_put (row_new hrc okm he)]
      refine ⟨⟨_, _, _, _, _, _, rfl⟩, _, ((l4.trans l5).trans (Le.refl _)).trans (Le.up (in7.g.sb.no htp)), (in8.g.wr (.inr hnw) in8.gn hn8 trivial).wr (.inr hdd1) in8.gd hd9 trivial, in8.gn, in8.gd, ⟨zs8 ++ [.ref tp], by rw [upd_ne nnd]; exact upd_same, ?_⟩, ?_⟩
      · rw [show ahOf (some (es.take (j + 1))) = ahOf (some (es.take j)) ++ [(some e.c, e.s)] by simp [ahOf, List.take_add_one, he]]
        exact hp8.snoc ⟨tp, .ref pk, rfl, upd_same, KeyAt.le k5 (Le.up (in7.g.sb.no htp))⟩
      · rw [List.take_add_one, he]
        exact upd_same
    · rintro σ H4 ⟨⟨x6, x7, x8, x9, x10, x11, rfl⟩, G4, l4, in4⟩
      have hyl : ys.length = es.length := by rw [pair_len hys, ← hrc, List.length_map]
      rw [hyl] at in4
      obtain ⟨zs, hnz, hpz⟩ := in4.hn
      have hdz := in4.hd
      rw [List.take_of_length_le (Nat.le_refl _)] at hpz hdz
      have f1 := in4.g.freezeN (.of hnw) hnz trivial
      have f2 := f1.freezeN (.of hdd1) hdz trivial
      obtain ⟨xs5, hd5, hl5, r5⟩ := r1.push (F := PapAt) mono nwd f2 (v := .ref dd) (m := es) ⟨dd, rfl, upd_same⟩
      have gdd : upd G4 nw (.lst zs) dd = none := by rw [upd_ne nnd.symm]; exact in4.gd
      have esn : sumsOf (ms.take (i + 1)) = sumsOf (ms.take i) ++ [es] := by
        rw [List.take_add_one, hm]
        show sumsOf (ms.take i ++ [m]) = _
        rw [sumsOf_snoc, ← hprev, hes]
      refine ⟨_, rfl, _, rfl, .inl ⟨rfl, _, SqL.of hd5⟩, _, rfl, d, xs5, .ref dd, rfl, rfl, hd5, ?_, nw, _, _, _, _, _, _, _, _, _, rfl, upd (upd G4 nw (.lst zs)) dd (.dK (pap es)), zs, some es, by rw [upd_ne nnd]; exact upd_same, pair_imp hpz fun _ _ z => z.mono ((Le.up in4.gn).trans (Le.up gdd)), ?_, ?_⟩
      · rw [hl5, sumsOf_len, List.length_take, sizeLine_eq]
        omega
      · rw [esn]; simp
      · rw [esn]; exact r5
  · rintro σ H1 ⟨ra, x3, x4, x5, x6, x7, x8, x9, x10, x11, rfl, G1, axs, prev, _, _, _, r1⟩
    obtain ⟨ds, hd1, hpd⟩ := r1.xs
    rw [hml, List.take_of_length_le (Nat.le_refl _)] at hpd
    exact ⟨_, rfl, q _ _ d ds (r1.g.freezeN nwd hd1 trivial) upd_same (pair_imp hpd fun _ _ z => z.mono (Le.up r1.gd))⟩
end
end K42
set_option Elab.async false
set_option linter.all false
set_option maxRecDepth 100000
set_option maxHeartbeats 4000000
/-! != of lists and tuples whose items are equal by an own == -/
namespace K42N
open PySem PySem.SeqAt
open AutoSeq1 (wpAny_loadPart')
open MeetsSeq MeetsSeq2 MeetsSeq3 SeqRoads2 GQ
variable {prog : Program} {w : World} {A : Around} {R : Result → Shared → Prop}
theorem ne_turns (l b : Addr) (N : Nat) (I : Nat → Shared → Prop) (hl : ListI prog w A (fun e s' => R (.error e) s') l b N I) (fin : ∀ s, I N s → R (.ok (.ret (.bool false))) s) (k : Nat) :
    ∀ i : Nat, N - i = k → i ≤ N → ∀ s, I i s → wpAny (model prog w) A.in1 (Builtin.«list.__eq__.loop» ⟨[.ref l, .ref b, rawInt i, rawInt 3], []⟩) (FinOf prog w A R) (fun e s' => R (.error e) s') s := by
  induction k with
  | zero =>
    intro i hk hi s h
    obtain ⟨its, jts, n, m, ho, ho2, z1, z2, _⟩ := hl _ _ h
    obtain rfl : i = N := by omega
    have hR := fin s h
    obtain ⟨hp, g, d, tk, os⟩ := s
    wp_walk using wpAny_loadPart' ho, wpAny_loadPart' ho2
    rw [show its[((i : Nat) : Int).toNat]? = none by simp; omega, show jts[((i : Nat) : Int).toNat]? = none by simp; omega]
    wp_walk using wpAny_loadPart' ho, wpAny_loadPart' ho2
    show R (.ok (.ret (.bool (its.size != jts.size)))) _
    rw [z1, z2]
    simpa using hR
  | succ k ih =>
    intro i hk hi s h
    obtain ⟨its, jts, n, m, ho, ho2, z1, z2, turn⟩ := hl _ _ h
    have a1 : i < its.size := by omega
    have a2 : i < jts.size := by omega
    have ht := turn a1 a2
    obtain ⟨hp, g, d, tk, os⟩ := s
    wp_walk using wpAny_loadPart' ho, wpAny_loadPart' ho2
    rw [show its[((i : Nat) : Int).toNat]? = some its[i] by simp [a1], show jts[((i : Nat) : Int).toNat]? = some jts[i] by simp [a2]]
    refine wpAny_bind (wpAny_mono ht (fun r s2 h2 => ?_) fun _ _ x => x)
    obtain ⟨rfl, h2⟩ := h2
    have go := ih (i + 1) (by omega) (by omega) s2 h2
    obtain ⟨hp2, g2, d2, tk2, os2⟩ := s2
    wp_walk
    rw [show ((i : Int) + 1) = ((i + 1 : Nat) : Int) by omega]
    exact ⟨plainId_quiet plain_eq_loop _, codeAny_builtin entry_eq_loop (by rw [Around.under_plainId plain_eq_loop _]; exact go)⟩
theorem ne_lists (l b : Addr) (N : Nat) (I : Nat → Shared → Prop) (hl : ListI prog w A (fun e s' => R (.error e) s') l b N I) (fin : ∀ s, I N s → R (.ok (.ret (.bool false))) s) {s : Shared} (h : I 0 s) :
    wpAny (model prog w) A.in1 (Builtin.«list.__ne__» ⟨[.ref l, .ref b], []⟩) (FinOf prog w A R) (fun e s' => R (.error e) s') s := by
  obtain ⟨its, jts, n, m, ho, ho2, z1, z2, _⟩ := hl _ _ h
  have go := ne_turns (A := A) (R := R) l b N I hl fin _ 0 rfl (Nat.zero_le _) s h
  obtain ⟨hp, g, d, tk, os⟩ := s
  have f3 := AutoSeq1.sub_list_list
  have hne : ¬ (its.size != jts.size) = true := by simp [z1, z2]
  wp_walk using wpAny_loadPart' ho, wpAny_loadPart' ho2
  exact ⟨plainId_quiet plain_eq_loop _, codeAny_builtin entry_eq_loop (by rw [Around.under_plainId plain_eq_loop _]; exact go)⟩
theorem ne_tuples (l b : Addr) (its jts : Array Value) (n m : Nat) (dd dd2 : Option Addr) (sl sl2 : Array (Option Value)) (hz : its.size = jts.size) (I : Nat → Shared → Prop)
    (turn : ∀ i (h1 : i < its.size) (h2 : i < jts.size) s, I i s → wpAny (model prog w) A.in1 (eqBool its[i] jts[i]) (fun r s' => r = true ∧ I (i + 1) s') (fun e s' => R (.error e) s') s)
    (fin : ∀ s, I its.size s → R (.ok (.ret (.bool false))) s) {s : Shared} (ho : s.heap.get? l = some { cls := .type "tuple", dict := dd, data := .seq its n, slots := sl }) (ho2 : s.heap.get? b = some { cls := .type "tuple", dict := dd2, data := .seq jts m, slots := sl2 }) (h : I 0 s) :
    wpAny (model prog w) A.in1 (Builtin.«tuple.__ne__» ⟨[.ref l, .ref b], []⟩) (FinOf prog w A R) (fun e s' => R (.error e) s') s := by
  have f2 := AutoSeq1.sub_tuple_tuple
  have zz : (its.toList.zip jts.toList).length = its.size := by simp [hz]
  have h0 := h
  obtain ⟨hp, g, d, tk, os⟩ := s
  wp_walk using wpAny_loadPart' ho, wpAny_loadPart' ho2, wpAny_forIn_list _ (fun rest q s' => q.1 = none ∧ ∃ i, rest = (its.toList.zip jts.toList).drop i ∧ i ≤ its.size ∧ I i s') _
  case turn =>
    rintro ⟨y, x⟩ rest q s' ⟨hq, i, hr, hi, hI⟩
    have lt : i < (its.toList.zip jts.toList).length := Nat.lt_of_not_le fun c => by rw [List.drop_of_length_le c] at hr; cases hr
    have h1 : i < its.size := zz ▸ lt
    have h2 : i < jts.size := hz ▸ h1
    rw [List.drop_eq_getElem_cons lt] at hr
    injection hr with hyx hrest
    obtain rfl : y = its[i] := by have := congrArg Prod.fst hyx; simpa using this
    obtain rfl : x = jts[i] := by have := congrArg Prod.snd hyx; simpa using this
    refine wpAny_bind (wpAny_mono (turn i h1 h2 s' hI) (fun r s2 q2 => ?_) fun _ _ x => x)
    obtain ⟨rfl, q2⟩ := q2
    wp_walk
    exact ⟨rfl, i + 1, hrest, h1, q2⟩
  case fin =>
    rintro ⟨b1, b2⟩ s' ⟨hq, i, hr, hi, hI⟩
    simp only at hq
    subst hq
    obtain rfl : i = its.size := by
      rcases Nat.lt_or_ge i (its.toList.zip jts.toList).length with c | c
      · rw [List.drop_eq_getElem_cons c] at hr; cases hr
      · omega
    have hR := fin s' hI
    wp_walk
    simpa [Builtin.Tuple.tupleCompareSizes, hz] using hR
  case h => exact ⟨rfl, 0, rfl, Nat.zero_le _, h0⟩
variable {E : Value → Shared → Prop} {s : Shared}
theorem rc_ne_lists {l b : Addr} {N : Nat} {Q : Value → Shared → Prop} (hu : A.units < cLine) (I : Nat → Shared → Prop) (hl : ListI prog w A E l b N I) (fin : ∀ s, I N s → Q (.bool false) s) (h : I 0 s) : wpAny (model prog w) A (richCompare .NotEq (.ref l) (.ref b)) Q E s := by
  obtain ⟨its, jts, n, m, ho, ho2, _, _, _⟩ := hl _ _ h
  refine wpAny_richCompare_same_room (op := .NotEq) ⟨_, ho, rfl⟩ ⟨_, ho2, rfl⟩ F.slot_list_ne (call_here F.slot_list_ne ⟨_, ho, rfl⟩ F.entry_list_ne (F.args_list_ne_2 _ _) ?_) hu
  exact ne_lists (R := wants (fun v s' => v ≠ .notImplemented ∧ Q v s') E) l b N I hl (fun s' q => ⟨(fun x => nomatch x), fin s' q⟩) h
theorem rc_ne_tuples {l b : Addr} {its jts : Array Value} {Q : Value → Shared → Prop} (hz : its.size = jts.size) (hu : A.units < cLine) (I : Nat → Shared → Prop) (hl : s.heap.IsTuple l its) (hb : s.heap.IsTuple b jts)
    (turn : ∀ i (h1 : i < its.size) (h2 : i < jts.size) s, I i s → wpAny (model prog w) A.in1 (eqBool its[i] jts[i]) (fun r s' => r = true ∧ I (i + 1) s') E s) (fin : ∀ s, I its.size s → Q (.bool false) s) (h : I 0 s) : wpAny (model prog w) A (richCompare .NotEq (.ref l) (.ref b)) Q E s := by
  obtain ⟨⟨cls, dd, data, sl⟩, ho, hc, n, hd⟩ := id hl
  obtain ⟨⟨cls2, dd2, data2, sl2⟩, ho2, hc2, n2, hd2⟩ := id hb
  simp only at hc hd hc2 hd2
  subst hc hd hc2 hd2
  refine wpAny_richCompare_same_room (op := .NotEq) ⟨_, ho, rfl⟩ ⟨_, ho2, rfl⟩ F.slot_tuple_ne (call_here F.slot_tuple_ne ⟨_, ho, rfl⟩ F.entry_tuple_ne (F.args_tuple_ne_2 _ _) ?_) hu
  exact ne_tuples (R := wants (fun v s' => v ≠ .notImplemented ∧ Q v s') E) l b its jts n n2 dd dd2 sl sl2 hz I turn (fun s' q => ⟨(fun x => nomatch x), fin s' q⟩) ho ho2 h
end K42N
namespace K42
open PySem PySem.Spec PyProof.Rows L2
section
variable {X : Cx} {n : Nat} {D : Eqv}
/-- x != y, both of equal items: False -/
def rNeG (D : Eqv) : R2 := fun x y H Q => D x y H ∧ ∀ H', Ext H H' → Q (.bl false) H'
theorem op_neListG (hD : Mon D) (h : EqG X n D) (hr : Room (n + 1) X.A) : OpR X (compareOp .NotEq) (rNeG (DList D)) := by
  intro pins s σ H x y v u Q I rx ry hq
  obtain ⟨⟨a, b, xs, ys, rfl, rfl, ha, hb, p⟩, q⟩ := hq
  cases rx
  cases ry
  have sb : Sub X (n + 1) X.A := ⟨hr, rfl⟩
  refine K42N.rc_ne_lists (N := xs.length) sb.room.units0 (fun _ s' => LoopI X pins σ H s') (fun i s' q => ?_) (fun s' ⟨H', I', e⟩ => ⟨.bl false, H', I', rfl, q H' e⟩) ⟨H, I, Ext.rfl'⟩
  obtain ⟨H1, I1, e1⟩ := id q
  obtain ⟨z, its, k, r, e⟩ := I1.hok a _ (e1 _ _ ha)
  obtain ⟨z2, its2, k2, r2, e2⟩ := I1.hok b _ (e1 _ _ hb)
  exact ⟨its.toArray, its2.toArray, k, k2, e, e2, by rw [List.size_toArray, ← r.length], by rw [List.size_toArray, ← r2.length, ← p.1], fun h1 h2 => turnG hD h sb p r r2 i h1 h2 s' q⟩
theorem op_neTupG (hD : Mon D) (h : EqG X n D) (hr : Room (n + 1) X.A) : OpR X (compareOp .NotEq) (rNeG (DTup X.K D)) := by
  intro pins s σ H x y v u Q I rx ry hq
  obtain ⟨⟨a, b, xs, ys, rfl, rfl, ha, hb, p⟩, q⟩ := hq
  cases rx
  cases ry
  have sb : Sub X (n + 1) X.A := ⟨hr, rfl⟩
  obtain ⟨its, r, e, z⟩ := I.tuple ha
  obtain ⟨its2, r2, e2, z2⟩ := I.tuple hb
  have hsz : its.toArray.size = its2.toArray.size := by rw [List.size_toArray, List.size_toArray, ← r.length, ← r2.length]; exact p.1
  exact K42N.rc_ne_tuples hsz sb.room.units0 (fun _ s' => LoopI X pins σ H s') e e2 (fun i h1 h2 s' q => turnG hD h sb p r r2 i h1 h2 s' q) (fun s' ⟨H', I', e⟩ => ⟨.bl false, H', I', rfl, q H' e⟩) ⟨H, I, Ext.rfl'⟩
/-! ### what is equal here -/
/-- two marks of one text -/
def DMk (K : PySem.W.Frag) : Eqv := fun x y H => ∃ (a b : Addr) (l : Mk), x = .ref a ∧ y = .ref b ∧ MarkIn K H a l ∧ MarkIn K H b l
theorem mon_mk {K : PySem.W.Frag} : Mon (DMk K) := fun x y H H' e ⟨a, b, l, hx, hy, ⟨d1, t1, h1, h2⟩, ⟨d2, t2, h3, h4⟩⟩ => ⟨a, b, l, hx, hy, ⟨d1, t1, e _ _ h1, e _ _ h2⟩, ⟨d2, t2, e _ _ h3, e _ _ h4⟩⟩
theorem eqG_mk (T : Tx X.K X.mg X.base) : EqG X 2 (DMk X.K) := by
  refine RcG.eqG (D := DMk X.K) (fun A pins s σ H x y u v sb I rx ry ⟨a, b, l, hx, hy, h1, h2⟩ => ?_) fun x y H ⟨a, b, l, hx, hy, _⟩ => ⟨a, b, hx, hy⟩
  subst hx hy
  cases rx
  cases ry
  exact rc_eqM (n := 0) T sb I h1 h2 fun s' I' => ⟨by rw [decide_eq_true rfl], H, I', Ext.rfl'⟩
/-- two dicts of one list of pairs -/
def DDic : Eqv := fun x y H => ∃ (a b : Addr) (ks : List (Key × V)), x = .ref a ∧ y = .ref b ∧ H a = some (.dK ks) ∧ H b = some (.dK ks) ∧ ∀ p ∈ ks, valV ks p.1 = some p.2 ∧ flatB p.2 = true
theorem mon_dic : Mon DDic := fun x y H H' e ⟨a, b, ks, hx, hy, h1, h2, h3⟩ => ⟨a, b, ks, hx, hy, e _ _ h1, e _ _ h2, h3⟩
theorem eqG_dic : EqG X 1 DDic := fun A pins s σ H x y u v sb I rx ry ⟨a, b, ks, hx, hy, h1, h2, h3⟩ => by
  have eq : EqV X.K H 2 x y := .inr (.inr (.inr ⟨a, b, ks, ks, hx, hy, h1, h2, rfl, fun p hp => ⟨p.2, (h3 p hp).1, .inl ⟨rfl, (h3 p hp).2⟩⟩⟩))
  exact eqV_run I 2 A (by have := sb.room.un; omega) x y u v eq rx ry _ _ ⟨rfl, H, I, Ext.rfl'⟩
/-- flat things or marks -/
def DFm (K : PySem.W.Frag) : Eqv := fun x y H => DFlat x y H ∨ DMk K x y H
theorem mon_fm {K : PySem.W.Frag} : Mon (DFm K) := Mon.or mon_flat mon_mk
theorem eqG_fm (T : Tx X.K X.mg X.base) : EqG X 2 (DFm X.K) := EqG.or (eqG_flat.mono (by decide)) (eqG_mk T)
theorem op_neMs (T : Tx X.K X.mg X.base) (hr : Room 3 X.A) : OpR X (compareOp .NotEq) (rNeG (DList (DMk X.K))) := op_neListG mon_mk (eqG_mk T) hr
theorem op_eqMs (T : Tx X.K X.mg X.base) (hr : Room 3 X.A) : OpR X (compareOp .Eq) (rEqG (DList (DMk X.K))) := op_eqG (rcG_list mon_mk (eqG_mk T)) hr
theorem op_neTm (T : Tx X.K X.mg X.base) (hr : Room 3 X.A) : OpR X (compareOp .NotEq) (rNeG (DTup X.K (DFm X.K))) := op_neTupG mon_fm (eqG_fm T) hr
theorem op_neDs (hr : Room 2 X.A) : OpR X (compareOp .NotEq) (rNeG (DList DDic)) := op_neListG mon_dic eqG_dic hr
/-- a grown heap, in the frame's words -/
theorem GR.grown {K : PySem.W.Frag} {S : Addr → Prop} {G H H' : Hp} (sb : Sb G H) (e : Ext H H') : GR K S G H G H' where
  gg := Le.refl G
  sb := fun b o q => ⟨e _ _ (sb b o q).1, (sb b o q).2⟩
  hh := fun b o _ q _ => e _ _ q
  pr := fun _ _ _ _ => rfl
  al := fun b o q n => ⟨o, e _ _ q, n⟩
  tb := fun t => t.ext fun b o q => e _ _ q
end
end K42
set_option Elab.async false
set_option linter.all false
set_option maxRecDepth 100000
set_option maxHeartbeats 4000000
namespace K42
open PySem PySem.Spec PyProof.Rows L2
theorem upd_upd {H : Hp} {a : Addr} {o o' : HO} : upd (upd H a o) a o' = upd H a o' := by
  funext b
  by_cases h : b = a
  · subst h; rw [upd_same, upd_same]
  · rw [upd_ne h, upd_ne h, upd_ne h]
theorem upd_swap {H : Hp} {a b : Addr} {o o' : HO} (n : a ≠ b) : upd (upd H a o) b o' = upd (upd H b o') a o := by
  funext c
  by_cases h : c = b
  · subst h; rw [upd_same, upd_ne n.symm, upd_same]
  · rw [upd_ne h]
    by_cases h2 : c = a
    · subst h2; rw [upd_same, upd_same]
    · rw [upd_ne h2, upd_ne h2, upd_ne h]
theorem upd_back {H : Hp} {a : Addr} {o : HO} (h : H a = some o) : upd H a o = H := by
  funext b
  by_cases e : b = a
  · subst e; rw [upd_same, h]
  · rw [upd_ne e]
theorem least_min {ms : List Mk} (f : Fit ms) {es : List Ent} (hl : (sumsOf ms).getLast? = some es) : leastOf ms ∈ es.filterMap Ent.s ∧ ∀ y ∈ es.filterMap Ent.s, leastOf ms ≤ y := by
  have hne : ms ≠ [] := fun e => by rw [e] at hl; cases hl
  obtain ⟨m, hm⟩ : ∃ m, ms.getLast? = some m := by
    cases h : ms.getLast? with
    | none => exact (hne (List.getLast?_eq_none_iff.mp h)).elim
    | some m => exact ⟨m, rfl⟩
  obtain ⟨p, i, e, s, hp, hi, _, hs⟩ := has_sum ms f.ok f.rise m hm
  rw [hl] at hp
  obtain rfl := Option.some.inj hp
  have hil := (List.getElem?_eq_some_iff.mp hi).1
  have el : leastOf ms = ((bestIn es es.length).bind (sizeAt es)).getD 0 := by unfold leastOf; rw [hl]
  obtain ⟨b1, b2⟩ := best_spec es es.length
  cases eb : bestIn es es.length with
  | none =>
    have := b1 eb i hil
    rw [sizeAt_of hi, hs] at this
    cases this
  | some b =>
    obtain ⟨hb, s', hs', hle⟩ := b2 b eb
    have e2 : leastOf ms = s' := by
      rw [el, eb]
      show (sizeAt es b).getD 0 = s'
      rw [hs']; rfl
    rw [e2]
    obtain ⟨eb', heb⟩ : ∃ e, es[b]? = some e := ⟨_, List.getElem?_eq_getElem hb⟩
    refine ⟨List.mem_filterMap.mpr ⟨eb', List.mem_of_getElem? heb, by rw [← sizeAt_of heb]; exact hs'⟩, fun y hy => ?_⟩
    obtain ⟨x, hx, hxs⟩ := List.mem_filterMap.mp hy
    obtain ⟨j, hj⟩ := List.getElem?_of_mem hx
    exact hle j y (List.getElem?_eq_some_iff.mp hj).1 (by rw [sizeAt_of hj]; exact hxs)
section
variable {P : Program} {w : World} {K : PySem.W.Frag} {mg : Str → Option Value} {base : Heap}
def spLeastL (K : PySem.W.Frag) : Sp := fun vs H Q _ => ∃ (G : Hp) (p : Addr) (ds : List V) (ms : List Mk), vs = [.ref p] ∧ Sb G H ∧ G p = some (.lst ds) ∧ Paired (PapAt G) ds (sumsOf ms) ∧ Fit ms ∧ ∀ H', GR K S0 G H G H' → Q (.int (leastOf ms : Nat)) H'
abbrev N__law_least : List Str := ["_law_rows", "_law_size"]
theorem sc__law_least : FnScope N__law_least ["_law_rows"] (defScope S__law_least) := ⟨rfl, rfl, rfl, by decide +kernel, rfl, by decide +kernel, by decide +kernel⟩
theorem kn__law_least (T : Tx K mg base) : Kn P w K mg base CX0 2 "_law_least" ["_law_rows"] (spLeastL K) := by
  refine kn_of "_law_least" T 68 56 S__law_least rfl rfl sc__law_least (fun vs H Q E h => by obtain ⟨_, _, _, _, rfl, _⟩ := h; rfl) (fun _ _ _ _ _ _ us hl => match us, hl with | [_], _ => rfl) (fun cdv A outer s H vs Q E hr h => ⟨_, PSs.nox (pss_cons (ps_if (pt_cmpR (op_eqNil hr) (pv 0) (pe_lst pa_nil) (nomark _)) (pss_one (ps_ret pe_int)) pss_nil)
    (pss_one (ps_ret (pe_callB (cr_min rfl) (by rfl) T.f_min (by decide +kernel) (pa_cons (pe_lock (pe_lc (own := [("_law_size", 1)]) rfl sc__law_least.nd (pi_values (pe_ix ix_list (pv 0) (pe_un un_neg pe_int) (fun _ _ => rfl))) (blkOk_by (N := N__law_least) (sc := defScope S__law_least) (by decide +kernel)) (fun _ _ _ _ _ => (pg_name (i := 1) sc__law_least.nd rfl (Or.inl rfl))) (fun _ _ _ _ _ => (pts_one (pt_cmpR op_notN (pv 1) pe_non (nomark _)))) (fun _ _ _ _ _ => (pv 1)))) pa_nil))))), ?_⟩)
  obtain ⟨G, p, ds, ms, rfl, sb, hp, hds, fit, q⟩ := h
  have hdl := pair_len hds
  rw [sumsOf_len] at hdl
  refine ⟨_, rfl, size_of (n := 0) (by decide), fun e0 he0 => ?_⟩
  have g1 := (GR.refl (K := K) (S := S0) sb).newM he0 (o := .lst [])
  refine ⟨p, e0, ds, rfl, rfl, SqL.of (g1.sb _ _ hp).1, SqL.of upd_same, _, rfl, ?_⟩
  rcases List.eq_nil_or_concat ms with em | ⟨ini, m, em⟩
  · have ed : ds = [] := List.length_eq_zero_iff.mp (by rw [hdl, em]; rfl)
    rw [show (ds.isEmpty == true) = true by rw [ed]; rfl]
    have q' := q _ g1
    rw [em] at q'
    exact q'
  · rw [List.concat_eq_append] at em
    obtain ⟨es, hes⟩ : ∃ es, (sumsOf ms).getLast? = some es := by
      rw [em, sumsOf_snoc]
      exact ⟨_, List.getLast?_concat⟩
    obtain ⟨x, hx, dd, rfl, hdd⟩ := pair_last hds hes
    rw [show (ds.isEmpty == true) = false by
      cases ds with
      | nil => cases hx
      | cons _ _ => rfl]
    obtain ⟨m', hm', hrc⟩ := sumsOf_rows es (List.mem_of_getLast? hes)
    have hel : es.length ≤ 12016004 := by
      have := cuts_len (fit.ok m' hm')
      rw [← hrc, List.length_map] at this
      exact this
    have hdd1 := (g1.sb _ _ hdd).1
    generalize upd H e0 (.lst []) = H1 at g1 hdd1
    refine ⟨dd, .dK (pap es), hdd1, trivial, fun od => ?_⟩
    have hpd : p ≠ dd := ne_of (g1.sb _ _ hp).1 hdd1 (fun z => nomatch z)
    have hpl : upd H1 dd (.frz od (.dK (pap es))) p = some (.lst ds) := by rw [upd_ne hpd]; exact (g1.sb _ _ hp).1
    refine ⟨_, rfl, _, rfl, p, ds, _, .ref dd, rfl, rfl, SqL.of hpl, last_atV hx, dd, od, pap es, rfl, upd_same, fun D hD => ?_⟩
    have hDd : D ≠ dd := fun z => by rw [z, upd_same] at hD; cases hD
    have hD1 : H1 D = none := by rw [upd_ne hDd] at hD; exact hD
    have hpal : (pap es).length = es.length := by unfold pap; rw [List.length_map]
    refine lc_it (walk_values (d := dd) (o := od) (kvs := pap es)) (fun i H' => H' = upd (upd H1 dd (.frz od (.dK (pap es)))) D (.lst ((((es.take i).filterMap Ent.s).map fun n : Nat => (n : Int)).map V.int))) rfl ?_ ?_ ?_
    · rintro i H' _ rfl
      rw [upd_ne hDd.symm, upd_same]
    · rintro i x H2 H' hi rfl ⟨rfl, k, hk⟩
      obtain ⟨e, he, hek⟩ : ∃ e, es[i]? = some e ∧ x = oV e.s := by
        unfold pap at hk
        rw [List.getElem?_map] at hk
        obtain ⟨e, he, h2⟩ := Option.map_eq_some_iff.mp hk
        exact ⟨e, he, (congrArg Prod.snd h2).symm⟩
      subst hek
      have nxt : (es.take (i + 1)).filterMap Ent.s = (es.take i).filterMap Ent.s ++ e.s.toList := by
        rw [List.take_add_one, he, List.filterMap_append]
        congr 1
      refine ⟨rfl, _, rfl, rfl, _, rfl, ?_⟩
      cases es' : e.s with
      | none =>
        refine ifN (fun z => (z rfl).elim) fun _ => ?_
        rw [nxt, es']
        simp
      | some s =>
        refine ifN (fun _ => ⟨_, rfl, _, upd_same, ?_, ?_⟩) fun z => nomatch z
        · rw [List.length_map, List.length_map, sizeLine_eq]
          have h1 := List.length_filterMap_le Ent.s (es.take i)
          rw [List.length_take] at h1
          omega
        · rw [upd_upd, nxt, es']
          simp [oV]
    · rintro H2 rfl
      rw [hpal, List.take_of_length_le (Nat.le_refl _)]
      have eb : upd (upd (upd H1 dd (.frz od (.dK (pap es)))) D (.lst (((es.filterMap Ent.s).map fun n : Nat => (n : Int)).map V.int))) dd (.dK (pap es)) = upd H1 D (.lst (((es.filterMap Ent.s).map fun n : Nat => (n : Int)).map V.int)) := by
        rw [upd_swap hDd, upd_upd, upd_back hdd1]
      refine ⟨by rw [upd_ne hDd.symm, upd_same], ?_⟩
      rw [eb]
      obtain ⟨l1, l2⟩ := least_min fit hes
      refine ⟨D, ((es.filterMap Ent.s).map fun n : Nat => (n : Int)), rfl, SqL.of upd_same, ?_, fun mm hmm hmin => ?_⟩
      · rw [List.length_map]
        exact List.length_pos_of_mem l1
      · have emm : mm = (leastOf ms : Nat) := by
          obtain ⟨z, hz, rfl⟩ := List.mem_map.mp hmm
          have h1 := l2 z hz
          have h2 := hmin (leastOf ms : Nat) (List.mem_map_of_mem l1)
          omega
        rw [emm]
        exact q _ (g1.newM hD1)
end
end K42
set_option Elab.async false
set_option linter.all false
set_option maxRecDepth 100000
set_option maxHeartbeats 4000000
namespace K42
open PySem PySem.Spec PyProof.Rows L2
theorem starts_of {a b r : List Nat} (h : a = b ++ r) : Txt.startswith (S a) (S b) = true := by
  unfold Txt.startswith
  rw [Bool.and_eq_true]
  refine ⟨decide_eq_true ?_, ?_⟩
  · rw [S_len, S_len, h, List.length_append]; omega
  · show ((S a).cps.extract 0 (0 + (S b).length) == (S b).cps) = true
    rw [beq_iff_eq, S_len, h]
    apply Array.ext'
    simp [S]
def hdD (m : Mk) : PyData := .list [.str (S m.l), .int m.n]
theorem hdD_shaped {m : Mk} (o : Ok m) : SeqAt.shaped (hdD m) = true := by
  unfold SeqAt.shaped
  have e : (hdD m).canLay0 = true := by
    show (PyData.strOk (S m.l) && (true && true)) = true
    rw [strOk_S fun c hc => let_low (o.la c hc)]; rfl
  rw [e]; rfl
theorem hdD_eqv (m : Mk) : PyData.eqv (hdD m) (hdD m) = true := PySem.W.eqv_refl_alike _ rfl
theorem ms_shaped {ms : List (List Nat)} (h : ∀ k ∈ ms, mkr k = true) : SeqAt.shaped (.list (msD ms)) = true := by
  unfold SeqAt.shaped
  rw [show PyData.canLay0 (.list (msD ms)) = PyData.canLayAll0 (msD ms) from rfl, lay_ms h, show PyData.depth (.list (msD ms)) = PyData.depthAll (msD ms) + 1 from rfl, ms_depth]
  rfl
theorem ms_eqv (ms : List (List Nat)) : PyData.eqv (.list (msD ms)) (.list (msD ms)) = true := by
  show PyData.eqvAll (msD ms) (msD ms) = true
  rw [msD_eqv]; exact decide_eq_true rfl
theorem cut_two (m : Mk) (h : Addr) : cutV (pV m h) none (some 2) = [sV m.l, .int m.n] := by rw [show (some (2 : Int)) = some ((2 : Nat) : Int) from rfl, cut_hi]; rfl
theorem inv_opt {a b : Option Nat} (h : a = none ∨ a = b) : inV (oV a) [V.non, oV b] = true := by
  rcases h with rfl | rfl
  · rfl
  · cases a with
    | none => rfl
    | some n =>
      show (false || (((n : Int) == (n : Int)) || false)) = true
      simp
theorem flat_opt (b : Option Nat) : [V.non, oV b].all flatV = true := by cases b <;> rfl
theorem flat_o (b : Option Nat) : flatV (oV b) = true := by cases b <;> rfl
section
variable {P : Program} {w : World} {K : PySem.W.Frag} {mg : Str → Option Value} {base : Heap}
def spIsCut (K : PySem.W.Frag) : Sp := fun vs H Q _ => ∃ (G : Hp) (v u : V) (x m : Mk), vs = [v, u] ∧ Sb G H ∧ PtIn H v x ∧ PtIn H u m ∧ x ∈ rawCuts m ∧ Ok m ∧ ∀ H', GR K S0 G H G H' → Q (.bl true) H'
abbrev N__law_is_cut : List Str := ["_law_row", "_law_parts", "_law_size"]
theorem sc__law_is_cut : FnScope N__law_is_cut ["_law_row", "_law_parts"] (defScope S__law_is_cut) := ⟨rfl, rfl, rfl, by decide +kernel, rfl, by decide +kernel, by decide +kernel⟩
theorem kn__law_is_cut (T : Tx K mg base) : Kn P w K mg base CX0 2 "_law_is_cut" ["_law_row", "_law_parts"] (spIsCut K) := by
  refine kn_of "_law_is_cut" T 71 59 S__law_is_cut rfl rfl sc__law_is_cut (fun vs H Q E h => by obtain ⟨_, _, _, _, _, rfl, _⟩ := h; rfl) (fun _ _ _ _ _ _ us hl => match us, hl with | [_, _], _ => rfl) (fun cdv A outer s H vs Q E hr h => ⟨_, PSs.nox (pss_cons (ps_set (i := 2) sc__law_is_cut.nd rfl (Or.inl rfl) (pe_callB call_len_seq (by rfl) T.f_len (by decide +kernel) (pa_cons (pe_ix ix_list (pv 0) pe_int (fun _ _ => rfl)) pa_nil)))
    (pss_cons (ps_if (PW.pt (pw_or (pt_cmpR (op_neD hr.units) (pe_slice sl_list (pv 0) po_none (po_some pe_int)) (pe_slice sl_list (pv 1) po_none (po_some pe_int)) (nomark _)) (pw_or (pt_not (pt_val (pe_bm PySem.F.plainAttrs_str PySem.F.slot_str_startswith PySem.F.type_str_startswith mt_startswith (pe_ix ix_list (pv 1) pe_int (fun _ _ => rfl)) (pa_cons (pe_ix ix_list (pv 0) pe_int (fun _ _ => rfl)) pa_nil)))) (pw_or1 (pt_cmpR op_gt (pv 2) (pe_callB call_len_seq (by rfl) T.f_len (by decide +kernel) (pa_cons (pe_ix ix_list (pv 1) pe_int (fun _ _ => rfl)) pa_nil)) (nomark _)))))) (pss_one (ps_ret pe_bl)) pss_nil)
    (pss_cons (ps_if (PW.pt (pw_or (pt_cmpR (op_neD hr.units) (pe_slice sl_list (pe_ix ix_list (pv 0) pe_int (fun _ _ => rfl)) po_none (po_some (pe_un un_neg pe_int))) (pe_slice sl_list (pe_ix ix_list (pv 1) pe_int (fun _ _ => rfl)) po_none (po_some (pe_callB (call_max2 rfl) (by rfl) T.f_max (by decide +kernel) (pa_cons pe_int (pa_cons (pe_op op_sub (pv 2) pe_int) pa_nil))))) (nomark _)) (pw_or1 (PW.pt (pw_and (pt_cmpR op_gt (pv 2) pe_int (nomark _)) (pw_and1 (pt_not (pt_val (pe_bm PySem.F.plainAttrs_str PySem.F.slot_str_startswith PySem.F.type_str_startswith mt_startswith (pe_ix ix_list (pe_ix ix_list (pv 1) pe_int (fun _ _ => rfl)) (pe_op op_sub (pv 2) pe_int) (fun _ _ => rfl)) (pa_cons (pe_ix ix_list (pe_ix ix_list (pv 0) pe_int (fun _ _ => rfl)) (pe_un un_neg pe_int) (fun _ _ => rfl)) pa_nil)))))))))) (pss_one (ps_ret pe_bl)) pss_nil)
    (pss_one (ps_ret (pe_and (pe_cmpR op_in_seq (pe_ix ix_list (pv 0) pe_int (fun _ _ => rfl)) (pe_tup (pa_cons pe_non (pa_cons (pe_ix ix_list (pv 1) pe_int (fun _ _ => rfl)) pa_nil))) (by with_unfolding_all rfl)) (pe_one (pe_cmpR op_in_seq (pe_ix ix_list (pv 0) pe_int (fun _ _ => rfl)) (pe_tup (pa_cons pe_non (pa_cons (pe_ix ix_list (pv 1) pe_int (fun _ _ => rfl)) pa_nil))) (by with_unfolding_all rfl))))))))), ?_⟩)
  obtain ⟨G, v, u, x, m, rfl, sb, ⟨xa, xh, rfl, hxa, hxh⟩, ⟨ma, mh, rfl, hma, hmh⟩, hc, ok, q⟩ := h
  obtain ⟨el, en, hp, hms, hy, hcc⟩ := raw_mem.mp hc
  have okx := raw_ok ok hc
  have rdx : ∀ {i : Nat} {z : V}, (pV x xh)[i]? = some z → atI (pV x xh) (i : Int) = some z := fun h => atI_nat h
  have rdm : ∀ {i : Nat} {z : V}, (pV m mh)[i]? = some z → atI (pV m mh) (i : Int) = some z := fun h => atI_nat h
  have kx : ∀ {H' : Hp}, GR K S0 G H G H' → SqL K H' xa (pV x xh) := fun g => SqL.of (g.keep hxa trivial id)
  have km : ∀ {H' : Hp}, GR K S0 G H G H' → SqL K H' ma (pV m mh) := fun g => SqL.of (g.keep hma trivial id)
  have kxh : ∀ {H' : Hp}, GR K S0 G H G H' → SqL K H' xh (msV x.ms) := fun g => SqL.of (g.keep hxh trivial id)
  have kmh : ∀ {H' : Hp}, GR K S0 G H G H' → SqL K H' mh (msV m.ms) := fun g => SqL.of (g.keep hmh trivial id)
  have g0 := GR.refl (K := K) (S := S0) sb
  have lx : (msV x.ms).length = x.ms.length := by simp [msV]
  have lm : (msV m.ms).length = m.ms.length := by simp [msV]
  have hle := (mcuts_part hms).1
  refine ⟨_, rfl, _, _, _, .ref xh, rfl, rfl, kx g0, rdx (i := 3) rfl, xh, _, rfl, .inl (kxh g0), ?_⟩
  refine ⟨_, rfl, _, rfl, xa, _, rfl, kx g0, fun d1 h1 => ?_⟩
  rw [cut_two]
  have g1 := g0.newM h1 (o := .lst [sV x.l, .int x.n])
  refine ⟨_, rfl, _, rfl, ma, _, rfl, km g1, fun d2 h2 => ?_⟩
  rw [cut_two]
  have g2 := g1.newM h2 (o := .lst [sV m.l, .int m.n])
  have hd12 : d1 ≠ d2 := fun z => by rw [← z, upd_same] at h2; cases h2
  refine ⟨hdD x, hdD m, .lst (SqL.of (by rw [upd_ne hd12]; exact upd_same)) (.cons (.str _) (.cons (.int _) .nil)), .lst (SqL.of upd_same) (.cons (.str _) (.cons (.int _) .nil)), hdD_shaped okx, hdD_shaped ok, _, rfl, ?_⟩
  rw [show hdD x = hdD m by unfold hdD; rw [el, en], hdD_eqv]
  refine iteF ?_
  obtain ⟨k, _, hkl, _, ek⟩ := begs_mem.mp hp
  refine ⟨_, rfl, _, _, _, _, rfl, rfl, km g2, rdm (i := 2) rfl, rfl, _, rfl, _, _, _, _, rfl, rfl, kx g2, rdx (i := 2) rfl, _, _, rfl, rfl, _, rfl, ?_⟩
  rw [show Txt.startswith (S m.p) (S x.p) = true from starts_of (r := m.p.drop k) (by rw [ek, List.take_append_drop])]
  refine iteF ?_
  refine ⟨_, rfl, _, rfl, _, _, _, .ref mh, rfl, rfl, km g2, rdm (i := 3) rfl, mh, _, rfl, .inl (kmh g2), _, _, rfl, rfl, _, rfl, ifF (by rw [lx, lm]; omega) ?_⟩
  refine ⟨_, rfl, _, _, _, .ref xh, rfl, rfl, kx g2, rdx (i := 3) rfl, _, rfl, _, rfl, xh, _, rfl, kxh g2, fun d3 h3 => ?_⟩
  rw [show (some (-1 : Int)) = some (-((1 : Nat) : Int)) from rfl, cut_neg 1 (by decide), lx, show (msV x.ms).take (x.ms.length - 1) = msV (x.ms.take (x.ms.length - 1)) by simp [msV]]
  have g3 := g2.newM h3 (o := .lst (msV (x.ms.take (x.ms.length - 1))))
  refine ⟨_, rfl, _, _, _, .ref mh, rfl, rfl, km g3, rdm (i := 3) rfl, _, rfl, _, _, rfl, rfl, _, _, rfl, _, rfl, mh, _, rfl, kmh g3, fun d4 h4 => ?_⟩
  rw [show (if ((x.ms.length : Nat) : Int) - 1 > 0 then ((x.ms.length : Nat) : Int) - 1 else 0) = ((x.ms.length - 1 : Nat) : Int) by split <;> omega, cut_hi, show (msV m.ms).take (x.ms.length - 1) = msV (m.ms.take (x.ms.length - 1)) by simp [msV]]
  have g4 := g3.newM h4 (o := .lst (msV (m.ms.take (x.ms.length - 1))))
  have hd34 : d3 ≠ d4 := fun z => by rw [← z, upd_same] at h4; cases h4
  have eini : x.ms.take (x.ms.length - 1) = m.ms.take (x.ms.length - 1) := by
    rcases mcuts_mem.mp hms with e | ⟨i, a, r, f, hi, _, e⟩
    · rw [e]; rfl
    · have hil := (List.getElem?_eq_some_iff.mp hi).1
      have e2 : x.ms.length - 1 = i := by
        rw [e]; simp; omega
      rw [e2, e]
      rw [List.take_append_of_le_length (by rw [List.length_take]; omega), List.take_take, Nat.min_self]
  refine ⟨.list (msD (x.ms.take (x.ms.length - 1))), .list (msD (m.ms.take (x.ms.length - 1))), .lst (SqL.of (by rw [upd_ne hd34]; exact upd_same)) (ms_dp _), .lst (SqL.of upd_same) (ms_dp _), ms_shaped (fun k hk => okx.mo k (List.mem_of_mem_take hk)), ms_shaped (fun k hk => ok.mo k (List.mem_of_mem_take hk)), _, rfl, ?_⟩
  rw [eini] at g4 ⊢
  rw [ms_eqv]
  refine iteF ?_
  generalize upd (upd (upd (upd H d1 (.lst [sV x.l, .int x.n])) d2 (.lst [sV m.l, .int m.n])) d3 (.lst (msV (m.ms.take (x.ms.length - 1))))) d4 (.lst (msV (m.ms.take (x.ms.length - 1)))) = H4 at g4
  refine (fun (body : ?T) => ?main) ?rest
  case main =>
    refine ⟨_, rfl, _, _, rfl, rfl, _, rfl, ifC (fun hpos => ?_) fun hz => ?_⟩
    · rcases mcuts_mem.mp hms with e | ⟨i, a, r, f, hi, hf, e⟩
      · rw [e] at hpos; exact absurd hpos (by decide)
      · have hil := (List.getElem?_eq_some_iff.mp hi).1
        have e2 : x.ms.length = i + 1 := by
          rw [e]; simp; omega
        obtain ⟨kk, _, _, _, ef⟩ := begs_mem.mp hf
        have hat : atI (msV m.ms) (((x.ms.length : Nat) : Int) - 1) = some (sV (a :: r)) := by
          rw [e2, show (((i + 1 : Nat) : Int) - 1) = ((i : Nat) : Int) by omega]
          exact atI_nat (by simp [msV, hi])
        have hlast : atI (msV x.ms) (-1) = some (sV (a :: f)) := last_atV (by rw [e]; simp [msV])
        refine ⟨_, rfl, _, _, _, .ref mh, rfl, rfl, km g4, rdm (i := 3) rfl, _, rfl, _, _, rfl, rfl, mh, _, _, sV (a :: r), rfl, rfl, kmh g4, hat, rfl, _, rfl, _, _, _, .ref xh, rfl, rfl, kx g4, rdx (i := 3) rfl, _, rfl, xh, _, _, sV (a :: f), rfl, rfl, kxh g4, hlast, _, _, rfl, rfl, _, rfl, ?_⟩
        rw [show Txt.startswith (S (a :: r)) (S (a :: f)) = true from starts_of (r := r.drop kk) (by rw [ef, List.cons_append, List.take_append_drop])]
        exact body
    · exact body
  case rest =>
    refine ⟨_, rfl, _, _, _, _, rfl, rfl, kx g4, rdx (i := 4) rfl, _, rfl, _, _, _, _, rfl, rfl, km g4, rdm (i := 4) rfl, size_of (n := 2) (by decide), fun t1 ht1 => ?_⟩
    have g5 := g4.newM ht1 (o := .tup [.non, oV m.y])
    refine ⟨t1, _, rfl, .inr (SqT.of upd_same), flat_o _, flat_opt _, _, rfl, ?_⟩
    rw [if_neg Bool.false_ne_true, inv_opt hy]
    refine iteT ?_
    refine ⟨_, rfl, _, _, _, _, rfl, rfl, kx g5, rdx (i := 5) rfl, _, rfl, _, _, _, _, rfl, rfl, km g5, rdm (i := 5) rfl, size_of (n := 2) (by decide), fun t2 ht2 => ?_⟩
    have g6 := g5.newM ht2 (o := .tup [.non, oV m.c])
    refine ⟨t2, _, rfl, .inr (SqT.of upd_same), flat_o _, flat_opt _, ?_⟩
    rw [if_neg Bool.false_ne_true, inv_opt hcc]
    exact q _ g6
end
end K42
set_option Elab.async false
set_option linter.all false
set_option maxRecDepth 100000
set_option maxHeartbeats 4000000
namespace K42
open PySem PySem.Spec PyProof.Rows L2
/-- what comes of a deed -/
inductive Oc where
  | missing | done | long | there | full
  deriving DecidableEq
def Oc.word : Oc → Str
  | .missing => "missing"
  | .done => "done"
  | .long => "long"
  | .there => "there"
  | .full => "full"
def outc (ms : List Mk) (way : Nat) (m : Mk) : Oc × List Mk :=
  if way = 1 then (if m ∈ ms then (.done, ms.filter fun x => decide (x ≠ m)) else (.missing, ms))
  else if 24 < (text m).length then (.long, ms) else if m ∈ ms then (.there, ms) else if ms.length = 12 then (.full, ms) else (.done, kSort (ms ++ [m]))
section
variable {P : Program} {w : World} {K : PySem.W.Frag} {mg : Str → Option Value} {base : Heap}
def OcV (K : PySem.W.Frag) (G : Hp) (th : V) (m : Mk) : Oc → Prop
  | .done => th = .non
  | .full => th = .int 12
  | _ => MarkAt K G th m
theorem OcV.mono {G G' : Hp} {th : V} {m : Mk} {o : Oc} (h : OcV K G th m o) (l : Le G G') : OcV K G' th m o := by
  cases o
  · exact MarkAt.mono h l
  · exact h
  · exact MarkAt.mono h l
  · exact MarkAt.mono h l
  · exact h
def OcAt (K : PySem.W.Frag) (G : Hp) (v : V) (o : Oc) (m : Mk) : Prop := ∃ t th, v = .ref t ∧ G t = some (.tup [.str o.word, th, .bl true]) ∧ OcV K G th m o
theorem OcAt.mono {G G' : Hp} {v : V} {m : Mk} {o : Oc} (h : OcAt K G v o m) (l : Le G G') : OcAt K G' v o m := by
  obtain ⟨t, th, rfl, h1, h2⟩ := h
  exact ⟨t, th, rfl, l _ _ h1, h2.mono l⟩
theorem shelf_dp {G H : Hp} {v : V} {ms : List Mk} (h : ShelfAt G v ms) (sb : Sb G H) : Dp K H v (shelfD ms) := by
  obtain ⟨a, xs, rfl, h1, h2⟩ := h
  exact .lst (SqL.of (sb _ _ h1).1) (pts_dp (pair_imp h2 fun _ _ z => z.mono sb.le))
def spDue (K : PySem.W.Frag) : Sp := fun vs H Q _ => ∃ (G : Hp) (v : V) (ms : List Mk) (way : Nat) (u : V) (m : Mk), vs = [v, .int way, u] ∧ Sb G H ∧ ShelfAt G v ms ∧ Fit ms ∧ PtIn G u m ∧ Ok m ∧
  ∀ (G' H' : Hp) (p : Addr) (o b : V), GR K S0 G H G' H' → G' p = some (.tup [o, b]) → OcAt K G' o (outc ms way m).1 m → ShelfAt G' b (outc ms way m).2 → Q (.ref p) H'
abbrev N__law_due : List Str := ["_law_shelf_here", "_law_way", "_law_parts", "_law_spine", "_law_row"]
theorem sc__law_due : FnScope N__law_due ["_law_shelf_here", "_law_way", "_law_parts"] (defScope S__law_due) := ⟨rfl, rfl, rfl, by decide +kernel, rfl, by decide +kernel, by decide +kernel⟩
theorem kn__law_due (T : Tx K mg base) : Kn P w K mg base CX0 9 "_law_due" ["_law_shelf_here", "_law_way", "_law_parts"] (spDue K) := by
  refine kn_of "_law_due" T 70 58 S__law_due rfl rfl sc__law_due (fun vs H Q E h => by obtain ⟨_, _, _, _, _, _, rfl, _⟩ := h; rfl) (fun _ _ _ _ _ _ us hl => match us, hl with | [_, _, _], _ => rfl) (fun cdv A outer s H vs Q E hr h => ⟨_, PSs.nox (pss_cons (ps_set (i := 3) sc__law_due.nd rfl (Or.inl rfl) (pe_fn (kn__law_mark T) (hr.mono (by decide)) (pa_cons (pv 2) pa_nil)))
    (pss_cons (ps_if (PW.pt (pw_and (pt_cmpR op_eq (pv 1) pe_int (nomark _)) (pw_and1 (pt_cmpR (op_notInD (hu65 hr)) (pv 2) (pv 0) (by with_unfolding_all rfl))))) (pss_one (ps_ret (pe_tup (pa_cons (pe_tup (pa_cons pe_str (pa_cons (pv 3) (pa_cons pe_bl pa_nil)))) (pa_cons (pv 0) pa_nil))))) pss_nil)
    (pss_cons (ps_if (pt_cmpR op_eq (pv 1) pe_int (nomark _)) (pss_one (ps_ret (pe_tup (pa_cons (pe_tup (pa_cons pe_str (pa_cons pe_non (pa_cons pe_bl pa_nil)))) (pa_cons (pe_lc (own := [("_law_row", 4)]) rfl sc__law_due.nd (pi_list (pv 0)) (blkOk_by (N := N__law_due) (sc := defScope S__law_due) (by decide +kernel)) (fun _ _ _ _ _ => (pg_name (i := 4) sc__law_due.nd rfl (Or.inl rfl))) (fun _ _ _ _ _ => (pts_one (pt_cmpR (op_neDE K rfl hr.units) (pv 4) (pv 2) (nomark _)))) (fun _ _ _ _ _ => (pv 4))) pa_nil))))) pss_nil)
    (pss_cons (ps_if (pt_cmpR op_gt (pe_callB call_len_str (by rfl) T.f_len (by decide +kernel) (pa_cons (pe_fn (kn__law_text T) (hr.mono (by decide)) (pa_cons (pv 2) pa_nil)) pa_nil)) pe_int (nomark _)) (pss_one (ps_ret (pe_tup (pa_cons (pe_tup (pa_cons pe_str (pa_cons (pv 3) (pa_cons pe_bl pa_nil)))) (pa_cons (pv 0) pa_nil))))) pss_nil)
    (pss_cons (ps_if (pt_cmpR (op_inD (hu65 hr)) (pv 2) (pv 0) (by with_unfolding_all rfl)) (pss_one (ps_ret (pe_tup (pa_cons (pe_tup (pa_cons pe_str (pa_cons (pv 3) (pa_cons pe_bl pa_nil)))) (pa_cons (pv 0) pa_nil))))) pss_nil)
    (pss_cons (ps_if (pt_cmpR op_eq (pe_callB call_len_seq (by rfl) T.f_len (by decide +kernel) (pa_cons (pv 0) pa_nil)) pe_int (nomark _)) (pss_one (ps_ret (pe_tup (pa_cons (pe_tup (pa_cons pe_str (pa_cons pe_int (pa_cons pe_bl pa_nil)))) (pa_cons (pv 0) pa_nil))))) pss_nil)
    (pss_one (ps_ret (pe_tup (pa_cons (pe_tup (pa_cons pe_str (pa_cons pe_non (pa_cons pe_bl pa_nil)))) (pa_cons (pe_sortF (x := "") (kn__law_key T) T (hr.mono (by decide)) (pe_op op_cat (pv 0) (pe_lst (pa_cons (pv 2) pa_nil)))) pa_nil))))))))))), ?_⟩)
  obtain ⟨G, v, ms, way, u, m, rfl, sb, hsh, fit, hu, ok, q⟩ := h
  obtain ⟨a, xs, rfl, ha, hpr⟩ := id hsh
  have hml := pair_len hpr
  have hm12 := fit.len
  refine ⟨_, rfl, G, u, m, rfl, sb, hu.mono sb.le, ok, fun G1 H1 s g1 hs => ?_⟩
  have hsh1 := hsh.mono g1.gg
  have hu1 := hu.mono g1.gg
  have ha1 := g1.gg _ _ ha
  have okm : ∀ x ∈ ms, Ok x := fit.ok
  -- a word, the spine, the shelf as it was
  have same : ∀ (o : Oc) (H2 : Hp), GR K S0 G H G1 H2 → (outc ms way m) = (o, ms) → (o = .missing ∨ o = .long ∨ o = .there) → [V.str o.word, s, .bl true].length ≤ sizeLine ∧ ∀ t, H2 t = none → ∃ v, [some (V.ref a), some (V.int way), some u, some s, (none : Option V)][0]? = some (some v) ∧ [V.ref t, v].length ≤ sizeLine ∧
      ∀ p, upd H2 t (.tup [.str o.word, s, .bl true]) p = none → Q (.ref p) (upd (upd H2 t (.tup [.str o.word, s, .bl true])) p (.tup [.ref t, v])) := by
    intro o H2 g2 ho ht
    refine ⟨size_of (n := 3) (by decide), fun t ht0 => ⟨_, rfl, size_of (n := 2) (by decide), fun p hp => ?_⟩⟩
    have g3 := g2.new ht0 (o := .tup [.str o.word, s, .bl true]) trivial
    have l3 : Le G1 (upd G1 t (.tup [.str o.word, s, .bl true])) := Le.up (g2.sb.no ht0)
    have l4 : Le (upd G1 t (.tup [.str o.word, s, .bl true])) _ := Le.up (o := .tup [.ref t, .ref a]) (g3.sb.no hp)
    refine q _ _ p (.ref t) (.ref a) (g3.new hp trivial) upd_same ⟨t, s, rfl, l4 _ _ ?_, ?_⟩ ?_
    · rw [ho]; exact upd_same
    · rw [ho]
      have := hs.mono (l3.trans l4)
      rcases ht with rfl | rfl | rfl <;> exact this
    · rw [ho]; exact (hsh1.mono l3).mono l4
  by_cases hw : way = 1
  · subst hw
    refine ⟨_, rfl, rfl, _, rfl, ifT rfl ⟨_, rfl, _, rfl, partsD m, ms.map partsD, (hu1.mono g1.sb.le).dp, shelf_dp hsh1 g1.sb, parts_shaped ok, shelf_shaped okm, _, rfl, ?_⟩⟩
    rw [shelf_has]
    refine ifN (fun hnot => ?_) fun hin => ?_
    · obtain ⟨h1, h2⟩ := same .missing H1 g1 (by unfold outc; rw [if_pos rfl, if_neg hnot]) (.inl rfl)
      exact ⟨_, rfl, h1, h2⟩
    refine ⟨_, rfl, rfl, _, rfl, ifT rfl ?_⟩
    refine ⟨size_of (n := 3) (by decide), fun t ht => ?_⟩
    have g2 := g1.new ht (o := .tup [.str "done", .non, .bl true]) trivial
    have l2 : Le G1 (upd G1 t (.tup [.str "done", .non, .bl true])) := Le.up (g1.sb.no ht)
    have ha2 := l2 _ _ ha1
    have hp2 := pair_imp hpr fun _ _ z => (z.mono g1.gg).mono l2
    have hu2 := hu1.mono l2
    generalize hG2 : upd G1 t (.tup [.str "done", .non, .bl true]) = G2 at g2 l2 ha2 hp2 hu2
    have ht2 : G2 t = some (.tup [.str "done", .non, .bl true]) := by rw [← hG2]; exact upd_same
    generalize upd H1 t (.tup [.str "done", .non, .bl true]) = H2 at g2
    refine ⟨_, rfl, a, rfl, ⟨_, SqL.of (g2.sb _ _ ha2).1⟩, fun D hD => ?_⟩
    refine lcG K (G1 := G2) (walk_list (K := K) (a := a) (xs := xs)) g2.sb hD (fun G' acc i => G' = G2 ∧ acc.length ≤ i ∧ Paired (PtIn G2) acc ((ms.take i).filter fun x => decide (x ≠ m))) ⟨rfl, Nat.le_refl _, .nil⟩ (size_of (by omega)) (fun G' acc i ez => ez.2.1) (fun G' H' gr => SqL.of (gr.sb _ _ (gr.gg _ _ ha2)).1) (fun i x G' H3 H' acc N hi gr gD hD' rp yy ky kn => ?_) (fun G' H3 acc gr hD' gD rp => ?_)
    · obtain ⟨rfl, hx⟩ := yy
      obtain ⟨rfl, rl, rp⟩ := rp
      obtain ⟨y, hy, hxy⟩ := pair_get' hp2 hx
      have oky := fit.ok y (List.mem_of_getElem? hy)
      refine ⟨rfl, _, rfl, _, rfl, partsD y, partsD m, (hxy.mono gr.sb.le).dp, (hu2.mono gr.sb.le).dp, parts_shaped oky, parts_shaped ok, _, rfl, ?_⟩
      rw [parts_eqv]
      refine ifN (fun hne => ⟨_, rfl, ky _ _ _ (GR.refl gr.sb) ⟨rfl, by simp; omega, ?_⟩⟩) fun heq => kn _ _ (GR.refl gr.sb) ⟨rfl, by omega, ?_⟩
      · rw [List.take_add_one, hy, List.filter_append]
        have : ([y].filter fun x => decide (x ≠ m)) = [y] := by simp [hne]
        show Paired _ _ (_ ++ ([y].filter _))
        rw [this]
        exact rp.snoc hxy
      · rw [List.take_add_one, hy, List.filter_append]
        have : ([y].filter fun x => decide (x ≠ m)) = [] := by simp [heq]
        show Paired _ _ (_ ++ ([y].filter _))
        rw [this, List.append_nil]
        exact rp
    · obtain ⟨rfl, _, rp⟩ := rp
      rw [hml, List.take_of_length_le (Nat.le_refl _)] at rp
      refine ⟨size_of (n := 2) (by decide), fun p hp => ?_⟩
      have f1 := (g2.trans gr).freezeN (g2.nw (.of hD)) hD' trivial
      have l3 : Le G' (upd G' D (.lst acc)) := Le.up gD
      have l4 : Le (upd G' D (.lst acc)) _ := Le.up (o := .tup [.ref t, .ref D]) (f1.sb.no hp)
      have eo : outc ms 1 m = (.done, ms.filter fun x => decide (x ≠ m)) := by unfold outc; rw [if_pos rfl, if_pos hin]
      refine q _ _ p (.ref t) (.ref D) (f1.new hp trivial) upd_same ⟨t, .non, rfl, (l3.trans l4) _ _ ?_, ?_⟩ ?_
      · rw [eo]; exact ht2
      · rw [eo]; rfl
      · rw [eo]
        exact ⟨D, acc, rfl, l4 _ _ upd_same, pair_imp rp fun _ _ z => z.mono (l3.trans l4)⟩
  · have hwi : ¬ V.int (way : Int) = V.int 1 := fun e => hw (by have := V.int.inj e; omega)
    refine ⟨_, rfl, rfl, _, rfl, ifF hwi ⟨_, rfl, rfl, _, rfl, ifF hwi ?_⟩⟩
    refine ⟨_, rfl, u, m, rfl, hu1.mono g1.sb.le, ok, _, rfl, text_fits m ok, _, _, rfl, rfl, _, rfl, ifC (fun hl => ?_) fun hl => ?_⟩
    · rw [S_len] at hl
      obtain ⟨h1, h2⟩ := same .long H1 g1 (by unfold outc; rw [if_neg hw, if_pos (by omega)]) (.inr (.inl rfl))
      exact ⟨_, rfl, h1, h2⟩
    rw [S_len] at hl
    have hl' : ¬ 24 < (text m).length := by omega
    refine ⟨_, rfl, _, rfl, partsD m, ms.map partsD, (hu1.mono g1.sb.le).dp, shelf_dp hsh1 g1.sb, parts_shaped ok, shelf_shaped okm, _, rfl, ?_⟩
    rw [shelf_has]
    refine ifC (fun hin => ?_) fun hnot => ?_
    · obtain ⟨h1, h2⟩ := same .there H1 g1 (by unfold outc; rw [if_neg hw, if_neg hl', if_pos hin]) (.inr (.inr rfl))
      exact ⟨_, rfl, h1, h2⟩
    refine ⟨_, rfl, a, _, rfl, .inl (SqL.of (g1.sb _ _ ha1).1), rfl, _, rfl, ifC (fun h12 => ?_) fun h12 => ?_⟩
    · have h12' : ms.length = 12 := by have := V.int.inj h12; omega
      have eo : outc ms way m = (.full, ms) := by unfold outc; rw [if_neg hw, if_neg hl', if_neg hnot, if_pos h12']
      refine ⟨size_of (n := 3) (by decide), fun t ht => ⟨_, rfl, size_of (n := 2) (by decide), fun p hp => ?_⟩⟩
      have g3 := g1.new ht (o := .tup [.str "full", .int 12, .bl true]) trivial
      have l3 : Le G1 (upd G1 t (.tup [.str "full", .int 12, .bl true])) := Le.up (g1.sb.no ht)
      have l4 : Le (upd G1 t (.tup [.str "full", .int 12, .bl true])) _ := Le.up (o := .tup [.ref t, .ref a]) (g3.sb.no hp)
      refine q _ _ p (.ref t) (.ref a) (g3.new hp trivial) upd_same ⟨t, .int 12, rfl, l4 _ _ ?_, ?_⟩ ?_
      · rw [eo]; exact upd_same
      · rw [eo]; rfl
      · rw [eo]; exact (hsh1.mono l3).mono l4
    have h12' : ¬ ms.length = 12 := fun e => h12 (by rw [hml, e]; rfl)
    have eo : outc ms way m = (.done, kSort (ms ++ [m])) := by unfold outc; rw [if_neg hw, if_neg hl', if_neg hnot, if_neg h12']
    refine ⟨size_of (n := 3) (by decide), fun t ht => ?_⟩
    have g2 := g1.new ht (o := .tup [.str "done", .non, .bl true]) trivial
    have l2 : Le G1 (upd G1 t (.tup [.str "done", .non, .bl true])) := Le.up (g1.sb.no ht)
    have ha2 := l2 _ _ ha1
    have hp2 := pair_imp hpr fun _ _ z => (z.mono g1.gg).mono l2
    have hu2 := hu1.mono l2
    generalize hG2 : upd G1 t (.tup [.str "done", .non, .bl true]) = G2 at g2 l2 ha2 hp2 hu2
    have ht2 : G2 t = some (.tup [.str "done", .non, .bl true]) := by rw [← hG2]; exact upd_same
    generalize upd H1 t (.tup [.str "done", .non, .bl true]) = H2 at g2
    refine ⟨_, rfl, _, rfl, size_of (n := 1) (by decide), fun e he => ?_⟩
    have g3 := g2.newM he (o := .lst [u])
    refine ⟨a, e, xs, [u], rfl, rfl, (g3.sb _ _ ha2).1, upd_same, ?_, fun f hf => ?_⟩
    · show xs.length + 1 ≤ _
      exact size_of (by omega)
    have g4 := g3.newM hf (o := .lst (xs ++ [u]))
    have hpa := hp2.snoc hu2
    refine ⟨_, rfl, rfl, f, G2, xs ++ [u], ms ++ [m], rfl, g4.sb, SqL.of upd_same, pair_len hpa, fun i x y G3 H3 hx hy g5 => ?_, fun G3 H3 p ys g5 hp0 hp1 hys => ?_⟩
    · refine ⟨x, y, rfl, ((pair_at hpa hx hy).mono g5.gg).mono g5.sb.le, fun t p ht hp => ?_⟩
      obtain ⟨G', g, l, k⟩ := key_new (GR.refl (K := K) (S := S0) g5.sb) ht hp
      exact ⟨G', g, k⟩
    · have f1 := (g4.trans g5).new hp1 (o := .lst ys) trivial
      have l3 : Le G2 (upd G3 p (.lst ys)) := g5.gg.trans (Le.up (g5.sb.no hp1))
      refine ⟨size_of (n := 2) (by decide), fun z hz => ?_⟩
      have l4 : Le (upd G3 p (.lst ys)) _ := Le.up (o := .tup [.ref t, .ref p]) (f1.sb.no hz)
      refine q _ _ z (.ref t) (.ref p) (f1.new hz trivial) upd_same ⟨t, .non, rfl, (l3.trans l4) _ _ ?_, ?_⟩ ?_
      · rw [eo]; exact ht2
      · rw [eo]; rfl
      · rw [eo]
        exact ⟨p, ys, rfl, l4 _ _ upd_same, pair_imp hys fun _ _ z => (pair_zip hpa z).mono (l3.trans l4)⟩
end
end K42
set_option Elab.async false
set_option linter.all false
set_option maxRecDepth 100000
set_option maxHeartbeats 4000000
namespace K42
open PySem PySem.Spec PyProof.Rows L2
theorem prs_mk {K : PySem.W.Frag} {G H : Hp} (sb : Sb G H) : ∀ {xs ys : List V} {ms : List Mk}, Paired (MarkAt K G) xs ms → Paired (MarkAt K G) ys ms → Prs (DMk K) xs ys H
  | _, _, _, .nil, .nil => Prs.nil
  | _, _, _, .cons h1 t1, .cons h2 t2 => by
    obtain ⟨a, rfl, ha⟩ := h1.mi sb
    obtain ⟨b, rfl, hb⟩ := h2.mi sb
    exact Prs.cons ⟨a, b, _, rfl, rfl, ha, hb⟩ (prs_mk sb t1 t2)
theorem meant_at {ms : List Mk} (f : Fit ms) {k : Nat} {c : Mk} (h : (shortOf ms)[k]? = some c) : (shortOf ms).findIdx? (fun x => decide (S (text x) = S (text c))) = some k := by
  have hk := (List.getElem?_eq_some_iff.mp h).1
  refine List.findIdx?_eq_some_iff_getElem.mpr ⟨hk, ?_, fun j hj => ?_⟩
  · rw [(List.getElem?_eq_some_iff.mp h).2]
    exact decide_eq_true rfl
  · have hjl : j < (shortOf ms).length := Nat.lt_trans hj hk
    have hjc : (shortOf ms)[j]? = some (shortOf ms)[j] := List.getElem?_eq_getElem hjl
    intro z
    have ez := text_inj (f.short.each f.ok _ (List.mem_of_getElem? hjc)) (f.short.each f.ok c (List.mem_of_getElem? h)) (S_inj (of_decide_eq_true z))
    have := rise_at f.short.rise hj hjc h
    rw [ez, kLt_irr] at this
    cases this
theorem ElAt.mono {G G' : Hp} {k : V} {p : Option Mk} (h : ElAt G k p) (l : Le G G') : ElAt G' k p := by
  cases p with
  | none =>
    obtain ⟨b, rfl, hb⟩ := h
    exact ⟨b, rfl, l _ _ hb⟩
  | some c0 => exact KeyAt.le h l
theorem ElAt.dp2 {K : PySem.W.Frag} {G H : Hp} {k : V} {p : Option Mk} (h : ElAt G k p) (sb : Sb G H) : ∃ d, Dp K H k d ∧ ∀ c, PySem.W.alike (keyD c) d = true ∧ PySem.W.dataLt d (keyD c) = ahLt p c := by
  cases p with
  | none =>
    obtain ⟨a, rfl, h⟩ := h
    exact ⟨.tuple [], .tup (SqT.of (sb _ _ h).1) .nil, fun c => ⟨rfl, nil_lt c⟩⟩
  | some x => exact ⟨keyD x, KeyAt.dp h sb, fun c => ⟨alike_key c x, rfl⟩⟩
section
variable {P : Program} {w : World} {K : PySem.W.Frag} {mg : Str → Option Value} {base : Heap}
def spStands (K : PySem.W.Frag) : Sp := fun vs H Q _ => ∃ (G : Hp) (x a : Addr) (v : V) (ms : List Mk), vs = [.ref x, v] ∧ Sb G H ∧ SAt K G H x a ms ∧ Fit ms ∧ ShelfAt G v ms ∧ ∀ G' H', GR K S0 G H G' H' → Q (.bl true) H'
abbrev N__law_stands : List Str := ["_law_shorts", "_law_shelf_here", "_law_told", "_law_last", "_law_spine", "_law_parts", "_law_row", "_law_k"]
theorem sc__law_stands : FnScope N__law_stands ["_law_shorts", "_law_shelf_here"] (defScope S__law_stands) := ⟨rfl, rfl, rfl, by decide +kernel, rfl, by decide +kernel, by decide +kernel⟩
theorem kn__law_stands (T : Tx K mg base) : Kn P w K mg base CX0 10 "_law_stands" ["_law_shorts", "_law_shelf_here"] (spStands K) := by
  refine kn_of "_law_stands" T 72 60 S__law_stands rfl rfl sc__law_stands (fun vs H Q E h => by obtain ⟨_, _, _, _, _, rfl, _⟩ := h; rfl) (fun _ _ _ _ _ _ us hl => match us, hl with | [_, _], _ => rfl) (fun cdv A outer s H vs Q E hr h => ⟨_, PSs.nox (pss_cons (ps_if (PW.pt (pw_or (pt_cmpR op_ne (pe_callB (call_lenM (kn_Shorts_len T) (hr.mono (by decide))) (by rfl) T.f_len (by decide +kernel) (pa_cons (pv 0) pa_nil)) (pe_callB call_len_seq (by rfl) T.f_len (by decide +kernel) (pa_cons (pv 1) pa_nil)) (nomark _)) (pw_or1 (pt_cmpR (op_neMs T (hr.mono (by decide))) (pe_km0 (kn_Shorts_marks T) (hr.mono (by decide)) (pv 0)) (pe_lc (own := [("_law_parts", 5)]) rfl sc__law_stands.nd (pi_list (pv 1)) (blkOk_by (N := N__law_stands) (sc := defScope S__law_stands) (by decide +kernel)) (fun _ _ _ _ _ => (pg_name (i := 5) sc__law_stands.nd rfl (Or.inl rfl))) (fun _ _ _ _ _ => pts_nil) (fun _ _ _ _ _ => (pe_fn (kn__law_mark T) (hr.mono (by decide)) (pa_cons (pv 5) pa_nil)))) (nomark _))))) (pss_one (ps_ret pe_bl)) pss_nil)
    (pss_cons (ps_set (i := 2) sc__law_stands.nd rfl (Or.inl rfl) (pe_km0 (kn_Shorts_row T) (hr.mono (by decide)) (pv 0)))
    (pss_cons (ps_if (PW.pt (pw_or (pt_not (pt_val (pe_callB call_isi (by rfl) T.f_isinstance (by decide +kernel) (pa_cons (pv 2) (pa_cons (pe_bltn (v := .ty "list") (by rfl) T.f_list (by decide +kernel) rfl) pa_nil))))) (pw_or1 (pt_cmpR op_ne (pe_callB call_len_seq (by rfl) T.f_len (by decide +kernel) (pa_cons (pv 2) pa_nil)) (pe_callB call_len_seq (by rfl) T.f_len (by decide +kernel) (pa_cons (pv 1) pa_nil)) (nomark _))))) (pss_one (ps_ret pe_bl)) pss_nil)
    (pss_cons (ps_set (i := 3) sc__law_stands.nd rfl (Or.inl rfl) (pe_tup pa_nil))
    (pss_cons (ps_for PassesOwn.never rfl (pi_zip (by rfl) T.f_zip (pa_cons (pv 2) (pa_cons (pv 1) pa_nil))) (pg_tup rfl (pgs_cons (pg_name (i := 4) sc__law_stands.nd rfl (Or.inl rfl)) (pgs_cons (pg_name (i := 5) sc__law_stands.nd rfl (Or.inl rfl)) pgs_nil))) (pss_cons (ps_set (i := 6) sc__law_stands.nd rfl (Or.inl rfl) (pe_callTy call_list_of (by rfl) T.f_list (by decide +kernel) (pa_cons (pe_km0 (kn_Mark_parts T) (hr.mono (by decide)) (pv 4)) pa_nil)))
    (pss_cons (ps_asg (pe_callTy call_list_of (by rfl) T.f_list (by decide +kernel) (pa_cons (pe_ix ix_list (pv 6) pe_int (fun _ _ => rfl)) pa_nil)) (pg_sub (pv 6) pe_int set_list))
    (pss_cons (ps_if (PW.pt (pw_or (pt_not (pt_val (pe_fn (kn__law_is_cut T) (hr.mono (by decide)) (pa_cons (pv 6) (pa_cons (pv 5) pa_nil))))) (pw_or1 (pt_cmpR (op_leK hr) (pe_fn (kn__law_key T) (hr.mono (by decide)) (pa_cons (pv 6) pa_nil)) (pv 3) (nomark _))))) (pss_one (ps_ret pe_bl)) pss_nil)
    (pss_one (ps_set (i := 3) sc__law_stands.nd rfl (Or.inl rfl) (pe_fn (kn__law_key T) (hr.mono (by decide)) (pa_cons (pv 6) pa_nil))))))))
    (pss_cons (ps_for PassesOwn.never rfl (pi_range1 (by rfl) T.f_range (pa_cons (pe_callB call_len_seq (by rfl) T.f_len (by decide +kernel) (pa_cons (pv 1) pa_nil)) pa_nil)) (pg_name (i := 7) sc__law_stands.nd rfl (Or.inl rfl)) (pss_one (ps_if (PW.pt (pw_or (pt_cmpR (op_neM T hr) (pe_kmX (kn_Shorts_short_ofX T) (hr.mono (by decide)) tkF (pv 0) (pa_cons (pe_fn (kn__law_mark T) (hr.mono (by decide)) (pa_cons (pe_ix ix_list (pv 1) (pv 7) (fun _ _ => rfl)) pa_nil)) pa_nil)) (pe_ix ix_list (pv 2) (pv 7) (fun _ _ => rfl)) (nomark _)) (pw_or1 (pt_cmpR op_ne (pe_km (kn_Shorts_meant T) (hr.mono (by decide)) (pv 0) (pa_cons (pe_callTy (call_strM (kn_Mark_str T) (hr.mono (by decide))) (by rfl) T.f_str (by decide +kernel) (pa_cons (pe_ix ix_list (pv 2) (pv 7) (fun _ _ => rfl)) pa_nil)) pa_nil)) (pv 7) (nomark _))))) (pss_one (ps_ret pe_bl)) pss_nil)))
    (pss_one (ps_ret (pe_and (pe_cmpR op_eq (pe_km0 (kn_Shorts_signs T) (hr.mono (by decide)) (pv 0)) (pe_callB (cr_sum rfl) (by rfl) T.f_sum (by decide +kernel) (pa_cons (pe_lc (own := [("_law_spine", 4)]) rfl sc__law_stands.nd (pi_list (pv 2)) (blkOk_by (N := N__law_stands) (sc := defScope S__law_stands) (by decide +kernel)) (fun _ _ _ _ _ => (pg_name (i := 4) sc__law_stands.nd rfl (Or.inl rfl))) (fun _ _ _ _ _ => pts_nil) (fun _ _ _ _ _ => (pe_callB call_len_str (by rfl) T.f_len (by decide +kernel) (pa_cons (pe_callTy (call_strE (kn_Mark_str T) (hr.mono (by decide))) (by rfl) T.f_str (by decide +kernel) (pa_cons (pv 4) pa_nil)) pa_nil)))) pa_nil)) (nomark _)) (pe_one (pe_cmpR (op_eqMs T (hr.mono (by decide))) (pe_km0 (kn_Shorts_row T) (hr.mono (by decide)) (pv 0)) (pv 2) (nomark _)))))))))))), ?_⟩)
  obtain ⟨G, x, a, v, ms, rfl, sb, hs, fit, ⟨sa, ps, rfl, hsa, hps⟩, q⟩ := h
  obtain ⟨dx, sv, r, rs0, h1, h2, h3, h4⟩ := id hs.at_
  have hpl := pair_len hps
  have h12 := fit.len
  have hsl := fit.short.len
  have hsx : ∀ {G' H' : Hp}, GR K S0 G H G' H' → SAt K G' H' x a ms := fun g => hs.keep0 g
  have hix : ∀ {G' H' : Hp}, GR K S0 G H G' H' → H' x = some (.ins (He.ga K "Shorts") dx (sflds a sv r)) := fun g => g.keep h1 trivial id
  have hsh : ∀ {G' H' : Hp}, GR K S0 G H G' H' → SqL K H' sa ps := fun g => SqL.of (g.sb _ _ (g.gg _ _ hsa)).1
  have g0 := GR.refl (K := K) (S := S0) sb
  refine ⟨_, rfl, x, dx, _, rfl, h1, G, x, a, ms, rfl, sb, hs, ⟨_, rfl, by omega⟩, ?_⟩
  refine ⟨_, rfl, sa, _, rfl, .inl (hsh g0), rfl, _, rfl, ifN (fun z => (z (by rw [hpl])).elim) fun _ => ?_⟩
  refine ⟨_, rfl, x, dx, _, rfl, h1, rfl, G, x, a, ms, rfl, sb, hs, fun p ys hp hpy => ?_⟩
  have g1 := g0.newM hp (o := .lst ys)
  refine ⟨_, rfl, sa, rfl, ⟨_, hsh g1⟩, fun D hD => ?_⟩
  refine lcG K (G1 := G) (walk_list (K := K) (a := sa) (xs := ps)) g1.sb hD (fun G' acc i => Paired (MarkAt K G') acc (ms.take i)) .nil (size_of (by omega)) (fun G' acc i ez => by rw [pair_len ez, List.length_take]; omega) (fun G' H' gr => hsh (g1.trans gr)) (fun i z G' H1 H' acc N hi gr gD hD' rp yy ky kn => ?_) (fun G' H' acc gr hD' gD rp => ?_)
  · obtain ⟨rfl, hz⟩ := yy
    obtain ⟨m, hm, hzm⟩ := pair_get' hps hz
    refine ⟨rfl, tyes (iteT ⟨_, rfl, G', z, m, rfl, gr.sb, (hzm.mono gr.gg).mono gr.sb.le, fit.ok m (List.mem_of_getElem? hm), fun G4 H4 u g4 hu => ky G4 H4 u g4 ?_⟩)⟩
    rw [List.take_add_one, hm]
    exact (pair_imp rp fun _ _ y => y.mono g4.gg).snoc hu
  rw [hpl, List.take_of_length_le (Nat.le_refl _)] at rp
  have g2 := g1.trans gr
  have hp2 := gr.keep (p := p) upd_same trivial id
  refine ⟨⟨p, D, ys, acc, rfl, rfl, hp2, hD', prs_mk g2.sb (pair_imp hpy fun _ _ y => y.mono gr.gg) rp⟩, fun H2 ex => ⟨_, rfl, iteF ?_⟩⟩
  have g3 := g2.trans (GR.grown (S := S0) g2.sb ex)
  clear gr hD' hp2 hD rp
  refine ⟨_, rfl, x, dx, _, rfl, hix g3, rfl, G', x, a, ms, rfl, g3.sb, hsx g3, fun told rs ht hrs => ?_⟩
  have g4 := g3.new ht (o := .lst rs) trivial
  have l4 : Le G' (upd G' told (.lst rs)) := Le.up (g3.sb.no ht)
  have hrs4 := pair_imp hrs fun _ _ y => y.mono l4
  have ht4 : upd G' told (.lst rs) told = some (.lst rs) := upd_same
  have hrl := pair_len hrs
  generalize upd G' told (.lst rs) = G4 at g4 hrs4 ht4
  generalize upd H2 told (.lst rs) = H4 at g4
  clear l4 hrs ht g3 ex
  have htl : ∀ {G' H' : Hp}, GR K S0 G4 H4 G' H' → SqL K H' told rs := fun g => SqL.of (g.sb _ _ (g.gg _ _ ht4)).1
  have j0 := GR.refl (K := K) (S := S0) g4.sb
  refine ⟨_, rfl, _, _, _, _, _, rfl, .ty _, .base (.lst (g4.sb _ _ ht4).1), k_ll, _, rfl, iteF ?_⟩
  refine ⟨_, rfl, told, _, rfl, .inl (htl j0), _, rfl, sa, _, rfl, .inl (hsh g4), rfl, _, rfl, ifN (fun z => (z (by rw [hpl, hrl, hsl])).elim) fun _ => ?_⟩
  refine ⟨size_of (n := 0) (by decide), fun t0 ht0 => ?_⟩
  have j1 := j0.new ht0 (o := .tup []) trivial
  refine ⟨_, rfl, _, rfl, told, sa, rs, ps, rfl, htl j1, hsh (g4.trans j1), ?_⟩
  refine for_it (walk_zip (K := K) (a := told) (b := sa) (xs := rs) (ys := ps) (n := ms.length) (by rw [hrl, hsl, hpl, Nat.min_self])) (fun i σ H' => ∃ (G' : Hp) (lv : V) (x4 x5 x6 : Option V) (o : Option Mk), σ = [some (.ref x), some (.ref sa), some (.ref told), some lv, x4, x5, x6, none] ∧ GR K S0 G4 H4 G' H' ∧ ElAt G' lv o ∧ ∀ c, (shortOf ms)[i]? = some c → ahLt o c = true) ?_ ?_ ?_ ?_
  · exact ⟨_, .ref t0, _, _, _, none, rfl, j1, ⟨t0, rfl, upd_same⟩, fun c _ => rfl⟩
  · rintro i σ H5 hi ⟨G5, lv, x4, x5, x6, o, rfl, j5, _⟩
    exact ⟨htl j5, hsh (g4.trans j5)⟩
  · rintro i y σ H5 H6 hi ⟨G5, lv, x4, x5, x6, o, rfl, j5, hlv, hol⟩ ⟨tp, z1, z2, rfl, htp, rfl, hz1, hz2⟩
    obtain ⟨c, hc, hzc⟩ := pair_get' hrs4 hz1
    obtain ⟨m, hm, hzm⟩ := pair_get' hps hz2
    have okm := fit.ok m (List.mem_of_getElem? hm)
    have okc := fit.short.each fit.ok c (List.mem_of_getElem? hc)
    have hcut := cuts_mem.mp (pair_at fit.short.cut hc hm)
    have j6 := j5.newM htp (o := .tup [z1, z2])
    refine ⟨tp, _, rfl, SqT.of upd_same, rfl, _, _, rfl, _, _, rfl, rfl, ?_⟩
    obtain ⟨ca, dxc, tc, rfl, hca, hct⟩ := hzc.mono j5.gg
    have hca6 := (j6.sb _ _ hca).1
    refine ⟨_, rfl, ca, dxc, _, rfl, hca6, rfl, ca, dxc, tc, c, rfl, hca6, fun p1 hp1 => ?_⟩
    have j7 := j6.newM hp1 (o := .tup [sV c.l, .int c.n, sV c.p, .ref tc, oV c.y, oV c.c])
    refine ⟨p1, _, rfl, .inr (SqT.of upd_same), fun l hl => ?_⟩
    have j8 := j7.newM hl (o := .lst (pV c tc))
    refine ⟨_, rfl, _, _, _, .ref tc, rfl, rfl, SqL.of upd_same, atI_nat (j := 3) rfl, tc, _, rfl, .inr (SqT.of (j8.sb _ _ hct).1), fun l2 hl2 => ?_⟩
    have j9 := j8.newM hl2 (o := .lst (msV c.ms))
    have hll2 : l ≠ l2 := fun e => by rw [← e, upd_same] at hl2; cases hl2
    have hgl := j7.sb.no hl
    have h9 : upd (upd (upd (upd H5 tp (.tup [.ref ca, z2])) p1 (.tup [sV c.l, .int c.n, sV c.p, .ref tc, oV c.y, oV c.c])) l (.lst (pV c tc))) l2 (.lst (msV c.ms)) l = some (.lst (pV c tc)) := by rw [upd_ne hll2]; exact upd_same
    refine ⟨_, rfl, l, _, _, 3, rfl, rfl, h9, rfl, ?_⟩
    have j10 := j9.wrN (p := l) (o' := .lst ((pV c tc).set 3 (.ref l2))) (j7.nw (.of hl)) hgl h9 trivial
    have hpt : PtIn (upd (upd (upd (upd (upd H5 tp (.tup [.ref ca, z2])) p1 (.tup [sV c.l, .int c.n, sV c.p, .ref tc, oV c.y, oV c.c])) l (.lst (pV c tc))) l2 (.lst (msV c.ms))) l (.lst ((pV c tc).set 3 (.ref l2)))) (.ref l) c := ⟨l, l2, rfl, upd_same, by rw [upd_ne hll2.symm]; exact upd_same⟩
    generalize upd (upd (upd (upd (upd H5 tp (.tup [.ref ca, z2])) p1 (.tup [sV c.l, .int c.n, sV c.p, .ref tc, oV c.y, oV c.c])) l (.lst (pV c tc))) l2 (.lst (msV c.ms))) l (.lst ((pV c tc).set 3 (.ref l2))) = H10 at j10 hpt
    refine ⟨_, rfl, _, rfl, G5, .ref l, z2, c, m, rfl, j10.sb, hpt, ((hzm.mono g4.gg).mono j10.gg).mono j10.sb.le, hcut, okm, fun H11 g11 => ⟨_, rfl, iteF ?_⟩⟩
    have hpt11 := hpt.keep g11
    refine ⟨_, rfl, .ref l, c, rfl, hpt11, fun t pk ht hpk => ?_⟩
    obtain ⟨G12, g12, l12, k12⟩ := key_new (GR.refl (K := K) (S := S0) g11.sb) ht hpk
    obtain ⟨dv, hdv, hcmp⟩ := (hlv.mono l12).dp2 (K := K) g12.sb
    refine ⟨_, rfl, keyD c, dv, k12.dp g12.sb, hdv, (hcmp c).1, (fun z => nomatch z), key_depth c, _, rfl, ?_⟩
    rw [(hcmp c).2, hol c hc]
    refine iteF ?_
    have hpt12 := hpt11.keep g12
    refine ⟨_, rfl, .ref l, c, rfl, hpt12, fun t3 p3 ht3 hp3 => ?_⟩
    obtain ⟨G13, g13, l13, k13⟩ := key_new (((j10.trans g11).trans g12)) ht3 hp3
    exact ⟨G13, .ref p3, _, _, _, some c, rfl, g13, k13, fun c' hc' => rise_at fit.short.rise (Nat.lt_succ_self i) hc hc'⟩
  · rintro σ H5 ⟨G5, lv, x4, x5, x6, o, rfl, j5, _, _⟩
    refine ⟨_, rfl, sa, _, rfl, .inl (hsh (g4.trans j5)), _, rfl, by omega, by omega, ?_⟩
    rw [hpl]
    refine for_range (fun i σ H' => ∃ (G' : Hp) (x7 : Option V), σ = [some (.ref x), some (.ref sa), some (.ref told), some lv, x4, x5, x6, x7] ∧ GR K S0 G4 H4 G' H') ⟨G5, _, rfl, j5⟩ ?_ ?_
    · rintro i σ H6 hi ⟨G6, x7, rfl, j6⟩
      have hi' : i < ms.length := by simpa using hi
      obtain ⟨m, hm⟩ : ∃ m, ms[i]? = some m := ⟨_, List.getElem?_eq_getElem hi'⟩
      obtain ⟨c, hc⟩ : ∃ c, (shortOf ms)[i]? = some c := ⟨_, List.getElem?_eq_getElem (by omega)⟩
      obtain ⟨z, hz, hzm⟩ := pair_get hps hm
      obtain ⟨y, hy, hyc⟩ := pair_get hrs4 hc
      have okm := fit.ok m (List.mem_of_getElem? hm)
      have okc := fit.short.each fit.ok c (List.mem_of_getElem? hc)
      have hat : ∀ {l : List V} {z : V}, l[i]? = some z → atI l (0 + (i : Int)) = some z := fun h => by rw [show (0 + (i : Int)) = ((i : Nat) : Int) by omega]; exact atI_nat h
      have k6 := g4.trans j6
      refine ⟨_, rfl, x, dx, _, rfl, hix k6, rfl, _, rfl, _, rfl, sa, _, _, z, rfl, rfl, hsh k6, hat hz, G6, z, m, rfl, j6.sb, (hzm.mono k6.gg).mono j6.sb.le, okm, fun G7 H7 u g7 hu => ?_⟩
      have k7 := k6.trans g7
      refine ⟨G7, x, a, ms, u, m, rfl, g7.sb, hsx k7, fit, hu, okm, fun k c2 u2 G8 H8 g8 hk hc2 hu2 => ?_, fun hn => (hn (List.mem_of_getElem? hm)).elim⟩
      have eki : k = i := (List.getElem?_inj (List.getElem?_eq_some_iff.mp hk).1 (rise_nodup fit.rise)).mp (hk.trans hm.symm)
      subst eki
      rw [hc] at hc2
      obtain rfl := Option.some.inj hc2
      have j8 := (j6.trans g7).trans g8
      have k8 := g4.trans j8
      obtain ⟨ua, rfl, hua⟩ := hu2.mi g8.sb
      obtain ⟨ya, rfl, hya⟩ := (hyc.mono j8.gg).mi j8.sb
      refine ⟨_, rfl, _, rfl, told, _, _, .ref ya, rfl, rfl, htl j8, hat hy, ua, ya, c, c, rfl, rfl, hua, hya, _, rfl, ifN (fun z => (z rfl).elim) fun _ => ?_⟩
      obtain ⟨yb, dy, ty, e2, hyb⟩ := (hyc.mono j8.gg).o j8.sb
      cases e2
      refine ⟨_, rfl, x, dx, _, rfl, hix k8, rfl, _, rfl, _, rfl, told, _, _, .ref ya, rfl, rfl, htl j8, hat hy, ya, dy, _, rfl, hyb, ya, dy, ty, c, rfl, hyb, okc, ⟨_, rfl⟩, G8, x, a, ms, S (text c), rfl, g8.sb, hsx k8, fit, fun H9 g9 => ?_⟩
      rw [meant_at fit hc]
      exact ⟨_, rfl, rfl, _, rfl, ifN (fun z => (z (by show V.int _ = V.int _; rw [Int.zero_add])).elim) fun _ => ⟨G8, _, rfl, j8.trans g9⟩⟩
    · rintro σ H6 ⟨G6, x7, rfl, j6⟩
      have k6 := g4.trans j6
      refine ⟨_, rfl, x, dx, _, rfl, hix k6, rfl, G6, x, a, ms, rfl, j6.sb, hsx k6, fit, fun H7 g7 => ?_⟩
      have j7 := j6.trans g7
      refine ⟨_, rfl, told, rfl, ⟨_, htl j7⟩, fun D hD => ?_⟩
      refine lcG K (G1 := G6) (walk_list (K := K) (a := told) (xs := rs)) j7.sb hD (fun G' acc i => G' = G6 ∧ acc = (((shortOf ms).take i).map fun c => (tl c : Int)).map V.int) ⟨rfl, rfl⟩ (size_of (by omega)) (fun G' acc i e => ?_) (fun G' H' gr => htl (j7.trans gr)) (fun i z G' H8 H' acc N hi gr gD hD' rp yy ky kn => ?_) (fun G' H8 acc gr hD' gD rp => ?_)
      · rw [e.2, List.length_map, List.length_map]
        exact List.length_take_le _ _
      · obtain ⟨rfl, hz⟩ := yy
        obtain ⟨rfl, rfl⟩ := rp
        obtain ⟨c, hc, hmc⟩ := pair_get' hrs4 hz
        obtain ⟨ca, dxc, tc, rfl, hca⟩ := (hmc.mono (j7.trans gr).gg).o gr.sb
        have okc := fit.short.each fit.ok c (List.mem_of_getElem? hc)
        refine ⟨rfl, tyes (iteT ⟨_, rfl, ca, dxc, _, rfl, hca, ca, dxc, tc, c, rfl, hca, okc, ⟨_, rfl⟩, _, rfl, text_fits c okc, ?_⟩)⟩
        refine ky _ _ _ (GR.refl gr.sb) ⟨rfl, ?_⟩
        rw [List.take_add_one, hc, List.map_append, List.map_append, S_len]
        rfl
      · obtain ⟨rfl, rfl⟩ := rp
        refine ⟨D, _, rfl, SqL.of hD', ?_⟩
        rw [hrl, List.take_of_length_le (Nat.le_refl _)]
        have e : ∀ l : List Mk, (l.map fun c => (tl c : Int)).sum = ((l.map tl).sum : Nat) := fun l => by
          induction l with
          | nil => rfl
          | cons a l ih => rw [List.map_cons, List.map_cons, List.sum_cons, List.sum_cons, ih]; omega
        rw [e, fit.short.sum]
        refine ⟨rfl, _, rfl, ?_⟩
        rw [decide_eq_true rfl]
        refine iteT ?_
        have j8 := j7.trans gr
        have k8 := g4.trans j8
        refine ⟨_, rfl, x, dx, _, rfl, hix k8, rfl, _, x, a, ms, rfl, gr.sb, hsx k8, fun p2 rs2 hp2 hrs2 => ?_⟩
        have j9 := j8.newM hp2 (o := .lst rs2)
        exact ⟨_, rfl, ⟨p2, told, rs2, rs, rfl, rfl, upd_same, (j9.sb _ _ (j9.gg _ _ ht4)).1, prs_mk j9.sb hrs2 (pair_imp hrs4 fun _ _ y => y.mono j9.gg)⟩, fun H9 ex => q _ _ ((g4.trans j9).trans (GR.grown j9.sb ex))⟩
end
end K42
set_option Elab.async false
set_option linter.all false
set_option maxRecDepth 100000
set_option maxHeartbeats 4000000
namespace K42
open PySem PySem.Spec PyProof.Rows L2
theorem glue_low {ws : List (List Nat)} (h : ∀ w ∈ ws, ∀ c ∈ w, c < 1000) : ∀ c ∈ glue ws, c < 1000 := by
  intro c hc
  unfold glue at hc
  obtain ⟨w, hw, hcw⟩ := List.mem_flatMap.mp hc
  rcases List.mem_cons.mp hcw with rfl | z
  · decide
  · exact h w hw c z
theorem numL_low (n : Nat) : ∀ c ∈ TL.numL n, c < 1000 := fun c hc => by
  have := TL.numL_digits n c hc
  omega
theorem text_low {m : Mk} (o : Ok m) : ∀ c ∈ text m, c < 1000 := by
  intro c hc
  unfold text at hc
  rcases List.mem_append.mp hc with z | hc
  · exact let_low (o.la c z)
  rcases List.mem_append.mp hc with z | hc
  · exact numL_low _ c z
  rcases List.mem_append.mp hc with z | hc
  · unfold pts at z
    split at z
    · cases z
    · rcases List.mem_cons.mp z with rfl | z
      · decide
      · exact figs_low o.pt c z
  · refine glue_low (fun w hw => ?_) c hc
    unfold wordsOf at hw
    rcases List.mem_append.mp hw with hw | hw
    · rcases List.mem_append.mp hw with hw | hw
      · exact mkr_low (o.mo w hw)
      · cases ey : m.y with
        | none => rw [ey] at hw; cases hw
        | some y =>
          rw [ey] at hw
          rw [List.mem_singleton.mp hw]
          exact numL_low y
    · cases ec : m.c with
      | none => rw [ec] at hw; cases hw
      | some y =>
        rw [ec] at hw
        rw [List.mem_singleton.mp hw]
        intro c hc
        rcases List.mem_cons.mp hc with rfl | hc
        · decide
        rcases List.mem_cons.mp hc with rfl | hc
        · decide
        · exact numL_low y c hc
def txD (c : Mk) : PyData := .str (S (text c))
theorem txD_shaped {c : Mk} (o : Ok c) : SeqAt.shaped (txD c) = true := by
  unfold SeqAt.shaped
  rw [show PyData.canLay0 (txD c) = PyData.strOk (S (text c)) from rfl, strOk_S (text_low o)]
  rfl
theorem txs_shaped {cs : List Mk} (o : ∀ c ∈ cs, Ok c) : SeqAt.shaped (.list (cs.map txD)) = true := by
  have h1 : PyData.canLayAll0 (cs.map txD) = true := by
    induction cs with
    | nil => rfl
    | cons c r ih =>
      show (PyData.strOk (S (text c)) && PyData.canLayAll0 (r.map txD)) = true
      rw [strOk_S (text_low (o c (.head _))), ih fun x hx => o x (.tail _ hx)]
      rfl
  have h2 : PyData.depthAll (cs.map txD) = 0 := by
    clear h1 o
    induction cs with
    | nil => rfl
    | cons c r ih =>
      show max 0 (PyData.depthAll (r.map txD)) = 0
      rw [ih]; rfl
  unfold SeqAt.shaped
  rw [show PyData.canLay0 (.list (cs.map txD)) = PyData.canLayAll0 (cs.map txD) from rfl, h1, show PyData.depth (.list (cs.map txD)) = PyData.depthAll (cs.map txD) + 1 from rfl, h2]
  rfl
theorem txD_eqv (a b : Mk) : PyData.eqv (txD a) (txD b) = decide (S (text a) = S (text b)) := by
  show (S (text a) == S (text b)) = _
  by_cases h : S (text a) = S (text b)
  · rw [h]; simp
  · rw [decide_eq_false h]
    simpa using h
theorem any_idx {α : Type} (p : α → Bool) (l : List α) : l.any p = (l.findIdx? p).isSome := by
  cases h : l.findIdx? p with
  | none =>
    have := List.findIdx?_eq_none_iff.mp h
    rw [Option.isSome_none, List.any_eq_false]
    exact fun x hx => by rw [this x hx]; exact Bool.false_ne_true
  | some k =>
    obtain ⟨hk, hp, _⟩ := List.findIdx?_eq_some_iff_getElem.mp h
    rw [Option.isSome_some, List.any_eq_true]
    exact ⟨_, List.getElem_mem hk, hp⟩
theorem txs_any (cs : List Mk) (n : Mk) : ((cs.map txD).any fun z => PyData.eqv z (txD n)) = (cs.findIdx? fun c => decide (S (text c) = S (text n))).isSome := by
  rw [List.any_map, ← any_idx]
  have e : ((fun z => PyData.eqv z (txD n)) ∘ txD) = fun c => decide (S (text c) = S (text n)) := funext fun c => txD_eqv c n
  rw [e]
section
variable {P : Program} {w : World} {K : PySem.W.Frag} {mg : Str → Option Value} {base : Heap}
theorem txs_dp {H : Hp} : ∀ cs : List Mk, DpAll K H (cs.map fun c => sV (text c)) (cs.map txD)
  | [] => .nil
  | _ :: cs => .cons (.str _) (txs_dp cs)
def spMeantL (K : PySem.W.Frag) : Sp := fun vs H Q _ => ∃ (G : Hp) (x a ea : Addr) (ms es : List Mk) (ev : List V), vs = [.ref x, .ref ea] ∧ Sb G H ∧ SAt K G H x a ms ∧ Fit ms ∧ G ea = some (.lst ev) ∧ Paired (MarkAt K G) ev es ∧ (∀ c ∈ es, Ok c) ∧ ∀ G' H', GR K S0 G H G' H' → Q (.bl true) H'
abbrev N__law_meant : List Str := ["_law_shorts", "_law_elder", "_law_texts", "_law_spine", "_law_due_here"]
theorem sc__law_meant : FnScope N__law_meant ["_law_shorts", "_law_elder"] (defScope S__law_meant) := ⟨rfl, rfl, rfl, by decide +kernel, rfl, by decide +kernel, by decide +kernel⟩
theorem kn__law_meant (T : Tx K mg base) : Kn P w K mg base CX0 7 "_law_meant" ["_law_shorts", "_law_elder"] (spMeantL K) := by
  refine kn_of "_law_meant" T 73 61 S__law_meant rfl rfl sc__law_meant (fun vs H Q E h => by obtain ⟨_, _, _, _, _, _, _, rfl, _⟩ := h; rfl) (fun _ _ _ _ _ _ us hl => match us, hl with | [_, _], _ => rfl) (fun cdv A outer s H vs Q E hr h => ⟨_, PSs.nox (pss_cons (ps_setLc (i := 2) rfl sc__law_meant.nd rfl rfl (sw_true rfl rfl rfl (by decide +kernel)) (own := [("_law_spine", 3)]) (pi_list (pe_km0 (kn_Shorts_row T) (hr.mono (by decide)) (pv 0))) (blkOk_by (N := N__law_meant) (sc := defScope S__law_meant) (by decide +kernel)) (fun _ _ _ _ _ => (pg_name (i := 3) sc__law_meant.nd rfl (Or.inl rfl))) (fun _ _ _ _ _ => pts_nil) (fun _ _ _ _ _ => (pe_callTy (call_strE (kn_Mark_str T) (hr.mono (by decide))) (by rfl) T.f_str (by decide +kernel) (pa_cons (pv 3) pa_nil))))
    (pss_cons (ps_for PassesOwn.never rfl (pi_list (pv 1)) (pg_name (i := 3) sc__law_meant.nd rfl (Or.inl rfl)) (Evl.pss_cut (ps_set (i := 4) sc__law_meant.nd rfl (Or.inl rfl) (pe_ifExp (pt_cmpR (op_inD (hu65 hr)) (pe_callTy (call_strM (kn_Mark_str T) (hr.mono (by decide))) (by rfl) T.f_str (by decide +kernel) (pa_cons (pv 3) pa_nil)) (pv 2) (by with_unfolding_all rfl)) (pe_bm PySem.F.plainAttrs_list PySem.F.slot_list_index PySem.F.type_list_index (mt_indexD (hu65 hr)) (pv 2) (pa_cons (pe_callTy (call_strM (kn_Mark_str T) (hr.mono (by decide))) (by rfl) T.f_str (by decide +kernel) (pa_cons (pv 3) pa_nil)) pa_nil)) pe_non))
    (pss_one (ps_if (pt_cmpR op_ne (pe_km (kn_Shorts_meant T) (hr.mono (by decide)) (pv 0) (pa_cons (pe_callTy (call_strM (kn_Mark_str T) (hr.mono (by decide))) (by rfl) T.f_str (by decide +kernel) (pa_cons (pv 3) pa_nil)) pa_nil)) (pv 4) (nomark _)) (pss_one (ps_ret pe_bl)) pss_nil))))
    (pss_one (ps_ret pe_bl)))), ?_⟩)
  obtain ⟨G, x, a, ea, ms, es, ev, rfl, sb, hs, fit, hea, hev, oke, q⟩ := h
  obtain ⟨dx, sv, r, rs0, h1, h2, h3, h4⟩ := id hs.at_
  have h12 := fit.len
  have hsl := fit.short.len
  have hsx : ∀ {G' H' : Hp}, GR K S0 G H G' H' → SAt K G' H' x a ms := fun g => hs.keep0 g
  have hix : ∀ {G' H' : Hp}, GR K S0 G H G' H' → H' x = some (.ins (He.ga K "Shorts") dx (sflds a sv r)) := fun g => g.keep h1 trivial id
  have hel : ∀ {G' H' : Hp}, GR K S0 G H G' H' → SqL K H' ea ev := fun g => SqL.of (g.sb _ _ (g.gg _ _ hea)).1
  have g0 := GR.refl (K := K) (S := S0) sb
  refine ⟨_, rfl, x, dx, _, rfl, h1, rfl, G, x, a, ms, rfl, sb, hs, fun p rs hp hrs => ⟨p, rfl, ⟨_, SqL.of upd_same⟩, fun D hD => ?_⟩⟩
  have g1 := g0.new hp (o := .lst rs) trivial
  have hrs1 := pair_imp hrs fun _ _ y => y.mono (Le.up (o := .lst rs) (sb.no hp))
  have hrl := pair_len hrs
  refine lcG K (G1 := upd G p (.lst rs)) (walk_list (K := K) (a := p) (xs := rs)) g1.sb hD (fun G' acc i => G' = upd G p (.lst rs) ∧ acc = ((shortOf ms).take i).map fun c => sV (text c)) ⟨rfl, rfl⟩ (size_of (by omega)) (fun G' acc i e => ?_) (fun G' H' gr => SqL.of (gr.sb _ _ (gr.gg _ _ upd_same)).1) (fun i z G' H8 H' acc N hi gr gD hD' rp yy ky kn => ?_) (fun G' H8 acc gr hD' gD rp => ?_)
  · rw [e.2, List.length_map]
    exact List.length_take_le _ _
  · obtain ⟨rfl, hz⟩ := yy
    obtain ⟨rfl, rfl⟩ := rp
    obtain ⟨c, hc, hmc⟩ := pair_get' hrs1 hz
    obtain ⟨ca, dxc, tc, rfl, hca⟩ := hmc.o gr.sb
    have okc := fit.short.each fit.ok c (List.mem_of_getElem? hc)
    refine ⟨rfl, tyes (iteT ⟨_, rfl, ca, dxc, _, rfl, hca, ca, dxc, tc, c, rfl, hca, okc, ⟨⟨_, rfl⟩, ky _ _ _ (GR.refl gr.sb) ⟨rfl, ?_⟩⟩⟩)⟩
    rw [List.take_add_one, hc, List.map_append]
    rfl
  obtain ⟨rfl, rfl⟩ := rp
  rw [hrl, List.take_of_length_le (Nat.le_refl _)] at hD'
  have g2 := g1.trans gr
  have hdD : ∀ {G3 H3 : Hp}, GR K S0 (upd G p (.lst rs)) H8 G3 H3 → Dp K H3 (.ref D) (.list ((shortOf ms).map txD)) := fun g => .lst (SqL.of (g.keep hD' trivial id)) (txs_dp _)
  have oks := fit.short.each fit.ok
  refine ⟨_, rfl, ea, rfl, ⟨_, hel g2⟩, ?_⟩
  refine for_list (K := K) (a := ea) (xs := ev) (fun i σ H' => ∃ x3 x4 : Option V, σ = [some (.ref x), some (.ref ea), some (.ref D), x3, x4] ∧ GR K S0 (upd G p (.lst rs)) H8 (upd G p (.lst rs)) H') ⟨_, _, rfl, GR.refl gr.sb⟩ ?_ ?_ ?_
  · rintro i σ H1 hi ⟨x3, x4, rfl, j⟩
    exact hel (g2.trans j)
  · rintro i y σ H1 hy ⟨x3, x4, rfl, j⟩
    obtain ⟨n, hn, hyn⟩ := pair_get' hev hy
    have okn := oke n (List.mem_of_getElem? hn)
    obtain ⟨b, dxb, tb, rfl, hb⟩ := (hyn.mono (g2.trans j).gg).o j.sb
    refine ⟨fun σ H' => σ = [some (.ref x), some (.ref ea), some (.ref D), some (.ref b), some (oV ((shortOf ms).findIdx? fun c => decide (S (text c) = S (text n))))] ∧ H' = H1, ?_, ?_⟩
    · refine ⟨_, rfl, b, dxb, _, rfl, hb, b, dxb, tb, n, rfl, hb, okn, ⟨⟨_, rfl⟩, _, rfl, txD n, (shortOf ms).map txD, .str _, hdD j, txD_shaped okn, txs_shaped oks, _, rfl, ?_⟩⟩
      rw [txs_any]
      cases ef : (shortOf ms).findIdx? (fun c => decide (S (text c) = S (text n))) with
      | none => exact ⟨rfl, rfl⟩
      | some k =>
        obtain ⟨hk, hk2, hk3⟩ := List.findIdx?_eq_some_iff_getElem.mp ef
        refine ⟨_, rfl, .inl ⟨rfl, _, SqL.of (j.keep hD' trivial id)⟩, _, rfl, b, dxb, _, rfl, hb, b, dxb, tb, n, rfl, hb, okn, ⟨⟨_, rfl⟩, D, _, txD n, (shortOf ms).map txD, k, txD (shortOf ms)[k], rfl, rfl, hdD j, .str _, txs_shaped oks, txD_shaped okn, by rw [List.getElem?_map, List.getElem?_eq_getElem hk]; rfl, by rw [txD_eqv]; exact hk2, fun i2 z' hi2 hz' => ?_, rfl, rfl⟩⟩
        rw [List.getElem?_map] at hz'
        obtain ⟨c, hc, rfl⟩ := Option.map_eq_some_iff.mp hz'
        rw [txD_eqv]
        have := hk3 i2 hi2
        rw [← (List.getElem?_eq_some_iff.mp hc).2]
        simpa using this
    rintro σ H2 ⟨rfl, rfl⟩
    refine ⟨_, rfl, x, dx, _, rfl, hix (g2.trans j), rfl, _, rfl, b, dxb, _, rfl, hb, b, dxb, tb, n, rfl, hb, okn, ⟨_, rfl⟩, _, x, a, ms, S (text n), rfl, j.sb, hsx (g2.trans j), fit, fun H3 g3 => ⟨_, rfl, ?_, _, rfl, ifN (fun z => (z rfl).elim) fun _ => ⟨_, _, rfl, j.trans g3⟩⟩⟩
    cases (shortOf ms).findIdx? (fun c => decide (S (text c) = S (text n))) <;> rfl
  · rintro σ H1 ⟨x3, x4, rfl, j⟩
    exact q _ _ (g2.trans j)
/-- what asked answers -/
def AskAt (K : PySem.W.Frag) (G : Hp) (ms : List Mk) (v : V) : Prop := (ms.length % 2 = 0 ∧ v = .non) ∨ ∃ t c, ms.length % 2 ≠ 0 ∧ v = .ref t ∧ G t = some (.tup [sV (text c), .int (ms.length / 2 : Nat)]) ∧ (shortOf ms)[ms.length / 2]? = some c ∧ Ok c
theorem AskAt.mono {G G' : Hp} {ms : List Mk} {v : V} (h : AskAt K G ms v) (l : Le G G') : AskAt K G' ms v := by
  rcases h with h | ⟨t, c, h1, rfl, h2, h3⟩
  · exact .inl h
  · exact .inr ⟨t, c, h1, rfl, l _ _ h2, h3⟩
def askD (ms : List Mk) : PyData := if ms.length % 2 = 0 then .none else match (shortOf ms)[ms.length / 2]? with
  | none => .none
  | some c => .tuple [txD c, .int (ms.length / 2 : Nat)]
theorem AskAt.dp {G H : Hp} {ms : List Mk} {v : V} (h : AskAt K G ms v) (sb : Sb G H) : Dp K H v (askD ms) ∧ SeqAt.shaped (askD ms) = true ∧ PyData.eqv (askD ms) (askD ms) = true := by
  rcases h with ⟨h1, rfl⟩ | ⟨t, c, h1, rfl, h2, h3, ok⟩
  · unfold askD
    rw [if_pos h1]
    exact ⟨.non, rfl, rfl⟩
  · unfold askD
    rw [if_neg h1, h3]
    refine ⟨.tup (SqT.of (sb _ _ h2).1) (.cons (.str _) (.cons (.int _) .nil)), ?_, PySem.W.eqv_refl_alike _ rfl⟩
    unfold SeqAt.shaped
    have e : PyData.canLay0 (.tuple [txD c, .int (ms.length / 2 : Nat)]) = true := by
      show (PyData.strOk (S (text c)) && (true && true)) = true
      rw [strOk_S (text_low ok)]; rfl
    show (PyData.canLay0 (.tuple [txD c, .int (ms.length / 2 : Nat)]) && _) = true
    rw [e]; rfl
def spAsked (K : PySem.W.Frag) : Sp := fun vs H Q _ => ∃ (G : Hp) (x a : Addr) (v : V) (ms : List Mk), vs = [.ref x, v] ∧ Sb G H ∧ SAt K G H x a ms ∧ Fit ms ∧ ShelfAt G v ms ∧ ∀ G' H' u, GR K S0 G H G' H' → AskAt K G' ms u → Q u H'
abbrev N__law_asked : List Str := ["_law_shorts", "_law_shelf_here", "_law_short"]
theorem sc__law_asked : FnScope N__law_asked ["_law_shorts", "_law_shelf_here"] (defScope S__law_asked) := ⟨rfl, rfl, rfl, by decide +kernel, rfl, by decide +kernel, by decide +kernel⟩
theorem kn__law_asked (T : Tx K mg base) : Kn P w K mg base CX0 10 "_law_asked" ["_law_shorts", "_law_shelf_here"] (spAsked K) := by
  refine kn_of "_law_asked" T 77 65 S__law_asked rfl rfl sc__law_asked (fun vs H Q E h => by obtain ⟨_, _, _, _, _, rfl, _⟩ := h; rfl) (fun _ _ _ _ _ _ us hl => match us, hl with | [_, _], _ => rfl) (fun cdv A outer s H vs Q E hr h => ⟨_, PSs.nox (pss_cons (ps_if (pt_cmpR op_eq (pe_op op_mod (pe_callB call_len_seq (by rfl) T.f_len (by decide +kernel) (pa_cons (pv 1) pa_nil)) pe_int) pe_int (nomark _)) (pss_one (ps_ret pe_non)) pss_nil)
    (pss_cons (ps_set (i := 2) sc__law_asked.nd rfl (Or.inl rfl) (pe_kmX (kn_Shorts_short_ofX T) (hr.mono (by decide)) tkF (pv 0) (pa_cons (pe_fn (kn__law_mark T) (hr.mono (by decide)) (pa_cons (pe_ix ix_list (pv 1) (pe_op op_fdiv (pe_callB call_len_seq (by rfl) T.f_len (by decide +kernel) (pa_cons (pv 1) pa_nil)) pe_int) (fun _ _ => rfl)) pa_nil)) pa_nil)))
    (pss_one (ps_ret (pe_tup (pa_cons (pe_callTy (call_strM (kn_Mark_str T) (hr.mono (by decide))) (by rfl) T.f_str (by decide +kernel) (pa_cons (pv 2) pa_nil)) (pa_cons (pe_km (kn_Shorts_meant T) (hr.mono (by decide)) (pv 0) (pa_cons (pe_callTy (call_strM (kn_Mark_str T) (hr.mono (by decide))) (by rfl) T.f_str (by decide +kernel) (pa_cons (pv 2) pa_nil)) pa_nil)) pa_nil))))))), ?_⟩)
  obtain ⟨G, x, a, v, ms, rfl, sb, hs, fit, ⟨sa, ps, rfl, hsa, hps⟩, q⟩ := h
  obtain ⟨dx, sv, r, rs0, h1, h2, h3, h4⟩ := id hs.at_
  have hpl := pair_len hps
  have h12 := fit.len
  have hsl := fit.short.len
  have hsx : ∀ {G' H' : Hp}, GR K S0 G H G' H' → SAt K G' H' x a ms := fun g => hs.keep0 g
  have hix : ∀ {G' H' : Hp}, GR K S0 G H G' H' → H' x = some (.ins (He.ga K "Shorts") dx (sflds a sv r)) := fun g => g.keep h1 trivial id
  have hsh : SqL K H sa ps := SqL.of (sb _ _ hsa).1
  have g0 := GR.refl (K := K) (S := S0) sb
  refine ⟨_, rfl, sa, _, rfl, .inl hsh, _, _, rfl, rfl, by show (0 : Int) < 2; decide, rfl, _, rfl, ifC (fun he => ?_) fun he => ?_⟩
  · exact q _ _ _ g0 (.inl ⟨by have := V.int.inj he; rw [hpl] at this; omega, rfl⟩)
  have hodd : ms.length % 2 ≠ 0 := fun e => he (by rw [hpl]; show V.int _ = V.int 0; congr 1; omega)
  have hlt : ms.length / 2 < ms.length := by omega
  obtain ⟨m, hm⟩ : ∃ m, ms[ms.length / 2]? = some m := ⟨_, List.getElem?_eq_getElem hlt⟩
  obtain ⟨c, hc⟩ : ∃ c, (shortOf ms)[ms.length / 2]? = some c := ⟨_, List.getElem?_eq_getElem (by omega)⟩
  obtain ⟨z, hz, hzm⟩ := pair_get hps hm
  have okm := fit.ok m (List.mem_of_getElem? hm)
  have okc := fit.short.each fit.ok c (List.mem_of_getElem? hc)
  have hat : atI ps (((ps.length : Nat) : Int) / 2) = some z := by
    rw [show ((ps.length : Nat) : Int) / 2 = ((ms.length / 2 : Nat) : Int) by rw [hpl]; omega]
    exact atI_nat hz
  refine ⟨_, rfl, x, dx, _, rfl, h1, rfl, _, rfl, _, rfl, sa, _, rfl, .inl hsh, _, _, rfl, rfl, ⟨by decide, by decide⟩, sa, _, _, z, rfl, rfl, hsh, hat, G, z, m, rfl, sb, hzm.mono sb.le, okm, fun G7 H7 u g7 hu => ?_⟩
  refine ⟨G7, x, a, ms, u, m, rfl, g7.sb, hsx g7, fit, hu, okm, fun k c2 u2 G8 H8 g8 hk hc2 hu2 => ?_, fun hn => (hn (List.mem_of_getElem? hm)).elim⟩
  have eki : k = ms.length / 2 := (List.getElem?_inj (List.getElem?_eq_some_iff.mp hk).1 (rise_nodup fit.rise)).mp (hk.trans hm.symm)
  rw [eki, hc] at hc2
  obtain rfl := Option.some.inj hc2
  have k8 := g7.trans g8
  obtain ⟨b, dy, ty, rfl, hb⟩ := hu2.o g8.sb
  refine ⟨_, rfl, b, dy, _, rfl, hb, b, dy, ty, c, rfl, hb, okc, ⟨⟨_, rfl⟩, _, rfl, x, dx, _, rfl, hix k8, rfl, _, rfl, b, dy, _, rfl, hb, b, dy, ty, c, rfl, hb, okc, ⟨_, rfl⟩, G8, x, a, ms, S (text c), rfl, g8.sb, hsx k8, fit, fun H9 g9 => ?_⟩⟩
  rw [meant_at fit hc]
  refine ⟨size_of (n := 2) (by decide), fun t ht => ?_⟩
  exact q _ _ _ ((k8.trans g9).new ht trivial) (.inr ⟨t, c, hodd, rfl, upd_same, hc, okc⟩)
end
end K42
set_option Elab.async false
set_option linter.all false
set_option maxRecDepth 100000
set_option maxHeartbeats 4000000
/-! try with several clauses that hold the error by one name; a clause of two classes -/
namespace K42
open PySem PySem.Spec PyProof.Rows L2
abbrev SF := L2.St
theorem fly_keep {B h h' : Heap} {l : List Env} {a : Addr} {Z : Obj → Prop} (x : HandSPX.FlyingZ B l a Z h) (k : ∀ b o, h.get? b = some o → h'.get? b = some o) : HandSPX.FlyingZ B l a Z h' := by
  obtain ⟨h1, h2, h3, oe, vs, T, oT, ts, e1, e2, e3, e4, e5, e6, e7, e8, e9⟩ := x
  exact ⟨fun b o e => k _ _ (h1 b o e), h2, PySem.Heap.FunFrames.of_keeps (fun b o e _ => ⟨o, k b o e, rfl⟩) h3, oe, vs, T, oT, ts, k _ _ e1, e2, e3, e4, e5, e6, k _ _ e7, e8, e9⟩
inductive TestA (X : Cx) : Expr → List Value → Prop
  | one {x : Str} {C : Addr} {np : Pos} (hg : Gl X x) (hm : X.mg x = some (.ref C)) (hd : (x == ("__debug__" : Str)) = false) : TestA X (.Name x np) [.ref C]
  | two {x y : Str} {C D : Addr} {p1 p2 tp : Pos} {k : Nat} (hg : Gl X x) (hm : X.mg x = some (.ref C)) (hd : (x == ("__debug__" : Str)) = false) (hg2 : Gl X y) (hm2 : X.mg y = some (.ref D)) (hd2 : (y == ("__debug__" : Str)) = false) : TestA X (.Tuple [.Name x p1, .Name y p2] k tp) [.ref C, .ref D]
section
variable {X : Cx}
theorem test_run {e : Expr} {cs : List Value} (t : TestA X e cs) {a : Addr} {oe : Obj} {pn pins : List (Addr × Obj)} {s : Shared} {σ : SF} {H : Hp} {cls : Value} {b : Bool} (S : Inv (X.suite a ((a, oe) :: pn)) pins σ H s) (LT : PySem.W.Looks (model X.prog X.w) s.heap (typeOf (.ref a)) cls)
    (hb : PySem.W.exmAny X.K cls cs = some b) {Q : Bool → Shared → Prop} {E E' : Value → Shared → Prop} (q : ∀ h', (∀ b o, s.heap.get? b = some o → h'.get? b = some o) → Q b { s with heap := h' }) :
    wpAny (model X.prog X.w) (X.A.mark (some (.ref a))) (eval e X.env) (fun c s1 => wpAny (model X.prog X.w) (X.A.mark (some (.ref a))) (excMatches (.ref a) c) Q E s1) E' s := by
  cases t with
  | one hg hm hd =>
    obtain ⟨b1, d1, x1, y1, z1⟩ := PySem.W.exmAny_cons hb
    have y2 : some false = some d1 := y1
    cases y2
    rw [Bool.or_false] at z1
    subst z1
    refine ld_glob (X := X.suite a ((a, oe) :: pn)) S hg hm ?_ hd
    exact (PySem.W.exm_one (M := model X.prog X.w) S.kIn LT x1).here (q s.heap fun _ _ e => e)
  | @two x y C D p1 p2 tp k hg hm hd hg2 hm2 hd2 =>
    refine wpAny_Tuple_spliced ?_
    rw [show starEach [.Name x p1, .Name y p2] X.env = (false, eval (.Name x p1) X.env) :: starEach [.Name y p2] X.env from rfl]
    show wpAny _ _ (spliced ((false, eval (.Name x p1) X.env) :: backTo tp (starEach [.Name y p2] X.env))) _ _ s
    refine Calls.spliced_cons (ld_glob (X := X.suite a ((a, oe) :: pn)) S hg hm ?_ hd)
    rw [show starEach [.Name y p2] X.env = (false, eval (.Name y p2) X.env) :: starEach [] X.env from rfl]
    show wpAny _ _ (spliced ((false, eval (.Name y p2) X.env) :: backTo tp (starEach [] X.env))) _ _ s
    refine Calls.spliced_cons (ld_glob (X := X.suite a ((a, oe) :: pn)) S hg2 hm2 ?_ hd2)
    refine wpAny_pure ⟨by show 2 ≤ sizeLine; decide, ?_⟩
    have kp : ∀ b o, s.heap.get? b = some o → (s.heap.push { cls := .type "tuple", data := .seq [Value.ref C, Value.ref D].toArray }).get? b = some o := fun b o e => Heap.get?_push_of_some _ e
    refine (PySem.W.exm_tup2 (M := model X.prog X.w) (S.kIn.keeps kp) (LT.keeps kp) (tp := s.heap.objs.size) (Heap.get?_push_size _ rfl) hb).here (q _ kp)
/-- what the clauses wish of an exception of the body, each with slot i for the error -/
def wAsM (K : PySem.W.Frag) (i : Nat) (Wout : WX) (D : Ends) : List (List Value × (Addr → Value → Option Addr → TS)) → WX
  | [] => Wout
  | (cs, ts) :: r => fun cls d σ H => ∃ b, PySem.W.exmAny K cls cs = some b ∧ (b = true → ∀ a, H a = none → ts a cls d { nx := fun σ' H' => D.nx (σ'.set i none) H', rt := D.rt, bk := fun σ' H' => D.bk (σ'.set i none) H', ct := fun σ' H' => D.ct (σ'.set i none) H' } (σ.set i (some (.ref a))) H) ∧
    (b = false → wAsM K i Wout D r cls d σ H)
inductive HdsA (X : Cx) (n : Str) : List ExceptHandler → List (List Value × (Addr → Value → Option Addr → TS)) → Prop
  | nil : HdsA X n [] []
  | cons {t : Expr} {cs : List Value} {ts : Addr → Value → Option Addr → TS} {b₀ : Stmt} {suite : List Stmt} {pos' : Pos} {hds : List ExceptHandler} {l : List (List Value × (Addr → Value → Option Addr → TS))} (hc : TestA X t cs)
      (hsu : ∀ (a : Addr) (oe : Obj) (cls : Value) (d : Option Addr) (pn : List (Addr × Obj)), L2N.Zn cls d oe → (∃ vs, oe.data = .fields vs) → PSs (X.suite a ((a, oe) :: pn)) (b₀ :: suite) (ts a cls d)) (r : HdsA X n hds l) :
      HdsA X n (.ExceptHandler (some t) (some n) (b₀ :: suite) pos' :: hds) ((cs, ts) :: l)
theorem ps_try_asm {n : Str} {i : Nat} {body : List Stmt} {h₀ : ExceptHandler} {hds : List ExceptHandler} {l : List (List Value × (Addr → Value → Option Addr → TS))} {pos : Pos} {tb : WX → TS} {Wout : WX} (hs : X.stack = X.env :: X.outer) (hf : X.env.frame = some X.env.locals) (hN : X.N.Nodup) (hi : X.N[i]? = some n)
    (hln : X.env.kindOf n = some .local) (tk : L2N.Takes X Wout) (hb : ∀ (W : WX) (pn : List (Addr × Obj)) (xe : Value → Shared → Prop), L2N.Takes (X.tr pn xe) W → PassesOwn (model X.prog X.w) X.A X.env xe → PSs (X.tr pn xe) body (tb W))
    (hh : HdsA X n (h₀ :: hds) l) : PS X (.Try body (h₀ :: hds) [] [] pos) (fun D σ H => tb (wAsM X.K i Wout D l) D σ H) := by
  refine ⟨fun pins s σ H D I h => ?_⟩
  have ok := I.ok
  have hfr : X.A.frames = some (X.env :: X.outer) := by rw [ok.frames, hs]
  refine wpAny_Try_except ?_
  refine wpAny_mono ((hb (wAsM X.K i Wout D l) (X.pn ++ pins) (fun e s₁ => wpAny (model X.prog X.w) X.A (noteFrame e X.env) (fun _ s₂ => wpAny (model X.prog X.w) X.A (setFlight e none) (fun _ s₃ =>
    wpAny (model X.prog X.w) X.A (handleBy e X.env (h₀ :: hds)) (SP X pins D) X.xe s₃) X.xe s₂) X.xe s₁) (fun u s' xx => ?_) PassesOwn.looking).run [] s σ H D (I.toTry _) h) (fun f s1 hsp => ?_) (fun e s1 he => he)
  · obtain ⟨a, B, sI, pins', σ', H', cls, d, rfl, J', nb, up, sky, na, os, ag, w⟩ := xx
    have J : Inv X pins σ' H' sI := J'.ofTry ok
    have sky' : Sky B (X.env :: X.outer) a (L2N.Zn cls d) X.env.locals s'.heap := by rw [← hs]; exact sky
    show wpAny (model X.prog X.w) X.A (noteFrame (.ref a) X.env) _ _ _
    refine L2N.Sky.land L2N.Zn.steady hfr hf sky' fun h3 fl3 up3 => ?_
    have apart : ∀ {h4 : Heap}, HandSPX.FlyingZ B (X.env :: X.outer) a (L2N.Zn cls d) h4 → a ∉ frs (X.env :: X.outer) := fun {h4} fl hm => by
      obtain ⟨oe, vs, he, hz, hd⟩ := fl.there
      obtain ⟨_, o', e', hnf⟩ := fl.2.2.1.mem hm
      rw [he] at e'; cases e'
      exact hnf _ hd
    have nfr := apart fl3
    have nL : a ≠ X.env.locals := fun z => nfr (List.mem_filterMap.mpr ⟨X.env, List.mem_cons_self, by rw [hf, z]⟩)
    have nF : a ∉ X.fs := fun hm => by
      obtain ⟨e, he, q⟩ := List.mem_filterMap.mp hm
      exact nfr (List.mem_filterMap.mpr ⟨e, List.mem_cons_of_mem _ he, q⟩)
    have go : ∀ {hds' : List ExceptHandler} {l' : List (List Value × (Addr → Value → Option Addr → TS))}, HdsA X n hds' l' → ∀ h4, HandSPX.FlyingZ B (X.env :: X.outer) a (L2N.Zn cls d) h4 → sI.heap.UpToSlots h4 → wAsM X.K i Wout D l' cls d σ' H' →
        wpAny (model X.prog X.w) X.A (handleBy (.ref a) X.env hds') (SP X pins D) X.xe { s' with heap := h4 } := by
      intro hds' l' hk
      induction hk with
      | nil =>
        intro h4 fl4 up4 w
        refine wpAny_handleBy_nil ?_
        obtain ⟨k1, k2, k3, oe, vs, T, oT, ts', he, hz, hd, h1, hr⟩ := id fl4
        unfold PySem.passOn
        refine wpAny_bind (wpAny_field he hd h1 ?_)
        rw [if_neg (show ¬ ((Value.ref T == Value.none) = true) from by simp)]
        have fin : wpAny (model X.prog X.w) X.A (setFlight (.ref a) X.env.frame) (fun _ s4 => wpAny (model X.prog X.w) X.A (throw (.ref a) : Sem Flow) (SP X pins D) X.xe s4) X.xe { s' with heap := h4 } := by
          rw [hf]
          refine HandSPX.setFlight_upZ fl4 fun h5 hh5 up5 => wpAny_throw (tk _ _ ?_)
          exact ⟨a, B, sI, pins, σ', H', cls, d, rfl, J, nb, up4.trans up5, .inr (.inr (by rw [hs]; exact hh5)), na, os, ag, w⟩
        first
          | exact wpAny_bind (wpAny_pure (wpAny_bind fin))
          | exact wpAny_bind fin
      | @cons t cs ts b₀ suite pos' hds2 l2 hc hsu r ih =>
        intro h4 fl4 up4 w
        obtain ⟨b, hb1, hyes, hno⟩ := w
        have J4 : Inv X pins σ' H' { s' with heap := h4 } := J.landed nb fl4.1 up4 os ag
        obtain ⟨oe4, vs4, he4, hz4, hd4⟩ := fl4.there
        have S4 := J4.suite he4 hd4 na nL nF
        refine wpAny_handleBy_cons (codeAny_handlers_test ?_) (by intro q; cases q)
        have LT : PySem.W.Looks (model X.prog X.w) h4 (typeOf (.ref a)) cls := fun A Q E s k q => wpAny_typeOf_ref (k _ _ he4) (by rw [hz4.1]; exact q)
        refine test_run hc S4 LT hb1 fun h5 k5 => ?_
        have fl5 := fly_keep fl4 k5
        have up5 := up4.trans (Heap.UpToSlots.of_keeps k5)
        cases b with
        | true =>
          refine codeAny_handlers_suite_as ?_
          refine HandSPX.lands_againZ fl5 fun h6 fl6 up6 => ?_
          have J6 : Inv X pins σ' H' { s' with heap := h6 } := J.landed nb fl6.1 (up5.trans up6) os ag
          obtain ⟨oe6, vs6, he6, hz6, hd6⟩ := fl6.there
          have S6 := J6.suite he6 hd6 na nL nF
          refine store_ok (X := X.suite a ((a, oe6) :: (X.pn ++ pins))) (v := .ref a) S6 hN hi (.inl hln) rfl (fun s7 S7 => ?_) (.inr hln)
          refine wpAny_mono ((hsu a oe6 cls d (X.pn ++ pins) hz6 ⟨_, hd6⟩).run [] s7 _ H' _ S7 (hyes rfl a na)) (fun f s8 hsp => ?_) (fun _ _ z => False.elim z)
          have end_ : ∀ {σ6 : SF} {H6 : Hp} {Q : Shared → Prop}, Inv (X.suite a ((a, oe6) :: (X.pn ++ pins))) [] σ6 H6 s8 → (∀ s7, Inv X pins (σ6.set i none) H6 s7 → Q s7) →
              wpAny (model X.prog X.w) X.A (do bindName X.env n .none; unbindBehindTheSuite X.env n pos') (fun _ s7 => Q s7) X.xe s8 := fun {σ6 H6 Q} S6 hq => gone_ok (S6.unsuite ok) hN hi hln hq
          cases f with
          | next =>
            obtain ⟨σ6, H6, S6, q6⟩ := hsp
            exact end_ S6 fun s7 J7 => ⟨_, _, J7, q6⟩
          | brk =>
            obtain ⟨σ6, H6, S6, q6⟩ := hsp
            exact end_ S6 fun s7 J7 => ⟨_, _, J7, q6⟩
          | cont =>
            obtain ⟨σ6, H6, S6, q6⟩ := hsp
            exact end_ S6 fun s7 J7 => ⟨_, _, J7, q6⟩
          | ret u =>
            obtain ⟨v6, σ6, H6, S6, r6, q6⟩ := hsp
            exact end_ S6 fun s7 J7 => ⟨_, _, _, J7, r6, q6⟩
        | false =>
          show wpAny _ X.A (handleBy (.ref a) X.env hds2) _ _ _
          exact ih h5 fl5 up5 (hno rfl)
    exact go hh h3 fl3 (up.trans up3) w
  · cases f with
    | next =>
      obtain ⟨σ', H', J', q⟩ := hsp
      exact wpAny_execs_nil ⟨σ', H', J'.ofTry ok, q⟩
    | brk =>
      obtain ⟨σ', H', J', q⟩ := hsp
      exact ⟨σ', H', J'.ofTry ok, q⟩
    | cont =>
      obtain ⟨σ', H', J', q⟩ := hsp
      exact ⟨σ', H', J'.ofTry ok, q⟩
    | ret u =>
      obtain ⟨v, σ', H', J', r, q⟩ := hsp
      exact ⟨v, σ', H', J'.ofTry ok, r, q⟩
end
end K42
set_option Elab.async false
set_option linter.all false
set_option maxRecDepth 100000
set_option maxHeartbeats 4000000
/-! isinstance and a field of a caught error that has a dict, its class told by the reading -/
namespace K42W
open PySem PySem.Spec PySem.Calls PyProof.Rows PySem.W
section
variable {prog : Program} {w : World} {A : Around} {E : Value → Shared → Prop} {s : Shared} {K : Frag} {x D : Addr} {ox : Obj} {od : Option Obj}
theorem find_data {C : Addr} {name : Str} {a g : Value} (hc : (clsIn K C).isSome = true) (ha : findIn K (.ref C) name = some (some a)) (hg : specialIn K a "__get__" = some (some g)) (ht : takesIn K a = some true) : findObj K C od name = some (.bind g a) := by
  obtain ⟨cd, hc⟩ := Option.isSome_iff_exists.mp hc
  unfold findObj
  rw [hc, Option.bind_some, ha, Option.bind_some]
  simp [hg, ht]
theorem cls_read {Q : Option Value → Shared → Prop} (T : L2.ExcC K D) (X : K.In s.heap) (I : InstAt s.heap x ox D od) (h : Q (some (.ref D)) { s with toks := s.toks + 1 }) : wpAny (model prog w) A (getAttr? (.ref x) "__class__") Q E s := by
  have hf : findObj K D od "__class__" = some (.bind (.builtin "getset_descriptor.__get__") (.builtin "object.__class__")) := find_data (by obtain ⟨cd, hc, _⟩ := any_some T.hd; rw [hc]; rfl) T.ha T.hn T.ht
  obtain ⟨hp, g, d, t, os⟩ := s
  have L0 := I.type (M := model prog w)
  have L1 := looks_findIn (M := model prog w) X T.hg
  have L2 := looks_findIn (M := model prog w) X T.hk
  have L3 := looks_find (M := model prog w) X I hf
  have sub : Looks (model prog w) hp (isInstance (.ref x) (.type "BaseException")) true := L0.andThen (looks_subIn X T.hs)
  have n1 : (onTheHeap (Value.ref D) && Value.builtin "BaseException.__getattribute__" == Value.builtin "object.__getattribute__") = false := by
    rw [show (Value.builtin "BaseException.__getattribute__" == Value.builtin "object.__getattribute__") = false by decide +kernel]; rfl
  unfold getAttr? getAttrBy? getAttrBy
  refine wpAny_bind (wpAny_mkText (wpAny_bind (wpAny_attempt (wpAny_holding (wpAny_bind (L0.at (wpAny_bind (L1.at ?_))))))))
  show wpAny _ _ (if (onTheHeap (Value.ref D) && Value.builtin "BaseException.__getattribute__" == Value.builtin "object.__getattribute__") = true then _ else _) _ _ _
  rw [n1, if_neg Bool.false_ne_true]
  unfold getAttrByItsOwn hookBefore
  refine wpAny_bind ?_
  rw [if_pos (show onTheHeap (Value.ref D) = true from rfl)]
  refine L2.at (wpAny_bind (wpAny_attempt (wpAny_holding ?_)))
  unfold callGetattribute
  rw [show (false && onTheHeap (Value.builtin "BaseException.__getattribute__")) = false from rfl, if_neg Bool.false_ne_true]
  unfold boundAndCalled
  rw [PySem.F.excAttr_ValueError.ga.bind (.ref x)]
  refine wpAny_bind (wpAny_pure ?_)
  show wpAny _ _ (call (.builtin "BaseException.__getattribute__") [.ref x, .str "__class__" t]) _ _ _
  refine wpAny_call (codeAny_call_builtin PySem.F.excAttr_ValueError.ga.plain PySem.F.entry_bexc_ga ?_)
  refine @check_slot (model prog w) _ _ ⟨hp, g, d, t + 1, os⟩ "BaseException.__getattribute__" "BaseException" "__getattribute__" (.ref x) [.str "__class__" t] [] _ (by decide +kernel) (by decide +kernel) sub (PySem.F.args_bexc_ga (.ref x) (.str "__class__" t)) ?_
  unfold Builtin.«object.__getattribute__»
  refine wpAny_bind (wpAny_of_eq (a := ((Value.ref x : Value), [Value.str "__class__" t])) (by first | rfl | (simp only [slotArgs]; rfl)) ?_)
  refine wpAny_bind (wpAny_pure (wpAny_bind (L0.at (wpAny_bind (L3.at ?_)))))
  show wpAny _ _ (holding [Value.builtin "object.__class__"] (call (.builtin "getset_descriptor.__get__") [.builtin "object.__class__", .ref x, .ref D]) >>= ret) _ _ _
  refine wpAny_bind (wpAny_holding (wpAny_call (class_get (s := ⟨hp, g, d, t + 1, os⟩) (ox := ox) (od := od) X I T.hm ?_)))
  refine wpAny_pure ?_
  show wpAny _ _ (handedOut (.ref D)) _ _ _
  rw [handedOut_of (v := .ref D) rfl]
  first
    | exact wpAny_pure (wpAny_pure h)
    | exact wpAny_pure h
    | exact wpAny_pure (wpAny_bind (wpAny_pure (wpAny_pure h)))
theorem kitx_err (T : L2.ExcC K D) : KitX K (.ref x) (.ref D) (fun h => ∃ ox od, InstAt h x ox D od) where
  ty := fun _ _ _ ⟨_, _, I⟩ => I.type
  it := fun _ _ X _ => by
    obtain ⟨cdD, hcD, _⟩ := any_some T.hd
    unfold clsIn at hcD
    split at hcD
    · rename_i c' d' cd' sl' ho
      intro A' Q' E' s' k q
      unfold isType loadHead
      exact wpAny_bind (wpAny_loadPart (k _ _ (X _ _ ho)) (wpAny_pure q))
    · cases hcD
  ne := fun h tp dd its n sl X htp => by
    obtain ⟨cdD, hcD, _⟩ := any_some T.hd
    refine Bool.eq_false_iff.mpr fun q => ?_
    obtain rfl : D = tp := Value.ref.inj (beq_iff_eq.mp q)
    unfold clsIn at hcD
    split at hcD
    · rename_i c' d' cd' sl' ho
      cases (X _ _ ho).symm.trans htp
    · cases hcD
  ca := fun X ⟨_, _, I⟩ k => cls_read T X I k
end
end K42W
namespace K42
open PySem PySem.Spec PyProof.Rows L2
section
variable {X : Cx}
/-- the error's object, as an instance with its dict -/
theorem err_inst {a C dd : Addr} {fs : List (Str × V)} {oe : Obj} {pn pins : List (Addr × Obj)} {s : Shared} {σ : SF} {H : Hp} (I : Inv (X.suite a ((a, oe) :: pn)) pins σ H s) (hz : Zc (.ref C) (some dd) oe) (hf : ∃ vs, oe.data = .fields vs) (hd : H dd = some (.xd fs)) :
    ∃ (od : Obj) (mA : Str → Option Value), PySem.W.InstAt s.heap a oe C (some od) ∧ (∀ n, RelO (fs.lookup n) (mA n)) ∧ ∀ n, PySem.W.lookIn n od = some (mA n) := by
  obtain ⟨ha, _⟩ := I.pin (a, oe) (List.mem_append_left _ List.mem_cons_self)
  obtain ⟨vs, hv⟩ := hf
  have hx : ObjOk X.prog X.w H s.heap dd (.xd fs) := I.hok dd _ hd
  obtain ⟨mA, hns, hr⟩ := hx
  obtain ⟨od, ho, hl⟩ := lookIn_ns hns
  exact ⟨od, mA, ⟨ha, hz.1, by unfold PySem.W.notCls; rw [hv] <;> rfl, by rw [hz.2]; exact ho⟩, hr, hl⟩
/-- isinstance(e, c) -/
def rIsA (K : PySem.W.Frag) (a : Addr) (cls : Value) (d : Option Addr) : List V → Hp → VK → Prop := fun xs H Q => ∃ (c : V) (cv : Value) (b : Bool) (D dd : Addr) (fs : List (Str × V)), xs = [.ref a, c] ∧ cls = .ref D ∧ d = some dd ∧ H dd = some (.xd fs) ∧ ExcC K D ∧ (∀ u, RelV c u → u = cv) ∧ PySem.W.kitOne K (.ref D) cv = some b ∧ Q (.bl b) H
theorem call_isA {a : Addr} {cls : Value} {d : Option Addr} {oe : Obj} {pn : List (Addr × Obj)} (hz : Zc cls d oe) (hf : ∃ vs, oe.data = .fields vs) : CallR (X.suite a ((a, oe) :: pn)) (.builtin "isinstance") (rIsA X.K a cls d) := by
  intro pins s σ H xs us Q I r h
  obtain ⟨c, cv, b, D, dd, fs, rfl, rfl, rfl, hd, C, hcv, e, q⟩ := h
  obtain ⟨u1, u2, rfl, r1, r2⟩ := vals2 r
  obtain rfl : u1 = Value.ref a := r1
  obtain rfl := hcv _ r2
  obtain ⟨od, mA, J, _, _⟩ := err_inst I hz hf hd
  exact PySem.W.kia_one (K42W.kitx_err C) I.kIn ⟨_, _, J⟩ e (fun z => nomatch z) fun tk => ⟨.bl b, H, I.kept (t' := tk) fun _ _ z => z, rfl, q⟩
/-- e.f -/
def tXa (K : PySem.W.Frag) (a : Addr) (cls : Value) (d : Option Addr) (f : Str) (te : TE) : TE := fun σ H Q => te σ H fun x H1 => x = .ref a ∧ ∃ (C dd : Addr) (fs : List (Str × V)) (v : V), cls = .ref C ∧ d = some dd ∧ XfC K C ∧ PySem.W.findIn K (.ref C) f = some none ∧ H1 dd = some (.xd fs) ∧ fs.lookup f = some v ∧ Q v H1
theorem pe_xa {a : Addr} {oe : Obj} {cls : Value} {d : Option Addr} {pn : List (Addr × Obj)} {e : Expr} {te : TE} {pos : Pos} {n : Str} (hz : Zc cls d oe) (hf : ∃ vs, oe.data = .fields vs) (he : PE (X.suite a ((a, oe) :: pn)) e te) (hb : attributeBase e n X.env (eval e X.env) = eval e X.env := by rfl) :
    PE (X.suite a ((a, oe) :: pn)) (.Attribute e n pos) (tXa X.K a cls d n te) := by
  refine ⟨fun pins s σ H Q I h => attr_of hb (thn (he.run pins s σ H _ I h) fun u s1 hh => ?_)⟩
  obtain ⟨x, H1, I1, rx, rfl, C, dd, fs, v, rfl, rfl, T, hno, ea, l, q⟩ := hh
  obtain rfl : u = Value.ref a := rx
  obtain ⟨od, mA, J, hr, hl⟩ := err_inst I1 hz hf ea
  obtain ⟨u, hu, ru⟩ := RelO.some_of (v := v) (o := mA n) (by rw [← l]; exact hr n)
  exact HandSPX.exc_get I1.kIn J T.ga T.gg T.exC (PySem.W.findObj_own T.hdC hno rfl (by rw [hl, hu])) (handed_of ru) ⟨v, H1, I1.tok _, ru, q⟩
end
section
variable {K : PySem.W.Frag} {mg : Str → Option Value} {base : Heap}
theorem ExcF.c {x f : Str} {tail : List Value} {newId : String} (h : ExcF K x tail newId f) (T : Tx K mg base) : ExcC K (He.ga K x) := ⟨h.xf.ga, h.xf.gg, h.xf.exC, h.xf.hdC, h.ccl, He.eqO_ok (T.ex 1 rfl), of_decide_eq_true (T.ex 2 rfl), h.mro⟩
theorem Tx.em (T : Tx K mg base) (i : Nat) {x y : Str} {b : Bool} (h : exs[i]? = some (fun K => exmB K x y b)) : PySem.W.exmOne K (.ref (He.ga K x)) (.ref (He.ga K y)) = some b := of_decide_eq_true (T.ex i h)
theorem Tx.ki (T : Tx K mg base) (i : Nat) {x y : Str} {b : Bool} (h : exs[i]? = some (fun K => kitB K x y b)) : PySem.W.kitOne K (.ref (He.ga K x)) (.ref (He.ga K y)) = some b := of_decide_eq_true (T.ex i h)
theorem exm1 {cls c : Value} {b : Bool} (h : PySem.W.exmOne K cls c = some b) : PySem.W.exmAny K cls [c] = some b := by
  show (match PySem.W.exmOne K cls c, PySem.W.exmAny K cls [] with
    | some b, some d => some (b || d)
    | _, _ => none) = some b
  rw [h]
  show some (b || false) = some b
  rw [Bool.or_false]
theorem exm2 {cls c e : Value} {b d : Bool} (h : PySem.W.exmOne K cls c = some b) (h2 : PySem.W.exmOne K cls e = some d) : PySem.W.exmAny K cls [c, e] = some (b || d) := by
  show (match PySem.W.exmOne K cls c, PySem.W.exmAny K cls [e] with
    | some b, some d => some (b || d)
    | _, _ => none) = some (b || d)
  rw [h, exm1 h2]
end
section
variable {P : Program} {w : World} {K : PySem.W.Frag} {mg : Str → Option Value} {base : Heap} {X : Cx}
/-- a class of the text, K told -/
theorem pe_clsE {x : Str} {pos : Pos} (g : X.mg x = some (.ref (He.ga K x))) (hg : Gl X x := by rfl) (hd : (x == ("__debug__" : Str)) = false := by decide) : PE X (.Name x pos) (tC (.ref (He.ga K x))) := pe_glob hg g rfl hd
/-- a method that may raise, K told -/
theorem pe_kmXE {lvl : Nat} {ps : List Str} {sp : Sp} {C m : Str} {W : WX} {o e : Expr} {es : List Expr} {to : TE} {ta : TA} {pos apos : Pos} {pl : Sem Bool} (c : Km P w K mg base (CXN P w) lvl C m ps sp) (hr : Room lvl X.A) (tk : L2N.Takes X W) (ho : PE X o to) (ha : PA X (e :: es) ta)
    (q : Same X P w K mg base := by exact ⟨rfl, rfl, rfl, rfl, rfl⟩) (hst : starEach (e :: es) X.env = (false, eval e X.env) :: starEach es X.env := by rfl) (hpl : (backTo pos (starEach es X.env)).any (·.1) = false := by rfl)
    (ht : eval (.Call (.Attribute o m apos) (e :: es) [] pos) X.env = (do
      let ov ← eval o X.env
      standAt apos.atName
      let (f, first) ← holding [ov] (getMethod ov m pl)
      callWith pos f first (backTo pos (starEach (e :: es) X.env)) (backToKw pos (keywordEach [] X.env))) := by rfl) :
    PE X (.Call (.Attribute o m apos) (e :: es) [] pos) (tMethX (He.ga K C) m sp W to ta) := by
  obtain ⟨rfl, rfl, rfl, rfl, rfl⟩ := q
  exact pe_kmX c hr tk ho ha hst hpl ht
end
end K42
set_option Elab.async false
set_option linter.all false
set_option maxRecDepth 100000
set_option maxHeartbeats 4000000
namespace K42
open PySem PySem.Spec PyProof.Rows L2
section
variable {P : Program} {w : World} {K : PySem.W.Frag} {mg : Str → Option Value} {base : Heap}
def spDid (K : PySem.W.Frag) : Sp := fun vs H Q _ => ∃ (G : Hp) (x a : Addr) (ms : List Mk) (way : Nat) (v : V) (m : Mk), vs = [.ref x, .int way, v] ∧ Sb G H ∧ LamX.Tabs (Tq K) H ∧ SAt K G H x a ms ∧ Fit ms ∧ MarkAt K G v m ∧ Ok m ∧ (way = 0 ∨ way = 1) ∧
  ∀ (G' H' : Hp) (o : V), GR K (S2 x a) G H G' H' → SAt K G' H' x a (outc ms way m).2 → OcAt K G' o (outc ms way m).1 m → Q o H'
abbrev N__law_did : List Str := ["_law_shorts", "_law_way", "_law_spine", "_law_told", "e", "_law_long"]
theorem sc__law_did : FnScope N__law_did ["_law_shorts", "_law_way", "_law_spine"] (defScope S__law_did) := ⟨rfl, rfl, rfl, by decide +kernel, rfl, by decide +kernel, by decide +kernel⟩
theorem kn__law_did (T : Tx K mg base) : Kn P w K mg base CX0 14 "_law_did" ["_law_shorts", "_law_way", "_law_spine"] (spDid K) := by
  refine kn_of "_law_did" T 69 57 S__law_did rfl rfl sc__law_did (fun vs H Q E h => by obtain ⟨_, _, _, _, _, _, _, rfl, _⟩ := h; rfl) (fun _ _ _ _ _ _ us hl => match us, hl with | [_, _, _], _ => rfl) (fun cdv A outer s H vs Q E hr h => ⟨_, PSs.nox (pss_cons (ps_try_asm (i := 4) rfl rfl sc__law_did.nd rfl rfl tkF (fun W pn xe tk _ => (pss_one (ps_if (pt_cmpR op_eq (pv 1) pe_int (nomark _)) (pss_one (ps_set (i := 3) sc__law_did.nd rfl (Or.inl rfl) (pe_kmXE (kn_Shorts_putX T) (hr.mono (by decide)) tk (pv 0) (pa_cons (pv 2) pa_nil)))) (pss_one (ps_set (i := 3) sc__law_did.nd rfl (Or.inl rfl) (pe_kmXE (kn_Shorts_takeX T) (hr.mono (by decide)) tk (pv 0) (pa_cons (pv 2) pa_nil))))))) (.cons (.two rfl T.g_TooLong rfl rfl T.g_There rfl) (fun a oe cls d pn hz hf => (pss_cons (ps_set (i := 5) sc__law_did.nd rfl (Or.inl rfl) (pe_callB (call_isA hz.zc hf) (by rfl) T.f_isinstance (by decide +kernel) (pa_cons (pv 4) (pa_cons (pe_clsE T.g_TooLong) pa_nil))))
    (pss_one (ps_ret (pe_tup (pa_cons (pe_ifExp (pt_val (pv 5)) pe_str pe_str) (pa_cons (pe_xa hz.zc hf (pv 4)) (pa_cons (pe_and (pe_callB (call_isA hz.zc hf) (by rfl) T.f_isinstance (by decide +kernel) (pa_cons (pv 4) (pa_cons (pe_clsE T.g_MarkError) pa_nil))) (pe_one (pe_not (pe_and (pv 5) (pe_one (pe_callB (call_isA hz.zc hf) (by rfl) T.f_isinstance (by decide +kernel) (pa_cons (pv 4) (pa_cons (pe_clsE T.g_There) pa_nil)))))))) pa_nil)))))))) (.cons (.one rfl T.g_Full rfl) (fun a oe cls d pn hz hf => (pss_one (ps_ret (pe_tup (pa_cons pe_str (pa_cons (pe_xa hz.zc hf (pv 4)) (pa_cons (pe_callB (call_isA hz.zc hf) (by rfl) T.f_isinstance (by decide +kernel) (pa_cons (pv 4) (pa_cons (pe_clsE T.g_MarkError) pa_nil))) pa_nil))))))) (.cons (.one rfl T.g_NotThere rfl) (fun a oe cls d pn hz hf => (pss_one (ps_ret (pe_tup (pa_cons pe_str (pa_cons (pe_xa hz.zc hf (pv 4)) (pa_cons (pe_callB (call_isA hz.zc hf) (by rfl) T.f_isinstance (by decide +kernel) (pa_cons (pv 4) (pa_cons (pe_clsE T.g_Missing) pa_nil))) pa_nil))))))) .nil))))
    (pss_one (ps_ret (pe_tup (pa_cons pe_str (pa_cons (pv 3) (pa_cons pe_bl pa_nil))))))), ?_⟩)
  obtain ⟨G, x, a, ms, way, v, m, rfl, sb, tb, hs, fit, hv, ok, hway, q⟩ := h
  obtain ⟨dx, sv, r, rs0, h1, h2, h3, h4⟩ := id hs.at_
  -- what a clause answers
  have fin : ∀ (o : Oc) (th : V) (G1 H1 : Hp), GR K S0 G H G1 H1 → outc ms way m = (o, ms) → OcV K G1 th m o → ∀ t, H1 t = none → Q (.ref t) (upd H1 t (.tup [.str o.word, th, .bl true])) := by
    intro o th G1 H1 g1 ho hth t ht
    have g2 := g1.new ht (o := .tup [.str o.word, th, .bl true]) trivial
    have l2 : Le G1 (upd G1 t (.tup [.str o.word, th, .bl true])) := Le.up (g1.sb.no ht)
    refine q _ _ _ g2.weak (by rw [ho]; exact hs.keep0 g2) ?_
    rw [ho]
    exact ⟨t, th, rfl, upd_same, hth.mono l2⟩
  rcases hway with rfl | rfl
  · refine ⟨_, rfl, rfl, _, rfl, ifT rfl ⟨_, rfl, x, dx, _, rfl, h1, rfl, _, rfl, G, x, a, ms, v, m, rfl, sb, tb, hs, fit, hv, ok, ?_, ?_, ?_, ?_⟩⟩
    · intro hl e he
      have g1 := (GR.refl (K := K) (S := S0) sb).newM he (o := .xd [("found", v)])
      refine ⟨true, exm2 (T.em 12 rfl) (T.em 16 rfl), fun _ er her => ?_, fun z => nomatch z⟩
      refine ⟨_, rfl, _, _, true, He.ga K "TooLong", e, _, rfl, rfl, rfl, upd_same, T.x_TooLong.c T, (fun u hu => hu), T.ki 23 rfl, ?_⟩
      refine ⟨_, rfl, _, rfl, iteT ?_⟩
      refine ⟨_, rfl, rfl, He.ga K "TooLong", e, _, v, rfl, rfl, T.x_TooLong.xf, T.x_TooLong.no, upd_same, rfl, ?_⟩
      refine ⟨_, rfl, _, _, true, He.ga K "TooLong", e, _, rfl, rfl, rfl, upd_same, T.x_TooLong.c T, (fun u hu => hu), T.ki 26 rfl, _, rfl, iteT ?_⟩
      refine ⟨_, rfl, _, rfl, iteT ⟨_, rfl, _, _, false, He.ga K "TooLong", e, _, rfl, rfl, rfl, upd_same, T.x_TooLong.c T, (fun u hu => hu), T.ki 25 rfl, _, rfl, size_of (n := 3) (by decide), fun t ht => ?_⟩⟩
      exact fin .long v _ _ g1 (by unfold outc; rw [if_neg (by decide), if_pos hl]) hv t ht
    · intro hl hin G1 H1 g0 e he
      have g1 := g0.newM he (o := .xd [("found", v)])
      refine ⟨true, exm2 (T.em 13 rfl) (T.em 17 rfl), fun _ er her => ?_, fun z => nomatch z⟩
      refine ⟨_, rfl, _, _, false, He.ga K "There", e, _, rfl, rfl, rfl, upd_same, T.x_There.c T, (fun u hu => hu), T.ki 24 rfl, ?_⟩
      refine ⟨_, rfl, _, rfl, iteF ?_⟩
      refine ⟨_, rfl, rfl, He.ga K "There", e, _, v, rfl, rfl, T.x_There.xf, T.x_There.no, upd_same, rfl, ?_⟩
      refine ⟨_, rfl, _, _, true, He.ga K "There", e, _, rfl, rfl, rfl, upd_same, T.x_There.c T, (fun u hu => hu), T.ki 27 rfl, _, rfl, iteT ?_⟩
      refine ⟨_, rfl, _, rfl, iteF ⟨_, rfl, size_of (n := 3) (by decide), fun t ht => ?_⟩⟩
      exact fin .there v _ _ g1 (by unfold outc; rw [if_neg (by decide), if_neg (by omega), if_pos hin]) (MarkAt.mono hv g0.gg) t ht
    · intro hl hnot h12 G1 H1 g0 e he
      have g1 := g0.newM he (o := .xd [("many", .int 12)])
      refine ⟨false, exm2 (T.em 14 rfl) (T.em 18 rfl), (fun z => nomatch z), fun _ => ⟨true, exm1 (T.em 20 rfl), fun _ er her => ?_, fun z => nomatch z⟩⟩
      refine ⟨_, rfl, rfl, He.ga K "Full", e, _, .int 12, rfl, rfl, T.x_Full.xf, T.x_Full.no, upd_same, rfl, ?_⟩
      refine ⟨_, rfl, _, _, true, He.ga K "Full", e, _, rfl, rfl, rfl, upd_same, T.x_Full.c T, (fun u hu => hu), T.ki 28 rfl, size_of (n := 3) (by decide), fun t ht => ?_⟩
      exact fin .full (.int 12) _ _ g1 (by unfold outc; rw [if_neg (by decide), if_neg (by omega), if_neg hnot, if_pos h12]) rfl t ht
    · intro hl hnot h12 k G1 H1 g1 hpl hs1
      have eo : outc ms 0 m = (.done, kSort (ms ++ [m])) := by unfold outc; rw [if_neg (by decide), if_neg (by omega), if_neg hnot, if_neg (by omega)]
      refine ⟨_, rfl, size_of (n := 3) (by decide), fun t ht => ?_⟩
      have g2 := (GR.refl (K := K) (S := S0) g1.sb).new ht (o := .tup [.str "done", .non, .bl true]) trivial
      refine q _ _ _ (g1.call g2 fun b z => z.elim) ?_ ?_
      · rw [eo, ← hpl.ins_sort fit.rise ok fit.ok hnot]
        exact hs1.keep0 g2
      · rw [eo]
        exact ⟨t, .non, rfl, upd_same, rfl⟩
  · refine ⟨_, rfl, rfl, _, rfl, ifF (fun z => nomatch z) ⟨_, rfl, x, dx, _, rfl, h1, rfl, _, rfl, G, x, a, ms, v, m, rfl, sb, tb, hs, fit, hv, ok, ?_, ?_⟩⟩
    · intro hnot G1 H1 g0 e he
      have g1 := g0.newM he (o := .xd [("found", v)])
      refine ⟨false, exm2 (T.em 15 rfl) (T.em 19 rfl), (fun z => nomatch z), fun _ => ⟨false, exm1 (T.em 21 rfl), (fun z => nomatch z), fun _ => ⟨true, exm1 (T.em 22 rfl), fun _ er her => ?_, fun z => nomatch z⟩⟩⟩
      refine ⟨_, rfl, rfl, He.ga K "NotThere", e, _, v, rfl, rfl, T.x_NotThere.xf, T.x_NotThere.no, upd_same, rfl, ?_⟩
      refine ⟨_, rfl, _, _, true, He.ga K "NotThere", e, _, rfl, rfl, rfl, upd_same, T.x_NotThere.c T, (fun u hu => hu), T.ki 29 rfl, size_of (n := 3) (by decide), fun t ht => ?_⟩
      exact fin .missing v _ _ g1 (by unfold outc; rw [if_pos rfl, if_neg hnot]) (MarkAt.mono hv g0.gg) t ht
    · intro k G1 H1 hk g1 hs1
      have eo : outc ms 1 m = (.done, ms.filter fun x => decide (x ≠ m)) := by unfold outc; rw [if_pos rfl, if_pos (List.mem_of_getElem? hk)]
      refine ⟨_, rfl, size_of (n := 3) (by decide), fun t ht => ?_⟩
      have g2 := (GR.refl (K := K) (S := S0) g1.sb).new ht (o := .tup [.str "done", .non, .bl true]) trivial
      refine q _ _ _ (g1.call g2 fun b z => z.elim) ?_ ?_
      · rw [eo, ← erase_filter (rise_nodup fit.rise) hk]
        exact hs1.keep0 g2
      · rw [eo]
        exact ⟨t, .non, rfl, upd_same, rfl⟩
end
end K42
set_option Elab.async false
set_option linter.all false
set_option maxRecDepth 100000
set_option maxHeartbeats 4000000
namespace K42
open PySem PySem.Spec PyProof.Rows L2
section
variable {X : Cx} {n : Nat}
/-- mark != mark, None != None -/
def rNeMN (K : PySem.W.Frag) : R2 := fun x y H Q => (x = .non ∧ y = .non ∧ Q (.bl false) H) ∨ rNeM K x y H Q
theorem op_neMN (T : Tx X.K X.mg X.base) (hr : Room (n + 3) X.A) : OpR X (compareOp .NotEq) (rNeMN X.K) := fun pins s σ H x y v u Q I rx ry hyp => by
  rcases hyp with ⟨rfl, rfl, q⟩ | hyp
  · exact op_ne pins s σ H .non .non v u Q I rx ry ⟨rfl, q⟩
  · exact op_neM T hr pins s σ H x y v u Q I rx ry hyp
end
section
variable {P : Program} {w : World} {K : PySem.W.Frag} {mg : Str → Option Value} {base : Heap}
def HeldAt (K : PySem.W.Frag) (G : Hp) (v : V) (m : Mk) : Prop := ∃ t p s, v = .ref t ∧ G t = some (.tup [p, s]) ∧ PtIn G p m ∧ MarkAt K G s m
theorem HeldAt.mono {G G' : Hp} {v : V} {m : Mk} (h : HeldAt K G v m) (l : Le G G') : HeldAt K G' v m := by
  obtain ⟨t, p, s, rfl, h1, h2, h3⟩ := h
  exact ⟨t, p, s, rfl, l _ _ h1, h2.mono l, MarkAt.mono h3 l⟩
def spHeld (K : PySem.W.Frag) : Sp := fun vs H Q _ => ∃ (G : Hp) (x a ha : Addr) (v : V) (ms hms : List Mk) (hvs : List V), vs = [.ref x, v, .ref ha] ∧ Sb G H ∧ SAt K G H x a ms ∧ Fit ms ∧ ShelfAt G v ms ∧ G ha = some (.lst hvs) ∧ Paired (HeldAt K G) hvs hms ∧ (∀ m ∈ hms, Ok m) ∧ ∀ G' H', GR K S0 G H G' H' → Q (.bl true) H'
abbrev N__law_held : List Str := ["_law_shorts", "_law_shelf_here", "_law_held_here", "_law_row", "_law_parts", "_law_spine", "_law_due_here", "_law_short"]
theorem sc__law_held : FnScope N__law_held ["_law_shorts", "_law_shelf_here", "_law_held_here"] (defScope S__law_held) := ⟨rfl, rfl, rfl, by decide +kernel, rfl, by decide +kernel, by decide +kernel⟩
theorem kn__law_held (T : Tx K mg base) : Kn P w K mg base CX0 10 "_law_held" ["_law_shorts", "_law_shelf_here", "_law_held_here"] (spHeld K) := by
  refine kn_of "_law_held" T 76 64 S__law_held rfl rfl sc__law_held (fun vs H Q E h => by obtain ⟨_, _, _, _, _, _, _, _, rfl, _⟩ := h; rfl) (fun _ _ _ _ _ _ us hl => match us, hl with | [_, _, _], _ => rfl) (fun cdv A outer s H vs Q E hr h => ⟨_, PSs.nox (pss_cons (ps_set (i := 3) sc__law_held.nd rfl (Or.inl rfl) (pe_km0 (kn_Shorts_row T) (hr.mono (by decide)) (pv 0)))
    (pss_cons (ps_for PassesOwn.never rfl (pi_list (pv 2)) (pg_tup rfl (pgs_cons (pg_name (i := 4) sc__law_held.nd rfl (Or.inl rfl)) (pgs_cons (pg_name (i := 5) sc__law_held.nd rfl (Or.inl rfl)) pgs_nil))) (Evl.pss_cut (ps_set (i := 6) sc__law_held.nd rfl (Or.inl rfl) (pe_ifExp (pt_cmpR (op_inD (hu65 hr)) (pv 4) (pv 1) (by with_unfolding_all rfl)) (pe_ix ix_list (pv 3) (pe_bm PySem.F.plainAttrs_list PySem.F.slot_list_index PySem.F.type_list_index (mt_indexD (hu65 hr)) (pv 1) (pa_cons (pv 4) pa_nil)) (fun _ _ => rfl)) pe_non))
    (pss_cons (L2N.ps_try_many rfl rfl tkF (fun W pn xe tk _ => (pss_one (ps_set (i := 7) sc__law_held.nd rfl (Or.inl rfl) (pe_kmXE (kn_Shorts_short_ofX T) (hr.mono (by decide)) tk (pv 0) (pa_cons (pv 5) pa_nil))))) (.cons ⟨rfl, rfl, .inl T.g_NotThere⟩ (fun a oe cls d pn hz hf => (pss_one (ps_set (i := 7) sc__law_held.nd rfl (Or.inl rfl) pe_non))) .nil))
    (pss_one (ps_if (pt_cmpR (op_neMN T hr) (pv 7) (pv 6) (nomark _)) (pss_one (ps_ret pe_bl)) pss_nil)))))
    (pss_one (ps_ret pe_bl)))), ?_⟩)
  obtain ⟨G, x, a, ha, v, ms, hms, hvs, rfl, sb, hs, fit, hsh0, hha, hpv, okh, q⟩ := h
  obtain ⟨sa, ps, rfl, hsa, hps⟩ := id hsh0
  obtain ⟨dx, sv, r, rs0, h1, h2, h3, h4⟩ := id hs.at_
  have hpl := pair_len hps
  have h12 := fit.len
  have hsl := fit.short.len
  have hsx : ∀ {G' H' : Hp}, GR K S0 G H G' H' → SAt K G' H' x a ms := fun g => hs.keep0 g
  have hix : ∀ {G' H' : Hp}, GR K S0 G H G' H' → H' x = some (.ins (He.ga K "Shorts") dx (sflds a sv r)) := fun g => g.keep h1 trivial id
  have hsh : ∀ {G' H' : Hp}, GR K S0 G H G' H' → SqL K H' sa ps := fun g => SqL.of (g.sb _ _ (g.gg _ _ hsa)).1
  have hhl : ∀ {G' H' : Hp}, GR K S0 G H G' H' → SqL K H' ha hvs := fun g => SqL.of (g.sb _ _ (g.gg _ _ hha)).1
  have g0 := GR.refl (K := K) (S := S0) sb
  refine ⟨_, rfl, x, dx, _, rfl, h1, rfl, G, x, a, ms, rfl, sb, hs, fun rw_ rs hrw hrs => ?_⟩
  have g1 := g0.new hrw (o := .lst rs) trivial
  have hrs1 := pair_imp hrs fun _ _ y => y.mono (Le.up (o := .lst rs) (sb.no hrw))
  have hrl := pair_len hrs
  have hrw1 : upd G rw_ (.lst rs) rw_ = some (.lst rs) := upd_same
  generalize upd G rw_ (.lst rs) = G1 at g1 hrs1 hrw1
  generalize upd H rw_ (.lst rs) = H1 at g1
  refine ⟨_, rfl, ha, rfl, ⟨_, hhl g1⟩, ?_⟩
  refine for_list (K := K) (a := ha) (xs := hvs) (fun i σ H' => (∃ x4 x5 x6 x7 : Option V, σ = [some (.ref x), some (.ref sa), some (.ref ha), some (.ref rw_), x4, x5, x6, x7]) ∧ ∃ G', GR K S0 G1 H1 G' H') ⟨⟨_, _, _, _, rfl⟩, G1, GR.refl g1.sb⟩ ?_ ?_ ?_
  · rintro i σ H2 hi ⟨_, G2, j⟩
    exact hhl (g1.trans j)
  · rintro i y σ H2 hy ⟨⟨x4, x5, x6, x7, rfl⟩, G2, j⟩
    obtain ⟨m, hm, t, p, s, rfl, ht, hp, hsm⟩ := pair_get' hpv hy
    have okm := okh m (List.mem_of_getElem? hm)
    have k2 := g1.trans j
    have hp2 := hp.mono k2.gg
    have hs2 := MarkAt.mono hsm k2.gg
    have hrwl : SqL K H2 rw_ rs := SqL.of (j.sb _ _ (j.gg _ _ hrw1)).1
    refine ⟨t, _, rfl, SqT.of (k2.sb _ _ (k2.gg _ _ ht)).1, rfl, _, _, rfl, _, _, rfl, rfl, ?_⟩
    refine ⟨fun σ H' => ∃ d : V, σ = [some (.ref x), some (.ref sa), some (.ref ha), some (.ref rw_), some p, some s, some d, x7] ∧ H' = H2 ∧ ((m ∉ ms ∧ d = .non) ∨ ∃ (k : Nat) (c : Mk), ms[k]? = some m ∧ (shortOf ms)[k]? = some c ∧ MarkAt K G2 d c), ?_, ?_⟩
    · refine ⟨_, rfl, _, rfl, partsD m, ms.map partsD, (hp2.mono j.sb.le).dp, shelf_dp (hsh0.mono k2.gg) j.sb, parts_shaped okm, shelf_shaped fit.ok, _, rfl, ?_⟩
      rw [shelf_has]
      refine ifC (fun hin => ?_) fun hnot => ⟨.non, rfl, rfl, .inl ⟨hnot, rfl⟩⟩
      obtain ⟨k, hk⟩ := List.getElem?_of_mem hin
      have hkl := (List.getElem?_eq_some_iff.mp hk).1
      obtain ⟨c, hc⟩ : ∃ c, (shortOf ms)[k]? = some c := ⟨_, List.getElem?_eq_getElem (by omega)⟩
      obtain ⟨z, hz, hzc⟩ := pair_get hrs1 hc
      refine ⟨_, rfl, _, rfl, .inl ⟨rfl, _, hsh k2⟩, _, rfl, sa, p, partsD m, ms.map partsD, k, partsD m, rfl, rfl, shelf_dp (hsh0.mono k2.gg) j.sb, (hp2.mono j.sb.le).dp, shelf_shaped fit.ok, parts_shaped okm, by rw [List.getElem?_map, hk]; rfl, by rw [parts_eqv]; exact decide_eq_true rfl, fun i2 z' hi2 hz' => ?_, rw_, _, _, z, rfl, rfl, hrwl, atI_nat hz, z, rfl, rfl, .inr ⟨k, c, hk, hc, hzc.mono j.gg⟩⟩
      rw [List.getElem?_map] at hz'
      obtain ⟨c2, hc2, rfl⟩ := Option.map_eq_some_iff.mp hz'
      rw [parts_eqv]
      refine decide_eq_false fun e => ?_
      rw [e] at hc2
      have := (List.getElem?_inj hkl (rise_nodup fit.rise)).mp (hk.trans hc2.symm)
      omega
    rintro σ H3 ⟨d, rfl, rfl, hd⟩
    refine ⟨_, rfl, x, dx, _, rfl, hix k2, rfl, _, rfl, G2, x, a, ms, s, m, rfl, j.sb, hsx k2, fit, hs2, okm, fun k c u G4 H4 g4 hk hc hu => ?_, fun hn G4 H4 g4 er her => ?_⟩
    · rcases hd with ⟨hn, _⟩ | ⟨k', c', hk', hc', hd⟩
      · exact (hn (List.mem_of_getElem? hk)).elim
      have ek : k = k' := (List.getElem?_inj (List.getElem?_eq_some_iff.mp hk).1 (rise_nodup fit.rise)).mp (hk.trans hk'.symm)
      subst ek
      rw [hc] at hc'
      obtain rfl := Option.some.inj hc'
      obtain ⟨ua, rfl, hua⟩ := hu.mi g4.sb
      obtain ⟨da, rfl, hda⟩ := (hd.mono g4.gg).mi g4.sb
      exact ⟨_, rfl, _, rfl, .inr ⟨ua, da, c, c, rfl, rfl, hua, hda, _, rfl, ifN (fun z => (z rfl).elim) fun _ => ⟨⟨_, _, _, _, rfl⟩, G4, j.trans g4⟩⟩⟩
    · rcases hd with ⟨_, rfl⟩ | ⟨k', c', hk', _, _⟩
      · refine ⟨true, T.em 22 rfl, fun _ e2 he2 => ?_, fun z => nomatch z⟩
        exact ⟨_, rfl, _, rfl, .inl ⟨rfl, rfl, _, rfl, iteF ⟨⟨_, _, _, _, rfl⟩, G4, (j.trans g4).newM her⟩⟩⟩
      · exact (hn (List.mem_of_getElem? hk')).elim
  · rintro σ H2 ⟨⟨x4, x5, x6, x7, rfl⟩, G2, j⟩
    exact q _ _ (g1.trans j)
end
end K42
set_option Elab.async false
set_option linter.all false
set_option pp.maxSteps 1500
set_option maxRecDepth 100000
set_option maxHeartbeats 4000000
namespace K42H
open PySem PySem.Spec PyProof.Rows L2 HotX L2H
/-- the exception that is handled stands (its context None), at none of these -/
structure HotN (A : Around) (x1 : Addr) (o1 : Obj) (h : Heap) (it : Addr) : Prop where
  hd : A.handled = some (.ref x1)
  at_ : h.get? x1 = some o1
  ctx : ∃ vs : Array Value, o1.data = .fields vs ∧ vs[2]? = some .none
  ne : x1 ≠ it
section
variable {prog : Program} {w : World} {A : Around} {E : Value → Shared → Prop} {s : Shared} {x1 : Addr} {o1 : Obj}
/-- everything of one state stands in the other -/
abbrev Kept (h h' : Heap) : Prop := ∀ b o, h.get? b = some o → h'.get? b = some o
/-- a StopIteration raised where an exception is handled -/
theorem stops {α : Type} {Q : α → Shared → Prop} (hot : HotAt A x1 s.heap)
    (hE : ∀ a h', Kept s.heap h' → (∃ o : Obj, h'.get? a = some o ∧ o.cls = .type "StopIteration") → E (.ref a) { s with heap := h' }) :
    wpAny (model prog w) A (newExc (.type "StopIteration") [] >>= fun e => (raiseNew e : Sem α)) Q E s := by
  obtain ⟨hd, o, vs, ho, d, c⟩ := hot
  unfold newExc
  unfold newTuple
  refine wpAny_bind (wpAny_bind (wpAny_newObj_type (wpAny_bind (m := firstArgMember _ _) (wpAny_of_eq (a := Value.none) ?_ ?_)) (by size_fits)))
  · unfold firstArgMember
    rfl
  refine wpAny_newObj_type ?_ (by size_fits)
  have k1 := Heap.get?_push_of_some { cls := .type "tuple", data := .seq ([] : List Value).toArray } ho
  have k2 : ∀ ob, ((s.heap.push { cls := .type "tuple", data := .seq ([] : List Value).toArray }).push ob).get? x1 = some o := fun ob => Heap.get?_push_of_some ob k1
  refine raiseNew_hot ⟨hd, o, vs, k2 _, d, c⟩ (Nat.ne_of_lt (Heap.lt_size k1)) (Heap.get?_push_size _ rfl) rfl (by first | (simp; done) | (simp only [Array.size_append]; simp; omega)) (hE _ _ (fun b u e => ?_) ⟨_, Heap.get?_update_self _ (Heap.get?_push_size _ rfl) rfl, rfl⟩)
  have e2 := Heap.get?_push_of_some { cls := .type "tuple", data := .seq ([] : List Value).toArray } e
  rw [Heap.get?_update_other]
  · exact Heap.get?_push_of_some _ e2
  · exact Nat.ne_of_gt (Heap.lt_size e2)
/-- the last step of __next__, as pyNext sees it -/
theorem no_more {it : Addr} {f : Obj → Obj} {Q : Option Value → Shared → Prop} (hot : HotN A x1 o1 s.heap it) (hQ : ∀ h', (∀ b u, b ≠ it → s.heap.get? b = some u → h'.get? b = some u) → Q none { s with heap := h' }) :
    ∀ h', Kept (s.heap.update it f) h' → Q none { s with heap := h' } := fun h' k => hQ h' fun b u nb e => k b u (by rw [Heap.get?_update_other _ _ (Ne.symm nb)]; exact e)
theorem HotN.upd {it : Addr} {f : Obj → Obj} (hot : HotN A x1 o1 s.heap it) : HotAt A x1 (s.heap.update it f) := by
  obtain ⟨hd, at_, ⟨vs, d, c⟩, ne⟩ := hot
  exact ⟨hd, o1, vs, by rw [Heap.get?_update_other _ _ (Ne.symm ne)]; exact at_, d, c⟩
theorem list_over {it l : Addr} {i : Nat} {items : Array Value} {Q : Option Value → Shared → Prop} (hot : HotN A x1 o1 s.heap it) (hi : s.heap.IsListIter it l i) (hl : s.heap.IsList l items) (hx : items[i]? = none)
    (hQ : ∀ h', (∀ b u, b ≠ it → s.heap.get? b = some u → h'.get? b = some u) → Q none { s with heap := h' }) : wpAny (model prog w) A (pyNext (.ref it)) Q E s := by
  have hT := hi.typeIs
  obtain ⟨oi, hoi, ci, di⟩ := hi
  obtain ⟨ol, hol, cl, nl, dl⟩ := hl
  unfold pyNext
  refine wpAny_bind (wpAny_attempt (wpAny_callSpecial?_slot hT slot_listiter_next (wpAny_call_entry slot_listiter_next hT entry_listiter_next ?_ (args_listiter_next _))))
  show wpAny _ A.in1 (field (.ref it) 0 >>= _) _ _ s
  refine wpAny_bind (wpAny_field hoi di (x := .ref l) rfl ?_)
  show wpAny _ A.in1 (if (Value.ref l == Value.none) = true then _ else field (.ref it) 1 >>= _) _ _ s
  refine if_neg (show ¬ (Value.ref l == Value.none) = true by simp) ▸ wpAny_bind (wpAny_field hoi di (x := .int i 0) rfl ?_)
  show wpAny _ A.in1 (seqItems? (.ref l) >>= _) _ _ s
  refine wpAny_bind (wpAny_seqItems hol dl ?_)
  simp only [Int.toNat_natCast, hx]
  refine wpAny_bind (wpAny_rule (wpAny_bind (wpAny_setField hoi di (by simp) (stops (s := { s with heap := _ }) (A := A.in1) hot.upd fun a h' k ⟨o, ho, hc⟩ => ?_))))
  exact wpAny_bind (wpAny_isInstance (T := "StopIteration") (b := true) ⟨o, ho, hc⟩ isSubtype_stop (wpAny_pure (no_more hot hQ h' k)))
theorem tuple_over {it l : Addr} {i : Nat} {items : Array Value} {Q : Option Value → Shared → Prop} (hot : HotN A x1 o1 s.heap it) (hi : s.heap.IsTupleIter it l i) (hl : s.heap.IsTuple l items) (hx : items[i]? = none)
    (hQ : ∀ h', (∀ b u, b ≠ it → s.heap.get? b = some u → h'.get? b = some u) → Q none { s with heap := h' }) : wpAny (model prog w) A (pyNext (.ref it)) Q E s := by
  have hT := hi.typeIs
  obtain ⟨oi, hoi, ci, di⟩ := hi
  obtain ⟨ol, hol, cl, nl, dl⟩ := hl
  unfold pyNext
  refine wpAny_bind (wpAny_attempt (wpAny_callSpecial?_slot hT F.slot_tuple_iterator_next (wpAny_call_entry F.slot_tuple_iterator_next hT F.entry_tuple_iterator_next ?_ (F.args_tuple_iterator_next_1 _))))
  show wpAny _ A.in1 (field (.ref it) 0 >>= _) _ _ s
  refine wpAny_bind (wpAny_field hoi di (x := .ref l) rfl ?_)
  show wpAny _ A.in1 (if (Value.ref l == Value.none) = true then _ else field (.ref it) 1 >>= _) _ _ s
  refine if_neg (show ¬ (Value.ref l == Value.none) = true by simp) ▸ wpAny_bind (wpAny_field hoi di (x := .int i 0) rfl ?_)
  show wpAny _ A.in1 (seqItems? (.ref l) >>= _) _ _ s
  refine wpAny_bind (wpAny_seqItems hol dl ?_)
  simp only [Int.toNat_natCast, hx]
  refine wpAny_bind (wpAny_rule (wpAny_bind (wpAny_setField hoi di (by simp) (stops (s := { s with heap := _ }) (A := A.in1) hot.upd fun a h' k ⟨o, ho, hc⟩ => ?_))))
  exact wpAny_bind (wpAny_isInstance (T := "StopIteration") (b := true) ⟨o, ho, hc⟩ isSubtype_stop (wpAny_pure (no_more hot hQ h' k)))
theorem ascii_over {it : Addr} {x : Str} {t : Tok} {i : Nat} {Q : Option Value → Shared → Prop} (hot : HotN A x1 o1 s.heap it) (hi : s.heap.IsStrIter it "str_ascii_iterator" x t i) (hx : x.cps[i]? = none)
    (hQ : ∀ h', (∀ b u, b ≠ it → s.heap.get? b = some u → h'.get? b = some u) → Q none { s with heap := h' }) : wpAny (model prog w) A (pyNext (.ref it)) Q E s := by
  have hT := hi.typeIs
  obtain ⟨oi, hoi, ci, di⟩ := hi
  unfold pyNext
  refine wpAny_bind (wpAny_attempt (wpAny_callSpecial?_slot hT F.slot_str_ascii_iterator_next (wpAny_call_entry F.slot_str_ascii_iterator_next hT F.entry_str_ascii_iterator_next ?_ (F.args_str_ascii_iterator_next_1 _))))
  show wpAny _ A.in1 (field (.ref it) 0 >>= _) _ _ s
  refine wpAny_bind (wpAny_field hoi di (x := .str x t) rfl ?_)
  show wpAny _ A.in1 (field (.ref it) 1 >>= _) _ _ s
  refine wpAny_bind (wpAny_field hoi di (x := .int i 0) rfl ?_)
  simp only [Int.toNat_natCast, hx]
  refine wpAny_bind (wpAny_rule (wpAny_bind (wpAny_setField hoi di (by simp) (wpAny_bind (wpAny_letGo (stops (s := { s with heap := _ }) (A := A.in1) hot.upd fun a h' k ⟨o, ho, hc⟩ => ?_))))))
  exact wpAny_bind (wpAny_isInstance (T := "StopIteration") (b := true) ⟨o, ho, hc⟩ isSubtype_stop (wpAny_pure (no_more hot hQ h' k)))
theorem wide_over {it : Addr} {x : Str} {t : Tok} {i : Nat} {Q : Option Value → Shared → Prop} (hot : HotN A x1 o1 s.heap it) (hi : s.heap.IsStrIter it "str_iterator" x t i) (hx : x.cps[i]? = none)
    (hQ : ∀ h', (∀ b u, b ≠ it → s.heap.get? b = some u → h'.get? b = some u) → Q none { s with heap := h' }) : wpAny (model prog w) A (pyNext (.ref it)) Q E s := by
  have hT := hi.typeIs
  obtain ⟨oi, hoi, ci, di⟩ := hi
  unfold pyNext
  refine wpAny_bind (wpAny_attempt (wpAny_callSpecial?_slot hT F.slot_str_iterator_next (wpAny_call_entry F.slot_str_iterator_next hT F.entry_str_iterator_next ?_ (F.args_str_iterator_next_1 _))))
  show wpAny _ A.in1 (field (.ref it) 0 >>= _) _ _ s
  refine wpAny_bind (wpAny_field hoi di (x := .str x t) rfl ?_)
  show wpAny _ A.in1 (field (.ref it) 1 >>= _) _ _ s
  refine wpAny_bind (wpAny_field hoi di (x := .int i 0) rfl ?_)
  simp only [Int.toNat_natCast, hx]
  refine wpAny_bind (wpAny_rule (wpAny_bind (wpAny_setField hoi di (by simp) (wpAny_bind (wpAny_letGo (stops (s := { s with heap := _ }) (A := A.in1) hot.upd fun a h' k ⟨o, ho, hc⟩ => ?_))))))
  exact wpAny_bind (wpAny_isInstance (T := "StopIteration") (b := true) ⟨o, ho, hc⟩ isSubtype_stop (wpAny_pure (no_more hot hQ h' k)))
end
/-- the pinned exception, away from what is walked -/
theorem hotN {X : Cx} {pins : List (Addr × Obj)} {σ : L2.St} {H : Hp} {s : Shared} {b : Addr} (c : HotC X) (I : Inv X pins σ H s) (f : FpOk X pins H b) : ∃ x1 o1, HotN X.A x1 o1 s.heap b := by
  obtain ⟨p, ⟨hh, vs, d, c⟩, hp⟩ := c
  have m : p ∈ X.pn ++ pins := List.mem_append_left _ hp
  exact ⟨p.1, p.2, hh, (I.pin p m).1, ⟨vs, d, c⟩, f.2.2.2.2.2 p m⟩
theorem moved {X : Cx} {pins : List (Addr × Obj)} {σ : L2.St} {H : Hp} {s : Shared} {b : Addr} {h' : Heap} {tk : Nat} (I : Inv X pins σ H s) (f : FpOk X pins H b) (k : ∀ c o, c ≠ b → s.heap.get? c = some o → h'.get? c = some o) : Inv X pins σ H { s with heap := h', toks := tk } :=
  let ⟨f0, f1, f2, f3, f4, f5⟩ := f
  I.turned k f0 f1 f3 f4 f5
theorem lone {h : Heap} {it b : Addr} (hb : b ∈ [it]) (st : ∃ o vs, h.get? it = some o ∧ o.data = .fields vs) : ∃ o, h.get? b = some o ∧ ∀ v, o.data ≠ .cell v := by
  obtain ⟨o, vs, e, d⟩ := st
  rw [List.mem_singleton.mp hb]
  exact ⟨o, e, fun v z => by rw [d] at z; exact Data.noConfusion z⟩
theorem _root_.PySem.Heap.IsListIter.fields {h : Heap} {it a : Addr} {i : Nat} (st : h.IsListIter it a i) : ∃ o vs, h.get? it = some o ∧ o.data = .fields vs := let ⟨o, e, _, d⟩ := st; ⟨o, _, e, d⟩
theorem _root_.PySem.Heap.IsTupleIter.fields {h : Heap} {it a : Addr} {i : Nat} (st : h.IsTupleIter it a i) : ∃ o vs, h.get? it = some o ∧ o.data = .fields vs := let ⟨o, e, _, d⟩ := st; ⟨o, _, e, d⟩
section
variable {P : Program} {w : World} {K : PySem.W.Frag} {tg : Expr}
theorem turn_listH (a it : Addr) : TurnH P w K tg (Itl K a) [it] it (fun i h => h.IsListIter it a i) :=
  ⟨List.mem_cons_self, fun i h st b hb => lone hb st.fields, fun i h h' st k => st.at fun o e => k it List.mem_cons_self o e,
   fun X hP hw hK hc i pins s σ H E I hf st hg => by
    subst hP hw hK
    obtain ⟨xs, x, hq, hx⟩ := hg
    obtain ⟨its, rv, p, _⟩ := I.list hq
    obtain ⟨u, hu, ru⟩ := rv.get hx
    refine wpAny_pyNext_list_item st p.isList (x := u) (by simpa using hu) fun h' st' sb => ⟨u, rfl, ?_⟩
    have J1 := moved (tk := s.toks) I (hf it List.mem_cons_self) (fun b o hb e => (sb.2 b hb).trans e)
    obtain ⟨o, e, c, d⟩ := id st'
    exact go_of (s := { s with heap := h' }) e c d (by decide) ⟨x, H, J1, ru, ⟨rfl, fun ys hy => I.list_inj hy hq ▸ hx⟩, st', fun b hb => (hf b hb).1⟩,
   fun X hP hw hK hc i pins s σ H E I hf st hg => by
    subst hP hw hK
    obtain ⟨xs, hq, hx⟩ := hg
    obtain ⟨its, rv, p, _⟩ := I.list hq
    obtain ⟨x1, o1, hot⟩ := hotN hc I (hf it List.mem_cons_self)
    have hl := rv.length
    exact list_over hot st p.isList (by simp; omega) fun h' k => ⟨rfl, moved I (hf it List.mem_cons_self) k⟩,
   fun _ _ _ _ _ st h => wpAny_pyIter_listiter st h⟩
theorem turn_tupleH (a it : Addr) : TurnH P w K tg (Itt K a) [it] it (fun i h => h.IsTupleIter it a i) :=
  ⟨List.mem_cons_self, fun i h st b hb => lone hb st.fields, fun i h h' st k => st.at fun o e => k it List.mem_cons_self o e,
   fun X hP hw hK hc i pins s σ H E I hf st hg => by
    subst hP hw hK
    obtain ⟨xs, x, hq, hx⟩ := hg
    obtain ⟨its, rv, p, _⟩ := I.tuple hq
    obtain ⟨u, hu, ru⟩ := rv.get hx
    refine wpAny_pyNext_tuple_item st (show s.heap.IsTuple a its.toArray from p) (x := u) (by simpa using hu) fun h' st' sb => ⟨u, rfl, ?_⟩
    have J1 := moved (tk := s.toks) I (hf it List.mem_cons_self) (fun b o hb e => (sb.2 b hb).trans e)
    obtain ⟨o, e, c, d⟩ := id st'
    exact go_of (s := { s with heap := h' }) e c d (by decide) ⟨x, H, J1, ru, ⟨rfl, fun ys hy => I.tuple_inj hy hq ▸ hx⟩, st', fun b hb => (hf b hb).1⟩,
   fun X hP hw hK hc i pins s σ H E I hf st hg => by
    subst hP hw hK
    obtain ⟨xs, hq, hx⟩ := hg
    obtain ⟨its, rv, p, _⟩ := I.tuple hq
    obtain ⟨x1, o1, hot⟩ := hotN hc I (hf it List.mem_cons_self)
    have hl := rv.length
    exact tuple_over hot st (show s.heap.IsTuple a its.toArray from p) (by simp; omega) fun h' k => ⟨rfl, moved I (hf it List.mem_cons_self) k⟩,
   fun _ _ _ _ _ st h => wpAny_pyIter_tupleiter st h⟩
end
section
variable {X : Cx} {tg l : Expr} {tl : TE}
theorem begun {pins : List (Addr × Obj)} {σ : L2.St} {H : Hp} {s : Shared} {R : It → Hp → Prop} {J : It} {tn : Nat → Heap → Prop} {o : Obj} (I : Inv X pins σ H s) (T : TurnH X.prog X.w X.K tg J [s.heap.objs.size] s.heap.objs.size tn) (st : tn 0 (s.heap.push o)) (q : R J H) :
    PIEH X pins σ tg R (.ref s.heap.objs.size) { s with heap := s.heap.push o } :=
  ⟨_, _, tn, J, H, rfl, I.kept fun b u e => Heap.get?_push_of_some _ e, T, st, fun b hb => by rw [List.mem_singleton.mp hb]; exact I.fpOk (Nat.le_refl _) (I.hok.fresh (Nat.le_refl _)), q⟩
/-- over a list or a tuple, where an exception is handled -/
theorem pi_seqH (hl : PE X l tl) : PIH X tg l (fun σ H R => iList X.K tl σ H R ∨ iTup X.K tl σ H R) := by
  refine ⟨fun pins s σ H R I h => ?_⟩
  rcases h with h | h
  · refine thn (hl.run pins s σ H _ I h) ?_
    rintro _ s1 ⟨_, H1, I1, r1, a, rfl, ⟨xs, hq⟩, q⟩
    cases r1
    obtain ⟨its, _, p, _⟩ := I1.list hq
    exact wpAny_pyIter_list p.isList (begun I1 (turn_listH a _) ⟨_, Heap.get?_push_size _ rfl, rfl, rfl⟩ q)
  · refine thn (hl.run pins s σ H _ I h) ?_
    rintro _ s1 ⟨_, H1, I1, r1, a, rfl, ⟨xs, hq⟩, q⟩
    cases r1
    obtain ⟨its, _, p, _⟩ := I1.tuple hq
    exact wpAny_pyIter_tuple (show s1.heap.IsTuple a its.toArray from p) (begun I1 (turn_tupleH a _) ⟨_, Heap.get?_push_size _ rfl, rfl, rfl⟩ q)
end
end K42H
set_option Elab.async false
set_option linter.all false
set_option pp.maxSteps 1500
set_option maxRecDepth 100000
set_option maxHeartbeats 4000000
namespace K42H
open PySem PySem.Spec PyProof.Rows L2 HotX L2H
/-! ### a place that no object holds -/
theorem got {P : Program} {w : World} {H : Hp} {h : Heap} {a : Addr} {o : HO} (x : ObjOk P w H h a o) : ∃ u, h.get? a = some u := by
  cases o
  case lst => obtain ⟨_, _, _, _, e⟩ := x; exact ⟨_, e⟩
  case tup => obtain ⟨_, _, _, _, e, _⟩ := x; exact ⟨_, e⟩
  case dK => obtain ⟨_, _, _, _, _, _, _, e, _⟩ := x; exact ⟨_, e⟩
  case dT => obtain ⟨_, _, _, _, _, _, _, e, _⟩ := x; exact ⟨_, e⟩
  case set => obtain ⟨_, _, _, _, e, _⟩ := x; exact ⟨_, e⟩
  case ins => obtain ⟨_, _, _, e, _⟩ := x; exact ⟨_, e⟩
  case own => obtain ⟨_, e⟩ := x; exact ⟨_, e⟩
  case xd => obtain ⟨_, ⟨_, _, _, e, _⟩, _⟩ := x; exact ⟨_, e⟩
  case rng => obtain ⟨_, _, _, e⟩ := x; exact ⟨_, e⟩
  case frz => obtain ⟨e, _⟩ := x; exact ⟨_, e⟩
  case tbl => exact ⟨_, x⟩
  case met => exact ⟨_, x⟩
  case ext => obtain ⟨_, ⟨_, e⟩, _⟩ := x; exact ⟨_, e⟩
theorem bare_at {P : Program} {w : World} {H : Hp} {h : Heap} {a : Addr} (ok : HOk P w H h) (e : h.get? a = none) : H a = none := by
  cases q : H a with
  | none => rfl
  | some u =>
    obtain ⟨v, hv⟩ := got (ok a u q)
    rw [e] at hv
    cases hv
/-- an object laid at a place that no object holds -/
theorem laid_at {X : Cx} {pins : List (Addr × Obj)} {σ : L2.St} {H : Hp} {s : Shared} {h' : Heap} {a : Addr} {o : HO} {tk : Nat} (I : Inv X pins σ H s) (k : Kept s.heap h') (e : s.heap.get? a = none) (new : ObjOk X.prog X.w (upd H a o) h' a o) :
    Inv X pins σ (upd H a o) { s with heap := h', toks := tk } := by
  have n := bare_at I.hok e
  have ne : ∀ {b u}, s.heap.get? b = some u → b ≠ a := fun {b u} q z => by rw [z, e] at q; cases q
  have up : ∀ {b u}, H b = some u → upd H a o b = some u := fun {b u} q => by rw [upd_ne fun z => by rw [z, n] at q; cases q]; exact q
  refine I.un ⟨fun b u q _ _ _ => k b u q, fun b u q _ _ _ => ⟨u.slots, k b u q⟩, fun b u q m _ => (upd_ne (ne q)).trans m, fun b u q _ => ⟨u, k b u q⟩, fun b xs q => up q, fun b u v q => up q, fun b ps q => ⟨#[], by rw [up q]; simp⟩⟩ fun b u q => ?_
  by_cases hb : b = a
  · subst hb
    rw [upd_same] at q
    injection q with q
    exact q ▸ new
  · rw [upd_ne hb] at q
    exact (I.hok b u q).stay (fun c v _ z => k c v z) (fun c z => up z) fun c xs z => up z
/-! ### what is walked by the library's own loops -/
section
variable {prog : Program} {w : World} {A : Around} {x1 : Addr} {o1 : Obj}
theorem walks_listH {I a : Addr} (hd : A.handled = some (.ref x1)) (ctx : ∃ vs : Array Value, o1.data = .fields vs ∧ vs[2]? = some .none) (hx : x1 ≠ I) (ha : a ≠ I) (items : Array Value) :
    Walks prog w A I [I, a, x1] [I] items.size (fun i v => items[i]? = some v) (fun i h => h.IsListIter I a i ∧ h.IsList a items ∧ h.get? x1 = some o1) :=
  ⟨fun b hb => List.mem_cons.mpr (.inl (List.mem_singleton.mp hb)),
   fun _ _ _ st k => ⟨st.1.at fun o e => k I (by simp) o e, st.2.1.at fun o e => k a (by simp) o e, k x1 (by simp) _ st.2.2⟩,
   fun i s Q E hi st hQ => wpAny_pyNext_list_item st.1 st.2.1 (Array.getElem?_eq_getElem hi) fun h' st' sb =>
     have k : ∀ b o, b ∉ [I] → s.heap.get? b = some o → h'.get? b = some o := fun b o hb e => (sb.2 b fun z => hb (by simp [z])).trans e
     hQ _ h' s.toks (Array.getElem?_eq_getElem hi) ⟨st', st.2.1.at fun o e => k a o (by simpa using ha) e, k x1 o1 (by simpa using hx) st.2.2⟩ k,
   fun s Q E st hQ => list_over ⟨hd, st.2.2, ctx, hx⟩ st.1 st.2.1 (by simp) fun h' k => hQ h' s.toks fun b o hb e => k b o (fun z => hb (by simp [z])) e,
   fun _ _ _ _ st hQ => wpAny_pyIter_listiter st.1 hQ⟩
theorem walks_strH {I : Addr} (hd : A.handled = some (.ref x1)) (ctx : ∃ vs : Array Value, o1.data = .fields vs ∧ vs[2]? = some .none) (hx : x1 ≠ I) (x : Str) (t : Tok) (ty : String) (hty : ty = "str_ascii_iterator" ∨ ty = "str_iterator") :
    Walks prog w A I [I, x1] [I] x.cps.size (SignAt x) (fun i h => h.IsStrIter I ty x t i ∧ h.get? x1 = some o1) :=
  ⟨fun b hb => List.mem_cons.mpr (.inl (List.mem_singleton.mp hb)),
   fun _ _ _ st k => ⟨let ⟨o, ho, r⟩ := st.1; ⟨o, k I (by simp) o ho, r⟩, k x1 (by simp) _ st.2⟩,
   fun i s Q E hi st hQ => by
     have fin : ∀ h', h'.IsStrIter I ty x t (i + 1) → Heap.SameBut I s.heap h' → Q (some (.str ⟨#[x.cps[i]]⟩ s.toks)) { s with heap := h', toks := s.toks + 1 } := fun h' st' sb =>
       have k : ∀ b o, b ∉ [I] → s.heap.get? b = some o → h'.get? b = some o := fun b o hb e => (sb.2 b fun z => hb (by simp [z])).trans e
       hQ _ h' _ ⟨_, _, Array.getElem?_eq_getElem hi, rfl⟩ ⟨st', k x1 o1 (by simpa using hx) st.2⟩ k
     obtain rfl | rfl := hty
     · exact wpAny_pyNext_ascii_item st.1 (Array.getElem?_eq_getElem hi) fin
     · exact wpAny_pyNext_wide_item st.1 (Array.getElem?_eq_getElem hi) fin,
   fun s Q E st hQ => by
     have fin : ∀ h', (∀ b u, b ≠ I → s.heap.get? b = some u → h'.get? b = some u) → Q none { s with heap := h' } := fun h' k => hQ h' s.toks fun b o hb e => k b o (fun z => hb (by simp [z])) e
     have over : x.cps[x.cps.size]? = none := Array.getElem?_eq_none (Nat.le_refl _)
     obtain rfl | rfl := hty
     · exact ascii_over ⟨hd, st.2, ctx, hx⟩ st.1 over fin
     · exact wide_over ⟨hd, st.2, ctx, hx⟩ st.1 over fin,
   fun i s Q E st hQ => by
     obtain rfl | rfl := hty
     · exact wpAny_pyIter_striter_ascii st.1 hQ
     · exact wpAny_pyIter_striter_wide st.1 hQ⟩
end
section
variable {X : Cx}
/-- all(bools) where an exception is handled -/
theorem cr_allH (hc : HotC X) : CallR X (.builtin "all") (rAll X.K) := fun pins s σ H vs us Q I r h => by
  obtain ⟨a, bs, rfl, hs, q⟩ := h
  obtain ⟨its, rv, hl, _⟩ := I.list hs
  obtain ⟨p, ⟨hh, ctx⟩, hp⟩ := hc
  have P1 := (I.pin p (List.mem_append_left _ hp)).1
  have hb := rv.bls
  rw [Vals.ref1 r]
  refine call_all_walk (iter_any hl.isList fun s2 e2 st hne => ?_)
  subst e2
  refine ⟨_, _, _, _, _, _, _, rfl, walks_listH (A := X.A.in1) hh ctx (Nat.ne_of_lt (Heap.lt_size P1)) hne its.toArray, ⟨st.1, st.2, Heap.get?_push_of_some _ P1⟩, truth_bools hb, fun h' tk hk => ⟨.bl _, H, I.kept fun b o eo => hk b o (fun m => Nat.lt_irrefl b ?_) (Heap.get?_push_of_some _ eo), ?_, q⟩⟩
  · have := Heap.lt_size eo
    rwa [← List.mem_singleton.mp m] at this
  · show Value.bool _ = Value.bool _
    rw [← L2.all_range, hb, List.size_toArray, List.length_map]
end
end K42H
set_option Elab.async false
set_option linter.all false
set_option pp.maxSteps 1500
set_option maxRecDepth 100000
set_option maxHeartbeats 4000000
namespace K42H
open PySem PySem.Spec PyProof.Rows L2 HotX L2H
/-- [x in g for x in text], g a text of the module -/
def tSigns (z : Str) (te : TE) : TE := fun σ H Q => te σ H fun v H1 => ∃ t : Str, v = .str t ∧ t.length ≤ sizeLine ∧ ∀ D, H1 D = none → Q (.ref D) (upd H1 D (.lst (t.cps.toList.map fun c => .bl (decide (c ∈ z.cps.toList)))))
structure SignsOk (scope : Scope) (x g : Str) : Prop where
  free : ∀ y ∈ scope.names, y.2 ≠ .free
  cell : ∀ y ∈ scope.names, y.2 ≠ .cell
  kind : scope.kind = .function
  names : ∀ y ∈ scope.names, y.2 = .local → scope.names.lookup y.1 = some .local
  hx : scope.names.lookup x = some .local
  hg : scope.names.lookup g = some .globalImplicit
  dx : (x == ("__debug__" : Str)) = false
  dg : (g == ("__debug__" : Str)) = false
abbrev SignF (z : Str) (v y : Value) : Prop := ∃ c u, v = .str ⟨#[c]⟩ u ∧ y = .bool (decide (c ∈ z.cps.toList))
theorem signs_of {z : Str} : ∀ {l : List Nat} {vs ys : List Value}, vs.length = l.length → (∀ (j : Nat) (v : Value), vs[j]? = some v → ∃ (c : Nat) (u : Tok), l[j]? = some c ∧ v = Value.str ⟨#[c]⟩ u) → Paired (SignF z) vs ys → Vals (l.map fun c => V.bl (decide (c ∈ z.cps.toList))) ys
  | [], _, _, _, _, .nil => .nil
  | [], _, _, hl, _, .cons _ _ => by simp at hl
  | _ :: _, _, _, hl, _, .nil => by simp at hl
  | c :: l, _, _, hl, hP, .cons r t => by
    refine .cons ?_ (signs_of (by simpa using hl) (fun j v h => hP (j + 1) v h) t)
    obtain ⟨c0, u0, e0, e1⟩ := hP 0 _ rfl
    obtain ⟨c1, u1, e2, e3⟩ := r
    injection e0 with e0
    subst e0
    rw [e2] at e1
    injection e1 with e1 _
    injection e1 with e1
    have e4 : c1 = c := by simpa using e1
    rw [e3, e4]
    rfl
theorem pe_signsH {X : Cx} {iter : Expr} {te : TE} {x g z : Str} {tk : Tok} {scope : Scope} {p1 p2 p3 p4 pos : Pos} (hc : HotC X) (hi : PE X iter te) (hm : X.mg g = some (.str z tk)) (ok : SignsOk scope x g)
    (hb : behindInMarks .In (.Name g p2) = false := by with_unfolding_all rfl) (hs : ∀ x, foldedSetIterable iter X.env x = pure x := by intro _; rfl) :
    PE X (.ListComp (.Compare (.Name x p1) [.In] [.Name g p2] p3) [⟨.Name x p4, iter, [], 0⟩] scope pos) (tSigns z te) := by
  refine ⟨fun pins s σ H Q I h => ?_⟩
  refine wpAny_ListComp_walk (fun _ => true) (SignF z) ok.free ok.cell ok.kind ok.names ok.hx (thn (hi.run pins s σ H _ I h) ?_) hs
  rintro v s1 ⟨_, H1, I1, r1, t, rfl, hz, q⟩
  obtain ⟨tt, rfl⟩ := r1
  obtain ⟨p, ⟨hh, ctx⟩, hp⟩ := hc
  have P1 := (I1.pin p (List.mem_append_left _ hp)).1
  have hlt := Heap.lt_size P1
  have go : ∀ (ty : String) (hty : ty = "str_ascii_iterator" ∨ ty = "str_iterator") (o : Obj), (s1.heap.push o).IsStrIter s1.heap.objs.size ty t tt 0 →
      (fun (it : Value) (s₂ : Shared) => ∃ I fp wr n P St, it = Value.ref I ∧ Walks X.prog X.w X.A I fp wr n P St ∧ n ≤ sizeLine ∧ St 0 s₂.heap ∧ (∀ b ∈ fp, b < s₂.heap.objs.size) ∧
      QuietOn X.prog X.w X.A X.env scope x [] (.Compare (.Name x p1) [.In] [.Name g p2] p3) wr P (fun _ => true) (SignF z) s₂ ∧
      (∀ D h' tk ys (vs : List Value), s₂.heap.get? D = none → h'.IsList D ys → h'.PlainList D ys → vs.length = n → (∀ j v, vs[j]? = some v → P j v) → Paired (SignF z) (vs.filter fun _ => true) ys.toList →
        (∀ b o, b ∉ wr → s₂.heap.get? b = some o → h'.get? b = some o) → EP X pins σ Q (Value.ref D) { s₂ with heap := h', toks := tk })) (Value.ref s1.heap.objs.size) { s1 with heap := s1.heap.push o } := by
    intro ty hty o st
    have bk : ∀ {h' : Heap}, (∀ b u, b ∉ [s1.heap.objs.size] → (s1.heap.push o).get? b = some u → h'.get? b = some u) → Kept s1.heap h' := fun {h'} k b u e => k b u (fun m => by
      have := Heap.lt_size e
      rw [List.mem_singleton.mp m] at this
      exact Nat.lt_irrefl _ this) (Heap.get?_push_of_some _ e)
    refine ⟨_, _, _, _, _, _, rfl, walks_strH hh ctx (Nat.ne_of_lt hlt) t tt ty hty, hz, ⟨st, Heap.get?_push_of_some _ P1⟩, fun b hb => ?_, ⟨fun C i v s3 m3 E' _ _ _ _ _ => ?_, fun C i v s3 m3 E' hv _ hn hx hk _ => ?_⟩, fun D h' tk ys vs hD hl hpl hlen hP hF hk => ?_⟩
    · rw [Heap.size_push]
      rcases List.mem_cons.mp hb with e | hb
      · rw [e]; exact Nat.lt_succ_self _
      · rw [List.mem_singleton.mp hb]; exact Nat.lt_succ_of_lt hlt
    · exact wpAny_tests_nil ⟨rfl, _, _, rfl, fun _ _ e => e⟩
    · obtain ⟨c, u, _, rfl⟩ := hv
      refine wpAny_Compare1 (wpAny_Name (wpAny_loadName_local ok.kind ok.hx hn hx ?_) ok.dx) hb
      refine Calls.Name_function_global ok.kind ok.hg (Calls.loadGlobal_global (mg := X.mg) ?_ hm ?_) ok.dg
      · show s3.heap.Ns X.env.globals X.mg
        rw [I1.ok.glob]
        exact I1.mod.glob.keeps fun b u e => bk hk b u (I1.bk b u e)
      · exact PyProof.Rows.in_str ⟨⟨c, u, rfl, congrArg Value.bool (PySem.StrLaws.found_one z c)⟩, _, _, rfl, fun _ _ e => e⟩
    · have keep := bk hk
      have hD1 : s1.heap.get? D = none := by
        cases e : s1.heap.get? D with
        | none => rfl
        | some u => rw [Heap.get?_push_of_some o e] at hD; cases hD
      have hf : vs.filter (fun _ => true) = vs := List.filter_eq_self.mpr fun _ _ => rfl
      rw [hf] at hF
      obtain ⟨nl, hdl⟩ := hpl
      have hv : Vals (t.cps.toList.map fun c => V.bl (decide (c ∈ z.cps.toList))) ys.toList := signs_of (by rw [hlen]; simp) (fun j v hj => by
        obtain ⟨c, u, e1, e2⟩ := hP j v hj
        exact ⟨c, u, by rw [Array.getElem?_toList]; exact e1, e2⟩) hF
      have new : ObjOk X.prog X.w (upd H1 D (.lst (t.cps.toList.map fun c => .bl (decide (c ∈ z.cps.toList))))) h' D (.lst (t.cps.toList.map fun c => .bl (decide (c ∈ z.cps.toList)))) :=
        ⟨by rw [List.length_map, Array.length_toList]; exact hz, ys.toList, nl, hv, by rw [hdl]⟩
      exact ⟨.ref D, _, laid_at (s := s1) (tk := tk) I1 keep hD1 new, rfl, q D (bare_at I1.hok hD1)⟩
  cases ha : t.cps.all (· < 128)
  · exact wpAny_pyIter_wide ha (go _ (.inr rfl) _ ⟨_, Heap.get?_push_size _ rfl, rfl, rfl⟩)
  · exact wpAny_pyIter_ascii ha (go _ (.inl rfl) _ ⟨_, Heap.get?_push_size _ rfl, rfl, rfl⟩)
end K42H
set_option Elab.async false
set_option linter.all false
set_option maxRecDepth 100000
set_option maxHeartbeats 4000000
namespace K42H
open PySem PySem.Spec PyProof.Rows L2 HotX L2H K42
section
variable {P : Program} {w : World} {K : PySem.W.Frag} {mg : Str → Option Value} {base : Heap} {lvl : Nat} {N ps : List Str} {sp : Sp} {dl : List V}
theorem hcx {CX : CXT} {qual : Str} {scope : Scope} {f : Addr} {cd : Value} {A : Around} {outer : List Env} {s : Shared} {H : Hp} {E : XK} {p : Addr × Obj} (hot : Hot1 A p) : HotC (cxH CX P w K mg base N qual scope f cd A outer s H E p).nox := ⟨p, hot, List.mem_singleton.mpr rfl⟩
/-- a def of the module, its promise where an exception is handled; dl: what fills up -/
structure KnH (P : Program) (w : World) (K : PySem.W.Frag) (mg : Str → Option Value) (base : Heap) (lvl : Nat) (x : Str) (ps : List Str) (sp : Sp) (dl : List V) : Prop where
  g : mg x = some (.ref (He.ga K x))
  kp : PySem.W.keepIn K (.ref (He.ga K x)) = true
  ok : ∃ fd, FnH P w K mg base CX0 lvl (He.ga K x) fd ps sp ∧ ∃ ds, Vals dl ds ∧ Binds K fd ps ds
theorem fnH_of {x qual : Str} {params : Arguments} {body : List Stmt} {scope : Scope} {dvs : List V} {kws : List (Str × V)} {f : Addr} {fd : FuncData} (F : FunD K x qual params body scope dvs kws f fd) (S : FnScope N ps scope) (len : ∀ vs H Q E, sp vs H Q E → vs.length = ps.length)
    (hbody : ∀ (cdv : Value) (A : Around) (outer : List Env) (s : Shared) (H : Hp) (vs : List V) (Q : VK) (E : XK) (p : Addr × Obj), Hot1 A p → RoomH lvl (A.deeper (envOfC qual scope s.heap.objs.size f cdv)) → sp vs H Q E →
      ∃ t, PSs (cxH CX0 P w K mg base N qual scope f cdv A outer s H E p) body t ∧ t { nx := fun _ H' => Q .non H', rt := Q } (L2.start N vs) H) : FnH P w K mg base CX0 (lvl + 1) f fd ps sp := by
  obtain ⟨_, _, _, _, _, _, _, cdv, _, _, rfl, lk, hcd, _, _⟩ := F.ex
  exact fn_ofH lk hcd S len fun A outer s H vs Q E p => hbody cdv A outer s H vs Q E p
theorem kn_ofH (x : Str) (T : Tx K mg base) (i j : Nat) (st : Stmt) (hfn : fn[i]? = some (dd (x, none) x x st [])) (hfa : fa[j]? = some (.glo x)) (S : FnScope N ps (defScope st)) (len : ∀ vs H Q E, sp vs H Q E → vs.length = ps.length)
    (hb : ∀ (kV doc pm : Value) (an : Option Addr) (cdv ct : Value) (us : List Value), us.length = ps.length → bindArgs (PySem.W.fnOf x x (defArgs st) (defBody st) (defScope st) .none kV doc pm an cdv ct) ⟨us, []⟩ = pure (ps.zip us))
    (hbody : ∀ (cdv : Value) (A : Around) (outer : List Env) (s : Shared) (H : Hp) (vs : List V) (Q : VK) (E : XK) (p : Addr × Obj), Hot1 A p → RoomH lvl (A.deeper (envOfC x (defScope st) s.heap.objs.size (He.ga K x) cdv)) → sp vs H Q E →
      ∃ t, PSs (cxH CX0 P w K mg base N x (defScope st) (He.ga K x) cdv A outer s H E p) (defBody st) t ∧ t { nx := fun _ H' => Q .non H', rt := Q } (L2.start N vs) H) : KnH P w K mg base (lvl + 1) x ps sp [] := by
  obtain ⟨fd, F⟩ := T.c.def_ i hfn
  exact ⟨T.glo j hfa, F.kp, fd, fnH_of F S len hbody, [], .nil, F.bindsN hb⟩
/-- of one default: given, and filled up -/
theorem kd_ofH (x : Str) (T : Tx K mg base) (i j : Nat) (st : Stmt) (d : He.Dv) (hfn : fn[i]? = some (dd (x, none) x x st [d])) (hfa : fa[j]? = some (.glo x)) (S : FnScope N ps (defScope st)) (len : ∀ vs H Q E, sp vs H Q E → vs.length = ps.length)
    (h0 : ∀ (T : Addr) (kV doc pm : Value) (an : Option Addr) (cdv ct : Value) (us its : List Value), us.length = ps.length → its.length = 1 →
      ∃ k, bindArgs (PySem.W.fnOf x x (defArgs st) (defBody st) (defScope st) (.ref T) kV doc pm an cdv ct) ⟨us, []⟩ = seqItems? (.ref T) >>= k ∧ k (some its.toArray) = pure (ps.zip (us ++ its.drop 1)))
    (h1 : ∀ (T : Addr) (kV doc pm : Value) (an : Option Addr) (cdv ct : Value) (us its : List Value), us.length = ps.length - 1 → its.length = 1 →
      ∃ k, bindArgs (PySem.W.fnOf x x (defArgs st) (defBody st) (defScope st) (.ref T) kV doc pm an cdv ct) ⟨us, []⟩ = seqItems? (.ref T) >>= k ∧ k (some its.toArray) = pure (ps.zip (us ++ its.drop 0)))
    (hbody : ∀ (cdv : Value) (A : Around) (outer : List Env) (s : Shared) (H : Hp) (vs : List V) (Q : VK) (E : XK) (p : Addr × Obj), Hot1 A p → RoomH lvl (A.deeper (envOfC x (defScope st) s.heap.objs.size (He.ga K x) cdv)) → sp vs H Q E →
      ∃ t, PSs (cxH CX0 P w K mg base N x (defScope st) (He.ga K x) cdv A outer s H E p) (defBody st) t ∧ t { nx := fun _ H' => Q .non H', rt := Q } (L2.start N vs) H) (hp : 1 ≤ ps.length := by decide) :
    KnH P w K mg base (lvl + 1) x ps sp [] ∧ KnH P w K mg base (lvl + 1) x ps sp [d.v K] := by
  obtain ⟨fd, F⟩ := T.c.def_ i hfn
  have F' : FunD K x x (defArgs st) (defBody st) (defScope st) [d.v K] [] (He.ga K x) fd := F
  have F2 := fnH_of (P := P) (w := w) (mg := mg) (base := base) F S len hbody
  exact ⟨⟨T.glo j hfa, F.kp, fd, F2, F'.binds1 ps.length 1 (by simp) (by simp) h0⟩, T.glo j hfa, F.kp, fd, F2, F'.binds1 (ps.length - 1) 0 (by simp) (by simp; omega) h1⟩
/-- a method of an own class -/
structure KmH (P : Program) (w : World) (K : PySem.W.Frag) (mg : Str → Option Value) (base : Heap) (lvl : Nat) (C m : Str) (ps : List Str) (sp : Sp) : Prop where
  cl : Cls K (He.ga K C)
  me : Meth K (He.ga K C) m (He.ma K (He.ga K C) m)
  ok : ∃ fd, FnH P w K mg base CX0 lvl (He.ma K (He.ga K C) m) fd ps sp ∧ Binds K fd ps []
theorem km_ofH (C m : Str) {q : Str} (T : Tx K mg base) (i j k : Nat) (st : Stmt) (hfn : fn[i]? = some (dd (C, some m) m q st [])) (hfa : fa[j]? = some (.meth C m)) (hfc : fa[k]? = some (.cls C)) (S : FnScope N ps (defScope st)) (len : ∀ vs H Q E, sp vs H Q E → vs.length = ps.length)
    (hb : ∀ (kV doc pm : Value) (an : Option Addr) (cdv ct : Value) (us : List Value), us.length = ps.length → bindArgs (PySem.W.fnOf m q (defArgs st) (defBody st) (defScope st) .none kV doc pm an cdv ct) ⟨us, []⟩ = pure (ps.zip us))
    (hbody : ∀ (cdv : Value) (A : Around) (outer : List Env) (s : Shared) (H : Hp) (vs : List V) (Q : VK) (E : XK) (p : Addr × Obj), Hot1 A p → RoomH lvl (A.deeper (envOfC q (defScope st) s.heap.objs.size (He.ma K (He.ga K C) m) cdv)) → sp vs H Q E →
      ∃ t, PSs (cxH CX0 P w K mg base N q (defScope st) (He.ma K (He.ga K C) m) cdv A outer s H E p) (defBody st) t ∧ t { nx := fun _ H' => Q .non H', rt := Q } (L2.start N vs) H) : KmH P w K mg base (lvl + 1) C m ps sp := by
  obtain ⟨fd, F⟩ := T.c.def_ i hfn
  exact ⟨He.cls_ok (T.c.fact k hfc), He.meth_ok (T.c.fact j hfa), fd, fnH_of F S len hbody, F.bindsN hb⟩
theorem init_ofH (C : Str) {q : Str} (T : Tx K mg base) (i : Nat) (st : Stmt) (dfl : List He.Dv) (hfn : fn[i]? = some (dd (C, some "__init__") "__init__" q st dfl)) (S : FnScope N ps (defScope st)) (len : ∀ vs H Q E, sp vs H Q E → vs.length = ps.length)
    (hbody : ∀ (cdv : Value) (A : Around) (outer : List Env) (s : Shared) (H : Hp) (vs : List V) (Q : VK) (E : XK) (p : Addr × Obj), Hot1 A p → RoomH lvl (A.deeper (envOfC q (defScope st) s.heap.objs.size (He.ma K (He.ga K C) "__init__") cdv)) → sp vs H Q E →
      ∃ t, PSs (cxH CX0 P w K mg base N q (defScope st) (He.ma K (He.ga K C) "__init__") cdv A outer s H E p) (defBody st) t ∧ t { nx := fun _ H' => Q .non H', rt := Q } (L2.start N vs) H) :
    ∃ fd, FunD K "__init__" q (defArgs st) (defBody st) (defScope st) (dfl.map (He.Dv.v K)) [] (He.ma K (He.ga K C) "__init__") fd ∧ FnH P w K mg base CX0 (lvl + 1) (He.ma K (He.ga K C) "__init__") fd ps sp := by
  obtain ⟨fd, F⟩ := T.c.def_ i hfn
  exact ⟨fd, F, fnH_of F S len hbody⟩
end
section
variable {X : Cx} {k lvl n : Nat} {f C : Addr} {fd : FuncData} {ps ks : List Str} {sp : Sp} {x m : Str} {p pos apos : Pos} {e o : Expr} {es : List Expr} {kws : List Keyword} {ta : TE} {t tk : TA} {dl : List V}
/-- such a def runs -/
theorem runs {A : Around} {pins : List (Addr × Obj)} {σ : L2.St} {H : Hp} {s : Shared} {Q : VK} {args : Args} {us : List Value} {vs : List V} {q : Addr × Obj} (F : FnH X.prog X.w X.K X.mg X.base CX0 k f fd ps sp) (hr : RoomH k A) (hot : Hot1 A q) (hq : q ∈ X.pn)
    (I : Inv X pins σ H s) (e0 : Env0 X.prog X.w X.K X.mg X.base A X.stack s H) (b : BindsTo s fd args (ps.zip us)) (r : Vals vs us) (h : sp vs H Q E0) :
    codeAny (model X.prog X.w) A (.call (.ref f) args) (fun r s' => match r with | .ok (.ret v) => EP X pins σ Q v s' | .ok _ => False | .error _ => False) s := by
  obtain ⟨g1, g2, g3, g4, g5⟩ := I.pin q (List.mem_append_left _ hq)
  refine codeAny_mono (F.run A X.stack s H args us vs Q E0 q hr hot ⟨g1, g2, fun z => (List.mem_cons.mp (I.stkSub q.1 z)).elim g3 g4, g5⟩ e0 b r h) fun r s' z => ?_
  match r, z with
  | .ok (.ret u), z => exact I.after z
  | .ok .next, z => exact z.elim
  | .ok .brk, z => exact z.elim
  | .ok .cont, z => exact z.elim
  | .error _, z => exact z.elim
theorem call_runs {pins : List (Addr × Obj)} {σ : L2.St} {H : Hp} {s : Shared} {Q : VK} {us ds : List Value} {vs : List V} (F : FnH X.prog X.w X.K X.mg X.base CX0 k f fd ps sp) (hr : RoomH k X.A) (hc : HotC X) (hb : Binds X.K fd ps ds) (hd : Vals dl ds)
    (I : Inv X pins σ H s) (r : Vals vs us) (h : sp (vs ++ dl) H Q E0) : wpAny (model X.prog X.w) X.A (call (.ref f) us) (EP X pins σ Q) X.xe s := by
  obtain ⟨q, hot, hq⟩ := hc
  have rr := r.append hd
  refine wpAny_call (codeAny_mono (runs F hr hot hq I I.env0 (hb s us I.kIn (rr.length.symm.trans (F.len _ _ _ _ h))) rr h) fun r s' z => ?_)
  match r, z with
  | .ok (.ret u), z => exact z
  | .ok .next, z => exact z.elim
  | .ok .brk, z => exact z.elim
  | .ok .cont, z => exact z.elim
  | .error _, z => exact z.elim
theorem pe_fnH (c : KnH X.prog X.w X.K X.mg X.base lvl x ps sp dl) (hr : RoomH lvl X.A) (hc : HotC X) (ha : PA X (e :: es) t) (hg : Gl X x := by rfl) (hdb : (x == ("__debug__" : Str)) = false := by decide)
    (he : starEach (e :: es) X.env = (false, eval e X.env) :: starEach es X.env := by rfl) (hpl : (backTo pos (starEach es X.env)).any (·.1) = false := by rfl) : PE X (.Call (.Name x p) (e :: es) [] pos) (tCall sp dl E0 t) := by
  obtain ⟨fd, F, ds, hd, hb⟩ := c.ok
  exact ⟨fun pins s σ H Q I h => wpAny_Call_Name_kw (ld_glob I hg c.g (PySem.W.callWith_K (h₀ := X.base) I.ok.mod.kin c.kp (thn (ha.run pos pins s σ H _ I h) fun us s1 ⟨vs, H1, I1, r, q⟩ => ⟨I1.kIn, call_runs F hr hc hb hd I1 r q⟩) he hpl) hdb)⟩
theorem pe_km0H {C : Str} {pl : Sem Bool} (c : KmH X.prog X.w X.K X.mg X.base lvl C m ps sp) (hr : RoomH lvl X.A) (hc : HotC X) (he : PE X o ta)
    (ht : eval (.Call (.Attribute o m apos) [] [] pos) X.env = (do
      let ov ← eval o X.env
      standAt apos.atName
      let (f, first) ← holding [ov] (getMethod ov m pl)
      callWith pos f first (backTo pos (starEach [] X.env)) (backToKw pos (keywordEach [] X.env))) := by rfl) :
    PE X (.Call (.Attribute o m apos) [] [] pos) (tMeth (He.ga X.K C) m sp [] E0 ta tNil) := by
  obtain ⟨fd, F, hb⟩ := c.ok
  refine ⟨fun pins s σ H Q I h => PySem.W.methodCall_KW (pl := pl) (thn (he.run pins s σ H _ I h) ?_) ht⟩
  rintro u s1 ⟨_, H1, I1, rx, a, dx, fs, rfl, ea, l, q⟩
  cases rx
  exact getmeth_ok I1 ea c.cl c.me l (PySem.W.callWith_K0 (first := [.ref a]) I1.kIn c.me.kp (call_runs (us := [.ref a]) (vs := [.ref a]) F hr hc hb .nil I1 (.cons rfl .nil) q))
theorem roomH_make {A : Around} (r : RoomH (k + 1) A) (C : Addr) (us : List Value) (kw : List (Str × Value)) : RoomH k (A.under (.builtin "type.__call__" ⟨.ref C :: us, kw⟩)) := by
  have h1 := r.dp
  have h2 := r.un
  exact ⟨by rw [make_depth]; omega, by rw [make_units]; omega⟩
/-- C(e, .., k = v, ..) -/
theorem make_runs {pins : List (Addr × Obj)} {σ : L2.St} {H : Hp} {s : Shared} {Q : VK} {us ws : List Value} {vs zs : List V} {g : List Value → List Value → List Value} {gV : List V → List V → List V} (M : L2.Mk X.K C f) (F : FnH X.prog X.w X.K X.mg X.base CX0 k f fd ps sp) (hr : RoomH (k + 1) X.A) (hc : HotC X) (hb : KBn X.K fd ps (n + 1) ks g gV)
    (I : Inv X pins σ H s) (r : Vals vs us) (rz : Vals zs ws) (l1 : vs.length = n) (l2 : zs.length = ks.length) (h : ∀ x dx, H x = none → H dx = none → dx ≠ x → sp (gV (.ref x :: vs) zs) (upd (upd H dx (.own x)) x (.ins C dx [])) (fun v H2 => v = .non ∧ Q (.ref x) H2) E0) :
    wpAny (model X.prog X.w) X.A (call (.ref C) us (ks.zip ws)) (EP X pins σ Q) X.xe s := by
  obtain ⟨q, hot, hq⟩ := hc
  have I2 := Inv.made (C := C) I
  have r1 : Vals (V.ref (s.heap.objs.size + 1) :: vs) (Value.ref (s.heap.objs.size + 1) :: us) := .cons rfl r
  have r2 := hb.rel r1 rz
  have z := h _ _ (I.hok.fresh (Nat.le_succ s.heap.objs.size)) (I.hok.fresh (Nat.le_refl s.heap.objs.size)) (Nat.ne_of_lt (Nat.lt_succ_self _))
  refine wpAny_call (make_map (f := f) I.kIn M.makes M.init (beq_iff_eq.mp M.fn) (codeAny_mono (runs F (roomH_make hr C us (ks.zip ws)) (q := q) hot hq I2 (I2.env0.make C us (ks.zip ws)) (hb.to _ _ ws I2.kIn (by rw [List.length_cons, ← r.length, l1]) (rz.length.symm.trans l2)) r2 z) fun r s' y => ?_))
  match r, y with
  | .ok (.ret u), y =>
    obtain ⟨v, H', I3, rv, ev, q3⟩ := y
    subst ev
    exact ⟨rv, .ref (s.heap.objs.size + 1), H', I3, rfl, q3⟩
  | .ok .next, y => exact y.elim
  | .ok .brk, y => exact y.elim
  | .ok .cont, y => exact y.elim
  | .error _, y => exact y.elim
theorem pe_makeH {g : List Value → List Value → List Value} {gV : List V → List V → List V} (M : L2.Mk X.K C f) (F : FnH X.prog X.w X.K X.mg X.base CX0 k f fd ps sp) (hr : RoomH (k + 1) X.A) (hc : HotC X) (hg : Gl X x) (hm : X.mg x = some (.ref C)) (hb : KBn X.K fd ps (n + 1) ks g gV) (ha : PA X (e :: es) t) (hkw : PK X kws tk)
    (hall : (backToKw pos (keywordEach kws X.env)).all (·.1.isSome) = true := by rfl) (hks : (backToKw pos (keywordEach kws X.env)).filterMap (·.1) = ks := by rfl) (hdb : (x == ("__debug__" : Str)) = false := by decide) (he : starEach (e :: es) X.env = (false, eval e X.env) :: starEach es X.env := by rfl)
    (hpl : ((backTo pos (starEach (e :: es) X.env)).any (·.1) || (backToKw pos (keywordEach kws X.env)).any (·.1.isNone)) = false := by rfl) : PE X (.Call (.Name x p) (e :: es) kws pos) (tMakeN C n ks.length sp gV E0 t tk) := by
  refine ⟨fun pins s σ H Q I h => wpAny_Call_Name_kw (ld_glob I hg hm (PySem.W.callWith_KW (h₀ := X.base) I.ok.mod.kin M.kp hall (thn (ha.run pos pins s σ H _ I h) ?_) hpl he) hdb)⟩
  rintro us s1 ⟨vs, H1, I1, r, q⟩
  refine thn (hkw.run pos pins s1 σ H1 _ I1 q) ?_
  rintro ws s2 ⟨zs, H2, I2, rz, l1, l2, q2⟩
  exact ⟨I2.kIn, hks ▸ make_runs M F hr hc hb I2 r rz l1 l2 q2⟩
end
end K42H
set_option Elab.async false
set_option linter.all false
set_option maxRecDepth 100000
set_option maxHeartbeats 4000000
namespace K42
open PySem PySem.Spec PyProof.Rows L2 HotX L2H K42H
open TL (numL)
theorem Tx.signs_LETTERS {X : Cx} {iter : Expr} {te : TE} {x : Str} {scope : Scope} {p1 p2 p3 p4 pos : Pos} (T : Tx X.K X.mg X.base) (hc : HotC X) (hi : PE X iter te) (ok : SignsOk scope x "LETTERS" := by exact ⟨by decide +kernel, by decide +kernel, by decide +kernel, by decide +kernel, by decide +kernel, by decide +kernel, by decide +kernel, by decide +kernel⟩)
    (hs : ∀ x, foldedSetIterable iter X.env x = pure x := by intro _; rfl) : PE X (.ListComp (.Compare (.Name x p1) [.In] [.Name "LETTERS" p2] p3) [⟨.Name x p4, iter, [], 0⟩] scope pos) (tSigns "abcdefghijklmnopqrstuvwxyz" te) := by
  obtain ⟨t, e⟩ := He.str_ok T.kin T.ns (T.c.fact 95 rfl)
  exact pe_signsH hc hi e ok (hs := hs)
theorem Tx.signs_FIGURES {X : Cx} {iter : Expr} {te : TE} {x : Str} {scope : Scope} {p1 p2 p3 p4 pos : Pos} (T : Tx X.K X.mg X.base) (hc : HotC X) (hi : PE X iter te) (ok : SignsOk scope x "FIGURES" := by exact ⟨by decide +kernel, by decide +kernel, by decide +kernel, by decide +kernel, by decide +kernel, by decide +kernel, by decide +kernel, by decide +kernel⟩)
    (hs : ∀ x, foldedSetIterable iter X.env x = pure x := by intro _; rfl) : PE X (.ListComp (.Compare (.Name x p1) [.In] [.Name "FIGURES" p2] p3) [⟨.Name x p4, iter, [], 0⟩] scope pos) (tSigns "0123456789" te) := by
  obtain ⟨t, e⟩ := He.str_ok T.kin T.ns (T.c.fact 96 rfl)
  exact pe_signsH hc hi e ok (hs := hs)
theorem all_signs {l : List Nat} {z : Str} (h : ∀ c ∈ l, c ∈ z.cps.toList) : ((S l).cps.toList.map fun c => V.bl (decide (c ∈ z.cps.toList))) = (List.replicate l.length true).map V.bl := by
  rw [List.map_replicate, show (S l).cps.toList = l from by simp [S]]
  refine List.eq_replicate_iff.mpr ⟨by simp, fun v hv => ?_⟩
  obtain ⟨c, hc, rfl⟩ := List.mem_map.mp hv
  exact congrArg V.bl (decide_eq_true (h c hc))
theorem pe_mark4H {X : Cx} {p pos kp1 kp2 kp3 kp4 : Pos} {e : Expr} {es : List Expr} {e1 e2 e3 e4 : Expr} {t : TA} {t1 t2 t3 t4 : TE} (F : ∃ fd, FunD X.K "__init__" "Mark.__init__" (defArgs S_Mark_init) (defBody S_Mark_init) (defScope S_Mark_init) (([.str "", .non, .non, .non] : List He.Dv).map (He.Dv.v X.K)) [] (He.ma X.K (He.ga X.K "Mark") "__init__") fd ∧ FnH X.prog X.w X.K X.mg X.base CX0 5 (He.ma X.K (He.ga X.K "Mark") "__init__") fd ["self", "letters", "number", "points", "makers", "year", "copy"] (spInit X.K)) (T : Tx X.K X.mg X.base) (hr : RoomH 6 X.A) (hc : HotC X) (ha : PA X (e :: es) t) (h1 : PE X e1 t1) (h2 : PE X e2 t2) (h3 : PE X e3 t3) (h4 : PE X e4 t4) (hg : Gl X "Mark" := by rfl)
    (he : starEach (e :: es) X.env = (false, eval e X.env) :: starEach es X.env := by rfl) (hpl : ((backTo pos (starEach (e :: es) X.env)).any (·.1) || (backToKw pos (keywordEach [⟨some "points", e1, kp1⟩, ⟨some "makers", e2, kp2⟩, ⟨some "year", e3, kp3⟩, ⟨some "copy", e4, kp4⟩] X.env)).any (·.1.isNone)) = false := by rfl) :
    PE X (.Call (.Name "Mark" p) (e :: es) [⟨some "points", e1, kp1⟩, ⟨some "makers", e2, kp2⟩, ⟨some "year", e3, kp3⟩, ⟨some "copy", e4, kp4⟩] pos) (tMakeN (He.ga X.K "Mark") 2 4 (spInit X.K) (fun vs zs => vs ++ zs) E0 t (tCons t1 (tCons t2 (tCons t3 (tCons t4 tNil))))) := by
  obtain ⟨fd, F, FF⟩ := F
  obtain ⟨its, kb⟩ := F.kbindsD (ps := ["self", "letters", "number", "points", "makers", "year", "copy"]) 3 ["points", "makers", "year", "copy"] (fun us _ zs => us ++ zs) (by simp) (fun r _ r2 => r.append r2)
    (fun T kV doc pm an cdv ct us its ws hu hi hw => match us, hu, its, hi, ws, hw with | [_, _, _], _, [_, _, _, _], _, [_, _, _, _], _ => ⟨_, rfl, rfl⟩)
  exact pe_makeH (n := 2) T.m_Mark FF hr hc hg T.g_Mark kb ha (pk_cons h1 (pk_cons h2 (pk_cons h3 (pk_cons h4 pk_nil)))) (he := he) (hpl := hpl)
section
variable {P : Program} {w : World} {K : PySem.W.Frag} {mg : Str → Option Value} {base : Heap}
theorem kn_is_wholeH (T : Tx K mg base) : KnH P w K mg base 2 "is_whole" ["thing", "low", "high"] spWhole [] ∧ KnH P w K mg base 2 "is_whole" ["thing", "low", "high"] spWhole [(.non : He.Dv).v K] := by
  refine kd_ofH "is_whole" T 4 15 S_is_whole (.non) rfl rfl sc_is_whole (fun vs H Q E h => by obtain ⟨_, _, _, rfl, _⟩ := h; rfl) (fun _ _ _ _ _ _ _ us its hu hi => match us, hu, its, hi with | [_, _, _], _, [_], _ => ⟨_, rfl, rfl⟩) (fun _ _ _ _ _ _ _ us its hu hi => match us, hu, its, hi with | [_, _], _, [_], _ => ⟨_, rfl, rfl⟩) (fun cdv A outer s H vs Q E p hot hr h => ⟨_, PSs.nox (pss_cons (ps_if (PW.pt (pw_or (pt_not (pt_val (pe_callB call_isi (by rfl) T.f_isinstance (by decide +kernel) (pa_cons (pv 0) (pa_cons (pe_bltn (v := .ty "int") (by rfl) T.f_int (by decide +kernel) rfl) pa_nil))))) (pw_or (pt_val (pe_callB call_isi (by rfl) T.f_isinstance (by decide +kernel) (pa_cons (pv 0) (pa_cons (pe_bltn (v := .ty "bool") (by rfl) T.f_bool (by decide +kernel) rfl) pa_nil)))) (pw_or1 (pt_cmpR op_lt (pv 0) (pv 1) (nomark _)))))) (pss_one (ps_ret pe_bl)) pss_nil)
    (pss_one (ps_ret (pe_or (pe_cmpR op_isN (pv 2) pe_non (nomark _)) (pe_one (pe_cmpR op_le (pv 0) (pv 2) (nomark _))))))), ?_⟩)
  obtain ⟨n, a, h, rfl, h1, h2, q⟩ := h
  refine ⟨_, rfl, _, _, _, _, _, rfl, .ty _, .base (.int _), k_ii, _, rfl, iteF ?_⟩
  refine ⟨_, rfl, _, _, _, _, _, rfl, .ty _, .base (.int _), k_ib, _, rfl, iteF ?_⟩
  refine ⟨_, rfl, _, rfl, _, _, rfl, rfl, _, rfl, ifF (by omega) ?_⟩
  refine ⟨_, rfl, rfl, _, rfl, ?_⟩
  rcases h2 with rfl | ⟨b, rfl, h2⟩
  · exact ifT rfl q
  · refine ifF (by intro e; cases e) ⟨_, rfl, _, rfl, _, _, rfl, rfl, ?_⟩
    exact qT h2 q
theorem kn_is_nameH (T : Tx K mg base) : KnH P w K mg base 2 "is_name" ["thing"] (spName K) [] := by
  refine kn_ofH "is_name" T 6 17 S_is_name rfl rfl sc_is_name (fun vs H Q E h => by obtain ⟨_, _, rfl, _⟩ := h; rfl) (fun _ _ _ _ _ _ us hl => match us, hl with | [_], _ => rfl) (fun cdv A outer s H vs Q E p hot hr h => ⟨_, PSs.nox (pss_cons (ps_if (PW.pt (pw_or (pt_not (pt_val (pe_callB call_isi (by rfl) T.f_isinstance (by decide +kernel) (pa_cons (pv 0) (pa_cons (pe_bltn (v := .ty "str") (by rfl) T.f_str (by decide +kernel) rfl) pa_nil))))) (pw_or1 (pt_not (pt_chain op_le op_le pe_int (pe_callB call_len_str (by rfl) T.f_len (by decide +kernel) (pa_cons (pv 0) pa_nil)) (T.gi_LONGEST)))))) (pss_one (ps_ret pe_bl)) pss_nil)
    (pss_one (ps_ret (pe_callB (cr_allH (hcx hot)) (by rfl) T.f_all (by decide +kernel) (pa_cons (T.signs_LETTERS (hcx hot) (pv 0)) pa_nil))))), ?_⟩)
  obtain ⟨G, l, rfl, sb, h1, h2, h3, q⟩ := h
  have hl : (S l).length ≤ sizeLine := by rw [S_len]; exact size_of (by omega)
  refine ⟨_, rfl, _, _, _, _, _, rfl, .ty _, .base (.str _), k_ss, _, rfl, iteF ?_⟩
  refine ⟨_, rfl, _, rfl, hl, _, _, rfl, rfl, _, rfl, ifT (by rw [S_len]; omega) ⟨_, _, rfl, rfl, _, rfl, ?_⟩⟩
  rw [decide_eq_true (show ((S l).length : Int) ≤ 6 by rw [S_len]; omega)]
  refine iteF ?_
  refine ⟨_, rfl, _, rfl, hl, fun D hD => ⟨D, List.replicate l.length true, rfl, SqL.of (by rw [upd_same, all_signs fun c hc => letters_in (h3 c hc)]), ?_⟩⟩
  rw [all_true]
  exact q _ ((GR.refl sb).newM hD)
theorem kn_is_figuresH (T : Tx K mg base) : KnH P w K mg base 2 "is_figures" ["thing"] (spFigs K) [] := by
  refine kn_ofH "is_figures" T 7 18 S_is_figures rfl rfl sc_is_figures (fun vs H Q E h => by obtain ⟨_, _, rfl, _⟩ := h; rfl) (fun _ _ _ _ _ _ us hl => match us, hl with | [_], _ => rfl) (fun cdv A outer s H vs Q E p hot hr h => ⟨_, PSs.nox (pss_one (ps_ret (pe_and (pe_cmpR op_ne (pv 0) pe_str (nomark _)) (pe_and (pe_callB (cr_allH (hcx hot)) (by rfl) T.f_all (by decide +kernel) (pa_cons (T.signs_FIGURES (hcx hot) (pv 0)) pa_nil)) (pe_one (pe_cmpR op_ne (pe_ix ix_str (pv 0) (pe_un un_neg pe_int) (fun _ _ => rfl)) pe_str (nomark _))))))), ?_⟩)
  obtain ⟨G, l, rfl, sb, h2, h3, q⟩ := h
  obtain ⟨f1, f2, f3⟩ := figs_all h3
  have hl : (S l).length ≤ sizeLine := by rw [S_len]; exact size_of (by omega)
  refine ⟨_, rfl, rfl, _, rfl, ifN (fun _ => ?_) fun e => (ne_empty f1 e).elim⟩
  refine ⟨_, rfl, _, rfl, hl, fun D hD => ⟨D, List.replicate l.length true, rfl, SqL.of (by rw [upd_same, all_signs fun c hc => figures_in (f2 c hc)]), ?_⟩⟩
  rw [all_true]
  have gr := (GR.refl (K := K) (S := S0) sb).newM hD (o := .lst ((S l).cps.toList.map fun c => .bl (decide (c ∈ ("0123456789" : Str).cps.toList))))
  refine ⟨_, rfl, iteT ?_⟩
  cases e : l.getLast? with
  | none => exact (f1 (List.getLast?_eq_none_iff.mp e)).elim
  | some c =>
    refine ⟨_, rfl, _, rfl, _, _, c, rfl, rfl, hl, last_at e, rfl, ?_⟩
    exact qN (ne_zero fun z => f3 (by rw [e, z])) (q _ gr)
theorem kn_is_pointsH (T : Tx K mg base) : KnH P w K mg base 3 "is_points" ["thing"] (spPoints K) [] := by
  refine kn_ofH "is_points" T 8 19 S_is_points rfl rfl sc_is_points (fun vs H Q E h => by obtain ⟨_, _, rfl, _⟩ := h; rfl) (fun _ _ _ _ _ _ us hl => match us, hl with | [_], _ => rfl) (fun cdv A outer s H vs Q E p hot hr h => ⟨_, PSs.nox (pss_one (ps_ret (pe_and (pe_callB call_isi (by rfl) T.f_isinstance (by decide +kernel) (pa_cons (pv 0) (pa_cons (pe_bltn (v := .ty "str") (by rfl) T.f_str (by decide +kernel) rfl) pa_nil))) (pe_one (pe_or (pe_cmpR op_eq (pv 0) pe_str (nomark _)) (pe_one (pe_fnH (kn_is_figuresH T) (hr.mono (by decide)) (hcx hot) (pa_cons (pv 0) pa_nil)))))))), ?_⟩)
  obtain ⟨G, l, rfl, sb, h2, h3, q⟩ := h
  refine ⟨_, rfl, _, _, _, _, _, rfl, .ty _, .base (.str _), k_ss, _, rfl, iteT ?_⟩
  refine ⟨_, rfl, rfl, _, rfl, ?_⟩
  rcases h3 with rfl | h3
  · refine ifT (by rw [strE]) ?_
    exact q _ (GR.refl sb)
  · refine ifF (ne_empty (figs_all h3).1) ?_
    exact ⟨_, rfl, G, l, rfl, sb, h2, h3, q⟩
theorem kn_is_makerH (T : Tx K mg base) : KnH P w K mg base 3 "is_maker" ["thing"] (spMaker K) [] := by
  refine kn_ofH "is_maker" T 9 20 S_is_maker rfl rfl sc_is_maker (fun vs H Q E h => by obtain ⟨_, _, rfl, _⟩ := h; rfl) (fun _ _ _ _ _ _ us hl => match us, hl with | [_], _ => rfl) (fun cdv A outer s H vs Q E p hot hr h => ⟨_, PSs.nox (pss_cons (ps_if (PW.pt (pw_or (pt_not (pt_val (pe_callB call_isi (by rfl) T.f_isinstance (by decide +kernel) (pa_cons (pv 0) (pa_cons (pe_bltn (v := .ty "str") (by rfl) T.f_str (by decide +kernel) rfl) pa_nil))))) (pw_or1 (pt_cmpR op_eq (pv 0) pe_str (nomark _))))) (pss_one (ps_ret pe_bl)) pss_nil)
    (pss_one (ps_ret (pe_and (pe_cmpR op_in_sign (pe_ix ix_str (pv 0) pe_int (fun _ _ => rfl)) (T.gs_LETTERS) (by with_unfolding_all rfl)) (pe_one (pe_fnH (kn_is_figuresH T) (hr.mono (by decide)) (hcx hot) (pa_cons (pe_slice sl_str (pv 0) (po_some pe_int) po_none) pa_nil))))))), ?_⟩)
  obtain ⟨G, l, rfl, sb, h2, h3, q⟩ := h
  obtain ⟨a, r, rfl, ha, hr'⟩ := mkr_cons h3
  have hl : (S (a :: r)).length ≤ sizeLine := by rw [S_len]; exact size_of (by omega)
  refine ⟨_, rfl, _, _, _, _, _, rfl, .ty _, .base (.str _), k_ss, _, rfl, iteF ?_⟩
  refine ⟨_, rfl, rfl, _, rfl, ifF (ne_empty (by simp)) ?_⟩
  refine ⟨_, rfl, _, _, a, rfl, rfl, hl, atI_nat (j := 0) rfl, _, _, rfl, rfl, _, rfl, ifT (letters_in ha) ?_⟩
  refine ⟨_, rfl, _, rfl, _, rfl, hl, ?_⟩
  refine ⟨G, r, ?_, sb, by simp at h2; omega, hr', q⟩
  rw [sl_tail]; rfl
theorem kn_is_lettersH (T : Tx K mg base) : KnH P w K mg base 3 "is_letters" ["thing"] (spLetters K) [] := by
  refine kn_ofH "is_letters" T 10 21 S_is_letters rfl rfl sc_is_letters (fun vs H Q E h => by obtain ⟨_, _, rfl, _⟩ := h; rfl) (fun _ _ _ _ _ _ us hl => match us, hl with | [_], _ => rfl) (fun cdv A outer s H vs Q E p hot hr h => ⟨_, PSs.nox (pss_one (ps_ret (pe_and (pe_fnH (kn_is_nameH T) (hr.mono (by decide)) (hcx hot) (pa_cons (pv 0) pa_nil)) (pe_one (pe_cmpR op_le (pe_callB call_len_str (by rfl) T.f_len (by decide +kernel) (pa_cons (pv 0) pa_nil)) pe_int (nomark _)))))), ?_⟩)
  obtain ⟨G, l, rfl, sb, h1, h2, h3, q⟩ := h
  have hl : (S l).length ≤ sizeLine := by rw [S_len]; exact size_of (by omega)
  refine ⟨_, rfl, G, l, rfl, sb, h1, by omega, h3, fun H' gr => ?_⟩
  refine ⟨_, rfl, iteT ?_⟩
  refine ⟨_, rfl, _, rfl, hl, _, _, rfl, rfl, ?_⟩
  exact qT (by rw [S_len]; omega) (q _ gr)
theorem kn_need_yearH (T : Tx K mg base) : KnH P w K mg base 3 "need_year" ["year"] spYear [] := by
  refine kn_ofH "need_year" T 11 22 S_need_year rfl rfl sc_need_year (fun vs H Q E h => by obtain ⟨_, rfl, _⟩ := h; rfl) (fun _ _ _ _ _ _ us hl => match us, hl with | [_], _ => rfl) (fun cdv A outer s H vs Q E p hot hr h => ⟨_, PSs.nox (pss_one (ps_if (PW.pt (pw_and (pt_cmpR op_notN (pv 0) pe_non (nomark _)) (pw_and1 (pt_not (pt_val (pe_fnH (kn_is_wholeH T).1 (hr.mono (by decide)) (hcx hot) (pa_cons (pv 0) (pa_cons (T.gi_FIRST_YEAR) (pa_cons (T.gi_LAST_YEAR) pa_nil))))))))) (pss_one ps_never) pss_nil)), ?_⟩)
  obtain ⟨y, rfl, h, q⟩ := h
  refine ⟨_, rfl, rfl, _, rfl, ?_⟩
  cases y with
  | none => exact q
  | some n =>
    have := h n rfl
    refine ifN (fun _ => ?_) fun e => nomatch e
    refine ⟨_, rfl, _, _, _, rfl, by omega, .inr ⟨_, rfl, by omega⟩, _, rfl, iteF q⟩
theorem kn_need_copyH (T : Tx K mg base) : KnH P w K mg base 3 "need_copy" ["copy"] spCopy [] := by
  refine kn_ofH "need_copy" T 12 23 S_need_copy rfl rfl sc_need_copy (fun vs H Q E h => by obtain ⟨_, rfl, _⟩ := h; rfl) (fun _ _ _ _ _ _ us hl => match us, hl with | [_], _ => rfl) (fun cdv A outer s H vs Q E p hot hr h => ⟨_, PSs.nox (pss_one (ps_if (PW.pt (pw_and (pt_cmpR op_notN (pv 0) pe_non (nomark _)) (pw_and1 (pt_not (pt_val (pe_fnH (kn_is_wholeH T).2 (hr.mono (by decide)) (hcx hot) (pa_cons (pv 0) (pa_cons pe_int pa_nil)))))))) (pss_one ps_never) pss_nil)), ?_⟩)
  obtain ⟨y, rfl, h, q⟩ := h
  refine ⟨_, rfl, rfl, _, rfl, ?_⟩
  cases y with
  | none => exact q
  | some n =>
    have := h n rfl
    refine ifN (fun _ => ?_) fun e => nomatch e
    refine ⟨_, rfl, _, _, _, rfl, by omega, .inl rfl, _, rfl, iteF q⟩
theorem kn_makers_inH (T : Tx K mg base) : KnH P w K mg base 4 "makers_in" ["makers"] (spMakers K) [] := by
  refine kn_ofH "makers_in" T 13 24 S_makers_in rfl rfl sc_makers_in (fun vs H Q E h => by obtain ⟨_, _, _, rfl, _⟩ := h; rfl) (fun _ _ _ _ _ _ us hl => match us, hl with | [_], _ => rfl) (fun cdv A outer s H vs Q E p hot hr h => ⟨_, PSs.nox (pss_cons (ps_if (pt_cmpR op_isN (pv 0) pe_non (nomark _)) (pss_one (ps_ret (pe_tup pa_nil))) pss_nil)
    (pss_cons (ps_if (PW.pt (pw_or (pt_not (pt_val (pe_callB call_isiT (by rfl) T.f_isinstance (by decide +kernel) (pa_cons (pv 0) (pa_cons (pe_tup (pa_cons (pe_bltn (v := .ty "list") (by rfl) T.f_list (by decide +kernel) rfl) (pa_cons (pe_bltn (v := .ty "tuple") (by rfl) T.f_tuple (by decide +kernel) rfl) pa_nil))) pa_nil))))) (pw_or1 (pt_cmpR op_gt (pe_callB call_len_seq (by rfl) T.f_len (by decide +kernel) (pa_cons (pv 0) pa_nil)) (T.gi_MOST_MAKERS) (nomark _))))) (pss_one ps_never) pss_nil)
    (pss_cons (ps_forH PassesOwn.never (hcx hot) (pi_seqH (pv 0)) (pg_name (i := 1) sc_makers_in.nd rfl (Or.inl rfl)) (pss_one (ps_if (pt_not (pt_val (pe_fnH (kn_is_makerH T) (hr.mono (by decide)) (hcx hot) (pa_cons (pv 1) pa_nil)))) (pss_one ps_never) pss_nil)))
    (pss_one (ps_ret (pe_callTy call_tuple_of (by rfl) T.f_tuple (by decide +kernel) (pa_cons (pv 0) pa_nil))))))), ?_⟩)
  obtain ⟨G, a, ms, rfl, sb, h1, h3, hm, q⟩ := h
  have hz : (msV ms).length = ms.length := by simp [msV]
  refine ⟨_, rfl, rfl, _, rfl, ifF (by intro e; cases e) ?_⟩
  refine ⟨_, rfl, size_of (by decide), fun p hp => ?_⟩
  have g1 := (GR.refl (K := K) (S := S0) sb).newM hp (o := .tup [.ty "list", .ty "tuple"])
  have h2 : ∀ b o, H b = some o → upd H p (.tup [.ty "list", .ty "tuple"]) b = some o := fun b o e => by rw [upd_ne (ne_of_none e hp)]; exact e
  have turn : ∀ (i : Nat) (x : V) (H' : Hp), (msV ms)[i]? = some x → GR K S0 G H G H' → ∃ k, k ∈ ms ∧ x = sV k := by
    intro i x H' hx _
    obtain ⟨k, hk, rfl⟩ := List.mem_map.mp (List.mem_of_getElem? hx)
    exact ⟨k, hk, rfl⟩
  have body : ∀ (i : Nat) (x : V) (σ : L2.St) (H' : Hp) (D : Ends), (msV ms)[i]? = some x → (∃ v, σ = [some (.ref a), v]) ∧ GR K S0 G H G H' →
      (∀ σ2 H2, (∃ v, σ2 = [some (.ref a), v]) ∧ GR K S0 G H G H2 → D.nx σ2 H2) →
      gName 1 x σ H' fun σ2 H2 => tIfS (tNot (tB (tCall (spMaker K) [] E0 (tCons (tVar 1) tNil)))) tNever tNext D σ2 H2 := by
    rintro i x σ H' D hx ⟨⟨v, rfl⟩, gr⟩ k
    obtain ⟨l, hl, rfl⟩ := turn i x H' hx gr
    refine ⟨_, rfl, G, l, rfl, gr.sb, (hm l hl).2, (hm l hl).1, fun H2 g2 => ?_⟩
    exact ⟨_, rfl, iteF (k _ _ ⟨⟨_, rfl⟩, gr.trans g2⟩)⟩
  rcases h1 with h1 | h1
  · refine ⟨_, p, [.ty "list", .ty "tuple"], .type "list", [.type "list", .type "tuple"], true, rfl, upd_same, .cons (.ty _) (.cons (.ty _) .nil), .base (.lst (h2 _ _ h1)), kitAny_cons k_ll (fun z => nomatch z) (fun _ => rfl), _, rfl, iteF ?_⟩
    refine ⟨_, rfl, _, _, rfl, .inl (SqL.of (h2 _ _ h1)), _, _, rfl, rfl, _, rfl, ifF (by rw [hz]; omega) ?_⟩
    refine .inl ⟨_, rfl, a, rfl, ⟨_, SqL.of (h2 _ _ h1)⟩, for_list (K := K) (a := a) (xs := msV ms) (fun i σ H' => (∃ v, σ = [some (.ref a), v]) ∧ GR K S0 G H G H') ⟨⟨_, rfl⟩, g1⟩ (fun i σ H' _ z => SqL.of (z.2.hh _ _ id h1 (fun ps z => nomatch z)))
      (fun i x σ H' hx z => body i x σ H' _ hx z fun _ _ z => z) fun σ H' ⟨⟨v, e⟩, gr⟩ => ?_⟩
    subst e
    refine ⟨_, rfl, a, _, rfl, .inl ⟨SqL.of (gr.hh _ _ id h1 (fun ps z => nomatch z)), fun t ht => ?_⟩⟩
    exact q _ _ t (gr.new ht trivial) upd_same
  · have h1' := (sb _ _ h1).1
    refine ⟨_, p, [.ty "list", .ty "tuple"], .type "tuple", [.type "list", .type "tuple"], true, rfl, upd_same, .cons (.ty _) (.cons (.ty _) .nil), .base (.tup (h2 _ _ h1')), kitAny_cons k_tl (fun _ => kitAny_cons k_tt (fun z => nomatch z) (fun _ => rfl)) (fun z => nomatch z), _, rfl, iteF ?_⟩
    refine ⟨_, rfl, _, _, rfl, .inr (SqT.of (h2 _ _ h1')), _, _, rfl, rfl, _, rfl, ifF (by rw [hz]; omega) ?_⟩
    refine .inr ⟨_, rfl, a, rfl, ⟨_, SqT.of (h2 _ _ h1')⟩, for_tup (K := K) (a := a) (xs := msV ms) (fun i σ H' => (∃ v, σ = [some (.ref a), v]) ∧ GR K S0 G H G H') ⟨⟨_, rfl⟩, g1⟩ (fun i σ H' _ z => SqT.of (z.2.hh _ _ id h1' (fun ps z => nomatch z)))
      (fun i x σ H' hx z => body i x σ H' _ hx z fun _ _ z => z) fun σ H' ⟨⟨v, e⟩, gr⟩ => ?_⟩
    subst e
    refine ⟨_, rfl, a, _, rfl, .inr ⟨SqT.of (gr.hh _ _ id h1' (fun ps z => nomatch z)), ?_⟩⟩
    exact q _ _ a gr h1
theorem kn_figures_ofH (T : Tx K mg base) : KnH P w K mg base 2 "figures_of" ["number"] (spFigOf K) [] := by
  refine kn_ofH "figures_of" T 5 16 S_figures_of rfl rfl sc_figures_of (fun vs H Q E h => by obtain ⟨_, _, rfl, _⟩ := h; rfl) (fun _ _ _ _ _ _ us hl => match us, hl with | [_], _ => rfl) (fun cdv A outer s H vs Q E p hot hr h => ⟨_, PSs.nox (pss_cons (ps_set (i := 1) sc_figures_of.nd rfl (Or.inl rfl) (pe_lst pa_nil))
    (pss_cons (ps_while PassesOwn.never (pt_cmpR op_ge (pv 0) (pe_op op_pow pe_int pe_int) (nomark _)) pss_never)
    (pss_cons (ps_expr (pe_bm PySem.F.plainAttrs_list PySem.F.slot_list_append PySem.F.type_list_append mt_append (pv 1) (pa_cons (pe_callTy call_str_int (by rfl) T.f_str (by decide +kernel) (pa_cons (pv 0) pa_nil)) pa_nil)))
    (pss_one (ps_ret (pe_bm PySem.F.plainAttrs_str PySem.F.slot_str_join PySem.F.type_str_join mt_join pe_str (pa_cons (pe_revL (pv 1)) pa_nil))))))), ?_⟩)
  obtain ⟨G, n, rfl, sb, hn, q⟩ := h
  refine ⟨size_of (by decide), fun p hp => ?_⟩
  have g1 := (GR.refl (K := K) (S := S0) sb).newM hp (o := .lst [])
  refine ⟨fun _ σ' H' => σ' = [some (.int (n : Int)), some (.ref p), none] ∧ H' = upd H p (.lst []), ⟨0, rfl, rfl⟩, ?_⟩
  rintro m σ' H' ⟨rfl, rfl⟩
  refine ⟨_, rfl, _, _, rfl, rfl, ⟨by decide, by decide, by decide⟩, _, _, rfl, rfl, _, rfl, ifF (big60 hn) ?_⟩
  refine ⟨_, rfl, .inl ⟨rfl, _, SqL.of upd_same⟩, ?_⟩
  refine ⟨_, rfl, _, rfl, log_small hn, ?_⟩
  refine ⟨p, [], _, rfl, rfl, upd_same, size_of (by decide), ?_⟩
  have g2 := g1.wr (.inr hp) (sb.no hp) (o' := .lst [.str (toString ((n : Nat) : Int))]) upd_same trivial
  refine ⟨rfl, _, rfl, p, _, rfl, SqL.of upd_same, fun t ht => ?_⟩
  have g3 := g2.newM ht (o := .lst [.str (toString ((n : Nat) : Int))])
  refine ⟨_, t, [Str.ofString (toString ((n : Nat) : Int))], rfl, rfl, .inl (SqL.of upd_same), ?_, ?_⟩
  · rw [str_num]
    have := numL_5 hn
    simp only [List.map_cons, List.map_nil, List.sum_cons, List.sum_nil, List.length_cons, List.length_nil, S_len]
    have : ("" : Str).length = 0 := by decide +kernel
    omega
  · exact qV (by rw [join_one, str_num]; rfl) (q _ g3)
theorem kn_Mark_text_ofH (T : Tx K mg base) : KmH P w K mg base 3 "Mark" "text_of" ["self"] (spTextOf K) := by
  refine km_ofH "Mark" "text_of" T 15 112 97 S_Mark_text_of rfl rfl rfl sc_Mark_text_of (fun vs H Q E h => by obtain ⟨_, _, _, _, _, rfl, _⟩ := h; rfl) (fun _ _ _ _ _ _ us hl => match us, hl with | [_], _ => rfl) (fun cdv A outer s H vs Q E p hot hr h => ⟨_, PSs.nox (pss_cons (ps_set (i := 1) sc_Mark_text_of.nd rfl (Or.inl rfl) (pe_lst (pa_cons (pe_joined (.cons (pe_fmt (pe_fld (pv 0) rfl)) (.cons (pe_fmt (pe_fld (pv 0) rfl)) .nil))) pa_nil)))
    (Evl.pss_cut (ps_if (pt_cmpR op_ne (pe_fld (pv 0) rfl) pe_str (nomark _)) (pss_one (ps_augS (pv 1) pe_int get_list (pe_op op_add_str pe_str (pe_fld (pv 0) rfl)) in_addS set_list)) pss_nil)
    (pss_cons (ps_expr (pe_bm PySem.F.plainAttrs_list PySem.F.slot_list_extend PySem.F.type_list_extend mt_extendA (pv 1) (pa_cons (pe_fld (pv 0) rfl) pa_nil)))
    (Evl.pss_cut (ps_if (pt_cmpR op_notN (pe_fld (pv 0) rfl) pe_non (nomark _)) (pss_one (ps_expr (pe_bm PySem.F.plainAttrs_list PySem.F.slot_list_append PySem.F.type_list_append mt_append (pv 1) (pa_cons (pe_callTy call_str_int (by rfl) T.f_str (by decide +kernel) (pa_cons (pe_fld (pv 0) rfl) pa_nil)) pa_nil)))) pss_nil)
    (Evl.pss_cut (ps_if (pt_cmpR op_notN (pe_fld (pv 0) rfl) pe_non (nomark _)) (pss_one (ps_expr (pe_bm PySem.F.plainAttrs_list PySem.F.slot_list_append PySem.F.type_list_append mt_append (pv 1) (pa_cons (pe_op op_add_str pe_str (pe_fnH (kn_figures_ofH T) (hr.mono (by decide)) (hcx hot) (pa_cons (pe_fld (pv 0) rfl) pa_nil))) pa_nil)))) pss_nil)
    (pss_one (ps_ret (pe_bm PySem.F.plainAttrs_str PySem.F.slot_str_join PySem.F.type_str_join mt_join pe_str (pa_cons (pv 1) pa_nil))))))))), ?_⟩)
  obtain ⟨G, a, dx, t, m, rfl, sb, ok, ha, ht, q⟩ := h
  have hl : (S m.l).length ≤ 3 := by rw [S_len]; exact ok.l3
  have hnn := numL_5 (n := m.n) (by have := ok.n9; omega)
  have hnl : (Str.ofString (toString ((m.n : Nat) : Int))).length ≤ 5 := by rw [str_num, S_len]; exact hnn
  have e0 : Str.empty ++ S m.l ++ Str.ofString (toString ((m.n : Nat) : Int)) = S (m.l ++ numL m.n) := by
    rw [str_num, show Str.empty = S [] from rfl, S_app, S_app]
    rfl
  have z0 : (Str.empty ++ S m.l).length ≤ sizeLine := by
    rw [show Str.empty = S [] from rfl, S_app, S_len]
    have := ok.l3
    exact size_of (by simp; omega)
  have z1 : (Str.empty ++ S m.l ++ Str.ofString (toString ((m.n : Nat) : Int))).length ≤ sizeLine := by
    rw [e0, S_len]
    have := ok.l3
    exact size_of (by simp; omega)
  refine ⟨_, rfl, a, _, _, _, _, rfl, ha, T.cM, T.nM_letters, rfl, .inl ⟨_, rfl, size_of (by omega), _, rfl, z0, ?_⟩⟩
  refine ⟨_, rfl, a, _, _, _, _, rfl, ha, T.cM, T.nM_number, rfl, .inr ⟨_, rfl, log_small (by have := ok.n9; omega), _, rfl, z1, ?_⟩⟩
  rw [e0]
  refine ⟨size_of (n := 1) (by decide), fun p hp => ?_⟩
  have g1 := (GR.refl (K := K) (S := S0) sb).newM hp (o := .lst [sV (m.l ++ numL m.n)])
  have pa : a ≠ p := ne_of_none ha hp
  have gp := sb.no hp
  have ha1 : upd H p (.lst [sV (m.l ++ numL m.n)]) a = some (.ins (He.ga K "Mark") dx (flds6 t m)) := by rw [upd_ne pa]; exact ha
  have hp1 : (V.str (S (m.l ++ numL m.n))) = sV (m.l ++ numL m.n) := rfl
  -- the points
  refine ⟨fun σ' H' => σ' = [some (.ref a), some (.ref p)] ∧ GR K S0 G H G H' ∧ H' p = some (.lst [sV (headW m)]), ?_, ?_⟩
  · refine ⟨_, rfl, a, _, _, _, _, rfl, ha1, T.cM, T.nM_points, rfl, rfl, _, rfl, ?_⟩
    by_cases pe : m.p = []
    · refine ifN (fun z => (z (by rw [pe, strE]; rfl)).elim) fun _ => ?_
      refine ⟨rfl, g1, ?_⟩
      rw [upd_same]
      simp [headW, pts, pe]
      rfl
    · refine ifN (fun _ => ?_) fun z => (ne_empty pe z).elim
      have pz := ok.pz
      have z3 : (S (m.l ++ numL m.n)).length + (("." : Str) ++ S m.p).length ≤ sizeLine ∧ S (m.l ++ numL m.n) ++ (("." : Str) ++ S m.p) = S (headW m) := by
        have e : S (m.l ++ numL m.n) ++ (("." : Str) ++ S m.p) = S (headW m) := by
          rw [show ("." : Str) = S [46] by decide +kernel, S_app, S_app]
          simp [headW, pts, pe]
        refine ⟨?_, e⟩
        rw [show ("." : Str) = S [46] by decide +kernel, S_app, S_len, S_len]
        have := ok.l3
        exact size_of (by simp; omega)
      refine ⟨_, rfl, p, _, 0, _, rfl, rfl, SqL.of upd_same, rfl, _, rfl, a, _, _, _, _, rfl, ha1, T.cM, T.nM_points, rfl, _, _, rfl, rfl, ?_, _, _, rfl, rfl, z3.1, p, _, 0, 0, rfl, rfl, upd_same, rfl, ?_⟩
      · rw [show ("." : Str) = S [46] by decide +kernel, S_len, S_len]
        exact size_of (by simp; omega)
      · refine ⟨rfl, g1.wr (.inr hp) gp upd_same trivial, ?_⟩
        rw [upd_same, z3.2]
        rfl
  rintro σ' H2 ⟨rfl, g2, h2⟩
  have ha2 := g2.keep ha trivial id
  have ht2 := (g2.sb _ _ (g2.gg _ _ ht)).1
  have mz : (msV m.ms).length = m.ms.length := by simp [msV]
  have m3 := ok.m3
  -- the makers
  refine ⟨_, rfl, .inl ⟨rfl, _, SqL.of h2⟩, _, rfl, a, _, _, _, _, rfl, ha2, T.cM, T.nM_makers, rfl, p, t, _, _, rfl, rfl, h2, SqT.of ht2, ?_, ?_⟩
  · rw [mz]
    exact size_of (by simp; omega)
  have g3 := g2.wr (.inr hp) gp h2 (o' := .lst ([sV (headW m)] ++ msV m.ms)) trivial
  have ha3 := g3.keep ha trivial id
  -- the year
  refine ⟨fun σ' H' => σ' = [some (.ref a), some (.ref p)] ∧ GR K S0 G H G H' ∧ H' p = some (.lst ((headW m :: (m.ms ++ wordsY m.y)).map sV)), ?_, ?_⟩
  · refine ⟨_, rfl, a, _, _, _, _, rfl, ha3, T.cM, T.nM_year, rfl, rfl, _, rfl, ?_⟩
    cases ey : m.y with
    | none =>
      refine ⟨rfl, g3, ?_⟩
      rw [upd_same]
      simp [msV, wordsY]
    | some y =>
      have yr := ok.yr y ey
      refine ifN (fun _ => ?_) fun z => nomatch z
      refine ⟨_, rfl, .inl ⟨rfl, _, SqL.of upd_same⟩, _, rfl, a, _, _, _, _, rfl, ha3, T.cM, T.nM_year, rfl, y, ?_, log_small (by omega), p, _, _, rfl, rfl, upd_same, ?_, ?_⟩
      · rw [ey]; rfl
      · simp only [List.length_append, List.length_cons, List.length_nil, mz]
        exact Nat.lt_of_lt_of_le (by omega : _ < 100) (size_of (by decide))
      · refine ⟨rfl, g3.wr (.inr hp) gp upd_same trivial, ?_⟩
        rw [upd_same, str_num]
        simp [msV, wordsY, sV]
  rintro σ' H4 ⟨rfl, g4, h4⟩
  have ha4 := g4.keep ha trivial id
  have yl : (wordsY m.y).length ≤ 1 := by cases m.y <;> simp [wordsY]
  -- the copy
  refine ⟨fun σ' H' => σ' = [some (.ref a), some (.ref p)] ∧ GR K S0 G H G H' ∧ H' p = some (.lst ((headW m :: wordsOf m).map sV)), ?_, ?_⟩
  · refine ⟨_, rfl, a, _, _, _, _, rfl, ha4, T.cM, T.nM_copy, rfl, rfl, _, rfl, ?_⟩
    cases ec : m.c with
    | none =>
      refine ⟨rfl, g4, ?_⟩
      rw [h4]
      simp [wordsOf, wordsC, ec]
    | some c =>
      have cp := ok.cp c ec
      refine ifN (fun _ => ?_) fun z => nomatch z
      refine ⟨_, rfl, .inl ⟨rfl, _, SqL.of h4⟩, _, rfl, a, _, _, _, _, rfl, ha4, T.cM, T.nM_copy, rfl, G, c, ?_, g4.sb, by omega, fun H5 g5 => ?_⟩
      · rw [ec]; rfl
      have h5 := g5.keep h4 trivial id
      refine ⟨_, _, rfl, rfl, ?_, p, _, _, rfl, rfl, h5, ?_, ?_⟩
      · have := numL_5 (n := c) (by omega)
        rw [show ("c." : Str) = S [99, 46] by decide +kernel, S_len]
        show _ + (S _).length ≤ _
        rw [S_len]
        exact size_of (by simp; omega)
      · simp only [List.length_map, List.length_cons, List.length_append]
        exact Nat.lt_of_lt_of_le (by omega : _ < 100) (size_of (by decide))
      · refine ⟨rfl, (g4.trans g5).wr (.inr hp) gp h5 trivial, ?_⟩
        rw [upd_same, show ("c." : Str) = S [99, 46] by decide +kernel, S_app]
        simp [wordsOf, wordsC, ec, sV]
  rintro σ' H6 ⟨rfl, g6, h6⟩
  refine ⟨rfl, _, rfl, _, p, (headW m :: wordsOf m).map S, rfl, rfl, .inl (SqL.of ?_), ?_, ?_⟩
  · rw [h6, List.map_map]
    rfl
  · have wl := words_few m ok
    have hw : ∀ x ∈ ((headW m :: wordsOf m).map S).map (·.length), x ≤ 2000 := by
      intro x hx
      simp only [List.map_map, List.mem_map, Function.comp] at hx
      obtain ⟨l, hl, rfl⟩ := hx
      rw [S_len]
      rcases List.mem_cons.mp hl with rfl | hl
      · have := head_short m ok; omega
      · have := word_short m ok l hl; omega
    have := sum_le hw
    have e1 : (" " : Str).length = 1 := by decide +kernel
    rw [e1]
    simp only [List.length_map, List.length_cons] at this ⊢
    have : ((wordsOf m).length + 1) * 2000 ≤ 12000 := by omega
    omega
  · exact qV (by rw [join_words, text_words]; rfl) (q _ g6)
theorem kn_Mark_initH (T : Tx K mg base) : ∃ fd, FunD K "__init__" "Mark.__init__" (defArgs S_Mark_init) (defBody S_Mark_init) (defScope S_Mark_init) (([.str "", .non, .non, .non] : List He.Dv).map (He.Dv.v K)) [] (He.ma K (He.ga K "Mark") "__init__") fd ∧ FnH P w K mg base CX0 5 (He.ma K (He.ga K "Mark") "__init__") fd ["self", "letters", "number", "points", "makers", "year", "copy"] (spInit K) := by
  refine init_ofH "Mark" T 14 S_Mark_init [.str "", .non, .non, .non] rfl sc_Mark_init (fun vs H Q E h => by obtain ⟨_, _, _, _, _, rfl, _⟩ := h; rfl) (fun cdv A outer s H vs Q E p hot hr h => ⟨_, PSs.nox (pss_cons (ps_if (pt_not (pt_val (pe_fnH (kn_is_lettersH T) (hr.mono (by decide)) (hcx hot) (pa_cons (pv 1) pa_nil)))) (pss_one ps_never) pss_nil)
    (pss_cons (ps_if (pt_not (pt_val (pe_fnH (kn_is_wholeH T).1 (hr.mono (by decide)) (hcx hot) (pa_cons (pv 2) (pa_cons pe_int (pa_cons (T.gi_GREATEST) pa_nil)))))) (pss_one ps_never) pss_nil)
    (pss_cons (ps_if (pt_not (pt_val (pe_fnH (kn_is_pointsH T) (hr.mono (by decide)) (hcx hot) (pa_cons (pv 3) pa_nil)))) (pss_one ps_never) pss_nil)
    (pss_cons (ps_fld (pv 0) (pe_fnH (kn_makers_inH T) (hr.mono (by decide)) (hcx hot) (pa_cons (pv 4) pa_nil)) rfl)
    (pss_cons (ps_expr (pe_fnH (kn_need_yearH T) (hr.mono (by decide)) (hcx hot) (pa_cons (pv 5) pa_nil)))
    (pss_cons (ps_expr (pe_fnH (kn_need_copyH T) (hr.mono (by decide)) (hcx hot) (pa_cons (pv 6) pa_nil)))
    (pss_cons (ps_fld (pv 0) (pv 1) rfl)
    (pss_cons (ps_fld (pv 0) (pv 2) rfl)
    (pss_cons (ps_fld (pv 0) (pv 3) rfl)
    (pss_cons (ps_fld (pv 0) (pv 5) rfl)
    (pss_cons (ps_fld (pv 0) (pv 6) rfl)
    (pss_one (ps_fld (pv 0) (pe_km0H (kn_Mark_text_ofH T) (hr.mono (by decide)) (hcx hot) (pv 0)) rfl))))))))))))), ?_⟩)
  obtain ⟨G, x, dx, a, m, rfl, sb, ok, hx, gx, ha, q⟩ := h
  have g0 := GR.refl (K := K) (S := S1 x) sb
  have n9 := ok.n9
  have n1 := ok.n1
  refine ⟨_, rfl, G, m.l, rfl, sb, ok.l1, ok.l3, ok.la, fun H1 g1 => ⟨_, rfl, iteF ?_⟩⟩
  refine ⟨_, rfl, _, _, _, rfl, by omega, .inr ⟨_, rfl, by omega⟩, _, rfl, iteF ?_⟩
  refine ⟨_, rfl, G, m.p, rfl, g1.sb, ok.pz, ok.pt, fun H2 g2 => ⟨_, rfl, iteF ?_⟩⟩
  have g12 := g1.trans g2
  refine ⟨_, rfl, G, a, m.ms, rfl, g2.sb, ha.imp (fun z => g12.keep z trivial id) id, ok.m3, fun k hk => ⟨ok.mo k hk, ok.mz k hk⟩, fun G3 H3 t g3 ht => ?_⟩
  have g13 := g12.trans g3
  have h3 := g13.keep hx trivial id
  have gx3 := g13.nofrz hx gx
  have gg := g0.call0 g13
  have z10 : ∀ {n : Nat}, n ≤ 10 → n < 1000 := fun h => by omega
  have p2 : putF "kept_letters" (sV m.l) [("kept_makers", .ref t)] = ([("kept_makers", .ref t), ("kept_letters", sV m.l)] : List (Str × V)) := rfl
  have p3 : putF "kept_number" (.int m.n) [("kept_makers", .ref t), ("kept_letters", sV m.l)] = ([("kept_makers", .ref t), ("kept_letters", sV m.l), ("kept_number", .int m.n)] : List (Str × V)) := rfl
  have p4 : putF "kept_points" (sV m.p) [("kept_makers", .ref t), ("kept_letters", sV m.l), ("kept_number", .int m.n)] = ([("kept_makers", .ref t), ("kept_letters", sV m.l), ("kept_number", .int m.n), ("kept_points", sV m.p)] : List (Str × V)) := rfl
  have p5 : putF "kept_year" (oV m.y) [("kept_makers", .ref t), ("kept_letters", sV m.l), ("kept_number", .int m.n), ("kept_points", sV m.p)] = ([("kept_makers", .ref t), ("kept_letters", sV m.l), ("kept_number", .int m.n), ("kept_points", sV m.p), ("kept_year", oV m.y)] : List (Str × V)) := rfl
  have p6 : putF "kept_copy" (oV m.c) [("kept_makers", .ref t), ("kept_letters", sV m.l), ("kept_number", .int m.n), ("kept_points", sV m.p), ("kept_year", oV m.y)] = flds6 t m := rfl
  have p7 : putF "kept_text" (sV (text m)) (flds6 t m) = flds t m := rfl
  refine ⟨_, rfl, x, _, dx, _, rfl, h3, T.cM, T.nM_makers, z10 (Nat.zero_le _), ?_⟩
  have w1 := gg.wr (.inl rfl) gx3 h3 (o' := .ins (He.ga K "Mark") dx [("kept_makers", .ref t)]) trivial
  refine ⟨_, rfl, _, rfl, ok.yr, ?_⟩
  refine ⟨_, rfl, _, rfl, fun n e => (ok.cp n e).1, ?_⟩
  refine ⟨_, rfl, _, rfl, x, _, dx, [("kept_makers", .ref t)], rfl, upd_same, T.cM, T.nM_letters, z10 (Nat.le_of_ble_eq_true rfl), ?_⟩
  rw [p2, upd_upd]
  refine ⟨_, rfl, _, rfl, x, _, dx, _, rfl, upd_same, T.cM, T.nM_number, z10 (Nat.le_of_ble_eq_true rfl), ?_⟩
  rw [p3, upd_upd]
  refine ⟨_, rfl, _, rfl, x, _, dx, _, rfl, upd_same, T.cM, T.nM_points, z10 (Nat.le_of_ble_eq_true rfl), ?_⟩
  rw [p4, upd_upd]
  refine ⟨_, rfl, _, rfl, x, _, dx, _, rfl, upd_same, T.cM, T.nM_year, z10 (Nat.le_of_ble_eq_true rfl), ?_⟩
  rw [p5, upd_upd]
  refine ⟨_, rfl, _, rfl, x, _, dx, _, rfl, upd_same, T.cM, T.nM_copy, z10 (Nat.le_of_ble_eq_true rfl), ?_⟩
  rw [p6, upd_upd]
  have w6 := gg.wr (.inl rfl) gx3 h3 (o' := .ins (He.ga K "Mark") dx (flds6 t m)) trivial
  refine ⟨_, rfl, x, dx, flds6 t m, rfl, ?_, rfl, G3, x, dx, t, m, rfl, ?_, ok, ?_, ht, fun H7 g7 => ?_⟩
  · exact upd_same
  · exact w6.sb
  · exact upd_same
  have h7 := g7.keep (p := x) upd_same trivial id
  refine ⟨_, rfl, x, _, dx, _, rfl, h7, T.cM, T.nM_text, z10 (Nat.le_of_ble_eq_true rfl), ?_⟩
  rw [p7]
  have w7 := w6.call0 g7
  have gx7 := g7.nofrz (p := x) upd_same gx3
  exact q _ _ t (w7.wr (.inl rfl) gx7 h7 trivial) ht upd_same
theorem kn_Mark_eqH (T : Tx K mg base) : KmH P w K mg base 2 "Mark" "__eq__" ["self", "other"] (spMEq K) := by
  refine km_ofH "Mark" "__eq__" T 16 113 97 S_Mark_eq rfl rfl rfl sc_Mark_eq (fun vs H Q E h => by obtain ⟨_, _, _, _, rfl, _⟩ := h; rfl) (fun _ _ _ _ _ _ us hl => match us, hl with | [_, _], _ => rfl) (fun cdv A outer s H vs Q E p hot hr h => ⟨_, PSs.nox (pss_one (ps_ret (pe_and (pe_callB call_isi (by rfl) T.f_isinstance (by decide +kernel) (pa_cons (pv 1) (pa_cons (T.cl_Mark) pa_nil))) (pe_one (pe_cmpR op_eq (pe_fld (pv 0) rfl) (pe_fld (pv 1) rfl) (nomark _)))))), ?_⟩)
  obtain ⟨a, b, m, n, rfl, ⟨dx, t, h1, _⟩, ⟨dy, u, k1, _⟩, q⟩ := h
  have ko : PySem.W.kitOne K (.ref (He.ga K "Mark")) (.ref (He.ga K "Mark")) = some true := by simp [PySem.W.kitOne]
  refine ⟨_, rfl, _, _, _, _, _, rfl, .own _, is_mark T k1, ko, _, rfl, iteT ?_⟩
  refine ⟨_, rfl, a, _, _, _, _, rfl, h1, T.cM, T.nM_text, rfl, _, rfl, b, _, _, _, _, rfl, k1, T.cM, T.nM_text, rfl, rfl, ?_⟩
  refine qV ?_ q
  congr 1
  refine decide_eq_decide.mpr ⟨fun e => ?_, fun e => by rw [e]⟩
  injection e with e
  exact S_inj e
theorem kn__law_markH (T : Tx K mg base) : KnH P w K mg base 7 "_law_mark" ["_law_parts"] (spMarkL K) [] := by
  refine kn_ofH "_law_mark" T 58 46 S__law_mark rfl rfl sc__law_mark (fun vs H Q E h => by obtain ⟨_, _, _, rfl, _⟩ := h; rfl) (fun _ _ _ _ _ _ us hl => match us, hl with | [_], _ => rfl) (fun cdv A outer s H vs Q E p hot hr h => ⟨_, PSs.nox (pss_one (ps_ret (pe_mark4H (kn_Mark_initH T) T (hr.mono (by decide)) (hcx hot) (pa_cons (pe_ix ix_list (pv 0) pe_int (fun _ _ => rfl)) (pa_cons (pe_ix ix_list (pv 0) pe_int (fun _ _ => rfl)) pa_nil)) (pe_ix ix_list (pv 0) pe_int (fun _ _ => rfl)) (pe_callTy call_list_of (by rfl) T.f_list (by decide +kernel) (pa_cons (pe_ix ix_list (pv 0) pe_int (fun _ _ => rfl)) pa_nil)) (pe_ix ix_list (pv 0) pe_int (fun _ _ => rfl)) (pe_ix ix_list (pv 0) pe_int (fun _ _ => rfl))))), ?_⟩)
  obtain ⟨G, v, m, rfl, sb, ⟨a, hl, rfl, ha, hh⟩, ok, q⟩ := h
  have hs := SqL.of (K := K) ha
  refine ⟨_, rfl, _, _, _, _, rfl, rfl, hs, rfl, _, rfl, _, _, _, _, rfl, rfl, hs, rfl, _, rfl, _, _, _, _, rfl, rfl, hs, rfl, _, rfl, _, _, _, _, rfl, rfl, hs, rfl, hl, _, rfl, .inl (SqL.of hh), fun l hl0 => ?_⟩
  have g1 := (GR.refl (K := K) (S := S0) sb).newM hl0 (o := .lst (msV m.ms))
  have hs1 := SqL.of (K := K) (g1.keep ha trivial id)
  refine ⟨_, rfl, _, _, _, _, rfl, rfl, hs1, rfl, _, rfl, _, _, _, _, rfl, rfl, hs1, rfl, rfl, rfl, ?_⟩
  exact make_read (K := K) g1.sb ok (.inl upd_same) fun G' H' u g2 hu => q G' H' u (g1.trans g2) hu
end
end K42
set_option Elab.async false
set_option linter.all false
set_option maxRecDepth 100000
set_option maxHeartbeats 4000000
namespace K42
open PySem PySem.Spec PyProof.Rows L2 HotX L2H K42H
section
variable {X : Cx} {n : Nat} {a : Addr} {oe : Obj} {cls : Value} {d : Option Addr} {pn : List (Addr × Obj)}
theorem suite_hot (hz : L2N.Zn cls d oe) (hf : ∃ vs, oe.data = .fields vs) : HotC (X.suite a ((a, oe) :: pn)) := by
  obtain ⟨vs, e⟩ := hf
  exact ⟨(a, oe), ⟨rfl, vs, e, hz.2.2 vs e⟩, List.mem_cons_self⟩
theorem suite_room (hr : Room n X.A) : RoomH n (X.suite a pn).A := ⟨hr.dp, hr.un⟩
end
section
variable {P : Program} {w : World} {K : PySem.W.Frag} {mg : Str → Option Value} {base : Heap} {X : Cx} {n lvl : Nat} {ps : List Str} {sp : Sp} {x : Str} {p pos : Pos} {e : Expr} {es : List Expr} {t : TA} {dl : List V}
/-- a def called, K told -/
theorem pe_fnHE (c : KnH P w K mg base lvl x ps sp dl) (hr : RoomH lvl X.A) (hc : HotC X) (ha : PA X (e :: es) t) (q : Same X P w K mg base := by exact ⟨rfl, rfl, rfl, rfl, rfl⟩) (hg : Gl X x := by rfl) (hdb : (x == ("__debug__" : Str)) = false := by decide)
    (he : starEach (e :: es) X.env = (false, eval e X.env) :: starEach es X.env := by rfl) (hpl : (backTo pos (starEach es X.env)).any (·.1) = false := by rfl) : PE X (.Call (.Name x p) (e :: es) [] pos) (tCall sp dl E0 t) := by
  obtain ⟨rfl, rfl, rfl, rfl, rfl⟩ := q
  exact pe_fnH c hr hc ha hg hdb he hpl
/-- a mark's == where an exception is handled -/
theorem op_eqMHE (T : Tx K mg base) (hr : RoomH 2 X.A) (hc : HotC X) (q : Same X P w K mg base := by exact ⟨rfl, rfl, rfl, rfl, rfl⟩) : OpR X (compareOp .Eq) (rEqM K) := by
  obtain ⟨rfl, rfl, rfl, rfl, rfl⟩ := q
  rintro pins s σ H x y v u Q I rx ry ⟨a, b, l, m, rfl, rfl, ha, hb, k⟩
  cases rx
  cases ry
  have me := kn_Mark_eqH (P := X.prog) (w := X.w) T
  obtain ⟨fd, F, bd⟩ := me.ok
  obtain ⟨_, _, J⟩ := inst_of I ha
  obtain ⟨_, _, J'⟩ := inst_of I hb
  obtain ⟨mm, hF⟩ := I.fr
  have hu := hr.un
  refine PySem.W.cmp_K (op := .Eq) (tb := .ref (He.ga X.K "Mark")) (by omega) hF I.ok.mod.kin J J'.type (by simp [PySem.W.notFirst]) me.me.at_ me.me.fn ?_
  refine thn (call_runs (us := [.ref a, .ref b]) (vs := [.ref a, .ref b]) (Q := fun v H' => v = .bl (decide (text l = text m)) ∧ H' = H) F hr hc bd .nil I (.cons rfl (.cons rfl .nil)) ⟨a, b, l, m, rfl, ha, hb, rfl, rfl⟩) ?_
  rintro v s' ⟨_, H', I', rv, rfl, rfl⟩
  cases rv
  exact ⟨.bl _, _, I', rfl, k⟩
def spGone (K : PySem.W.Frag) : Sp := fun vs H Q _ => ∃ (G : Hp) (x a : Addr) (ms : List Mk) (u : V) (m : Mk), vs = [.ref x, u] ∧ Sb G H ∧ SAt K G H x a ms ∧ Fit ms ∧ PtIn G u m ∧ Ok m ∧ m ∉ ms ∧ ∀ G' H', GR K S0 G H G' H' → Q (.bl true) H'
abbrev N__law_gone : List Str := ["_law_shorts", "_law_parts", "e"]
theorem sc__law_gone : FnScope N__law_gone ["_law_shorts", "_law_parts"] (defScope S__law_gone) := ⟨rfl, rfl, rfl, by decide +kernel, rfl, by decide +kernel, by decide +kernel⟩
theorem kn__law_gone (T : Tx K mg base) : Kn P w K mg base CX0 12 "_law_gone" ["_law_shorts", "_law_parts"] (spGone K) := by
  refine kn_of "_law_gone" T 74 62 S__law_gone rfl rfl sc__law_gone (fun vs H Q E h => by obtain ⟨_, _, _, _, _, _, rfl, _⟩ := h; rfl) (fun _ _ _ _ _ _ us hl => match us, hl with | [_, _], _ => rfl) (fun cdv A outer s H vs Q E hr h => ⟨_, PSs.nox (pss_cons (ps_try_asm (i := 2) rfl rfl sc__law_gone.nd rfl rfl tkF (fun W pn xe tk _ => (pss_one (ps_expr (pe_kmXE (kn_Shorts_short_ofX T) (hr.mono (by decide)) tk (pv 0) (pa_cons (pe_fn (kn__law_mark T) (hr.mono (by decide)) (pa_cons (pv 1) pa_nil)) pa_nil))))) (.cons (.one rfl T.g_NotThere rfl) (fun a oe cls d pn hz hf => (pss_one (ps_ret (pe_cmpR (op_eqMHE T (suite_room (hr.mono (by decide))) (suite_hot hz hf)) (pe_xa hz.zc hf (pv 2)) (pe_fnHE (kn__law_markH T) (suite_room (hr.mono (by decide))) (suite_hot hz hf) (pa_cons (pv 1) pa_nil)) (nomark _))))) .nil))
    (pss_one (ps_ret pe_bl))), ?_⟩)
  obtain ⟨G, x, a, ms, u, m, rfl, sb, hs, fit, hu, ok, hnot, q⟩ := h
  obtain ⟨dx, sv, r, rs0, h1, h2, h3, h4⟩ := id hs.at_
  refine ⟨_, rfl, x, dx, _, rfl, h1, rfl, _, rfl, G, u, m, rfl, sb, hu.mono sb.le, ok, fun G1 H1 s1 g1 hsm => ?_⟩
  refine ⟨G1, x, a, ms, s1, m, rfl, g1.sb, hs.keep0 g1, fit, hsm, ok, fun k c z G4 H4 g4 hk _ _ => (hnot (List.mem_of_getElem? hk)).elim, fun _ G4 H4 g4 er her => ?_⟩
  refine ⟨true, exm1 (T.em 22 rfl), fun _ ex hex => ?_, fun z => nomatch z⟩
  have g5 := (g1.trans g4).newM her (o := .xd [("found", s1)])
  refine ⟨_, rfl, rfl, He.ga K "NotThere", er, _, s1, rfl, rfl, T.x_NotThere.xf, T.x_NotThere.no, upd_same, rfl, _, rfl, G4, u, m, rfl, g5.sb, (hu.mono g5.gg).mono g5.sb.le, ok, fun G6 H6 s6 g6 hs6 => ?_⟩
  obtain ⟨a1, rfl, ha1⟩ := (MarkAt.mono (MarkAt.mono hsm g4.gg) g6.gg).mi g6.sb
  obtain ⟨a2, rfl, ha2⟩ := hs6.mi g6.sb
  refine ⟨a1, a2, m, m, rfl, rfl, ha1, ha2, ?_⟩
  rw [decide_eq_true rfl]
  exact q _ _ (g5.trans g6)
end
end K42
set_option Elab.async false
set_option linter.all false
set_option maxRecDepth 100000
set_option maxHeartbeats 4000000
namespace K42
open PySem PySem.Spec PyProof.Rows L2
theorem outc_fit {ms : List Mk} (f : Fit ms) {way : Nat} {m : Mk} (ok : Ok m) : Fit (outc ms way m).2 := by
  unfold outc
  split
  · split
    · exact f.sub List.filter_sublist
    · exact f
  · split
    · exact f
    · rename_i hl
      split
      · exact f
      · rename_i hn
        split
        · exact f
        · rename_i h12
          have hp := kSort_perm (ms ++ [m])
          have hok : ∀ x ∈ ms ++ [m], Ok x := fun x hx => (List.mem_append.mp hx).elim (f.ok x) fun z => by rw [List.mem_singleton.mp z]; exact ok
          refine ⟨fun x hx => hok x (hp.mem_iff.mp hx), fun x hx => ?_, kSort_rise hok ?_, ?_⟩
          · rcases List.mem_append.mp (hp.mem_iff.mp hx) with z | z
            · exact f.few x z
            · rw [List.mem_singleton.mp z]; omega
          · exact List.nodup_append.mpr ⟨rise_nodup f.rise, List.nodup_cons.mpr ⟨by simp, List.nodup_nil⟩, fun a ha b hb e => by rw [List.mem_singleton.mp hb] at e; exact hn (e ▸ ha)⟩
          · have := f.len
            rw [hp.length_eq, List.length_append, List.length_singleton]
            omega
theorem outc_same {ms : List Mk} {way : Nat} {m : Mk} (h : (outc ms way m).1 ≠ .done) : (outc ms way m).2 = ms := by
  unfold outc at h ⊢
  split
  · rename_i hw
    rw [if_pos hw] at h
    split
    · rename_i hm
      rw [if_pos hm] at h
      exact (h rfl).elim
    · rfl
  · rename_i hw
    rw [if_neg hw] at h
    split
    · rfl
    · rename_i hl
      rw [if_neg hl] at h
      split
      · rfl
      · rename_i hm
        rw [if_neg hm] at h
        split
        · rfl
        · rename_i h12
          rw [if_neg h12] at h
          exact (h rfl).elim
theorem word_done (o : Oc) : (V.str o.word = V.str "done") ↔ o = .done := by
  have key : ∀ o : Oc, decide (o.word = ("done" : Str)) = decide (o = .done) := by
    intro o
    cases o <;> decide +kernel
  have := key o
  constructor
  · intro h
    have h2 := V.str.inj h
    rw [decide_eq_true h2] at this
    exact of_decide_eq_true this.symm
  · rintro rfl; rfl
theorem pap_val : ∀ {es : List Ent}, (es.map fun e => text e.c).Nodup → ∀ p ∈ pap es, valV (pap es) p.1 = some p.2 ∧ flatB p.2 = true
  | [], _, p, hp => by cases hp
  | e :: es, hn, p, hp => by
    rw [List.map_cons, List.nodup_cons] at hn
    have ep : pap (e :: es) = (.inr (S (text e.c)), oV e.s) :: pap es := rfl
    have hfl : ∀ s : Option Nat, flatB (oV s) = true := fun s => by cases s <;> rfl
    rw [ep] at hp ⊢
    rcases List.mem_cons.mp hp with rfl | hp
    · refine ⟨?_, hfl _⟩
      unfold valV
      simp
    · obtain ⟨h1, h2⟩ := pap_val hn.2 p hp
      refine ⟨?_, h2⟩
      rw [valV_neg, h1]
      intro z
      unfold pap at hp
      obtain ⟨e', he', rfl⟩ := List.mem_map.mp hp
      have : text e'.c = text e.c := S_inj (Sum.inr.inj z).symm
      exact hn.1 (List.mem_map.mpr ⟨e', he', this⟩)
theorem row_nodup {es : List Ent} {m : Mk} (hrc : es.map Ent.c = cuts m) (ok : Ok m) : (es.map fun e => text e.c).Nodup := by
  have e1 : (es.map fun e => text e.c) = (es.map Ent.c).map text := by rw [List.map_map]; rfl
  rw [e1, hrc]
  exact nodup_map_on (rise_nodup (cuts_rise ok)) fun a ha b hb => text_inj (cuts_ok ok ha) (cuts_ok ok hb)
section
variable {P : Program} {w : World} {K : PySem.W.Frag} {mg : Str → Option Value} {base : Heap}
theorem oc_eq {G H : Hp} (sb : Sb G H) {v v' : V} {o : Oc} {m : Mk} (h : OcAt K G v o m) (h' : OcAt K G v' o m) : DTup K (DFm K) v v' H := by
  obtain ⟨t, th, rfl, h1, h2⟩ := h
  obtain ⟨t', th', rfl, h1', h2'⟩ := h'
  refine ⟨t, t', _, _, rfl, rfl, SqT.of (sb _ _ h1).1, SqT.of (sb _ _ h1').1, Prs.cons (.inl ⟨rfl, rfl, ?_⟩) (Prs.cons ?_ (Prs.cons (.inl ⟨rfl, rfl, rfl⟩) Prs.nil))⟩
  · show (o.word == o.word) = true
    exact beq_self_eq_true _
  · have mk : MarkAt K G th m → MarkAt K G th' m → DFm K th th' H := fun a b => by
      obtain ⟨c, rfl, hc⟩ := a.mi sb
      obtain ⟨d, rfl, hd⟩ := b.mi sb
      exact .inr ⟨c, d, m, rfl, rfl, hc, hd⟩
    cases o
    · exact mk h2 h2'
    · obtain rfl : th = .non := h2
      obtain rfl : th' = .non := h2'
      exact .inl ⟨rfl, rfl, rfl⟩
    · exact mk h2 h2'
    · exact mk h2 h2'
    · obtain rfl : th = .int 12 := h2
      obtain rfl : th' = .int 12 := h2'
      exact .inl ⟨rfl, rfl, rfl⟩
theorem prs_dic {G H : Hp} (sb : Sb G H) : ∀ {xs ys : List V} {rows : List (List Ent)}, (∀ es ∈ rows, (es.map fun e => text e.c).Nodup) → Paired (PapAt G) xs rows → Paired (PapAt G) ys rows → Prs DDic xs ys H
  | _, _, _, _, .nil, .nil => Prs.nil
  | _, _, _, hn, .cons h1 t1, .cons h2 t2 => by
    obtain ⟨a, rfl, ha⟩ := h1
    obtain ⟨b, rfl, hb⟩ := h2
    exact Prs.cons ⟨a, b, _, rfl, rfl, (sb _ _ ha).1, (sb _ _ hb).1, pap_val (hn _ (List.mem_cons_self ..))⟩ (prs_dic sb (fun es h => hn es (List.mem_cons_of_mem _ h)) t1 t2)
/-- what stands through a step -/
structure Stp (K : PySem.W.Frag) (G0 H0 G H : Hp) (x a : Addr) (ms ms' : List Mk) (oc : Oc) (m : Mk) (u dv bv : V) (er : Addr) (rs : List V) (pv : V) : Prop where
  g : GR K (S2 x a) G0 H0 G H
  hs : SAt K G H x a ms'
  hu : PtIn G u m
  hb : ShelfAt G bv ms'
  ho : OcAt K G dv oc m
  her : G er = some (.lst rs)
  hrs : Paired (MarkAt K G) rs (shortOf ms)
  hp : pv = .non ∨ ∃ pp ds, pv = .ref pp ∧ G pp = some (.lst ds) ∧ Paired (PapAt G) ds (sumsOf ms)
theorem Stp.step {G0 H0 G H G' H' : Hp} {x a : Addr} {ms ms' : List Mk} {oc : Oc} {m : Mk} {u dv bv : V} {er : Addr} {rs : List V} {pv : V} (s : Stp K G0 H0 G H x a ms ms' oc m u dv bv er rs pv) (g : GR K S0 G H G' H') : Stp K G0 H0 G' H' x a ms ms' oc m u dv bv er rs pv :=
  ⟨s.g.call0 g, s.hs.keep0 g, s.hu.mono g.gg, s.hb.mono g.gg, s.ho.mono g.gg, g.gg _ _ s.her, pair_imp s.hrs fun _ _ y => y.mono g.gg, s.hp.imp_right fun ⟨pp, ds, e, h1, h2⟩ => ⟨pp, ds, e, g.gg _ _ h1, pair_imp h2 fun _ _ y => y.mono g.gg⟩⟩
def spStep (K : PySem.W.Frag) : Sp := fun vs H Q _ => ∃ (G : Hp) (x a : Addr) (v : V) (ms : List Mk) (way : Nat) (u s : V) (m : Mk), vs = [.ref x, v, .int way, u, s] ∧ Sb G H ∧ LamX.Tabs (Tq K) H ∧ SAt K G H x a ms ∧ Fit ms ∧ ShelfAt G v ms ∧ PtIn G u m ∧ MarkAt K G s m ∧ Ok m ∧ (way = 0 ∨ way = 1) ∧
  ∀ (G' H' : Hp) (b : V), GR K (S2 x a) G H G' H' → SAt K G' H' x a (outc ms way m).2 → ShelfAt G' b (outc ms way m).2 → Q b H'
abbrev N__law_step : List Str := ["_law_shorts", "_law_shelf_here", "_law_way", "_law_parts", "_law_spine", "_law_due_here", "_law_behind", "_law_elder", "_law_paper", "_law_ahead"]
theorem sc__law_step : FnScope N__law_step ["_law_shorts", "_law_shelf_here", "_law_way", "_law_parts", "_law_spine"] (defScope S__law_step) := ⟨rfl, rfl, rfl, by decide +kernel, rfl, by decide +kernel, by decide +kernel⟩
theorem kn__law_step (T : Tx K mg base) : Kn P w K mg base CX0 16 "_law_step" ["_law_shorts", "_law_shelf_here", "_law_way", "_law_parts", "_law_spine"] (spStep K) := by
  refine kn_of "_law_step" T 78 66 S__law_step rfl rfl sc__law_step (fun vs H Q E h => by obtain ⟨_, _, _, _, _, _, _, _, _, rfl, _⟩ := h; rfl) (fun _ _ _ _ _ _ us hl => match us, hl with | [_, _, _, _, _], _ => rfl) (fun cdv A outer s H vs Q E hr h => ⟨_, PSs.nox (pss_cons (ps_asg (pe_fn (kn__law_due T) (hr.mono (by decide)) (pa_cons (pv 1) (pa_cons (pv 2) (pa_cons (pv 3) pa_nil)))) (pg_tup rfl (pgs_cons (pg_name (i := 5) sc__law_step.nd rfl (Or.inl rfl)) (pgs_cons (pg_name (i := 6) sc__law_step.nd rfl (Or.inl rfl)) pgs_nil))))
    (Evl.pss_cut (ps_par (i := 7) (j := 8) rfl sc__law_step.nd rfl rfl (by decide) rfl rfl (pa_cons (pe_km0 (kn_Shorts_row T) (hr.mono (by decide)) (pv 0)) (pa_cons (pe_ifExp (pt_cmpR op_eq (pe_op op_mod (pe_callB call_len_seq (by rfl) T.f_len (by decide +kernel) (pa_cons (pv 1) pa_nil)) pe_int) pe_int (nomark _)) (pe_km0 (kn_Shorts_paper T) (hr.mono (by decide)) (pv 0)) pe_non) pa_nil)) (by rfl))
    (Evl.pss_cut (ps_if (pt_cmpR (op_neTm T (hr.mono (by decide))) (pe_fn (kn__law_did T) (hr.mono (by decide)) (pa_cons (pv 0) (pa_cons (pv 2) (pa_cons (pv 4) pa_nil)))) (pv 5) (nomark _)) (pss_one (ps_ret pe_non)) pss_nil)
    (pss_cons (ps_set (i := 9) sc__law_step.nd rfl (Or.inl rfl) (pe_fn (kn__law_asked T) (hr.mono (by decide)) (pa_cons (pv 0) (pa_cons (pv 6) pa_nil))))
    (Evl.pss_cut (ps_if (PW.pt (pw_or (pt_not (pt_val (pe_fn (kn__law_stands T) (hr.mono (by decide)) (pa_cons (pv 0) (pa_cons (pv 6) pa_nil))))) (pw_or1 (pt_cmpR (op_neD hr.units) (pe_fn (kn__law_asked T) (hr.mono (by decide)) (pa_cons (pv 0) (pa_cons (pv 6) pa_nil))) (pv 9) (nomark _))))) (pss_one (ps_ret pe_non)) pss_nil)
    (Evl.pss_cut (ps_if (PW.pt (pw_and (pt_cmpR op_ne (pe_ix ix_tup (pv 5) pe_int (fun _ _ => rfl)) pe_str (nomark _)) (pw_and1 (pt_cmpR (op_neMs T (hr.mono (by decide))) (pe_km0 (kn_Shorts_row T) (hr.mono (by decide)) (pv 0)) (pv 7) (nomark _))))) (pss_one (ps_ret pe_non)) pss_nil)
    (Evl.pss_cut (ps_if (PW.pt (pw_and (pt_cmpR op_ne (pe_ix ix_tup (pv 5) pe_int (fun _ _ => rfl)) pe_str (nomark _)) (pw_and (pt_cmpR op_notN (pv 8) pe_non (nomark _)) (pw_and1 (pt_cmpR (op_neDs (hr.mono (by decide))) (pe_km0 (kn_Shorts_paper T) (hr.mono (by decide)) (pv 0)) (pv 8) (nomark _)))))) (pss_one (ps_ret pe_non)) pss_nil)
    (Evl.pss_cut (ps_if (PW.pt (pw_and (pt_cmpR (op_notInD (hu65 hr)) (pv 3) (pv 6) (by with_unfolding_all rfl)) (pw_and1 (pt_not (pt_val (pe_fn (kn__law_gone T) (hr.mono (by decide)) (pa_cons (pv 0) (pa_cons (pv 3) pa_nil)))))))) (pss_one (ps_ret pe_non)) pss_nil)
    (pss_one (ps_ret (pe_ifExp (pt_val (pe_fn (kn__law_meant T) (hr.mono (by decide)) (pa_cons (pv 0) (pa_cons (pv 7) pa_nil)))) (pv 6) pe_non))))))))))), ?_⟩)
  obtain ⟨G, x, a, v, ms, way, u, s, m, rfl, sb, tb, hs, fit, hsh, hu, hsp, ok, hway, q⟩ := h
  obtain ⟨sa, ps, rfl, hsa, hps⟩ := id hsh
  obtain ⟨dx, sv, r, rs0, h1, h2, h3, h4⟩ := id hs.at_
  have hpl := pair_len hps
  have fit' := outc_fit fit (way := way) ok
  have hsame := outc_same (ms := ms) (way := way) (m := m)
  generalize hmm : (outc ms way m).2 = ms' at q fit' hsame
  generalize hoo : (outc ms way m).1 = oc at hsame
  have oksh := fit.short.each fit.ok
  have g0 := GR.refl (K := K) (S := S0) sb
  refine ⟨_, rfl, _, rfl, _, rfl, G, .ref sa, ms, way, u, m, rfl, sb, hsh, fit, hu, ok, fun G1 H1 p dv bv g1 hp ho hb => ?_⟩
  rw [hoo] at ho
  rw [hmm] at hb
  have hp1 := (g1.sb _ _ hp).1
  refine ⟨p, _, rfl, SqT.of hp1, rfl, _, _, rfl, _, _, rfl, rfl, ?_⟩
  refine ⟨fun σ H' => ∃ (er : Addr) (rs : List V) (pv : V), σ = [some (.ref x), some (.ref sa), some (.int way), some u, some s, some dv, some bv, some (.ref er), some pv, none] ∧ ∃ G', GR K S0 G H G' H' ∧ ShelfAt G' bv ms' ∧ OcAt K G' dv oc m ∧ G' er = some (.lst rs) ∧ Paired (MarkAt K G') rs (shortOf ms) ∧ (pv = .non ∨ ∃ pp ds, pv = .ref pp ∧ G' pp = some (.lst ds) ∧ Paired (PapAt G') ds (sumsOf ms)), ?_, ?_⟩
  · have hx1 := g1.keep h1 trivial id
    refine ⟨_, rfl, x, dx, _, rfl, hx1, rfl, G1, x, a, ms, rfl, g1.sb, hs.keep0 g1, fun er rs her hrs => ?_⟩
    have g2 := g1.new her (o := .lst rs) trivial
    have l2 : Le G1 (upd G1 er (.lst rs)) := Le.up (g1.sb.no her)
    have her2 : upd G1 er (.lst rs) er = some (.lst rs) := upd_same
    generalize upd G1 er (.lst rs) = G2 at g2 l2 her2
    generalize upd H1 er (.lst rs) = H2 at g2
    refine ⟨_, rfl, sa, _, rfl, .inl (SqL.of (g2.sb _ _ (g2.gg _ _ hsa)).1), _, _, rfl, rfl, by show (0 : Int) < 2; decide, rfl, _, rfl, ifC (fun _ => ?_) fun _ => ?_⟩
    · refine ⟨_, rfl, x, dx, _, rfl, g2.keep h1 trivial id, rfl, G2, x, a, ms, rfl, g2.sb, hs.keep0 g2, fit, fun G3 H3 pp ds g3 hpp hds => ?_⟩
      exact ⟨_, _, rfl, er, rs, .ref pp, rfl, G3, g2.trans g3, (hb.mono l2).mono g3.gg, (ho.mono l2).mono g3.gg, g3.gg _ _ her2, pair_imp hrs fun _ _ y => (y.mono l2).mono g3.gg, .inr ⟨pp, ds, rfl, hpp, hds⟩⟩
    · exact ⟨_, _, rfl, er, rs, .non, rfl, G2, g2, hb.mono l2, ho.mono l2, her2, pair_imp hrs fun _ _ y => y.mono l2, .inl rfl⟩
  rintro σ H2 ⟨er, rs, pv, rfl, G2, g2, hb2, ho2, her2, hrs2, hpv2⟩
  refine ⟨fun σ H' => σ = [some (.ref x), some (.ref sa), some (.int way), some u, some s, some dv, some bv, some (.ref er), some pv, none] ∧ ∃ G', Stp K G H G' H' x a ms ms' oc m u dv bv er rs pv, ?_, ?_⟩
  · refine ⟨_, rfl, _, rfl, _, rfl, G2, x, a, ms, way, s, m, rfl, g2.sb, g2.tb tb, hs.keep0 g2, fit, hsp.mono g2.gg, ok, hway, fun G3 H3 o2 g3 hs3 ho3 => ?_⟩
    rw [hmm] at hs3
    rw [hoo] at ho3
    have st : Stp K G H G3 H3 x a ms ms' oc m u dv bv er rs pv := ⟨g2.weak.trans g3, hs3, (hu.mono g2.gg).mono g3.gg, hb2.mono g3.gg, ho2.mono g3.gg, g3.gg _ _ her2, pair_imp hrs2 fun _ _ y => y.mono g3.gg, hpv2.imp_right fun ⟨pp, ds, e, h1, h2⟩ => ⟨pp, ds, e, g3.gg _ _ h1, pair_imp h2 fun _ _ y => y.mono g3.gg⟩⟩
    exact ⟨_, rfl, oc_eq g3.sb ho3 st.ho, fun H4 ex => ⟨_, rfl, iteF ⟨rfl, G3, st.step (GR.grown g3.sb ex)⟩⟩⟩
  rintro σ H3 ⟨rfl, G3, st3⟩
  refine ⟨_, rfl, _, rfl, G3, x, a, bv, ms', rfl, st3.g.sb, st3.hs, fit', st3.hb, fun G4 H4 av g4 hav => ?_⟩
  have st4 := st3.step g4
  refine ⟨fun σ H' => σ = [some (.ref x), some (.ref sa), some (.int way), some u, some s, some dv, some bv, some (.ref er), some pv, some av] ∧ ∃ G', Stp K G H G' H' x a ms ms' oc m u dv bv er rs pv, ?_, ?_⟩
  · refine ⟨_, rfl, _, rfl, G4, x, a, bv, ms', rfl, st4.g.sb, st4.hs, fit', st4.hb, fun G5 H5 g5 => ⟨_, rfl, iteF ?_⟩⟩
    have st5 := st4.step g5
    refine ⟨_, rfl, _, rfl, G5, x, a, bv, ms', rfl, st5.g.sb, st5.hs, fit', st5.hb, fun G6 H6 av2 g6 hav2 => ?_⟩
    have st6 := st5.step g6
    obtain ⟨d1, s1, e1⟩ := hav2.dp st6.g.sb
    obtain ⟨d2, s2, _⟩ := ((hav.mono g5.gg).mono g6.gg).dp st6.g.sb
    refine ⟨_, rfl, askD ms', askD ms', d1, d2, s1, s2, _, rfl, ?_⟩
    rw [e1]
    exact iteF ⟨rfl, G6, st6⟩
  clear st3 st4 hav g4
  rintro σ H4 ⟨rfl, G4, st4⟩
  refine ⟨fun σ H' => σ = [some (.ref x), some (.ref sa), some (.int way), some u, some s, some dv, some bv, some (.ref er), some pv, some av] ∧ ∃ G', Stp K G H G' H' x a ms ms' oc m u dv bv er rs pv, ?_, ?_⟩
  · obtain ⟨t, th, rfl, ht, _⟩ := id st4.ho
    refine ⟨_, rfl, t, _, _, .str oc.word, rfl, rfl, SqT.of (st4.g.sb _ _ ht).1, atI_nat (j := 0) rfl, rfl, _, rfl, ifN (fun hne => ?_) fun _ => ⟨rfl, G4, st4⟩⟩
    have em := hsame fun e => hne ((word_done oc).mpr e)
    obtain ⟨dx4, sv4, r4, rs4, hx4, _⟩ := id st4.hs.at_
    refine ⟨_, rfl, x, dx4, _, rfl, hx4, rfl, G4, x, a, ms', rfl, st4.g.sb, st4.hs, fun p2 rs2 hp2 hrs2 => ?_⟩
    have g5 := (GR.refl (K := K) (S := S0) st4.g.sb).newM hp2 (o := .lst rs2)
    rw [em] at hrs2
    exact ⟨_, rfl, ⟨p2, er, rs2, rs, rfl, rfl, upd_same, (g5.sb _ _ st4.her).1, prs_mk g5.sb hrs2 st4.hrs⟩, fun H5 ex => ⟨_, rfl, iteF ⟨rfl, G4, (st4.step g5).step (GR.grown g5.sb ex)⟩⟩⟩
  clear st4
  rintro σ H5 ⟨rfl, G5, st5⟩
  refine ⟨fun σ H' => σ = [some (.ref x), some (.ref sa), some (.int way), some u, some s, some dv, some bv, some (.ref er), some pv, some av] ∧ ∃ G', Stp K G H G' H' x a ms ms' oc m u dv bv er rs pv, ?_, ?_⟩
  · obtain ⟨t, th, rfl, ht, _⟩ := id st5.ho
    refine ⟨_, rfl, t, _, _, .str oc.word, rfl, rfl, SqT.of (st5.g.sb _ _ ht).1, atI_nat (j := 0) rfl, rfl, _, rfl, ifN (fun hne => ?_) fun _ => ⟨rfl, G5, st5⟩⟩
    have em := hsame fun e => hne ((word_done oc).mpr e)
    obtain ⟨dx5, sv5, r5, rs5, hx5, _⟩ := id st5.hs.at_
    refine ⟨_, rfl, rfl, _, rfl, ?_⟩
    rcases st5.hp with rfl | ⟨pp, ds, rfl, hpp, hds⟩
    · exact ifN (fun z => (z rfl).elim) fun _ => ⟨rfl, G5, st5⟩
    · refine ifN (fun _ => ?_) fun z => nomatch z
      refine ⟨_, rfl, x, dx5, _, rfl, hx5, rfl, G5, x, a, ms', rfl, st5.g.sb, st5.hs, fit', fun G6 H6 p2 ds2 g6 hp2 hds2 => ?_⟩
      rw [em] at hds2
      have st6 := st5.step g6
      have hnd : ∀ es ∈ sumsOf ms, (es.map fun e => text e.c).Nodup := fun es he => by
        obtain ⟨m', hm', hrc⟩ := sumsOf_rows es he
        exact row_nodup hrc (fit.ok m' hm')
      exact ⟨_, rfl, ⟨p2, pp, ds2, ds, rfl, rfl, (g6.sb _ _ hp2).1, (g6.sb _ _ (g6.gg _ _ hpp)).1, prs_dic g6.sb hnd hds2 (pair_imp hds fun _ _ y => y.mono g6.gg)⟩, fun H7 ex => ⟨_, rfl, iteF ⟨rfl, G6, st6.step (GR.grown g6.sb ex)⟩⟩⟩
  clear st5
  rintro σ H6 ⟨rfl, G6, st6⟩
  refine ⟨fun σ H' => σ = [some (.ref x), some (.ref sa), some (.int way), some u, some s, some dv, some bv, some (.ref er), some pv, some av] ∧ ∃ G', Stp K G H G' H' x a ms ms' oc m u dv bv er rs pv, ?_, ?_⟩
  · refine ⟨_, rfl, _, rfl, partsD m, ms'.map partsD, (st6.hu.mono st6.g.sb.le).dp, shelf_dp st6.hb st6.g.sb, parts_shaped ok, shelf_shaped fit'.ok, _, rfl, ?_⟩
    rw [shelf_has]
    refine ifN (fun hnot => ?_) fun _ => ⟨rfl, G6, st6⟩
    exact ⟨_, rfl, _, rfl, G6, x, a, ms', u, m, rfl, st6.g.sb, st6.hs, fit', st6.hu, ok, hnot, fun G7 H7 g7 => ⟨_, rfl, iteF ⟨rfl, G7, st6.step g7⟩⟩⟩
  clear st6
  rintro σ H7 ⟨rfl, G7, st7⟩
  refine ⟨_, rfl, _, rfl, G7, x, a, er, ms', shortOf ms, rs, rfl, st7.g.sb, st7.hs, fit', st7.her, st7.hrs, oksh, fun G8 H8 g8 => ⟨_, rfl, iteT ⟨_, rfl, ?_⟩⟩⟩
  have st8 := st7.step g8
  exact q _ _ _ st8.g st8.hs st8.hb
end
end K42
set_option Elab.async false
set_option linter.all false
set_option maxRecDepth 100000
set_option maxHeartbeats 4000000
namespace K42
open PySem PySem.Spec PyProof.Rows L2
def fillM (k : Nat) : Mk := ⟨[113], 76, [], [109 :: TL.numL (k * 10 + 1)], none, none⟩
theorem fill_kr : ∀ k, k < 25 → mkr (109 :: TL.numL (k * 10 + 1)) = true ∧ (TL.numL (k * 10 + 1)).length ≤ 3 ∧ (text (fillM k)).length ≤ 24 := by decide +kernel
theorem fill_inj : ∀ i, i < 25 → ∀ j, j < 25 → fillM i = fillM j → i = j := by decide +kernel
theorem fill_ok {k : Nat} (h : k < 25) : Ok (fillM k) :=
  ⟨by show 1 ≤ 1; decide, by show 1 ≤ 3; decide, fun c hc => by rw [List.mem_singleton.mp hc]; decide, by show 1 ≤ 76; decide, by show 76 ≤ 9999; decide, .inl rfl, Nat.zero_le _, fun c hc => by rw [List.mem_singleton.mp hc]; exact (fill_kr k h).1, fun c hc => by
    rw [List.mem_singleton.mp hc, List.length_cons]
    have := (fill_kr k h).2.1
    omega, by show 1 ≤ 3; decide, (fun _ e => nomatch e), fun _ e => nomatch e⟩
theorem outc_keep {ms : List Mk} {m m' : Mk} (h : m' ∈ ms) : m' ∈ (outc ms 0 m).2 := by
  unfold outc
  rw [if_neg (by decide)]
  split
  · exact h
  · split
    · exact h
    · split
      · exact h
      · exact (kSort_perm (ms ++ [m])).mem_iff.mpr (List.mem_append_left _ h)
theorem outc_in {ms : List Mk} {m : Mk} (h : ms.length < 12) (ht : (text m).length ≤ 24) : m ∈ (outc ms 0 m).2 := by
  unfold outc
  rw [if_neg (by decide), if_neg (by omega)]
  split
  · rename_i hm
    exact hm
  · rw [if_neg (by omega)]
    exact (kSort_perm (ms ++ [m])).mem_iff.mpr (List.mem_append_right _ (List.mem_singleton.mpr rfl))
theorem outc_full {ms : List Mk} {m : Mk} (h : ms.length = 12) : (outc ms 0 m).2 = ms := by
  unfold outc
  rw [if_neg (by decide), if_pos h]
  repeat' split
  all_goals rfl
theorem outc_rest {ms : List Mk} {m : Mk} (f : Fit ms) (hm : m ∈ ms) : (outc ms 1 m).2 = ms.filter (fun x => decide (x ≠ m)) := by
  unfold outc
  rw [if_pos rfl, if_pos hm]
theorem filter_back {ms : List Mk} {m : Mk} (hn : ms.Nodup) (hm : m ∈ ms) : (ms.filter (fun x => decide (x ≠ m)) ++ [m]).Perm ms := by
  refine (List.perm_ext_iff_of_nodup ?_ hn).mpr fun x => ?_
  · exact List.nodup_append.mpr ⟨hn.sublist List.filter_sublist, List.nodup_cons.mpr ⟨by simp, List.nodup_nil⟩, fun a ha b hb e => by
      rw [List.mem_singleton.mp hb] at e
      exact of_decide_eq_true (List.mem_filter.mp ha).2 e⟩
  · rw [List.mem_append, List.mem_filter, List.mem_singleton]
    constructor
    · rintro (h | rfl)
      · exact h.1
      · exact hm
    · intro h
      by_cases e : x = m
      · exact .inr e
      · exact .inl ⟨h, decide_eq_true e⟩
theorem outc_back {ms : List Mk} {m : Mk} (f : Fit ms) (h : ms.length = 12) (hm : m ∈ ms) : (ms.filter fun x => decide (x ≠ m)).length = 11 ∧ (outc (ms.filter fun x => decide (x ≠ m)) 0 m).2 = ms := by
  have hp := filter_back (rise_nodup f.rise) hm
  have hl := hp.length_eq
  rw [List.length_append, List.length_singleton, h] at hl
  have h11 : (ms.filter fun x => decide (x ≠ m)).length = 11 := by omega
  refine ⟨h11, ?_⟩
  have hno : m ∉ ms.filter fun x => decide (x ≠ m) := fun z => of_decide_eq_true (List.mem_filter.mp z).2 rfl
  have hf := f.few m hm
  unfold outc
  rw [if_neg (by decide), if_neg (by omega), if_neg hno, if_neg (by omega)]
  refine rise_perm (kSort_rise (fun x hx => f.ok x (hp.mem_iff.mp hx)) (hp.nodup_iff.mpr (rise_nodup f.rise))) f.rise ((kSort_perm _).trans hp)
theorem all24 {ms : List Mk} (f : Fit ms) (h : ∀ k, 1 ≤ k → k ≤ 24 → fillM k ∈ ms) : False := by
  have hn : ((List.range 24).map fun k => fillM (k + 1)).Nodup := nodup_map_on List.nodup_range fun a ha b hb e => by
    have := fill_inj (a + 1) (by have := List.mem_range.mp ha; omega) (b + 1) (by have := List.mem_range.mp hb; omega) e
    omega
  have := List.Nodup.length_le_of_subset hn (l₂ := ms) fun x hx => by
    obtain ⟨k, hk, rfl⟩ := List.mem_map.mp hx
    exact h _ (by omega) (by have := List.mem_range.mp hk; omega)
  have h12 := f.len
  rw [List.length_map, List.length_range] at this
  omega
def cpM : Mk := ⟨[113], 76, [57], [], none, some 77777⟩
def a1M : Mk := ⟨[97], 1, [], [], none, none⟩
def lgM : Mk := ⟨[113], 1, List.replicate 30 55, [], none, none⟩
theorem cp_ok : Ok cpM := ⟨by decide, by decide, by decide, by decide, by decide, .inr (by decide), by decide, (fun _ h => nomatch h), (fun _ h => nomatch h), by decide, (fun _ e => nomatch e), fun c e => by injection e with e; omega⟩
theorem a1_ok : Ok a1M := ⟨by decide, by decide, by decide, by decide, by decide, .inl rfl, by decide, (fun _ h => nomatch h), (fun _ h => nomatch h), by decide, (fun _ e => nomatch e), fun _ e => nomatch e⟩
theorem lg_ok : Ok lgM := ⟨by decide, by decide, by decide, by decide, by decide, .inr (by decide), by decide, (fun _ h => nomatch h), (fun _ h => nomatch h), by decide, (fun _ e => nomatch e), fun _ e => nomatch e⟩
section
variable {P : Program} {w : World} {K : PySem.W.Frag} {mg : Str → Option Value} {base : Heap}
theorem lit_pt {G H : Hp} (sb : Sb G H) {h a : Addr} {hv xs : List V} (m : Mk) (hh : H h = none) (ha : upd H h (.lst hv) a = none) (e1 : hv = msV m.ms) (e2 : xs = pV m h) : GR K S0 G H (upd (upd G h (.lst hv)) a (.lst xs)) (upd (upd H h (.lst hv)) a (.lst xs)) ∧ PtIn (upd (upd G h (.lst hv)) a (.lst xs)) (.ref a) m := by
  subst e1 e2
  have g1 := (GR.refl (K := K) (S := S0) sb).new hh (o := .lst (msV m.ms)) trivial
  refine ⟨g1.new ha trivial, a, h, rfl, upd_same, ?_⟩
  have hne : h ≠ a := fun z => by rw [← z, upd_same] at ha; cases ha
  rw [upd_ne hne]
  exact upd_same
theorem fill_str (k : Nat) : V.str (("m" : Str) ++ Str.ofString (toString (((k * 10 + 1 : Nat)) : Int))) = sV (109 :: TL.numL (k * 10 + 1)) := by
  rw [str_num, show ("m" : Str) = S [109] by decide +kernel, S_app]
  rfl
/-- what stands ahead of each step -/
structure Fl (K : PySem.W.Frag) (G0 H0 G H : Hp) (x a : Addr) (v : V) (ms : List Mk) : Prop where
  g : GR K (S2 x a) G0 H0 G H
  hs : SAt K G H x a ms
  fit : Fit ms
  sh : ShelfAt G v ms
theorem Fl.call {G0 H0 G H G' H' : Hp} {x a : Addr} {v : V} {ms : List Mk} (f : Fl K G0 H0 G H x a v ms) (g : GR K S0 G H G' H') : Fl K G0 H0 G' H' x a v ms :=
  ⟨f.g.call0 g, f.hs.keep0 g, f.fit, f.sh.mono g.gg⟩
def spFilled (K : PySem.W.Frag) : Sp := fun vs H Q _ => ∃ (G : Hp) (x a : Addr) (v : V) (ms : List Mk), vs = [.ref x, v] ∧ Sb G H ∧ LamX.Tabs (Tq K) H ∧ SAt K G H x a ms ∧ Fit ms ∧ ShelfAt G v ms ∧ ∀ G' H', GR K (S2 x a) G H G' H' → Q (.bl true) H'
abbrev N__law_filled : List Str := ["_law_shorts", "_law_shelf_here", "_law_k", "_law_parts", "_law_some", "_law_spine", "_law_rest"]
theorem sc__law_filled : FnScope N__law_filled ["_law_shorts", "_law_shelf_here"] (defScope S__law_filled) := ⟨rfl, rfl, rfl, by decide +kernel, rfl, by decide +kernel, by decide +kernel⟩
theorem kn__law_filled (T : Tx K mg base) : Kn P w K mg base CX0 18 "_law_filled" ["_law_shorts", "_law_shelf_here"] (spFilled K) := by
  refine kn_of "_law_filled" T 79 67 S__law_filled rfl rfl sc__law_filled (fun vs H Q E h => by obtain ⟨_, _, _, _, _, rfl, _⟩ := h; rfl) (fun _ _ _ _ _ _ us hl => match us, hl with | [_, _], _ => rfl) (fun cdv A outer s H vs Q E hr h => ⟨_, PSs.nox (pss_cons (ps_for PassesOwn.never rfl (pi_range2 (by rfl) T.f_range (pa_cons pe_int (pa_cons pe_int pa_nil))) (pg_name (i := 2) sc__law_filled.nd rfl (Or.inl rfl)) (pss_one (ps_if (pt_cmpR op_lt (pe_callB call_len_seq (by rfl) T.f_len (by decide +kernel) (pa_cons (pv 1) pa_nil)) pe_int (nomark _)) (pss_cons (ps_set (i := 3) sc__law_filled.nd rfl (Or.inl rfl) (pe_lst (pa_cons pe_str (pa_cons pe_int (pa_cons pe_str (pa_cons (pe_lst (pa_cons (pe_op op_add_str pe_str (pe_callTy call_str_int (by rfl) T.f_str (by decide +kernel) (pa_cons (pe_op op_add (pe_op op_mul (pv 2) pe_int) pe_int) pa_nil))) pa_nil)) (pa_cons pe_non (pa_cons pe_non pa_nil))))))))
    (pss_cons (ps_set (i := 1) sc__law_filled.nd rfl (Or.inl rfl) (pe_fn (kn__law_step T) (hr.mono (by decide)) (pa_cons (pv 0) (pa_cons (pv 1) (pa_cons pe_int (pa_cons (pv 3) (pa_cons (pe_fn (kn__law_mark T) (hr.mono (by decide)) (pa_cons (pv 3) pa_nil)) pa_nil)))))))
    (pss_one (ps_if (pt_cmpR op_isN (pv 1) pe_non (nomark _)) (pss_one (ps_ret pe_bl)) pss_nil)))) pss_nil)))
    (pss_cons (ps_set (i := 4) sc__law_filled.nd rfl (Or.inl rfl) (pe_lst (pa_cons (pe_lst (pa_cons pe_str (pa_cons pe_int (pa_cons pe_str (pa_cons (pe_lst pa_nil) (pa_cons pe_non (pa_cons pe_int pa_nil))))))) (pa_cons (pe_lst (pa_cons pe_str (pa_cons pe_int (pa_cons pe_str (pa_cons (pe_lst pa_nil) (pa_cons pe_non (pa_cons pe_non pa_nil))))))) (pa_cons (pe_ix ix_list (pv 1) pe_int (fun _ _ => rfl)) (pa_cons (pe_lst (pa_cons pe_str (pa_cons pe_int (pa_cons (pe_op op_repS pe_str pe_int) (pa_cons (pe_lst pa_nil) (pa_cons pe_non (pa_cons pe_non pa_nil))))))) pa_nil))))))
    (pss_cons (ps_for PassesOwn.never rfl (pi_list (pe_op op_cat (pv 4) (pe_lst (pa_cons (pe_ix ix_list (pv 1) (pe_un un_neg pe_int) (fun _ _ => rfl)) pa_nil)))) (pg_name (i := 3) sc__law_filled.nd rfl (Or.inl rfl)) (pss_one (ps_if (pt_cmpR (op_neD hr.units) (pe_fn (kn__law_step T) (hr.mono (by decide)) (pa_cons (pv 0) (pa_cons (pv 1) (pa_cons pe_int (pa_cons (pv 3) (pa_cons (pe_fn (kn__law_mark T) (hr.mono (by decide)) (pa_cons (pv 3) pa_nil)) pa_nil)))))) (pv 1) (nomark _)) (pss_one (ps_ret pe_bl)) pss_nil)))
    (pss_cons (ps_set (i := 5) sc__law_filled.nd rfl (Or.inl rfl) (pe_fn (kn__law_mark T) (hr.mono (by decide)) (pa_cons (pe_ix ix_list (pv 1) pe_int (fun _ _ => rfl)) pa_nil)))
    (pss_cons (ps_set (i := 6) sc__law_filled.nd rfl (Or.inl rfl) (pe_fn (kn__law_step T) (hr.mono (by decide)) (pa_cons (pv 0) (pa_cons (pv 1) (pa_cons pe_int (pa_cons (pe_ix ix_list (pv 1) pe_int (fun _ _ => rfl)) (pa_cons (pv 5) pa_nil)))))))
    (pss_one (ps_ret (pe_and (pe_cmpR op_notN (pv 6) pe_non (nomark _)) (pe_and (pe_cmpR op_eq (pe_callB call_len_seq (by rfl) T.f_len (by decide +kernel) (pa_cons (pv 6) pa_nil)) pe_int (nomark _)) (pe_one (pe_cmpR (op_eqD hr.units) (pe_fn (kn__law_step T) (hr.mono (by decide)) (pa_cons (pv 0) (pa_cons (pv 6) (pa_cons pe_int (pa_cons (pe_ix ix_list (pv 1) pe_int (fun _ _ => rfl)) (pa_cons (pv 5) pa_nil)))))) (pv 1) (nomark _)))))))))))), ?_⟩)
  obtain ⟨G, x, a, v, ms, rfl, sb, tb, hs, fit, hsh, q⟩ := h
  refine ⟨1, 25, rfl, ⟨by decide, by decide, by decide, by decide⟩, ?_⟩
  refine for_range (lo := 1) (fun i σ H' => ∃ (v' : V) (x2 x3 : Option V) (ms' : List Mk) (G' : Hp), σ = [some (.ref x), some v', x2, x3, none, none, none] ∧ Fl K G H G' H' x a v' ms' ∧ (ms'.length = 12 ∨ ∀ k, 1 ≤ k → k ≤ i → fillM k ∈ ms')) ⟨v, _, _, ms, G, rfl, ⟨GR.refl sb, hs, fit, hsh⟩, .inr fun k h1 h2 => by omega⟩ ?_ ?_
  · rintro i σ H1 hi ⟨v1, x2, x3, ms1, G1, rfl, fl, hall⟩
    have hi24 : i < 24 := hi
    obtain ⟨sa, ps, rfl, hsa, hps⟩ := id fl.sh
    have hpl := pair_len hps
    refine ⟨_, rfl, sa, ps, rfl, .inl (SqL.of (fl.g.sb _ _ hsa).1), _, _, rfl, rfl, _, rfl, ifC (fun hlt => ?_) fun hge => ?_⟩
    · have hl12 : ms1.length < 12 := by omega
      have ez : ((1 + (i : Int)) * 10 + 1) = (((i + 1) * 10 + 1 : Nat) : Int) := by omega
      have es : V.str (("m" : Str) ++ Str.ofString (toString ((1 + (i : Int)) * 10 + 1))) = sV (109 :: TL.numL ((i + 1) * 10 + 1)) := by rw [ez, fill_str]
      have okm := fill_ok (k := i + 1) (by omega)
      have hkr := fill_kr (i + 1) (by omega)
      refine ⟨_, rfl, _, _, rfl, rfl, .inr ⟨by decide, by decide⟩, _, _, rfl, rfl, _, rfl, ?_, _, _, rfl, rfl, ?_, size_of (n := 1) (by decide), fun e he => ?_⟩
      · rw [ez]
        exact log_small (by omega)
      · rw [ez, str_num, show (("m" : Str)).length = 1 by decide +kernel, S_len]
        exact size_of (by have := hkr.2.1; omega)
      refine ⟨size_of (n := 6) (by decide), fun p hp => ?_⟩
      obtain ⟨g2, hpt⟩ := lit_pt (K := K) fl.g.sb (fillM (i + 1)) he hp (congrArg (fun z => [z]) es) rfl
      have fl2 := fl.call g2
      refine ⟨_, rfl, _, rfl, _, rfl, _, rfl, _, .ref p, fillM (i + 1), rfl, fl2.g.sb, hpt.mono fl2.g.sb.le, okm, fun G3 H3 u g3 hu => ?_⟩
      have fl3 := fl2.call g3
      refine ⟨G3, x, a, .ref sa, ms1, 0, .ref p, u, fillM (i + 1), rfl, fl3.g.sb, fl3.g.tb tb, fl3.hs, fl3.fit, fl3.sh, hpt.mono g3.gg, hu, okm, .inl rfl, fun G4 H4 b g4 hs4 hb4 => ?_⟩
      have hb5 := hb4
      obtain ⟨sb4, ps4, rfl, _, _⟩ := hb4
      refine ⟨_, rfl, rfl, _, rfl, ifC (fun z => nomatch z) fun _ => ⟨_, _, _, _, G4, rfl, ⟨fl3.g.trans g4, hs4, outc_fit fl3.fit okm, hb5⟩, ?_⟩⟩
      refine .inr fun k h1 h2 => ?_
      by_cases e : k = i + 1
      · subst e
        exact outc_in hl12 hkr.2.2
      · exact outc_keep ((hall.elim (fun z => by omega) id) k h1 (by omega))
    · have h12 := fl.fit.len
      exact ⟨_, _, _, ms1, G1, rfl, fl, .inl (by omega)⟩
  · rintro σ H1 ⟨v1, x2, x3, ms1, G1, rfl, fl, hall⟩
    have h12 : ms1.length = 12 := hall.elim id fun h => (all24 fl.fit fun k h1 h2 => h k h1 (by show k ≤ 24; exact h2)).elim
    clear hall hs hsh fit
    obtain ⟨sa, ps, rfl, hsa, hps⟩ := id fl.sh
    have hpl := pair_len hps
    have first : ∃ y m, ps[0]? = some y ∧ ms1[0]? = some m := ⟨_, _, List.getElem?_eq_getElem (by omega), List.getElem?_eq_getElem (by omega)⟩
    obtain ⟨y0, m0, hy0, hm0⟩ := first
    have last : ∃ y m, ps[11]? = some y ∧ ms1[11]? = some m := ⟨_, _, List.getElem?_eq_getElem (by omega), List.getElem?_eq_getElem (by omega)⟩
    obtain ⟨y9, m9, hy9, hm9⟩ := last
    have mid : ∃ y m, ps[5]? = some y ∧ ms1[5]? = some m := ⟨_, _, List.getElem?_eq_getElem (by omega), List.getElem?_eq_getElem (by omega)⟩
    obtain ⟨y5, m5, hy5, hm5⟩ := mid
    have pt : ∀ {k : Nat} {y : V} {m : Mk}, ps[k]? = some y → ms1[k]? = some m → PtIn G1 y m ∧ Ok m := fun {k y m} hy hm => by
      obtain ⟨m', hm', hp'⟩ := pair_get' hps hy
      rw [hm] at hm'
      obtain rfl := Option.some.inj hm'
      exact ⟨hp', fl.fit.ok _ (List.mem_of_getElem? hm)⟩
    refine ⟨size_of (n := 0) (by decide), fun h1 n1 => ⟨size_of (n := 6) (by decide), fun p1 q1 => ?_⟩⟩
    obtain ⟨g1, t1⟩ := lit_pt (K := K) fl.g.sb cpM n1 q1 rfl rfl
    refine ⟨size_of (n := 0) (by decide), fun h2 n2 => ⟨size_of (n := 6) (by decide), fun p2 q2 => ?_⟩⟩
    obtain ⟨g2, t2⟩ := lit_pt (K := K) g1.sb a1M n2 q2 rfl rfl
    have g12 := g1.trans g2
    refine ⟨_, rfl, sa, ps, 0, y0, rfl, rfl, SqL.of (g12.sb _ _ (g12.gg _ _ hsa)).1, atI_nat (j := 0) hy0, 55, 30, congrArg V.str s7, rfl, by decide, by decide, size_of (n := 0) (by decide), fun h4 n4 => ⟨size_of (n := 6) (by decide), fun p4 q4 => ⟨size_of (n := 4) (by decide), fun l nl => ?_⟩⟩⟩
    obtain ⟨g4, t4⟩ := lit_pt (K := K) g12.sb lgM n4 q4 rfl rfl
    have g5 := (g12.trans g4).new nl (o := .lst [.ref p1, .ref p2, y0, .ref p4]) trivial
    have l2 := g2.gg
    have l4 := g4.gg
    have e1 := ((t1.mono l2).mono l4)
    have e2 := t2.mono l4
    have e0 := (pt hy0 hm0).1.mono (g12.trans g4).gg
    have e9 := (pt hy9 hm9).1.mono (g12.trans g4).gg
    have lu := Le.up (o := .lst [.ref p1, .ref p2, y0, .ref p4]) ((g12.trans g4).sb.no nl)
    have e1 := e1.mono lu
    have e2 := e2.mono lu
    have e0 := e0.mono lu
    have e9 := e9.mono lu
    have e4 := t4.mono lu
    clear l2 l4 lu t1 t2 t4 g1 g2 g12
    generalize hG5 : upd (upd (upd (upd (upd (upd (upd G1 h1 _) p1 _) h2 _) p2 _) h4 _) p4 _) l _ = G5 at g5 e1 e2 e0 e9 e4
    have hl5 : G5 l = some (.lst [.ref p1, .ref p2, y0, .ref p4]) := by rw [← hG5]; exact upd_same
    clear hG5 n4 q4 n2 q2 n1 q1 g4
    generalize hH : upd (upd (upd (upd (upd (upd (upd H1 h1 _) p1 _) h2 _) p2 _) h4 _) p4 _) l _ = H5
    have g5 : GR K S0 G1 H1 G5 H5 := by rw [← hH]; exact g5
    clear hH nl
    have fl5 := fl.call g5
    have hsl : ∀ {G' H' : Hp}, GR K S0 G1 H1 G' H' → SqL K H' sa ps := fun g => SqL.of (g.sb _ _ (g.gg _ _ hsa)).1
    refine ⟨_, rfl, _, rfl, 1, rfl, sa, ps, -1, y9, rfl, rfl, hsl g5, last_atV (by rw [List.getLast?_eq_getElem?, hpl, h12]; exact hy9), size_of (n := 1) (by decide), fun b hb => ?_⟩
    have g6 := g5.new hb (o := .lst [y9]) trivial
    have lu := Le.up (o := .lst [y9]) (g5.sb.no hb)
    refine ⟨l, b, _, _, rfl, rfl, (g6.sb _ _ (lu _ _ hl5)).1, upd_same, size_of (n := 5) (by decide), fun c hc => ?_⟩
    have g7 := g6.new hc (o := .lst [.ref p1, .ref p2, y0, .ref p4, y9]) trivial
    have lv := Le.up (o := .lst [.ref p1, .ref p2, y0, .ref p4, y9]) (g6.sb.no hc)
    have pl : ∀ (j : Nat) (y : V), [V.ref p1, .ref p2, y0, .ref p4, y9][j]? = some y → ∃ m, PtIn (upd (upd G5 b (.lst [y9])) c (.lst [.ref p1, .ref p2, y0, .ref p4, y9])) y m ∧ Ok m := by
      intro j y hj
      match j, hj with
      | 0, hj => cases hj; exact ⟨_, (e1.mono lu).mono lv, cp_ok⟩
      | 1, hj => cases hj; exact ⟨_, (e2.mono lu).mono lv, a1_ok⟩
      | 2, hj => cases hj; exact ⟨_, (e0.mono lu).mono lv, (pt hy0 hm0).2⟩
      | 3, hj => cases hj; exact ⟨_, (e4.mono lu).mono lv, lg_ok⟩
      | 4, hj => cases hj; exact ⟨_, (e9.mono lu).mono lv, (pt hy9 hm9).2⟩
      | j + 5, hj => cases hj
    have hcl : upd (upd G5 b (.lst [y9])) c (.lst [.ref p1, .ref p2, y0, .ref p4, y9]) c = some (.lst [.ref p1, .ref p2, y0, .ref p4, y9]) := upd_same
    have fl7 := fl.call g7
    clear e1 e2 e0 e4 e9 lu lv hl5
    generalize hG7 : upd (upd G5 b (.lst [y9])) c (.lst [.ref p1, .ref p2, y0, .ref p4, y9]) = G7 at g7 fl7 pl hcl
    generalize hH7 : upd (upd H5 b _) c _ = H7
    have g7 : GR K S0 G1 H1 G7 H7 := by rw [← hH7]; exact g7
    have fl7 : Fl K G H G7 H7 x a (.ref sa) ms1 := by rw [← hH7]; exact fl7
    clear hG7 hH7 hc g6 hb
    refine ⟨c, rfl, ⟨_, SqL.of (g7.sb _ _ hcl).1⟩, ?_⟩
    refine for_list (K := K) (a := c) (xs := [.ref p1, .ref p2, y0, .ref p4, y9]) (fun i σ H' => ∃ (x2 x3 : Option V) (G' : Hp), σ = [some (.ref x), some (.ref sa), x2, x3, some (.ref l), none, none] ∧ Le G7 G' ∧ Fl K G H G' H' x a (.ref sa) ms1) ⟨_, _, G7, rfl, Le.refl _, fl7⟩ ?_ ?_ ?_
    · rintro i σ H' _ ⟨_, _, G', rfl, le, fl'⟩
      exact SqL.of (fl'.g.sb _ _ (le _ _ hcl)).1
    · rintro i y σ H' hy ⟨_, _, G', rfl, le, fl'⟩
      obtain ⟨m, hm, okm⟩ := pl i y hy
      have hm' := hm.mono le
      refine ⟨_, rfl, _, rfl, _, rfl, _, rfl, _, y, m, rfl, fl'.g.sb, hm'.mono fl'.g.sb.le, okm, fun G3 H3 u g3 hu => ?_⟩
      have fl3 := fl'.call g3
      refine ⟨G3, x, a, .ref sa, ms1, 0, y, u, m, rfl, fl3.g.sb, fl3.g.tb tb, fl3.hs, fl3.fit, fl3.sh, hm'.mono g3.gg, hu, okm, .inl rfl, fun G4 H4 b g4 hs4 hb4 => ?_⟩
      rw [outc_full h12] at hs4 hb4
      have sh4 := fl3.sh.mono g4.gg
      refine ⟨_, rfl, _, _, shelf_dp hb4 g4.sb, shelf_dp sh4 g4.sb, shelf_shaped fl.fit.ok, shelf_shaped fl.fit.ok, _, rfl, ?_⟩
      rw [shelf_eqv, decide_eq_true rfl]
      exact iteF ⟨_, _, G4, rfl, (le.trans g3.gg).trans g4.gg, ⟨fl3.g.trans g4, hs4, fl3.fit, sh4⟩⟩
    rintro σ H' ⟨_, _, G', rfl, le, fl'⟩
    have hsl' : ∀ {Ga Ha : Hp}, Le G' Ga → Sb Ga Ha → SqL K Ha sa ps := fun l sb => SqL.of (sb _ _ (l _ _ ((g7.gg.trans le) _ _ hsa))).1
    have pt5 := (pt hy5 hm5).1.mono (g7.gg.trans le)
    have ok5 := (pt hy5 hm5).2
    have hin := List.mem_of_getElem? hm5
    refine ⟨_, rfl, sa, ps, 5, y5, rfl, rfl, hsl' (Le.refl _) fl'.g.sb, atI_nat (j := 5) hy5, G', y5, m5, rfl, fl'.g.sb, pt5.mono fl'.g.sb.le, ok5, fun G3 H3 u g3 hu => ?_⟩
    have fl3 := fl'.call g3
    refine ⟨_, rfl, _, rfl, _, rfl, sa, ps, 5, y5, rfl, rfl, hsl' g3.gg fl3.g.sb, atI_nat (j := 5) hy5, _, rfl, G3, x, a, .ref sa, ms1, 1, y5, u, m5, rfl, fl3.g.sb, fl3.g.tb tb, fl3.hs, fl3.fit, fl3.sh, pt5.mono g3.gg, hu, ok5, .inr rfl, fun G4 H4 b g4 hs4 hb4 => ?_⟩
    have fit4 := outc_fit (way := 1) fl3.fit ok5
    rw [outc_rest fl3.fit hin] at hs4 hb4 fit4
    obtain ⟨h11, hbk⟩ := outc_back fl3.fit h12 hin
    have hb5 := hb4
    obtain ⟨ba, bps, rfl, hba, hbps⟩ := hb5
    have hbl := pair_len hbps
    refine ⟨_, rfl, rfl, _, rfl, ifN (fun _ => ?_) fun z => nomatch z⟩
    refine ⟨_, rfl, ba, bps, rfl, .inl (SqL.of (g4.sb _ _ hba).1), rfl, _, rfl, ifC (fun _ => ?_) fun z => (z (by rw [hbl, h11]; rfl)).elim⟩
    have g34 := g3.weak.trans g4
    refine ⟨_, rfl, _, rfl, _, rfl, sa, ps, 5, y5, rfl, rfl, hsl' g34.gg g34.sb, atI_nat (j := 5) hy5, _, rfl, G4, x, a, .ref ba, _, 0, y5, u, m5, rfl, g34.sb, (fl3.g.trans g4).tb tb, hs4, fit4, hb4, pt5.mono g34.gg, MarkAt.mono hu g4.gg, ok5, .inl rfl, fun G6 H6 c g6 hs6 hb6 => ?_⟩
    rw [hbk] at hs6 hb6
    have sh6 := ((fl3.sh.mono g4.gg).mono g6.gg)
    refine ⟨_, rfl, _, _, shelf_dp hb6 g6.sb, shelf_dp sh6 g6.sb, shelf_shaped fl.fit.ok, shelf_shaped fl.fit.ok, ?_⟩
    rw [shelf_eqv, decide_eq_true rfl]
    exact q _ _ ((fl3.g.trans g4).trans g6)
end
end K42
set_option Elab.async false
set_option linter.all false
set_option maxRecDepth 100000
set_option maxHeartbeats 4000000
namespace K42
open PySem PySem.Spec PyProof.Rows L2
section
variable {P : Program} {w : World} {K : PySem.W.Frag} {mg : Str → Option Value} {base : Heap}
theorem pe_shorts {X : Cx} {p pos : Pos} {e : Expr} {es : List Expr} {t : TA} (T : Tx X.K X.mg X.base) (hr : Room 13 X.A) (ha : PA X (e :: es) t) (hg : Gl X "Shorts" := by rfl)
    (he : starEach (e :: es) X.env = (false, eval e X.env) :: starEach es X.env := by rfl) (hpl : (backTo pos (starEach es X.env)).any (·.1) = false := by rfl) :
    PE X (.Call (.Name "Shorts" p) (e :: es) [] pos) (tMake (He.ga X.K "Shorts") (spSInit X.K) [] E0 t) := by
  obtain ⟨fd, F, FF, hb⟩ := kn_Shorts_init (P := X.prog) (w := X.w) T
  exact pe_make T.m_Shorts FF hr hg T.g_Shorts hb .nil pass0 ha (he := he) (hpl := hpl)
theorem pe_shortsE {X : Cx} {K : PySem.W.Frag} {mg : Str → Option Value} {base : Heap} {p pos : Pos} {e : Expr} {es : List Expr} {t : TA} (hK : X.K = K) (hmg : X.mg = mg) (hbs : X.base = base) (T : Tx K mg base) (hr : Room 13 X.A) (ha : PA X (e :: es) t) (hg : Gl X "Shorts" := by rfl)
    (he : starEach (e :: es) X.env = (false, eval e X.env) :: starEach es X.env := by rfl) (hpl : (backTo pos (starEach es X.env)).any (·.1) = false := by rfl) :
    PE X (.Call (.Name "Shorts" p) (e :: es) [] pos) (tMake (He.ga K "Shorts") (spSInit K) [] E0 t) := by
  subst hK hmg hbs
  exact pe_shorts T hr ha (hg := hg) (he := he) (hpl := hpl)
def scRow : Scope := { kind := .function, names := [(".0", .local), ("_law_row", .local), ("Shorts", .globalImplicit)], isGenerator := false, isCoroutine := false }
theorem Nw.ne {H : Hp} {a b : Addr} {o : HO} (h : Nw H a) (e : H b = some o) (n : ∀ ps, o ≠ .tbl ps) : a ≠ b := fun z => h o (by rw [z]; exact e) n
theorem nt_lst {xs : List V} : ∀ ps, HO.lst xs ≠ .tbl ps := fun _ e => nomatch e
theorem SAt.inst {G H : Hp} {x a : Addr} {ms : List Mk} (h : SAt K G H x a ms) : (∃ c dx fs, H x = some (.ins c dx fs)) ∧ ∃ xs, H a = some (.lst xs) := by
  obtain ⟨dx, sv, r, xs, h1, _⟩ := h.at_
  obtain ⟨ys, h5, _⟩ := h.ml
  exact ⟨⟨_, _, _, h1⟩, _, h5⟩
theorem SAt.ne {G H : Hp} {x a : Addr} {ms : List Mk} (h : SAt K G H x a ms) : x ≠ a := fun e => by
  obtain ⟨⟨_, _, _, h1⟩, _, h2⟩ := h.inst
  rw [e, h2] at h1
  cases h1
theorem SAt.nn {G H : Hp} {x a p : Addr} {ms : List Mk} (h : SAt K G H x a ms) (n : Nw H p) : p ≠ x ∧ p ≠ a := by
  obtain ⟨⟨_, _, _, h1⟩, _, h2⟩ := h.inst
  exact ⟨n.ne h1 (fun _ e => nomatch e), n.ne h2 nt_lst⟩
theorem SAt.wrD {G H : Hp} {x a D : Addr} {o : HO} {ms : List Mk} (h : SAt K G H x a ms) (hx : x ≠ D) (ha : a ≠ D) : SAt K G (upd H D o) x a ms := by
  obtain ⟨dx, sv, r, xs, h1, h2, h3, h4⟩ := h.at_
  obtain ⟨ys, h5, h6⟩ := h.ml
  exact ⟨h.gx, h.ga, ⟨ys, by rw [upd_ne ha]; exact h5, h6⟩, dx, sv, r, xs, by rw [upd_ne hx]; exact h1, h2, h3, h4⟩
theorem SAt.frz {G H : Hp} {x a D : Addr} {o : HO} {ms : List Mk} (h : SAt K G H x a ms) (hx : x ≠ D) (ha : a ≠ D) (n : G D = none) : SAt K (upd G D o) H x a ms := by
  obtain ⟨dx, sv, r, xs, h1, h2, h3, h4⟩ := h.at_
  obtain ⟨ys, h5, h6⟩ := h.ml
  have l : Le G (upd G D o) := Le.up n
  exact ⟨by rw [upd_ne hx]; exact h.gx, by rw [upd_ne ha]; exact h.ga, ⟨ys, h5, pair_imp h6 fun _ _ z => MarkAt.mono z l⟩, dx, sv, r, xs, h1, h2.mono l, l _ _ h3, pair_imp h4 fun _ _ z => MarkAt.mono z l⟩
theorem shorts_read {G H : Hp} {ms : List Mk} {l : Addr} {Q : VK} (sb : Sb G H) (tb : LamX.Tabs (Tq K) H) (hml : Ml K G H l ms) (fit : Fit ms) (q : ∀ G' H' x b, GR K S0 G H G' H' → Nw H x → Nw H b → SAt K G' H' x b ms → Q (.ref x) H') :
    ∀ x dx, H x = none → H dx = none → dx ≠ x → spSInit K [.ref x, .ref l] (upd (upd H dx (.own x)) x (.ins (He.ga K "Shorts") dx [])) (fun v H3 => v = .non ∧ Q (.ref x) H3) E0 := by
  intro x dx hx hdx hne
  have hx2 : upd H dx (.own x) x = none := by rw [upd_ne (Ne.symm hne)]; exact hx
  have g1 := ((GR.refl (K := K) (S := S0) sb).newM hdx (o := .own x)).newM hx2 (o := .ins (He.ga K "Shorts") dx [])
  refine ⟨G, x, dx, l, ms, rfl, g1.sb, g1.tb tb, upd_same, sb.no hx, hml.keep g1 id, fit, fun G' H' b c nb hs => ⟨rfl, ?_⟩⟩
  exact q G' H' x b (g1.call c fun b hb => .inr (by rw [show b = x from hb]; exact hx)) (.of hx) (g1.nw nb) hs
theorem lcGH (K : PySem.W.Frag) {J : It} {n : Nat} {Gc : Hp → Prop} {Y : Nat → Hp → V → Hp → Prop} (wk : Walk J n Gc Y) {g : TG} {tt : TT} {te : TE} {vs : List Nat} {σ : L2.St} {G1 H1 : Hp} {D : Addr} {Qd : Hp → Prop}
    (sb : Sb G1 H1) (hD : H1 D = none) (Rp : Hp → Hp → List V → Nat → Prop) (h0 : Rp G1 (upd H1 D (.lst [])) [] 0) (hn : n ≤ sizeLine) (hz : ∀ G H acc i, Rp G H acc i → acc.length ≤ i) (hG : ∀ G H, GR K S0 G1 H1 G H → Gc H)
    (hst : ∀ G H acc acc2 i, H D = some (.lst acc2) → Rp G H acc i → Rp G (upd H D (.lst acc)) acc i)
    (hs : ∀ i x G H H' acc (N : Hp → Prop), i < n → GR K S0 G1 H1 G H → G D = none → H D = some (.lst acc) → Rp G H acc i → Y i H x H' →
      (∀ G4 H4 y, GR K S0 G H G4 H4 → Rp G4 H4 (acc ++ [y]) (i + 1) → ∃ acc', H4 D = some (.lst acc') ∧ acc'.length < sizeLine ∧ N (upd H4 D (.lst (acc' ++ [y])))) →
      g x (wipe σ vs) H' fun σ2 H2 => wipe σ2 vs = wipe σ vs ∧ tt σ2 H2 fun b H3 => if b = true then te σ2 H3 fun y H4 => ∃ acc, H4 D = some (.lst acc) ∧ acc.length < sizeLine ∧ N (upd H4 D (.lst (acc ++ [y]))) else N H3)
    (hd : ∀ G H acc, GR K S0 G1 H1 G H → H D = some (.lst acc) → G D = none → Rp G H acc n → Qd H) :
    ∃ W : Nat → Nat → Hp → Prop, (∃ m, W 0 m (upd H1 D (.lst []))) ∧ ∀ i m H, W i m H →
      (J.stop i H ∧ Qd H) ∨ (J.go i H ∧ ∃ Nx : Hp → Prop, (∀ H', Nx H' → ∃ m', m' < m ∧ W (i + 1) m' H') ∧ ∀ x H', J.yld i H x H' → g x (wipe σ vs) H' fun σ2 H2 => wipe σ2 vs = wipe σ vs ∧ tt σ2 H2 fun b H3 =>
        if b = true then te σ2 H3 fun y H4 => ∃ acc, H4 D = some (.lst acc) ∧ acc.length < sizeLine ∧ Nx (upd H4 D (.lst (acc ++ [y]))) else Nx H3) := by
  refine lc_it wk (Pv := fun i H => ∃ G acc, GR K S0 G1 H1 G H ∧ G D = none ∧ H D = some (.lst acc) ∧ Rp G H acc i) ?_ ?_ ?_ ?_
  · exact ⟨G1, [], (GR.refl sb).newM hD, sb.no hD, upd_same, h0⟩
  · rintro i H hi ⟨G, acc, g, _, _, _⟩
    exact hG G H g
  · rintro i x H H' hi ⟨G, acc, gr, gD, hD', rp⟩ y
    refine hs i x G H H' acc _ hi gr gD hD' rp y (fun G4 H4 v g4 r4 => ?_)
    refine ⟨acc, g4.keep hD' trivial id, Nat.lt_of_le_of_lt (hz G H acc i rp) (Nat.lt_of_lt_of_le hi hn), G4, acc ++ [v], ?_, g4.nofrz hD' gD, upd_same, hst _ _ _ acc _ (g4.keep hD' trivial id) r4⟩
    exact (gr.trans g4).wr (.inr hD) (g4.nofrz hD' gD) (g4.keep hD' trivial id) trivial
  · rintro H ⟨G, acc, gr, gD, hD', rp⟩
    exact hd G H acc gr hD' gD rp
theorem cutV_take {xs : List V} {k : Nat} (h : k ≤ xs.length) : cutV xs none (some (k : Int)) = xs.take k := by
  unfold cutV
  rw [HT.sIx_none, HT.sIx_nat, List.drop_zero, Nat.sub_zero, Nat.min_eq_left h]
theorem cutV_drop {xs : List V} {k : Nat} (h : k ≤ xs.length) : cutV xs (some (k : Int)) none = xs.drop k := by
  unfold cutV
  rw [HT.sIx_none, HT.sIx_nat, Nat.min_eq_left h, List.take_of_length_le (by rw [List.length_drop]; omega)]
/-- the Shorts made so far -/
structure Both (K : PySem.W.Frag) (H0 : Hp) (D : Addr) (M : Nat → List Mk) (x a : Nat → Addr) (G H : Hp) (acc : List V) (n : Nat) : Prop where
  e : acc = (List.range n).map fun j => .ref (x j)
  s : ∀ i, i < n → SAt K G H (x i) (a i) (M i) ∧ Nw H0 (x i) ∧ Nw H0 (a i) ∧ x i ≠ D ∧ a i ≠ D
  d : ∀ i j, i < n → j < n → i ≠ j → x i ≠ x j ∧ x i ≠ a j ∧ a i ≠ a j
theorem Both.push {H0 : Hp} {D : Addr} {M : Nat → List Mk} {x a : Nat → Addr} {G H G' H' : Hp} {acc : List V} {n : Nat} {y b : Addr} {l : List V} (B : Both K H0 D M x a G H acc n) (g : GR K S0 G H G' H') (g0 : ∀ p, Nw H p → Nw H0 p) (hD : H D = some (.lst l)) (ny : Nw H y) (nb : Nw H b) (hs : SAt K G' H' y b (M n)) :
    Both K H0 D M (fun i => if i = n then y else x i) (fun i => if i = n then b else a i) G' H' (acc ++ [.ref y]) (n + 1) := by
  refine ⟨?_, fun i hi => ?_, fun i j hi hj hij => ?_⟩
  · rw [List.range_succ, List.map_append, B.e]
    congr 1
    · exact List.map_congr_left fun j hj => by simp only [if_neg (Nat.ne_of_lt (List.mem_range.mp hj))]
    · show [V.ref y] = [V.ref (if n = n then y else x n)]
      rw [if_pos rfl]
  · by_cases e : i = n
    · subst e
      simp only [if_pos rfl]
      exact ⟨hs, g0 _ ny, g0 _ nb, ny.ne hD nt_lst, nb.ne hD nt_lst⟩
    · simp only [if_neg e]
      obtain ⟨h1, h2⟩ := B.s i (by omega)
      exact ⟨h1.keep0 g, h2⟩
  · by_cases e : i = n
    · subst e
      have ej : j ≠ i := Ne.symm hij
      simp only [if_pos rfl, if_neg ej]
      have hj' := (B.s j (by omega)).1
      exact ⟨(hj'.nn ny).1, (hj'.nn ny).2, (hj'.nn nb).2⟩
    · by_cases e2 : j = n
      · subst e2
        simp only [if_pos rfl, if_neg e]
        have hi' := (B.s i (by omega)).1
        exact ⟨(hi'.nn ny).1.symm, (hi'.nn nb).1.symm, (hi'.nn nb).2.symm⟩
      · simp only [if_neg e, if_neg e2]
        exact B.d i j (by omega) (by omega) hij
theorem cutV_mem {xs : List V} {i j : Option Int} {v : V} (h : v ∈ cutV xs i j) : v ∈ xs := by
  unfold cutV at h
  exact List.mem_of_mem_drop (List.mem_of_mem_take h)
theorem cutV_ints (zs : List Int) (i j : Option Int) : ∃ ws : List Int, cutV (zs.map V.int) i j = ws.map V.int ∧ ws.length ≤ zs.length := by
  refine ⟨(zs.drop (HT.sIx zs.length 0 i)).take (HT.sIx zs.length zs.length j - HT.sIx zs.length 0 i), ?_, ?_⟩
  · unfold cutV
    rw [List.length_map, ← List.map_drop, ← List.map_take]
  · rw [List.length_take, List.length_drop]
    omega
theorem pair_of {α β : Type} {F : α → β → Prop} {C : β → Prop} : ∀ {xs : List α}, (∀ x ∈ xs, ∃ m, F x m ∧ C m) → ∃ ms, Paired F xs ms ∧ ∀ m ∈ ms, C m
  | [], _ => ⟨[], .nil, fun _ h => nomatch h⟩
  | x :: xs, h => by
    obtain ⟨m, hm, hc⟩ := h x (List.mem_cons_self ..)
    obtain ⟨ms, hp, hcs⟩ := pair_of fun y hy => h y (List.mem_cons_of_mem _ hy)
    exact ⟨m :: ms, .cons hm hp, fun z hz => (List.mem_cons.mp hz).elim (fun e => e ▸ hc) (hcs z)⟩
/-- what stands through the law: two Shorts, the list of their shelves -/
structure Lw (K : PySem.W.Frag) (G0 H0 G H : Hp) (sh : Addr) (x a : Nat → Addr) (vl v : Nat → V) (ms : Nat → List Mk) : Prop where
  g : GR K S0 G0 H0 G H
  nsh : Nw H0 sh
  nx : ∀ i, i < 2 → Nw H0 (x i) ∧ Nw H0 (a i)
  s : ∀ i, i < 2 → SAt K G H (x i) (a i) (ms i) ∧ Fit (ms i) ∧ ShelfAt G (v i) (ms i)
  d : ∀ i j, i < 2 → j < 2 → i ≠ j → x i ≠ x j ∧ x i ≠ a j ∧ a i ≠ a j
  sx : ∀ i, i < 2 → x i ≠ sh ∧ a i ≠ sh
  hs : H sh = some (.lst [vl 0, vl 1])
  gs : G sh = none
theorem Lw.call0 {G0 H0 G H G' H' : Hp} {sh : Addr} {x a : Nat → Addr} {vl v : Nat → V} {ms : Nat → List Mk} (l : Lw K G0 H0 G H sh x a vl v ms) (g : GR K S0 G H G' H') : Lw K G0 H0 G' H' sh x a vl v ms :=
  ⟨l.g.trans g, l.nsh, l.nx, fun i hi => ⟨(l.s i hi).1.keep0 g, (l.s i hi).2.1, (l.s i hi).2.2.mono g.gg⟩, l.d, l.sx, g.keep l.hs trivial id, g.nofrz l.hs l.gs⟩
theorem Lw.call1 {G0 H0 G H G' H' : Hp} {sh p : Addr} {x a : Nat → Addr} {vl v : Nat → V} {ms : Nat → List Mk} (l : Lw K G0 H0 G H sh x a vl v ms) (g : GR K (S1 p) G H G' H') (np : Nw H0 p) (ps : p ≠ sh) (px : ∀ i, i < 2 → p ≠ x i ∧ p ≠ a i) : Lw K G0 H0 G' H' sh x a vl v ms :=
  ⟨l.g.callN g fun b hb => .inr (by rw [show b = p from hb]; exact np), l.nsh, l.nx, fun i hi => ⟨(l.s i hi).1.keep g (fun e => (px i hi).1 (show x i = p from e).symm) (fun e => (px i hi).2 (show a i = p from e).symm), (l.s i hi).2.1, (l.s i hi).2.2.mono g.gg⟩, l.d, l.sx, g.keep l.hs trivial (fun e => ps (show sh = p from e).symm), g.nofrz l.hs l.gs⟩
theorem Lw.step {G0 H0 G H G' H' : Hp} {sh : Addr} {x a : Nat → Addr} {vl v : Nat → V} {ms : Nat → List Mk} {s : Nat} {m' : List Mk} {b : V} (l : Lw K G0 H0 G H sh x a vl v ms) (hs : s < 2) (g : GR K (S2 (x s) (a s)) G H G' H') (h1 : SAt K G' H' (x s) (a s) m') (h2 : Fit m') (h3 : ShelfAt G' b m') :
    Lw K G0 H0 G' H' sh x a vl (fun i => if i = s then b else v i) (fun i => if i = s then m' else ms i) := by
  have ng : ∀ {p : Addr}, p ≠ x s → p ≠ a s → ¬ S2 (x s) (a s) p := fun h1 h2 e => e.elim h1 h2
  refine ⟨l.g.callN g fun c hc => .inr (hc.elim (fun e => e ▸ (l.nx s hs).1) fun e => e ▸ (l.nx s hs).2), l.nsh, l.nx, fun i hi => ?_, l.d, l.sx, g.keep l.hs trivial (ng (l.sx s hs).1.symm (l.sx s hs).2.symm), g.nofrz l.hs l.gs⟩
  by_cases e : i = s
  · subst e
    simp only [if_pos rfl]
    exact ⟨h1, h2, h3⟩
  · simp only [if_neg e]
    have d1 := l.d i s hi hs e
    have d2 := l.d s i hs hi (Ne.symm e)
    exact ⟨(l.s i hi).1.keep g (ng d1.1 d1.2.1) (ng d2.2.1.symm d1.2.2), (l.s i hi).2.1, (l.s i hi).2.2.mono g.gg⟩
theorem Lw.set {G0 H0 G H : Hp} {sh : Addr} {x a : Nat → Addr} {vl v w : Nat → V} {ms : Nat → List Mk} (l : Lw K G0 H0 G H sh x a vl v ms) : Lw K G0 H0 G (upd H sh (.lst [w 0, w 1])) sh x a w v ms := by
  have g := (GR.refl (K := K) (S := S1 sh) l.g.sb).wr (.inl rfl) l.gs l.hs (o' := .lst [w 0, w 1]) trivial
  refine ⟨l.g.wrN l.nsh l.gs l.hs trivial, l.nsh, l.nx, fun i hi => ⟨(l.s i hi).1.keep g (l.sx i hi).1 (l.sx i hi).2, (l.s i hi).2⟩, l.d, l.sx, upd_same, l.gs⟩
/-- and the marks held -/
structure Lp (K : PySem.W.Frag) (G0 H0 G H : Hp) (sh : Addr) (x a : Nat → Addr) (v : Nat → V) (ms : Nat → List Mk) (GS : Hp) (hl : Addr) (hvs : List V) : Prop where
  lw : Lw K G0 H0 G H sh x a v v ms
  le : Le GS G
  hh : G hl = some (.lst hvs)
  h12 : hvs.length ≤ 12
  ok : ∀ v ∈ hvs, ∃ m, HeldAt K G v m ∧ Ok m
theorem Lp.go {G0 H0 G H G' H' GS : Hp} {sh hl : Addr} {x a : Nat → Addr} {v v' : Nat → V} {ms ms' : Nat → List Mk} {hvs : List V} (l : Lp K G0 H0 G H sh x a v ms GS hl hvs) (w : Lw K G0 H0 G' H' sh x a v' v' ms') (g : Le G G') : Lp K G0 H0 G' H' sh x a v' ms' GS hl hvs :=
  ⟨w, l.le.trans g, g _ _ l.hh, l.h12, fun v hv => by
    obtain ⟨m, h, o⟩ := l.ok v hv
    exact ⟨m, h.mono g, o⟩⟩
theorem Lw.pool {G0 H0 G H : Hp} {sh p : Addr} {x a : Nat → Addr} {vl v : Nat → V} {ms : Nat → List Mk} (l : Lw K G0 H0 G H sh x a vl v ms) (hp : H p = none) : Nw H0 p ∧ p ≠ sh ∧ ∀ i, i < 2 → p ≠ x i ∧ p ≠ a i :=
  ⟨l.g.nw (.of hp), (Nw.of hp).ne l.hs nt_lst, fun i hi => (l.s i hi).1.nn (.of hp)⟩
theorem side {s : Nat} (h : s < 2) : ∃ o : Nat, o < 2 ∧ o ≠ s ∧ (1 : Int) - (s : Int) = (o : Int) := ⟨1 - s, by omega, by omega, by omega⟩
theorem at2 {α : Type} {x y : α} {f : Nat → α} (h0 : f 0 = x) (h1 : f 1 = y) {i : Nat} (h : i < 2) : atI [x, y] (i : Int) = some (f i) := by
  match i, h with
  | 0, _ => rw [h0]; rfl
  | 1, _ => rw [h1]; rfl
theorem cutV_last9 (xs : List V) : (cutV xs (some (-9)) none).length ≤ 9 := by
  unfold cutV
  rw [List.length_take, List.length_drop]
  simp only [HT.sIx]
  split <;> omega
theorem set2 {f : Nat → V} {b : V} {s : Nat} (h : s < 2) : ∃ w : Nat → V, w = (fun i => if i = s then b else f i) ∧ [f 0, f 1].set s b = [w 0, w 1] ∧ ixN [f 0, f 1].length (s : Int) = some s := by
  refine ⟨_, rfl, ?_⟩
  match s, h with
  | 0, _ => exact ⟨rfl, rfl⟩
  | 1, _ => exact ⟨rfl, rfl⟩
theorem Lp.held {G0 H0 G H GS : Hp} {sh hl : Addr} {x a : Nat → Addr} {v : Nat → V} {ms : Nat → List Mk} {hvs : List V} (l : Lp K G0 H0 G H sh x a v ms GS hl hvs) : ∃ hms, Paired (HeldAt K G) hvs hms ∧ ∀ m ∈ hms, Ok m := pair_of l.ok
def spLaw (K : PySem.W.Frag) : Sp := fun vs H Q _ => ∃ (G : Hp) (a : Addr) (zs : List Int), vs = [.ref a] ∧ Sb G H ∧ LamX.Tabs (Tq K) H ∧ SqL K H a (zs.map V.int) ∧ zs.length ≤ 63 ∧ (∀ G' H', GR K S0 G H G' H' → Q (.bl true) H')
abbrev N_law : List Str := ["_law_script", "_law_shelves", "_law_held_here", "_law_first", "_law_both", "_law_cell", "_law_pool_here", "_law_side", "_law_way", "_law_parts", "_law_elders", "_law_spine", "_law_behind", "_law_row"]
theorem sc_law : FnScope N_law ["_law_script"] (defScope S_law) := ⟨rfl, rfl, rfl, by decide +kernel, rfl, by decide +kernel, by decide +kernel⟩
theorem ok_law (T : Tx K mg base) {fd : FuncData} (F : FunD K "law" "law" (defArgs S_law) (defBody S_law) (defScope S_law) [] [] (He.ga K "law") fd) : FnOk P w K mg base CX0 19 (He.ga K "law") fd ["_law_script"] (spLaw K) := by
  refine F.ok sc_law (fun vs H Q E h => by obtain ⟨_, _, _, rfl, _⟩ := h; rfl) (fun cdv A outer s H vs Q E hr h => ⟨_, PSs.nox (pss_cons (ps_set (i := 1) sc_law.nd rfl (Or.inl rfl) (pe_lst (pa_cons (pe_fn (kn__law_shelf T) (hr.mono (by decide)) (pa_cons (pv 0) (pa_cons (pe_op op_mod (pe_fn (kn__law_cell_at T) (hr.mono (by decide)) (pa_cons (pv 0) (pa_cons pe_int pa_nil))) pe_int) pa_nil))) (pa_cons (pe_fn (kn__law_shelf T) (hr.mono (by decide)) (pa_cons (pe_slice sl_list (pv 0) (po_some pe_int) po_none) (pa_cons (pe_op op_mod (pe_fn (kn__law_cell_at T) (hr.mono (by decide)) (pa_cons (pv 0) (pa_cons pe_int pa_nil))) pe_int) pa_nil))) pa_nil))))
    (pss_cons (ps_setLc (i := 2) rfl sc_law.nd rfl rfl (sw_true rfl rfl rfl (by decide +kernel)) (own := [("_law_parts", 9)]) (pi_list (pe_op op_cat (pe_ix ix_list (pv 1) pe_int (fun _ _ => rfl)) (pe_ix ix_list (pv 1) pe_int (fun _ _ => rfl)))) (blkOk_by (N := N_law) (sc := defScope S_law) (by decide +kernel)) (fun _ _ _ _ _ => (pg_name (i := 9) sc_law.nd rfl (Or.inl rfl))) (fun _ _ _ _ _ => pts_nil) (fun _ _ _ _ _ => (pe_tup (pa_cons (pv 9) (pa_cons (pe_fn (kn__law_mark T) (hr.mono (by decide)) (pa_cons (pv 9) pa_nil)) pa_nil)))))
    (pss_cons (ps_set (i := 3) sc_law.nd rfl (Or.inl rfl) (pe_callB call_len_seq (by rfl) T.f_len (by decide +kernel) (pa_cons (pe_ix ix_list (pv 1) pe_int (fun _ _ => rfl)) pa_nil)))
    (pss_cons (ps_setLc (i := 4) rfl sc_law.nd rfl rfl (sw_true rfl rfl rfl (by decide +kernel)) (own := [("_law_row", 13)]) (pi_list (pe_lst (pa_cons (pe_slice sl_list (pv 2) po_none (po_some (pv 3))) (pa_cons (pe_slice sl_list (pv 2) (po_some (pv 3)) po_none) pa_nil)))) (blkOk_by (N := N_law) (sc := defScope S_law) (by decide +kernel)) (fun _ _ _ _ _ => (pg_name (i := 13) sc_law.nd rfl (Or.inl rfl))) (fun _ _ _ _ _ => pts_nil) (fun _ _ _ _ _ => (pe_shortsE rfl rfl rfl T (hr.mono (by decide)) (pa_cons (pe_lc (own := [("_law_parts", 9), ("_law_spine", 11)]) rfl sc_law.nd (pi_listE K rfl (pv 13)) (blkOk_by (N := N_law) (sc := scRow) (by decide +kernel)) (fun _ _ _ _ _ => (pg_tupE (n := 2) K rfl rfl (pgs_cons (pg_name (i := 9) sc_law.nd rfl (Or.inl rfl)) (pgs_cons (pg_name (i := 11) sc_law.nd rfl (Or.inl rfl)) pgs_nil)))) (fun _ _ _ _ _ => pts_nil) (fun _ _ _ _ _ => (pv 11))) pa_nil))))
    (pss_cons (ps_for PassesOwn.never rfl (pi_list (pe_slice sl_list (pv 0) (po_some pe_int) (po_some pe_int))) (pg_name (i := 5) sc_law.nd rfl (Or.inl rfl)) (pss_cons (ps_set (i := 6) sc_law.nd rfl (Or.inl rfl) (pe_fn (kn__law_pool T) (hr.mono (by decide)) (pa_cons (pv 5) pa_nil)))
    (pss_cons (ps_set (i := 7) sc_law.nd rfl (Or.inl rfl) (pe_fn (kn__law_take T) (hr.mono (by decide)) (pa_cons (pv 6) (pa_cons pe_int pa_nil))))
    (pss_cons (ps_set (i := 8) sc_law.nd rfl (Or.inl rfl) (pe_ix ix_list (pe_lst (pa_cons pe_int (pa_cons pe_int (pa_cons pe_int pa_nil)))) (pe_fn (kn__law_take T) (hr.mono (by decide)) (pa_cons (pv 6) (pa_cons pe_int pa_nil))) (fun _ _ => rfl)))
    (pss_cons (ps_set (i := 9) sc_law.nd rfl (Or.inr rfl) (pe_fn (kn__law_drawn T) (hr.mono (by decide)) (pa_cons (pe_op op_cat (pe_ix ix_list (pv 1) (pe_op op_sub pe_int (pv 7)) (fun _ _ => rfl)) (pe_ix ix_list (pv 1) (pv 7) (fun _ _ => rfl))) (pa_cons (pv 6) pa_nil))))
    (pss_cons (ps_setLc (i := 10) rfl sc_law.nd rfl rfl (sw_true rfl rfl rfl (by decide +kernel)) (own := [("_law_row", 13)]) (pi_list (pv 2)) (blkOk_by (N := N_law) (sc := defScope S_law) (by decide +kernel)) (fun _ _ _ _ _ => (pg_name (i := 13) sc_law.nd rfl (Or.inl rfl))) (fun _ _ _ _ _ => (pts_one (pt_cmpR (op_eqDE K rfl hr.units) (pe_ix (ix_tupE K rfl) (pv 13) pe_int (fun _ _ => rfl)) (pv 9) (nomark _)))) (fun _ _ _ _ _ => (pv 13)))
    (Evl.pss_cut (ps_set (i := 11) sc_law.nd rfl (Or.inl rfl) (pe_ifExp (pt_cmpR (op_neNil hr) (pv 10) (pe_lst pa_nil) (nomark _)) (pe_ix ix_tup (pe_ix ix_list (pv 10) pe_int (fun _ _ => rfl)) pe_int (fun _ _ => rfl)) (pe_fn (kn__law_mark T) (hr.mono (by decide)) (pa_cons (pv 9) pa_nil))))
    (pss_cons (ps_set (i := 2) sc_law.nd rfl (Or.inl rfl) (pe_op op_cat (pe_slice sl_list (pv 2) (po_some (pe_un un_neg pe_int)) po_none) (pe_lst (pa_cons (pe_tup (pa_cons (pv 9) (pa_cons (pv 11) pa_nil))) pa_nil))))
    (pss_cons (ps_set (i := 12) sc_law.nd rfl (Or.inl rfl) (pe_fn (kn__law_step T) (hr.mono (by decide)) (pa_cons (pe_ix ix_list (pv 4) (pv 7) (fun _ _ => rfl)) (pa_cons (pe_ix ix_list (pv 1) (pv 7) (fun _ _ => rfl)) (pa_cons (pv 8) (pa_cons (pv 9) (pa_cons (pv 11) pa_nil)))))))
    (pss_cons (ps_if (PW.pt (pw_or (pt_cmpR op_isN (pv 12) pe_non (nomark _)) (pw_or1 (pt_not (pt_val (pe_fn (kn__law_stands T) (hr.mono (by decide)) (pa_cons (pe_ix ix_list (pv 4) (pe_op op_sub pe_int (pv 7)) (fun _ _ => rfl)) (pa_cons (pe_ix ix_list (pv 1) (pe_op op_sub pe_int (pv 7)) (fun _ _ => rfl)) pa_nil)))))))) (pss_one (ps_ret pe_bl)) pss_nil)
    (pss_cons (ps_asg (pv 12) (pg_sub (pv 1) (pv 7) set_list))
    (pss_one (ps_if (PW.pt (pw_or (pt_not (pt_val (pe_fn (kn__law_held T) (hr.mono (by decide)) (pa_cons (pe_ix ix_list (pv 4) pe_int (fun _ _ => rfl)) (pa_cons (pe_ix ix_list (pv 1) pe_int (fun _ _ => rfl)) (pa_cons (pv 2) pa_nil)))))) (pw_or1 (pt_not (pt_val (pe_fn (kn__law_held T) (hr.mono (by decide)) (pa_cons (pe_ix ix_list (pv 4) pe_int (fun _ _ => rfl)) (pa_cons (pe_ix ix_list (pv 1) pe_int (fun _ _ => rfl)) (pa_cons (pv 2) pa_nil))))))))) (pss_one (ps_ret pe_bl)) pss_nil)))))))))))))
    (pss_cons (ps_for PassesOwn.never rfl (pi_range1 (by rfl) T.f_range (pa_cons pe_int pa_nil)) (pg_name (i := 7) sc_law.nd rfl (Or.inl rfl)) (pss_one (ps_if (pt_cmpR op_ne (pe_km0 (kn_Shorts_signs T) (hr.mono (by decide)) (pe_ix ix_list (pv 4) (pv 7) (fun _ _ => rfl))) (pe_fn (kn__law_least T) (hr.mono (by decide)) (pa_cons (pe_fn (kn__law_sums T) (hr.mono (by decide)) (pa_cons (pe_ix ix_list (pv 1) (pv 7) (fun _ _ => rfl)) pa_nil)) pa_nil)) (nomark _)) (pss_one (ps_ret pe_bl)) pss_nil)))
    (pss_one (ps_ret (pe_and (pe_fn (kn__law_filled T) (hr.mono (by decide)) (pa_cons (pe_ix ix_list (pv 4) pe_int (fun _ _ => rfl)) (pa_cons (pe_ix ix_list (pv 1) pe_int (fun _ _ => rfl)) pa_nil))) (pe_one (pe_fn (kn__law_stands T) (hr.mono (by decide)) (pa_cons (pe_ix ix_list (pv 4) pe_int (fun _ _ => rfl)) (pa_cons (pe_ix ix_list (pv 1) pe_int (fun _ _ => rfl)) pa_nil))))))))))))), ?_⟩)
  obtain ⟨G, a, zs, rfl, sb, tb, ha, hz, q⟩ := h
  have hsz : ∀ {G' H' : Hp}, GR K S0 G H G' H' → SqL K H' a (zs.map V.int) := fun g => sqL_gr ha g id
  have g0 := GR.refl (K := K) (S := S0) sb
  have md : ∀ z : Int, ∃ n : Nat, z % 7 = n ∧ n ≤ 6 := fun z => ⟨(z % 7).toNat, by omega, by omega⟩
  refine ⟨_, rfl, _, rfl, a, zs, 0, rfl, hsz g0, by omega, fun z => ?_⟩
  obtain ⟨n0, hn0, hl0⟩ := md z
  refine ⟨_, _, rfl, rfl, by show (0 : Int) < 7; decide, G, a, zs, n0, by show [V.ref a, V.int (z % 7)] = _; rw [hn0], sb, hsz g0, by omega, by omega, fun G1 H1 u0 ms0 g1 hu0 fit0 hlen0 => ?_⟩
  refine ⟨_, rfl, _, rfl, a, _, rfl, hsz g1, fun d hd => ?_⟩
  obtain ⟨ws, hws, hwl⟩ := cutV_ints zs (some 1) none
  have g2 := g1.new hd (o := .lst (cutV (zs.map V.int) (some 1) none)) trivial
  have l2 := Le.up (o := .lst (cutV (zs.map V.int) (some 1) none)) (g1.sb.no hd)
  rw [hws] at g2 l2
  have hd2 : upd H1 d (.lst (ws.map V.int)) d = some (.lst (ws.map V.int)) := upd_same
  refine ⟨_, rfl, a, zs, 1, rfl, (by rw [hws]; exact hsz g2), by omega, fun z1 => ?_⟩
  obtain ⟨n1, hn1, hl1⟩ := md z1
  refine ⟨_, _, rfl, rfl, by show (0 : Int) < 7; decide, _, d, ws, n1, by show [V.ref d, V.int (z1 % 7)] = _; rw [hn1], (by rw [hws]; exact g2.sb), (by rw [hws]; exact SqL.of hd2), by omega, by omega, fun G3 H3 u1 ms1 g3 hu1 fit1 hlen1 => ?_⟩
  rw [hws] at g3
  have hu0' := (hu0.mono l2).mono g3.gg
  have g4 := g2.trans g3
  clear hd2 g3 l2 g2 hd g1 hu0
  refine ⟨size_of (n := 2) (by decide), fun sh nsh => ?_⟩
  have g5 := g4.newM nsh (o := .lst [u0, u1])
  have hsh5 : upd H3 sh (.lst [u0, u1]) sh = some (.lst [u0, u1]) := upd_same
  have gsh5 : G3 sh = none := g4.sb.no nsh
  have nsh0 : Nw H sh := g4.nw (.of nsh)
  generalize upd H3 sh (.lst [u0, u1]) = H5 at g5 hsh5
  obtain ⟨l0, xs0, rfl, hx0, hp0⟩ := id hu0'
  obtain ⟨l1, xs1, rfl, hx1, hp1⟩ := id hu1
  have el0 := pair_len hp0
  have el1 := pair_len hp1
  refine ⟨_, rfl, sh, _, 0, .ref l0, rfl, rfl, SqL.of hsh5, rfl, _, rfl, sh, _, 1, .ref l1, rfl, rfl, SqL.of hsh5, rfl, l0, l1, xs0, xs1, rfl, rfl, (g5.sb _ _ hx0).1, (g5.sb _ _ hx1).1, size_of (by omega), fun c hc => ?_⟩
  have g6 := g5.new hc (o := .lst (xs0 ++ xs1)) trivial
  have lc6 := Le.up (o := .lst (xs0 ++ xs1)) (g5.sb.no hc)
  have hpc := pair_imp (pair_app hp0 hp1) fun _ _ z => PtIn.mono z lc6
  have hcc : upd G3 c (.lst (xs0 ++ xs1)) c = some (.lst (xs0 ++ xs1)) := upd_same
  have hsh6 : upd H5 c (.lst (xs0 ++ xs1)) sh = some (.lst [.ref l0, .ref l1]) := by rw [upd_ne (ne_of_none hsh5 hc)]; exact hsh5
  have gsh6 : upd G3 c (.lst (xs0 ++ xs1)) sh = none := by rw [upd_ne (ne_of_none hsh5 hc)]; exact gsh5
  have hu0c := hu0'.mono lc6
  have hu1c := hu1.mono lc6
  have okc : ∀ m ∈ ms0 ++ ms1, Ok m := fun m hm => (List.mem_append.mp hm).elim (fit0.ok m) (fit1.ok m)
  generalize upd G3 c (.lst (xs0 ++ xs1)) = G6 at g6 lc6 hpc hcc gsh6 hu0c hu1c
  generalize upd H5 c (.lst (xs0 ++ xs1)) = H6 at g6 hsh6
  refine ⟨c, rfl, ⟨_, SqL.of (g6.sb _ _ hcc).1⟩, fun D hD => ?_⟩
  refine lcG K (G1 := G6) (walk_list (K := K) (a := c) (xs := xs0 ++ xs1)) g6.sb hD (fun G' acc i => Paired (HeldAt K G') acc ((ms0 ++ ms1).take i)) .nil (size_of (by rw [List.length_append]; omega)) (fun G' acc i ez => by rw [pair_len ez, List.length_take]; omega) (fun G' H' gr => SqL.of (gr.sb _ _ (gr.gg _ _ hcc)).1) (fun i z G' H1' H' acc N hi gr gD hD' rp yy ky kn => ?_) (fun G7 H7 acc g7 hD' gD rp => ?_)
  · obtain ⟨rfl, hz⟩ := yy
    obtain ⟨m, hm, hzm⟩ := pair_get' hpc hz
    refine ⟨rfl, tyes (iteT ⟨_, rfl, _, rfl, G', z, m, rfl, gr.sb, (hzm.mono gr.gg).mono gr.sb.le, okc m (List.mem_of_getElem? hm), fun G8 H8 u g8 hu => ⟨size_of (n := 2) (by decide), fun t ht => ?_⟩⟩)⟩
    have lt := Le.up (o := .tup [z, u]) (g8.sb.no ht)
    refine ky _ _ (.ref t) (g8.new ht trivial) ?_
    rw [List.take_add_one, hm]
    exact pair_app (pair_imp (pair_imp rp fun _ _ y => y.mono g8.gg) fun _ _ y => y.mono lt) (.cons ⟨t, z, u, rfl, upd_same, ((hzm.mono gr.gg).mono g8.gg).mono lt, MarkAt.mono hu lt⟩ .nil)
  · rw [List.take_of_length_le (by rw [List.length_append, List.length_append]; omega)] at rp
    have lD := Le.up (o := .lst acc) gD
    have g8 := g7.freeze hD hD' trivial
    have hDD : upd G7 D (.lst acc) D = some (.lst acc) := upd_same
    have rp8 := pair_imp rp fun _ _ y => HeldAt.mono y lD
    have gsh8 : upd G7 D (.lst acc) sh = none := by rw [upd_ne (ne_of_none hsh6 hD)]; exact g7.nofrz hsh6 gsh6
    have hsh8 := g7.keep hsh6 trivial id
    have hu08 := (hu0c.mono g7.gg).mono lD
    have hu18 := (hu1c.mono g7.gg).mono lD
    have hx08 := lD _ _ (g7.gg _ _ (lc6 _ _ hx0))
    clear g7 rp gD
    generalize upd G7 D (.lst acc) = G8 at g8 lD hDD rp8 gsh8 hu08 hu18 hx08
    have gA := g6.trans g8
    have eacc := pair_len rp8
    rw [List.length_append] at eacc
    clear hD hD' lD g8 g6 g5 g4
    refine ⟨_, rfl, sh, _, 0, .ref l0, rfl, rfl, SqL.of hsh8, rfl, l0, xs0, rfl, .inl (SqL.of (gA.sb _ _ hx08).1), ?_⟩
    refine ⟨_, rfl, _, rfl, _, rfl, D, _, rfl, SqL.of (gA.sb _ _ hDD).1, fun s0 ns0 => ?_⟩
    rw [cutV_take (by omega)]
    have gB := gA.new ns0 (o := .lst (acc.take xs0.length)) trivial
    have lB := Le.up (o := .lst (acc.take xs0.length)) (gA.sb.no ns0)
    have hs0 : upd G8 s0 (.lst (acc.take xs0.length)) s0 = some (.lst (acc.take xs0.length)) := upd_same
    have hshB : upd H7 s0 (.lst (acc.take xs0.length)) sh = some (.lst [.ref l0, .ref l1]) := by rw [upd_ne (ne_of_none hsh8 ns0)]; exact hsh8
    have gshB : upd G8 s0 (.lst (acc.take xs0.length)) sh = none := by rw [upd_ne (ne_of_none hsh8 ns0)]; exact gsh8
    refine ⟨_, rfl, _, rfl, _, rfl, D, _, rfl, SqL.of (gB.sb _ _ (lB _ _ hDD)).1, fun s1 ns1 => ?_⟩
    rw [cutV_drop (by omega)]
    have gC := gB.new ns1 (o := .lst (acc.drop xs0.length)) trivial
    have lC := Le.up (o := .lst (acc.drop xs0.length)) (gB.sb.no ns1)
    have hs1 : upd (upd G8 s0 (.lst (acc.take xs0.length))) s1 (.lst (acc.drop xs0.length)) s1 = some (.lst (acc.drop xs0.length)) := upd_same
    have hshC : upd (upd H7 s0 (.lst (acc.take xs0.length))) s1 (.lst (acc.drop xs0.length)) sh = some (.lst [.ref l0, .ref l1]) := by rw [upd_ne (ne_of_none hshB ns1)]; exact hshB
    have gshC : upd (upd G8 s0 (.lst (acc.take xs0.length))) s1 (.lst (acc.drop xs0.length)) sh = none := by rw [upd_ne (ne_of_none hshB ns1)]; exact gshB
    have lBC : Le G8 (upd (upd G8 s0 (.lst (acc.take xs0.length))) s1 (.lst (acc.drop xs0.length))) := lB.trans lC
    have hs0 := lC _ _ hs0
    have hDC := lBC _ _ hDD
    have rpC := pair_imp rp8 fun _ _ y => HeldAt.mono y lBC
    have hu0C := hu08.mono lBC
    have hu1C := hu18.mono lBC
    refine ⟨size_of (n := 2) (by decide), fun r nr => ?_⟩
    have gE := gC.new nr (o := .lst [.ref s0, .ref s1]) trivial
    have lE := Le.up (o := .lst [.ref s0, .ref s1]) (gC.sb.no nr)
    have hr1 : upd (upd (upd G8 s0 (.lst (acc.take xs0.length))) s1 (.lst (acc.drop xs0.length))) r (.lst [.ref s0, .ref s1]) r = some (.lst [.ref s0, .ref s1]) := upd_same
    have hshE : upd (upd (upd H7 s0 (.lst (acc.take xs0.length))) s1 (.lst (acc.drop xs0.length))) r (.lst [.ref s0, .ref s1]) sh = some (.lst [.ref l0, .ref l1]) := by rw [upd_ne (ne_of_none hshC nr)]; exact hshC
    have gshE : upd (upd (upd G8 s0 (.lst (acc.take xs0.length))) s1 (.lst (acc.drop xs0.length))) r (.lst [.ref s0, .ref s1]) sh = none := by rw [upd_ne (ne_of_none hshC nr)]; exact gshC
    have hs0 := lE _ _ hs0
    have hs1 := lE _ _ hs1
    have hDE := lE _ _ hDC
    have rpE := pair_imp rpC fun _ _ y => HeldAt.mono y lE
    have hu0E := hu0C.mono lE
    have hu1E := hu1C.mono lE
    clear hshC gshC hDC rpC hu0C hu1C gC gB gA lB lBC lC lE gshB hshB rp8 hu08 hu18 hx08 hDD gsh8 hsh8 ns1 nr ns0
    generalize upd (upd (upd G8 s0 (.lst (acc.take xs0.length))) s1 (.lst (acc.drop xs0.length))) r (.lst [.ref s0, .ref s1]) = G9 at gE hr1 gshE hs0 hs1 hDE rpE hu0E hu1E
    generalize upd (upd (upd H7 s0 (.lst (acc.take xs0.length))) s1 (.lst (acc.drop xs0.length))) r (.lst [.ref s0, .ref s1]) = H9 at gE hshE
    have hM : ∀ i, i < 2 → ∃ s hvs, [V.ref s0, .ref s1][i]? = some (.ref s) ∧ G9 s = some (.lst hvs) ∧ Paired (HeldAt K G9) hvs (if i = 0 then ms0 else ms1) := by
      intro i hi
      match i, hi with
      | 0, _ => exact ⟨s0, _, rfl, hs0, by
          have := pair_take xs0.length rpE
          rwa [List.take_left' (by omega)] at this⟩
      | 1, _ => exact ⟨s1, _, rfl, hs1, by
          have := pair_drop xs0.length rpE
          rwa [List.drop_left' (by omega)] at this⟩
    have hF : ∀ i : Nat, Fit (if i = 0 then ms0 else ms1) := fun i => by split; exact fit0; exact fit1
    refine ⟨r, rfl, ⟨_, SqL.of (gE.sb _ _ hr1).1⟩, fun D2 hD2 => ?_⟩
    refine lcGH K (G1 := G9) (walk_list (K := K) (a := r) (xs := [.ref s0, .ref s1])) gE.sb hD2 (fun G' H' acc i => ∃ x a, Both K H9 D2 (fun i => if i = 0 then ms0 else ms1) x a G' H' acc i) ⟨fun _ => 0, fun _ => 0, rfl, (fun _ h => absurd h (by omega)), fun _ _ h => absurd h (by omega)⟩ (size_of (n := 2) (by decide)) (fun G' H' acc i ⟨x, a, z⟩ => by rw [z.e]; simp) (fun G' H' gr => SqL.of (gr.sb _ _ (gr.gg _ _ hr1)).1) (fun G' H' acc acc2 i _ ⟨x, a, z⟩ => ⟨x, a, z.e, fun j hj => ⟨(z.s j hj).1.wrD (z.s j hj).2.2.2.1 (z.s j hj).2.2.2.2, (z.s j hj).2⟩, z.d⟩) (fun i z G' H1' H' acc2 N hi gr gD2 hD2' ⟨X, A, B⟩ yy ky => ?_) (fun GA HA acc2 gA hDA gDA ⟨X, A, B⟩ => ?_)
    · obtain ⟨rfl, hz⟩ := yy
      obtain ⟨s_, hvs, hsi, hsG, hsp⟩ := hM i hi
      rw [hz] at hsi
      obtain rfl := Option.some.inj hsi
      have hF' := hF i
      have ehl := pair_len hsp
      have hl12 := hF'.len
      refine ⟨rfl, tyes (iteT ⟨_, rfl, s_, rfl, ⟨_, SqL.of (gr.sb _ _ (gr.gg _ _ hsG)).1⟩, fun D3 hD3 => ?_⟩)⟩
      refine lcG K (G1 := G') (walk_list (K := K) (a := s_) (xs := hvs)) gr.sb hD3 (fun G2 acc3 j => Paired (MarkAt K G2) acc3 ((if i = 0 then ms0 else ms1).take j)) .nil (size_of (by omega)) (fun G2 acc3 j ez => by rw [pair_len ez, List.length_take]; omega) (fun G2 H2 g2 => SqL.of (g2.sb _ _ (g2.gg _ _ (gr.gg _ _ hsG))).1) (fun j y G2 H2' H2 acc3 N3 hj g2 gD3 hD3' rp3 yy3 ky3 kn3 => ?_) (fun G3 H3 acc3 g3 hD3' gD3 rp3 => ?_)
      · obtain ⟨rfl, hy⟩ := yy3
        obtain ⟨m, hm, t, p, s', rfl, ht, hp, hs'⟩ := pair_get' hsp hy
        refine ⟨t, _, rfl, SqT.of (g2.sb _ _ (g2.gg _ _ (gr.gg _ _ ht))).1, rfl, _, _, rfl, _, _, rfl, rfl, rfl, tyes (iteT ⟨_, rfl, ky3 _ _ s' (GR.refl g2.sb) ?_⟩)⟩
        rw [List.take_add_one, hm]
        exact pair_app rp3 (.cons (MarkAt.mono (MarkAt.mono hs' gr.gg) g2.gg) .nil)
      · rw [List.take_of_length_le (by omega)] at rp3
        refine shorts_read (Q := fun v H4 => ∃ acc', H4 D2 = some (.lst acc') ∧ acc'.length < sizeLine ∧ N (upd H4 D2 (.lst (acc' ++ [v])))) g3.sb ((gE.trans (gr.trans g3)).tb tb) ⟨acc3, hD3', rp3⟩ hF' fun G4 H4 X1 b1 g4 nX nb hsS => ky G4 H4 _ (g3.trans g4) ⟨_, _, B.push (g3.trans g4) (fun p np => gr.nw np) hD2' (g3.nw nX) (g3.nw nb) hsS⟩
    · clear hM hs0 hs1 hr1
      obtain ⟨e1, e2, e3⟩ := B
      have ea : acc2 = [.ref (X 0), .ref (X 1)] := e1
      subst ea
      have lF := Le.up (o := .lst [.ref (X 0), .ref (X 1)]) gDA
      have gF := gA.freeze hD2 hDA trivial
      have hb2 : upd GA D2 (.lst [.ref (X 0), .ref (X 1)]) D2 = some (.lst [.ref (X 0), .ref (X 1)]) := upd_same
      have lw : Lw K G H (upd GA D2 (.lst [.ref (X 0), .ref (X 1)])) HA sh X A (fun i => if i = 0 then .ref l0 else .ref l1) (fun i => if i = 0 then .ref l0 else .ref l1) (fun i => if i = 0 then ms0 else ms1) := by
        refine ⟨gE.trans gF, nsh0, fun i hi => ?_, fun i hi => ?_, e3, fun i hi => ?_, ?_, ?_⟩
        · obtain ⟨h1, h2, h3, h4, h5⟩ := e2 i hi
          exact ⟨gE.nw h2, gE.nw h3⟩
        · obtain ⟨h1, h2, h3, h4, h5⟩ := e2 i hi
          refine ⟨h1.frz h4 h5 gDA, hF i, ?_⟩
          by_cases e : i = 0
          · rw [if_pos e, if_pos e]
            exact (hu0E.mono gA.gg).mono lF
          · rw [if_neg e, if_neg e]
            exact (hu1E.mono gA.gg).mono lF
        · obtain ⟨h1, h2, h3, h4, h5⟩ := e2 i hi
          exact ⟨h2.ne hshE nt_lst, h3.ne hshE nt_lst⟩
        · exact gA.keep hshE trivial id
        · rw [upd_ne (ne_of_none hshE hD2)]
          exact gA.nofrz hshE gshE
      have hDF : upd GA D2 (.lst [.ref (X 0), .ref (X 1)]) D = some (.lst acc) := lF _ _ (gA.gg _ _ hDE)
      have rpF := pair_imp (pair_imp rpE fun _ _ y => HeldAt.mono y gA.gg) fun _ _ y => HeldAt.mono y lF
      have okh : ∀ v ∈ acc, ∃ m, HeldAt K (upd GA D2 (.lst [.ref (X 0), .ref (X 1)])) v m ∧ Ok m := fun v hv => by
        obtain ⟨i, hi⟩ := List.getElem?_of_mem hv
        obtain ⟨m, hm, hp⟩ := pair_get' rpF hi
        exact ⟨m, hp, okc m (List.mem_of_getElem? hm)⟩
      have hal : acc.length ≤ 12 := by omega
      clear gA gDA gF hD2 lF e1 e2 e3 hDA hF gshE hshE hu0E hu1E hDE rpE rpF
      generalize upd GA D2 (.lst [.ref (X 0), .ref (X 1)]) = GF at lw hb2 hDF okh
      generalize (fun i => if i = 0 then ms0 else ms1 : Nat → List Mk) = M at lw
      generalize (fun i => if i = 0 then V.ref l0 else V.ref l1 : Nat → V) = V0 at lw
      obtain ⟨wsL, hwsL, hwl2⟩ := cutV_ints zs (some 2) (some 18)
      refine ⟨_, rfl, _, rfl, _, rfl, a, _, rfl, hsz lw.g, fun e he => ?_⟩
      rw [hwsL]
      have lw1 := lw.call0 ((GR.refl (K := K) (S := S0) lw.g.sb).new he (o := .lst (wsL.map V.int)) trivial)
      have lE := Le.up (o := .lst (wsL.map V.int)) (lw.g.sb.no he)
      have hee : upd GF e (.lst (wsL.map V.int)) e = some (.lst (wsL.map V.int)) := upd_same
      have lp1 : Lp K G H (upd GF e (.lst (wsL.map V.int))) (upd HA e (.lst (wsL.map V.int))) sh X A V0 M (upd GF e (.lst (wsL.map V.int))) D acc := ⟨lw1, Le.refl _, lE _ _ hDF, hal, fun v hv => by
        obtain ⟨m, h, o⟩ := okh v hv
        exact ⟨m, h.mono lE, o⟩⟩
      have hb3 := lE _ _ hb2
      clear okh hDF hb2 lw lE lw1
      generalize upd GF e (.lst (wsL.map V.int)) = GS at lp1 hee hb3
      generalize upd HA e (.lst (wsL.map V.int)) = HS at lp1
      refine ⟨e, rfl, ⟨_, SqL.of (lp1.lw.g.sb _ _ hee).1⟩, ?_⟩
      have bo : ∀ {i : Nat}, i < 2 → atI [V.ref (X 0), .ref (X 1)] (i : Int) = some (.ref (X i)) := fun h => at2 (f := fun i => V.ref (X i)) rfl rfl h
      refine for_list (K := K) (a := e) (xs := wsL.map V.int) (fun i σ H' => ∃ (hl : Addr) (hvs : List V) (x5 x6 x7 x8 x9 x10 x11 x12 : Option V) (G' : Hp) (V1 : Nat → V) (M1 : Nat → List Mk), σ = [some (.ref a), some (.ref sh), some (.ref hl), some (.int xs0.length), some (.ref D2), x5, x6, x7, x8, x9, x10, x11, x12, none] ∧ Lp K G H G' H' sh X A V1 M1 GS hl hvs) ⟨D, acc, _, _, _, _, _, _, _, _, GS, V0, M, rfl, lp1⟩ ?_ ?_ ?_
      · rintro i σ H1 hi ⟨hl, hvs, x5, x6, x7, x8, x9, x10, x11, x12, G1, V1, M1, rfl, lp⟩
        exact SqL.of (lp.lw.g.sb _ _ (lp.le _ _ hee)).1
      · rintro i y σ H1 hy ⟨hl, hvs, x5, x6, x7, x8, x9, x10, x11, x12, G1, V1, M1, rfl, lp⟩
        rw [List.getElem?_map] at hy
        obtain ⟨cz, _, rfl⟩ := Option.map_eq_some_iff.mp hy
        refine ⟨_, rfl, cz, rfl, fun p n hp => ?_⟩
        obtain ⟨np, psh, pxa⟩ := lp.lw.pool hp
        have lpA := lp.go (lp.lw.call0 ((GR.refl (K := K) (S := S0) lp.lw.g.sb).newM hp (o := .lst [.int n]))) (Le.refl _)
        have s0 : Pg K G1 (upd H1 p (.lst [.int n])) G1 (upd H1 p (.lst [.int n])) p := .start lpA.lw.g.sb ⟨lp.lw.g.sb.no hp, n, upd_same⟩
        clear lp
        generalize upd H1 p (.lst [.int n]) = H2 at lpA s0
        obtain ⟨n1, e1, k1⟩ := s0.take
        refine ⟨_, rfl, p, n1, _, rfl, e1, by decide, by decide, fun sd n2 hsd => ?_⟩
        obtain ⟨so, hso, hne, hsub⟩ := side hsd
        have s1 := k1 n2
        refine ⟨size_of (n := 3) (by decide), fun b hb => ?_⟩
        have s2 := s1.new hb (o := .lst [.int 0, .int 1, .int 0])
        obtain ⟨n3, e3, k3⟩ := s2.take
        refine ⟨_, rfl, p, n3, _, rfl, e3, by decide, by decide, fun r3 n4 hr3 => ?_⟩
        have s3 := k3 n4
        have pb : b ≠ p := s1.np hb
        obtain ⟨wv, hwv, hwo⟩ := tri (a := .int 0) (b := .int 1) (c := .int 0) hr3
        obtain ⟨way, rfl, hway⟩ : ∃ way : Nat, wv = .int way ∧ (way = 0 ∨ way = 1) := by
          rcases hwo with rfl | rfl | rfl
          · exact ⟨0, rfl, .inl rfl⟩
          · exact ⟨1, rfl, .inr rfl⟩
          · exact ⟨0, rfl, .inl rfl⟩
        refine ⟨b, _, _, _, rfl, rfl, SqL.of (by rw [upd_ne pb]; exact upd_same), hwv, ?_⟩
        have lp3 := lpA.go (lpA.lw.call1 s3.g np psh pxa) (Le.refl _)
        have pool3 := s3.pool
        clear lpA k1 k3 e1 e3 s0 s1 s2 s3 hwo hb hwv pb
        generalize upd (upd (upd H2 p _) b _) p _ = H3 at lp3 pool3 ⊢
        obtain ⟨lo, xo, hVo, hlo, hpo⟩ := id (lp3.lw.s so hso).2.2
        obtain ⟨ls, xs, hVs, hls, hps⟩ := id (lp3.lw.s sd hsd).2.2
        have ho12 := (lp3.lw.s so hso).2.1.len
        have hs12 := (lp3.lw.s sd hsd).2.1.len
        have elo := pair_len hpo
        have els := pair_len hps
        have vat : ∀ {i : Nat}, i < 2 → atI [V1 0, V1 1] (i : Int) = some (V1 i) := fun h => at2 rfl rfl h
        refine ⟨_, rfl, _, rfl, _, _, rfl, rfl, sh, _, _, V1 so, rfl, rfl, SqL.of lp3.lw.hs, (by rw [hsub]; exact vat hso), _, rfl, _, rfl, sh, _, _, V1 sd, rfl, rfl, SqL.of lp3.lw.hs, vat hsd, lo, ls, xo, xs, hVo, hVs, (lp3.lw.g.sb _ _ hlo).1, (lp3.lw.g.sb _ _ hls).1, size_of (by omega), fun c hc => ?_⟩
        have gc := (GR.refl (K := K) (S := S0) lp3.lw.g.sb).new hc (o := .lst (xo ++ xs)) trivial
        have lc := Le.up (o := .lst (xo ++ xs)) (lp3.lw.g.sb.no hc)
        have lp4 := lp3.go (lp3.lw.call0 gc) lc
        have okcat : ∀ m ∈ M1 so ++ M1 sd, Ok m ∧ (text m).length ≤ 24 := fun m hm => (List.mem_append.mp hm).elim (fun h => ⟨(lp3.lw.s so hso).2.1.ok m h, (lp3.lw.s so hso).2.1.few m h⟩) fun h => ⟨(lp3.lw.s sd hsd).2.1.ok m h, (lp3.lw.s sd hsd).2.1.few m h⟩
        refine ⟨_, rfl, _, p, .ref c, M1 so ++ M1 sd, rfl, gc.sb, pool3.keep gc id, ⟨c, _, rfl, upd_same, pair_imp (pair_app hpo hps) fun _ _ z => PtIn.mono z lc⟩, okcat, fun G5 H5 u m g5 hu okm => ?_⟩
        have lp5 := lp4.go (lp4.lw.call1 g5 np psh pxa) g5.gg
        clear lp3 lp4 gc lc okcat pool3 hlo hpo hls hps g5 hc
        refine ⟨_, rfl, hl, rfl, ⟨_, SqL.of (lp5.lw.g.sb _ _ lp5.hh).1⟩, fun D5 hD5 => ?_⟩
        refine lcG K (G1 := G5) (walk_list (K := K) (a := hl) (xs := hvs)) lp5.lw.g.sb hD5 (fun G' acc i => acc.length ≤ i ∧ ∀ v ∈ acc, HeldAt K G5 v m) ⟨Nat.le_refl _, fun _ h => nomatch h⟩ (size_of (by have := lp5.h12; omega)) (fun G' acc i ez => ez.1) (fun G' H' gr => SqL.of (gr.sb _ _ (gr.gg _ _ lp5.hh)).1) (fun j z G' H6' H6 acc6 N hj gr gD hD6 rp yy ky kn => ?_) (fun G6 H6 els6 g6 hD6 gD6 rp => ?_)
        · obtain ⟨rfl, hz⟩ := yy
          obtain ⟨mz, ⟨t, pz, sz, rfl, ht, hpz, hsz'⟩, okz⟩ := lp5.ok z (List.mem_of_getElem? hz)
          refine ⟨rfl, _, rfl, t, _, 0, pz, rfl, rfl, SqT.of (gr.sb _ _ (gr.gg _ _ ht)).1, rfl, _, rfl, partsD mz, partsD m, ((hpz.mono gr.gg).mono gr.sb.le).dp, ((hu.mono gr.gg).mono gr.sb.le).dp, parts_shaped okz, parts_shaped okm, _, rfl, ?_⟩
          rw [parts_eqv]
          refine ifC (fun em => ?_) fun _ => kn _ _ (GR.refl gr.sb) ⟨by omega, rp.2⟩
          subst em
          refine ⟨_, rfl, ky _ _ _ (GR.refl gr.sb) ⟨by rw [List.length_append]; have := rp.1; simp; omega, fun v hv => ?_⟩⟩
          rcases List.mem_append.mp hv with h | h
          · exact rp.2 v h
          · rw [List.mem_singleton.mp h]
            exact ⟨t, pz, sz, rfl, ht, hpz, hsz'⟩
        · have g7 := g6.freeze hD5 hD6 trivial
          have lp7 := lp5.go (lp5.lw.call0 g7) g7.gg
          have rp7 : ∀ v ∈ els6, HeldAt K (upd G6 D5 (.lst els6)) v m := fun v hv => (rp.2 v hv).mono g7.gg
          have hu7 := hu.mono g7.gg
          have h7 : upd G6 D5 (.lst els6) D5 = some (.lst els6) := upd_same
          clear g6 g7 hD5 hD6 gD6 rp lp5 hu
          generalize upd G6 D5 (.lst els6) = G7 at lp7 rp7 hu7 h7
          refine ⟨fun σ H' => ∃ (s' : V) (G' : Hp), σ = [some (.ref a), some (.ref sh), some (.ref hl), some (.int xs0.length), some (.ref D2), some (.int cz), some (.ref p), some (.int sd), some (.int way), some u, some (.ref D5), some s', x12, none] ∧ Lp K G H G' H' sh X A V1 M1 GS hl hvs ∧ PtIn G' u m ∧ MarkAt K G' s' m, ?_, ?_⟩
          · refine ⟨_, rfl, size_of (n := 0) (by decide), fun e8 he8 => ?_⟩
            have g8 := (GR.refl (K := K) (S := S0) lp7.lw.g.sb).newM he8 (o := .lst [])
            have lp8 := lp7.go (lp7.lw.call0 g8) (Le.refl _)
            refine ⟨D5, e8, els6, rfl, rfl, SqL.of (g8.sb _ _ h7).1, SqL.of upd_same, _, rfl, ?_⟩
            cases els6 with
            | nil => exact ⟨_, rfl, G7, u, m, rfl, g8.sb, hu7.mono g8.sb.le, okm, fun G9' H9' s' g9 hs' => ⟨s', G9', rfl, lp8.go (lp8.lw.call0 g9) g9.gg, hu7.mono g9.gg, hs'⟩⟩
            | cons v0 vr =>
              obtain ⟨t, pz, sz, rfl, ht, hpz, hsz'⟩ := rp7 v0 (List.mem_cons_self ..)
              exact ⟨_, rfl, D5, _, 0, _, rfl, rfl, SqL.of (g8.sb _ _ h7).1, atI_nat (j := 0) rfl, t, _, 1, sz, rfl, rfl, SqT.of (g8.sb _ _ ht).1, rfl, sz, G7, rfl, lp8, hu7, hsz'⟩
          clear lp7 rp7 hu7 h7
          rintro σ H7 ⟨s', G7, rfl, lp7, hu7, hs7⟩
          refine ⟨_, rfl, 9, rfl, _, rfl, hl, _, rfl, SqL.of (lp7.lw.g.sb _ _ lp7.hh).1, fun d9 hd9 => ?_⟩
          have g9 := (GR.refl (K := K) (S := S0) lp7.lw.g.sb).new hd9 (o := .lst (cutV hvs (some (-9)) none)) trivial
          refine ⟨_, rfl, _, rfl, size_of (n := 2) (by decide), fun t9 ht9 => ?_⟩
          have g10 := g9.new ht9 (o := .tup [u, s']) trivial
          refine ⟨size_of (n := 1) (by decide), fun b9 hb9 => ?_⟩
          have g11 := g10.new hb9 (o := .lst [.ref t9]) trivial
          have l9 := Le.up (o := .lst (cutV hvs (some (-9)) none)) (lp7.lw.g.sb.no hd9)
          have l10 := Le.up (o := .tup [u, s']) (g9.sb.no ht9)
          have l11 := Le.up (o := .lst [.ref t9]) (g10.sb.no hb9)
          have hd12 := l11 _ _ (l10 _ _ (show upd G7 d9 (.lst (cutV hvs (some (-9)) none)) d9 = _ from upd_same))
          have ht12 := l11 _ _ (show upd (upd G7 d9 (.lst (cutV hvs (some (-9)) none))) t9 (.tup [u, s']) t9 = _ from upd_same)
          have l12 := (l9.trans l10).trans l11
          clear l9 l10 l11 g9 g10
          have hc9 := cutV_last9 hvs
          refine ⟨d9, b9, _, _, rfl, rfl, (g11.sb _ _ hd12).1, upd_same, size_of (by show _ + 1 ≤ _; omega), fun c9 hc9' => ?_⟩
          have g13 := g11.new hc9' (o := .lst (cutV hvs (some (-9)) none ++ [.ref t9])) trivial
          have l13 := Le.up (o := .lst (cutV hvs (some (-9)) none ++ [.ref t9])) (g11.sb.no hc9')
          have l14 := l12.trans l13
          have ht14 := l13 _ _ ht12
          have hcc9 : upd (upd (upd (upd G7 d9 (.lst (cutV hvs (some (-9)) none))) t9 (.tup [u, s'])) b9 (.lst [.ref t9])) c9 (.lst (cutV hvs (some (-9)) none ++ [.ref t9])) c9 = some (.lst (cutV hvs (some (-9)) none ++ [.ref t9])) := upd_same
          have lw14 := lp7.lw.call0 g13
          have lp14 : Lp K G H (upd (upd (upd (upd G7 d9 (.lst (cutV hvs (some (-9)) none))) t9 (.tup [u, s'])) b9 (.lst [.ref t9])) c9 (.lst (cutV hvs (some (-9)) none ++ [.ref t9]))) (upd (upd (upd (upd H7 d9 (.lst (cutV hvs (some (-9)) none))) t9 (.tup [u, s'])) b9 (.lst [.ref t9])) c9 (.lst (cutV hvs (some (-9)) none ++ [.ref t9]))) sh X A V1 M1 GS c9 (cutV hvs (some (-9)) none ++ [.ref t9]) := by
            refine ⟨lw14, lp7.le.trans l14, hcc9, by rw [List.length_append, List.length_singleton]; omega, fun v hv => ?_⟩
            rcases List.mem_append.mp hv with h | h
            · obtain ⟨mz, hz, oz⟩ := lp7.ok v (cutV_mem h)
              exact ⟨mz, hz.mono l14, oz⟩
            · rw [List.mem_singleton.mp h]
              exact ⟨m, ⟨t9, u, s', rfl, ht14, hu7.mono l14, MarkAt.mono hs7 l14⟩, okm⟩
          have hu14 := hu7.mono l14
          have hs14 := MarkAt.mono hs7 l14
          clear lw14 hcc9 ht14 l14 l13 g13 hc9' hc9 l12 ht12 hd12 g11 hb9 ht9 hd9 hu7 hs7 lp7
          generalize upd (upd (upd (upd G7 d9 (.lst (cutV hvs (some (-9)) none))) t9 (.tup [u, s'])) b9 (.lst [.ref t9])) c9 (.lst (cutV hvs (some (-9)) none ++ [.ref t9])) = G14 at lp14 hu14 hs14
          generalize upd (upd (upd (upd H7 d9 (.lst (cutV hvs (some (-9)) none))) t9 (.tup [u, s'])) b9 (.lst [.ref t9])) c9 (.lst (cutV hvs (some (-9)) none ++ [.ref t9])) = H14 at lp14 ⊢
          generalize cutV hvs (some (-9)) none ++ [.ref t9] = hv14 at lp14
          have b14 : ∀ {G' H' : Hp}, Le G14 G' → Sb G' H' → SqL K H' D2 [.ref (X 0), .ref (X 1)] := fun l sb => SqL.of (sb _ _ (l _ _ (lp14.le _ _ hb3))).1
          obtain ⟨hsa, hfi, hsf⟩ := lp14.lw.s sd hsd
          refine ⟨_, rfl, _, rfl, D2, _, _, .ref (X sd), rfl, rfl, b14 (Le.refl _) lp14.lw.g.sb, bo hsd, _, rfl, _, rfl, sh, _, _, V1 sd, rfl, rfl, SqL.of lp14.lw.hs, vat hsd, _, rfl, _, rfl, _, rfl, G14, X sd, A sd, V1 sd, M1 sd, way, u, s', m, rfl, lp14.lw.g.sb, lp14.lw.g.tb tb, hsa, hfi, hsf, hu14, hs14, okm, hway, fun G15 H15 bv g15 hs15 hb15 => ?_⟩
          have lw15 := lp14.lw.step hsd g15 hs15 (outc_fit hfi okm) hb15
          have lp15 : Le G14 G15 := g15.gg
          obtain ⟨bb, bxs, rfl, _, _⟩ := id hb15
          refine ⟨_, rfl, rfl, _, rfl, ifC (fun z => nomatch z) fun _ => ?_⟩
          obtain ⟨hoa, hof, hos⟩ := lw15.s so hso
          simp only [if_neg hne] at hoa hof hos
          refine ⟨_, rfl, _, rfl, _, _, rfl, rfl, D2, _, _, .ref (X so), rfl, rfl, b14 lp15 lw15.g.sb, (by rw [hsub]; exact bo hso), _, rfl, _, rfl, _, _, rfl, rfl, sh, _, _, V1 so, rfl, rfl, SqL.of lw15.hs, (by rw [hsub]; exact vat hso), G15, X so, A so, V1 so, M1 so, rfl, lw15.g.sb, hoa, hof, hos, fun G16 H16 g16 => ⟨_, rfl, iteF ?_⟩⟩
          have lw16 := lw15.call0 g16
          obtain ⟨W1, hW, es2, ex2⟩ := set2 (f := V1) (b := .ref bb) hsd
          rw [← hW] at lw16
          refine ⟨_, rfl, _, rfl, _, rfl, sh, _, _, sd, rfl, rfl, lw16.hs, ex2, ?_⟩
          rw [es2]
          have lw17 := lw16.set (w := W1)
          clear lw16 lw15 es2 ex2 hoa hof hos hsa hfi hsf
          generalize (fun i => if i = sd then (outc (M1 sd) way m).2 else M1 i : Nat → List Mk) = M2 at lw17
          have lp17 : Lp K G H G16 (upd H16 sh (.lst [W1 0, W1 1])) sh X A W1 M2 GS c9 hv14 := lp14.go lw17 (lp15.trans g16.gg)
          clear lw17 hW
          generalize upd H16 sh (.lst [W1 0, W1 1]) = H17 at lp17 ⊢
          have bo17 : ∀ {G' H' : Hp}, Le G16 G' → Sb G' H' → SqL K H' D2 [.ref (X 0), .ref (X 1)] := fun l sb => SqL.of (sb _ _ (l _ _ (lp17.le _ _ hb3))).1
          obtain ⟨hms, hpm, okm2⟩ := lp17.held
          obtain ⟨h0a, h0b, h0c⟩ := lp17.lw.s 0 (by decide)
          refine ⟨_, rfl, D2, _, 0, .ref (X 0), rfl, rfl, bo17 (Le.refl _) lp17.lw.g.sb, rfl, _, rfl, sh, _, 0, W1 0, rfl, rfl, SqL.of lp17.lw.hs, rfl, _, rfl, G16, X 0, A 0, c9, W1 0, M2 0, hms, hv14, rfl, lp17.lw.g.sb, h0a, h0b, h0c, lp17.hh, hpm, okm2, fun G18 H18 g18 => ⟨_, rfl, iteF ?_⟩⟩
          have lp18 := lp17.go (lp17.lw.call0 g18) g18.gg
          obtain ⟨hms, hpm, okm3⟩ := lp18.held
          obtain ⟨h0a, h0b, h0c⟩ := lp18.lw.s 1 (by decide)
          refine ⟨_, rfl, D2, _, 1, .ref (X 1), rfl, rfl, bo17 g18.gg lp18.lw.g.sb, rfl, _, rfl, sh, _, 1, W1 1, rfl, rfl, SqL.of lp18.lw.hs, rfl, _, rfl, G18, X 1, A 1, c9, W1 1, M2 1, hms, hv14, rfl, lp18.lw.g.sb, h0a, h0b, h0c, lp18.hh, hpm, okm3, fun G19 H19 g19 => ⟨_, rfl, iteF ?_⟩⟩
          exact ⟨_, _, _, _, _, _, _, _, _, _, G19, W1, M2, rfl, lp18.go (lp18.lw.call0 g19) g19.gg⟩
      · rintro σ H1 ⟨hl, hvs, x5, x6, x7, x8, x9, x10, x11, x12, G1, V1, M1, rfl, lp⟩
        have b1 : ∀ {G' H' : Hp}, Le G1 G' → Sb G' H' → SqL K H' D2 [.ref (X 0), .ref (X 1)] := fun l sb => SqL.of (sb _ _ (l _ _ (lp.le _ _ hb3))).1
        have vat : ∀ {i : Nat}, i < 2 → atI [V1 0, V1 1] (i : Int) = some (V1 i) := fun h => at2 rfl rfl h
        refine ⟨2, rfl, by decide, by decide, for_range (fun i σ H' => ∃ (x7 : Option V) (G' : Hp), σ = [some (.ref a), some (.ref sh), some (.ref hl), some (.int xs0.length), some (.ref D2), x5, x6, x7, x8, x9, x10, x11, x12, none] ∧ Lp K G H G' H' sh X A V1 M1 G1 hl hvs) ⟨_, G1, rfl, ⟨lp.lw, Le.refl _, lp.hh, lp.h12, lp.ok⟩⟩ ?_ ?_⟩
        · rintro i σ H2 hi ⟨_, G2, rfl, lp2⟩
          have hi2 : i < 2 := hi
          obtain ⟨h0a, h0b, h0c⟩ := lp2.lw.s i hi2
          rw [show (0 : Int) + (i : Int) = (i : Int) by omega]
          obtain ⟨dx, sv, r4, rs4, hx, _⟩ := id h0a.at_
          refine ⟨_, rfl, _, rfl, D2, _, _, .ref (X i), rfl, rfl, b1 lp2.le lp2.lw.g.sb, bo hi2, X i, dx, _, rfl, hx, rfl, G2, X i, A i, M1 i, rfl, lp2.lw.g.sb, h0a, h0b, fun H3 g3 => ?_⟩
          have lp3 := lp2.go (lp2.lw.call0 g3) (Le.refl _)
          refine ⟨_, rfl, _, rfl, sh, _, _, V1 i, rfl, rfl, SqL.of lp3.lw.hs, vat hi2, G2, V1 i, M1 i, rfl, lp3.lw.g.sb, h0c, h0b, fun G4 H4 pp ds g4 hpp hds => ⟨G4, pp, ds, M1 i, rfl, g4.sb, hpp, hds, h0b, fun H5 g5 => ?_⟩⟩
          have lp4 := lp3.go (lp3.lw.call0 g4) g4.gg
          exact ⟨rfl, _, rfl, ifN (fun z => (z rfl).elim) fun _ => ⟨_, G4, rfl, lp4.go (lp4.lw.call0 g5) (Le.refl _)⟩⟩
        · rintro σ H2 ⟨_, G2, rfl, lp2⟩
          obtain ⟨h1a, h1b, h1c⟩ := lp2.lw.s 1 (by decide)
          obtain ⟨h0a, h0b, h0c⟩ := lp2.lw.s 0 (by decide)
          refine ⟨_, rfl, D2, _, 1, .ref (X 1), rfl, rfl, b1 lp2.le lp2.lw.g.sb, rfl, _, rfl, sh, _, 1, V1 1, rfl, rfl, SqL.of lp2.lw.hs, rfl, G2, X 1, A 1, V1 1, M1 1, rfl, lp2.lw.g.sb, lp2.lw.g.tb tb, h1a, h1b, h1c, fun G3 H3 g3 => ⟨_, rfl, iteT ?_⟩⟩
          have d1 := lp2.lw.d 0 1 (by decide) (by decide) (by decide)
          have d2 := lp2.lw.d 1 0 (by decide) (by decide) (by decide)
          have sx := lp2.lw.sx 1 (by decide)
          have hsh3 := g3.keep lp2.lw.hs trivial (fun z => z.elim sx.1.symm sx.2.symm)
          have gT := lp2.lw.g.callN g3 fun b hb => .inr (hb.elim (fun z => z ▸ (lp2.lw.nx 1 (by decide)).1) fun z => z ▸ (lp2.lw.nx 1 (by decide)).2)
          refine ⟨_, rfl, D2, _, 0, .ref (X 0), rfl, rfl, b1 (lp2.le.trans g3.gg) g3.sb, rfl, _, rfl, sh, _, 0, V1 0, rfl, rfl, SqL.of hsh3, rfl, G3, X 0, A 0, V1 0, M1 0, rfl, g3.sb, h0a.keep g3 (fun z => z.elim d1.1 d1.2.1) (fun z => z.elim d2.2.1.symm d1.2.2), h0b, h0c.mono g3.gg, fun G4 H4 g4 => ?_⟩
          exact q _ _ (gT.trans g4)
end
end K42
set_option Elab.async false
set_option linter.all false
set_option maxRecDepth 100000
set_option maxHeartbeats 0
namespace K42
open PySem PySem.Spec PyProof.Rows L2
/-- the law in this head -/
theorem facts {P : Program} {w : World} {K : PySem.W.Frag} {h : Heap} {mg : Str → Option Value} {f : Addr} (X : K.In h) (G : h.Ns mainGlobals mg) (hfa : mg ("law" : Str) = some (.ref f)) (c : SaysY h K) :
    ∃ fd : FuncData, (∀ (s : Shared) (v : Value), BindsTo s fd ⟨[v], []⟩ [("_law_script", v)]) ∧ ∀ base : Heap, K.In base → base.Ns mainGlobals mg → LamX.TabB base mg (He.cT K ("in_order", none)).1 (He.cT K ("in_order", none)).2 → FnOk P w K mg base CX0 19 f fd ["_law_script"] (spLaw K) := by
  obtain ⟨fd, F⟩ := c.d.def_ 80 rfl
  have e := hfa.symm.trans (He.glo_ok X G (c.d.fact 68 (f := .glo "law") rfl))
  cases e
  have b := FunD.bindsA (ps := ["_law_script"]) F fun _ _ _ _ _ _ us hl => match us, hl with | [_], _ => rfl
  exact ⟨fd, fun s v => b s [v] rfl, fun base kin ns tb => ok_law ⟨c.d, kin, ns, c.ex, tb⟩ F⟩
theorem tabs_of {K : PySem.W.Frag} {H : Hp} (h : H (He.cT K ("in_order", none)).2 = some (.tbl #[])) : LamX.Tabs (Tq K) H := fun p hp => by
  rw [List.mem_singleton.mp hp]
  exact ⟨#[], h, by trivial, fun pos cv hc => by cases hc⟩
theorem law_at {w : World} {mg : Str → Option Value} {f : Addr} {h : Heap} {K : PySem.W.Frag} (X : K.In h) (c : SaysY h K) (G : h.Ns mainGlobals mg) (hfa : mg ("law" : Str) = some (.ref f)) :
    LamX.LawAtS PySem.Challenge.rw_spinemarks_k42_whole_shorts_kept w K CX0 19 63 "_law_script" mg f h := by
  obtain ⟨fd, hb, hF⟩ := facts (P := (PySem.Challenge.rw_spinemarks_k42_whole_shorts_kept).prog) (w := w) X G hfa c
  refine ⟨fd, [He.cT K ("in_order", none)], spLaw K, fun p hp => ?_, fun p hp => ?_, fun p hp => ?_, hb, fun H a ns hl _ hH hS => ?_, fun base kin ns tb => hF base kin ns (tb _ List.mem_cons_self)⟩
  · rw [List.mem_singleton.mp hp]; exact c.empty
  · rw [List.mem_singleton.mp hp]; exact c.out
  · rw [List.mem_singleton.mp hp]; exact PySem.W.codeHd_of_K X c.hd
  · have sb0 : Sb (fun _ => none) H := fun b o z => by cases z
    exact ⟨fun _ => none, a, ns, rfl, sb0, tabs_of (hH _ List.mem_cons_self), hS, hl, fun _ _ _ => rfl⟩
end K42
open PySem PySem.W PySem.Calls PyProof.Rows
theorem PySem.Challenge.cw_spinemarks_k42_whole_shorts_kept_holds : PySem.Challenge.rw_spinemarks_k42_whole_shorts_kept.Holds := by
  w_on; o_law
  refine HandSHeadRun.head_any (r := OpenLaw.row PySem.Challenge.rw_spinemarks_k42_whole_shorts_kept) (q := view (OpenLaw.row PySem.Challenge.rw_spinemarks_k42_whole_shorts_kept).prog [86]) (H := K42.hookY) (ob := K42.obY) (M := 20000) (loose := K42.loose) (d := HandSHeadRun.topDef (OpenLaw.row PySem.Challenge.rw_spinemarks_k42_whole_shorts_kept).prog 86) (kwd := []) K42.obY_eq
    (by kernel_rfl) (fun s => by kernel_rfl) K42.run (by kernel_rfl) (by kernel_rfl) (by kernel_rfl) (by rfl) (by first | assumption | decide +kernel) (by decide +kernel) ⟨rfl, rfl, rfl, rfl, rfl, by decide +kernel⟩ ?hw ?hc
  case hw => w_witness2
  case hc =>
    refine LamX.walk_ofTsE (l := PySem.Challenge.rw_spinemarks_k42_whole_shorts_kept) (n := 63) (k := 19) (x := "_law_script") (CX := fun _ => L2.CX0) rfl (by decide) (by kernel_rfl) ⟨rfl, by decide, by decide⟩ ?F (fun _ _ _ _ _ z => z)
    intro w mg fa h Y G hmg0
    obtain ⟨K, KX, c⟩ := Y
    have hmg : mg ("law" : PySem.Str) = some (.ref fa) := by
      have e : (HandSHeadRun.topDef (OpenLaw.row PySem.Challenge.rw_spinemarks_k42_whole_shorts_kept).prog 86).name = ("law" : PySem.Str) := by kernel_rfl
      rw [← e]
      exact hmg0
    exact ⟨K, KX, K42.law_at KX c G hmg⟩
