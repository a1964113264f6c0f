import PyProof.Rows.All
import Wide.All
import OpenK.AllK
import Wide.FinOn
import KE.OsGo
import Open.SpecLaws
import HandS.ForSpec
import HandS.ForMost
import HandS.Wide
import HandS.Conv
import HandS.Style
import HandS.Codes
import HandS.Deep
import HandS.More
import HandS.SortRule
import HandS.Defaults
import HandS.ExcInit
import HandS.ExcInitHot
import HandS.ExcField
import HandS.HotCalls
import HandS.CallRecv
import HandS.HeadHook3
import HandS.HeadHook4
import HandS.Head4
import PySem.Challenge.RW_beltcounts_s01_answers
import PyVbkdai
import HandS.Walk
import HandS.Zip
import HandS.Evl
import KE.GoesMore
import HandS.DeepEq
import HandS.SuiteRaise
import KE.KDictZip
import HandS.ExcValue
import HandS.Exc
set_option Elab.async false
set_option linter.all false
set_option maxRecDepth 100000
set_option maxHeartbeats 4000000
namespace Bc
open PySem PySem.Spec PyProof.Rows L2
def top (i : Nat) : Stmt := PySem.Challenge.pw_beltcounts_s01_answers.main.body.getD i (.Pass ⟨0, 0, 0, 0⟩)
theorem fun_of {K : PySem.W.Frag} {x qual : Str} {st : Stmt} {f : Addr} {fd : FuncData} (F : FunD K x qual (defArgs st) (defBody st) (defScope st) [] [] f fd) : Fun K x qual st f fd := by
  obtain ⟨⟨oc, od, dV, kV, doc, pm, an, cdv, ct, osl, rfl, lk, hcd, hD, hK⟩, kp⟩ := F
  rcases hD with ⟨_, rfl⟩ | ⟨e, _⟩
  · exact ⟨⟨oc, od, kV, doc, pm, an, cdv, ct, osl, rfl, lk, hcd⟩, kp⟩
  · exact absurd rfl e
/-- an own class of errors over ValueError with its own __init__ -/
def oexK (K : PySem.W.Frag) (C : Addr) : Bool := match K.lookup C with
  | some ⟨.type "type", _, .cls cd, sl⟩ => (match cd.mro, sl.toList with
    | .ref C' :: bm, [_, _, _, _, some (.builtin n), _] => C' == C && (n == "ValueError.__new__" && (!cd.hasDel && (cd.hasDict && PySem.HandSPX.refsVE bm)))
    | _, _ => false)
  | _ => false
def oexB (K : PySem.W.Frag) (c : Str) : Bool :=
  oexK K (He.ga K c) && (decide (PySem.W.findIn K (.ref (He.ga K c)) "__setattr__" = some (some (.builtin "object.__setattr__"))) && (decide (PySem.W.subIn K (.ref (He.ga K c)) (.type "BaseException") = some true) &&
    (decide (PySem.W.typeIn K (.ref (He.ga K c)) = some (.type "type")) && (PySem.W.keepIn K (.ref (He.ga K c)) && (decide (PySem.W.findIn K (.ref (He.ga K c)) "__init__" = some (some (.ref (He.ma K (He.ga K c) "__init__")))) &&
      decide (PySem.W.typeIn K (.ref (He.ma K (He.ga K c) "__init__")) = some (.type "function")))))))
theorem oexK_ok {K : PySem.W.Frag} {C : Addr} (q : oexK K C = true) : ∃ nm q N bs bm sn sub ab col dd k0 k1 k2 k3 k5, K.lookup C = some (excClassObj nm q C N bs bm true sn sub ab col dd k0 k1 k2 k3 k5 "ValueError.__new__") ∧ PySem.HandSPX.refsVE bm = true := by
  unfold oexK at q
  split at q
  · rename_i dd cd sl ho
    split at q
    · rename_i C' bm k0 k1 k2 k3 n k5 hm hs
      simp only [Bool.and_eq_true, beq_iff_eq, Bool.not_eq_true'] at q
      obtain ⟨rfl, rfl, hdel, hdct, ht⟩ := q
      obtain ⟨nm, bs, mro, ns, qn, hd, sn, sub, ab, col, del⟩ := cd
      dsimp only at hm hdel hdct
      subst hm hdel hdct
      have hsl : sl = #[k0, k1, k2, k3, some (.builtin "ValueError.__new__"), k5] := by
        obtain ⟨l⟩ := sl
        simp only at hs
        rw [hs]
      subst hsl
      exact ⟨nm, qn, ns, bs, bm, sn, sub, ab, col, dd, k0, k1, k2, k3, k5, ho, ht⟩
    · cases q
  · cases q
theorem oexB_ok {K : PySem.W.Frag} {c : Str} (h : oexB K c = true) : OexC K (He.ga K c) ∧ PySem.W.findIn K (.ref (He.ga K c)) "__init__" = some (some (.ref (He.ma K (He.ga K c) "__init__"))) ∧ PySem.W.typeIn K (.ref (He.ma K (He.ga K c) "__init__")) = some (.type "function") := by
  obtain ⟨h1, h⟩ := He.ba h
  obtain ⟨h2, h⟩ := He.ba h
  obtain ⟨h3, h⟩ := He.ba h
  obtain ⟨h4, h⟩ := He.ba h
  obtain ⟨h5, h⟩ := He.ba h
  obtain ⟨h6, h7⟩ := He.ba h
  exact ⟨⟨oexK_ok h1, of_decide_eq_true h2, of_decide_eq_true h3, of_decide_eq_true h4, h5⟩, of_decide_eq_true h6, of_decide_eq_true h7⟩
abbrev s_divisor : Stmt := top 3
abbrev s_fraction : Stmt := top 4
abbrev s_plus : Stmt := top 5
abbrev s_minus : Stmt := top 6
abbrev s_times : Stmt := top 7
abbrev s_is_less : Stmt := top 8
abbrev s_is_between : Stmt := top 9
abbrev s_chance_with : Stmt := top 13
abbrev s_chance_at : Stmt := top 14
abbrev s_powers : Stmt := top 15
abbrev s_Spread_init : Stmt := inClass (top 16) 0
abbrev s_Spread_many_from : Stmt := inClass (top 16) 1
abbrev s_Spread_often : Stmt := inClass (top 16) 2
abbrev s_Spread_is_sure : Stmt := inClass (top 16) 3
abbrev s_spread_at : Stmt := top 17
abbrev s_ends_of : Stmt := top 24
abbrev s_likeliest : Stmt := top 25
abbrev s_ratio_of : Stmt := top 26
abbrev s_is_greater : Stmt := top 27
abbrev s_by_ratio : Stmt := top 28
abbrev s_by_likelihood : Stmt := top 29
abbrev s_put_in : Stmt := top 30
abbrev s_is_little : Stmt := top 31
abbrev s_central : Stmt := top 32
abbrev s_order_of : Stmt := top 33
abbrev s_let_at : Stmt := top 34
abbrev s_let_in : Stmt := top 35
abbrev s_part_let : Stmt := top 36
abbrev s_belt_of : Stmt := top 37
abbrev s_parts_left : Stmt := top 38
abbrev s_Fault_init : Stmt := inClass (top 48) 0
abbrev s_Line_init : Stmt := inClass (top 49) 0
abbrev s_Line_is_at_end : Stmt := inClass (top 49) 1
abbrev s_Line_take : Stmt := inClass (top 49) 2
abbrev s_Line_is_next : Stmt := inClass (top 49) 3
abbrev s_Line_take_word : Stmt := inClass (top 49) 4
abbrev s_Line_finish : Stmt := inClass (top 49) 5
abbrev s_bytes_of : Stmt := top 50
abbrev s_line_of : Stmt := top 51
abbrev s_lines_of : Stmt := top 52
abbrev s_are_digits : Stmt := top 53
abbrev s_number_of : Stmt := top 54
abbrev s_signed : Stmt := top 55
abbrev s_fraction_of : Stmt := top 56
abbrev s_Channel_init : Stmt := inClass (top 71) 0
abbrev s_Channel_with_trials : Stmt := inClass (top 71) 1
abbrev s_Channel_with_order : Stmt := inClass (top 71) 2
abbrev s_Channel_with_sure : Stmt := inClass (top 71) 3
abbrev s_Plan_init : Stmt := inClass (top 72) 0
abbrev s_Plan_with_channel : Stmt := inClass (top 72) 1
abbrev s_read_number : Stmt := top 73
abbrev s_read_fraction_plans : Stmt := top 74
abbrev s_read_range : Stmt := top 76
abbrev s_read_sure : Stmt := top 77
abbrev s_is_name : Stmt := top 78
abbrev s_read_name : Stmt := top 79
abbrev s_read_order : Stmt := top 80
abbrev s_read_channel : Stmt := top 81
abbrev s_plan_of : Stmt := top 82
abbrev s_fraction_text : Stmt := top 83
abbrev s_range_text : Stmt := top 84
abbrev s_channel_bytes : Stmt := top 85
abbrev s_plan_bytes : Stmt := top 86
abbrev s_Refused_init : Stmt := inClass (top 98) 0
abbrev s_want : Stmt := top 99
abbrev s_want_up_to : Stmt := top 100
abbrev s_read_fraction_keeping : Stmt := top 101
abbrev s_parts_told : Stmt := top 103
abbrev s_how_often_apart : Stmt := top 104
abbrev s_Keeping_init : Stmt := inClass (top 105) 0
abbrev s_Keeping_want_channel : Stmt := inClass (top 105) 1
abbrev s_Keeping_want_parts : Stmt := inClass (top 105) 2
abbrev s_Keeping_channel_at : Stmt := inClass (top 105) 3
abbrev s_Keeping_tell_plan : Stmt := inClass (top 105) 4
abbrev s_Keeping_told_text : Stmt := inClass (top 105) 5
abbrev s_Keeping_set_count : Stmt := inClass (top 105) 6
abbrev s_Keeping_forget : Stmt := inClass (top 105) 7
abbrev s_Keeping_chance : Stmt := inClass (top 105) 8
abbrev s_Keeping_how_often : Stmt := inClass (top 105) 9
abbrev s_Keeping_part : Stmt := inClass (top 105) 10
abbrev s_Keeping_belt : Stmt := inClass (top 105) 11
abbrev s_Keeping_would : Stmt := inClass (top 105) 12
abbrev s_Keeping_leaves : Stmt := inClass (top 105) 13
abbrev s_Keeping_jointly : Stmt := inClass (top 105) 14
abbrev s_Keeping_covers : Stmt := inClass (top 105) 15
abbrev s_Keeping_judge : Stmt := inClass (top 105) 16
abbrev s_Keeping_apart : Stmt := inClass (top 105) 17
abbrev s_Keeping_fewest : Stmt := inClass (top 105) 18
abbrev s_Keeping_few : Stmt := inClass (top 105) 19
abbrev s_Keeping_table : Stmt := inClass (top 105) 20
abbrev s_Keeping_set_order : Stmt := inClass (top 105) 21
abbrev s_Keeping_set_sure : Stmt := inClass (top 105) 22
abbrev s_Keeping_told_counts : Stmt := inClass (top 105) 23
abbrev s_counted : Stmt := top 110
abbrev s_judged : Stmt := top 111
abbrev s_called : Stmt := top 112
abbrev s_answer : Stmt := top 113
abbrev s_answers : Stmt := top 114
abbrev N_divisor : List Str := ["one", "other"]
abbrev N_fraction : List Str := ["upper", "lower", "by"]
abbrev N_plus : List Str := ["one", "other"]
abbrev N_minus : List Str := ["one", "other"]
abbrev N_times : List Str := ["one", "other"]
abbrev N_is_less : List Str := ["one", "other"]
abbrev N_is_between : List Str := ["one", "low", "high"]
abbrev N_chance_with : List Str := ["strength", "base", "gain"]
abbrev N_chance_at : List Str := ["plan", "channel", "k", "e"]
abbrev N_powers : List Str := ["number", "many", "found", "k"]
abbrev N_Spread_init : List Str := ["self", "trials", "chance", "upper", "lower", "coming", "lacking", "ways", "n"]
abbrev N_Spread_many_from : List Str := ["self", "a", "b"]
abbrev N_Spread_often : List Str := ["self", "a", "b"]
abbrev N_Spread_is_sure : List Str := ["self", "share", "sure"]
abbrev N_spread_at : List Str := ["plan", "channel", "k", "e"]
abbrev N_ends_of : List Str := ["plan", "channel", "found", "k"]
abbrev N_likeliest : List Str := ["spreads", "n", "found", "spread"]
abbrev N_ratio_of : List Str := ["spread", "top", "n"]
abbrev N_is_greater : List Str := ["one", "other"]
abbrev N_by_ratio : List Str := ["spread", "spreads", "n", "ratios", "found", "at"]
abbrev N_by_likelihood : List Str := ["spread", "share", "n"]
abbrev N_put_in : List Str := ["spread", "order", "sure", "found", "share", "n"]
abbrev N_is_little : List Str := ["spread", "share", "sure", "left"]
abbrev N_central : List Str := ["spread", "sure", "trials", "low", "high", "a", "b"]
abbrev N_order_of : List Str := ["channel", "spread", "spreads", "counts"]
abbrev N_let_at : List Str := ["channel", "spread", "spreads", "found"]
abbrev N_let_in : List Str := ["channel", "spreads", "k", "one", "other"]
abbrev N_part_let : List Str := ["plan", "channel", "k"]
abbrev N_belt_of : List Str := ["plan", "channel", "spreads", "k"]
abbrev N_parts_left : List Str := ["belt", "n", "k", "low", "high"]
abbrev N_Fault_init : List Str := ["self", "kind", "place"]
abbrev N_Line_init : List Str := ["self", "words", "end"]
abbrev N_Line_is_at_end : List Str := ["self"]
abbrev N_Line_take : List Str := ["self"]
abbrev N_Line_is_next : List Str := ["self", "word"]
abbrev N_Line_take_word : List Str := ["self", "word", "place", "row"]
abbrev N_Line_finish : List Str := ["self"]
abbrev N_bytes_of : List Str := ["text", "sign"]
abbrev N_line_of : List Str := ["row", "begin", "end", "words", "at", "k"]
abbrev N_lines_of : List Str := ["row", "found", "begin", "k"]
abbrev N_are_digits : List Str := ["row", "one"]
abbrev N_number_of : List Str := ["row", "found", "one"]
abbrev N_signed : List Str := ["row", "found"]
abbrev N_fraction_of : List Str := ["row", "upper", "at", "lower"]
abbrev N_Channel_init : List Str := ["self", "name", "trials", "base", "gain", "sure", "order"]
abbrev N_Channel_with_trials : List Str := ["self", "trials"]
abbrev N_Channel_with_order : List Str := ["self", "order"]
abbrev N_Channel_with_sure : List Str := ["self", "sure"]
abbrev N_Plan_init : List Str := ["self", "parts", "channels"]
abbrev N_Plan_with_channel : List Str := ["self", "c", "channel"]
abbrev N_read_number : List Str := ["line", "most", "place", "row", "found"]
abbrev N_read_fraction_plans : List Str := ["line", "low", "high", "place", "row", "found"]
abbrev N_read_range : List Str := ["line", "high", "first"]
abbrev N_read_sure : List Str := ["line", "place", "found"]
abbrev N_is_name : List Str := ["row", "one", "word"]
abbrev N_read_name : List Str := ["line", "known", "place", "row"]
abbrev N_read_order : List Str := ["line", "place", "row", "order", "word"]
abbrev N_read_channel : List Str := ["line", "known", "name", "trials", "base", "gain", "sure", "order"]
abbrev N_plan_of : List Str := ["row", "lines", "parts", "channels", "line", "channel"]
abbrev N_fraction_text : List Str := ["one"]
abbrev N_range_text : List Str := ["two"]
abbrev N_channel_bytes : List Str := ["channel", "told"]
abbrev N_plan_bytes : List Str := ["plan", "found", "channel"]
abbrev N_Refused_init : List Str := ["self", "number"]
abbrev N_want : List Str := ["truth", "number"]
abbrev N_want_up_to : List Str := ["numbers", "most", "number"]
abbrev N_read_fraction_keeping : List Str := ["upper", "lower"]
abbrev N_parts_told : List Str := ["plan", "some", "begin", "end"]
abbrev N_how_often_apart : List Str := ["plan", "channel", "k", "j", "e", "low", "high"]
abbrev N_Keeping_init : List Str := ["self"]
abbrev N_Keeping_want_channel : List Str := ["self", "c"]
abbrev N_Keeping_want_parts : List Str := ["self", "parts", "k"]
abbrev N_Keeping_channel_at : List Str := ["self", "c", "parts", "channel"]
abbrev N_Keeping_tell_plan : List Str := ["self", "row", "found", "e"]
abbrev N_Keeping_told_text : List Str := ["self", "row"]
abbrev N_Keeping_set_count : List Str := ["self", "c", "n", "channel"]
abbrev N_Keeping_forget : List Str := ["self", "c"]
abbrev N_Keeping_chance : List Str := ["self", "c", "k", "e", "channel"]
abbrev N_Keeping_how_often : List Str := ["self", "c", "k", "e", "a", "b", "channel"]
abbrev N_Keeping_part : List Str := ["self", "c", "k", "channel", "low", "high", "found", "e"]
abbrev N_Keeping_belt : List Str := ["self", "c", "channel", "found", "low", "high"]
abbrev N_Keeping_would : List Str := ["self", "c", "n", "channel"]
abbrev N_Keeping_leaves : List Str := ["self", "c", "channel"]
abbrev N_Keeping_jointly : List Str := ["self", "sure", "some", "channel", "n", "left", "k"]
abbrev N_Keeping_covers : List Str := ["self", "c", "k", "numbers", "strength", "base", "gain", "channel", "low", "high"]
abbrev N_Keeping_judge : List Str := ["self", "c", "row", "pairs", "low", "high", "channel", "k", "e", "spread"]
abbrev N_Keeping_apart : List Str := ["self", "c", "k", "j", "e", "channel"]
abbrev N_Keeping_fewest : List Str := ["self", "c", "k", "j", "e", "upper", "lower", "least", "channel", "trials"]
abbrev N_Keeping_few : List Str := ["self", "c", "k", "e", "channel", "spread"]
abbrev N_Keeping_table : List Str := ["self", "c", "channel", "belt", "found", "n", "some"]
abbrev N_Keeping_set_order : List Str := ["self", "c", "order", "channel"]
abbrev N_Keeping_set_sure : List Str := ["self", "c", "upper", "lower", "found", "channel"]
abbrev N_Keeping_told_counts : List Str := ["self", "found", "channel", "n"]
abbrev N_counted : List Str := ["keeping", "call", "n"]
abbrev N_judged : List Str := ["keeping", "call", "n", "row"]
abbrev N_called : List Str := ["keeping", "call", "n", "row"]
abbrev N_answer : List Str := ["keeping", "call", "n", "row", "found", "e"]
abbrev N_answers : List Str := ["calls", "keeping", "found", "at", "call", "end", "n", "row", "told"]
/-! ### what is read off the top -/
def d_divisor : He.DefD := ⟨("divisor", none), "divisor", "divisor", defArgs s_divisor, defBody s_divisor, defScope s_divisor, [], []⟩
def d_fraction : He.DefD := ⟨("fraction", none), "fraction", "fraction", defArgs s_fraction, defBody s_fraction, defScope s_fraction, [], []⟩
def d_plus : He.DefD := ⟨("plus", none), "plus", "plus", defArgs s_plus, defBody s_plus, defScope s_plus, [], []⟩
def d_minus : He.DefD := ⟨("minus", none), "minus", "minus", defArgs s_minus, defBody s_minus, defScope s_minus, [], []⟩
def d_times : He.DefD := ⟨("times", none), "times", "times", defArgs s_times, defBody s_times, defScope s_times, [], []⟩
def d_is_less : He.DefD := ⟨("is_less", none), "is_less", "is_less", defArgs s_is_less, defBody s_is_less, defScope s_is_less, [], []⟩
def d_is_between : He.DefD := ⟨("is_between", none), "is_between", "is_between", defArgs s_is_between, defBody s_is_between, defScope s_is_between, [], []⟩
def d_chance_with : He.DefD := ⟨("chance_with", none), "chance_with", "chance_with", defArgs s_chance_with, defBody s_chance_with, defScope s_chance_with, [], []⟩
def d_chance_at : He.DefD := ⟨("chance_at", none), "chance_at", "chance_at", defArgs s_chance_at, defBody s_chance_at, defScope s_chance_at, [], []⟩
def d_powers : He.DefD := ⟨("powers", none), "powers", "powers", defArgs s_powers, defBody s_powers, defScope s_powers, [], []⟩
def d_Spread_init : He.DefD := ⟨("Spread", some "__init__"), "__init__", "Spread.__init__", defArgs s_Spread_init, defBody s_Spread_init, defScope s_Spread_init, [], []⟩
def d_Spread_many_from : He.DefD := ⟨("Spread", some "many_from"), "many_from", "Spread.many_from", defArgs s_Spread_many_from, defBody s_Spread_many_from, defScope s_Spread_many_from, [], []⟩
def d_Spread_often : He.DefD := ⟨("Spread", some "often"), "often", "Spread.often", defArgs s_Spread_often, defBody s_Spread_often, defScope s_Spread_often, [], []⟩
def d_Spread_is_sure : He.DefD := ⟨("Spread", some "is_sure"), "is_sure", "Spread.is_sure", defArgs s_Spread_is_sure, defBody s_Spread_is_sure, defScope s_Spread_is_sure, [], []⟩
def d_spread_at : He.DefD := ⟨("spread_at", none), "spread_at", "spread_at", defArgs s_spread_at, defBody s_spread_at, defScope s_spread_at, [], []⟩
def d_ends_of : He.DefD := ⟨("ends_of", none), "ends_of", "ends_of", defArgs s_ends_of, defBody s_ends_of, defScope s_ends_of, [], []⟩
def d_likeliest : He.DefD := ⟨("likeliest", none), "likeliest", "likeliest", defArgs s_likeliest, defBody s_likeliest, defScope s_likeliest, [], []⟩
def d_ratio_of : He.DefD := ⟨("ratio_of", none), "ratio_of", "ratio_of", defArgs s_ratio_of, defBody s_ratio_of, defScope s_ratio_of, [], []⟩
def d_is_greater : He.DefD := ⟨("is_greater", none), "is_greater", "is_greater", defArgs s_is_greater, defBody s_is_greater, defScope s_is_greater, [], []⟩
def d_by_ratio : He.DefD := ⟨("by_ratio", none), "by_ratio", "by_ratio", defArgs s_by_ratio, defBody s_by_ratio, defScope s_by_ratio, [], []⟩
def d_by_likelihood : He.DefD := ⟨("by_likelihood", none), "by_likelihood", "by_likelihood", defArgs s_by_likelihood, defBody s_by_likelihood, defScope s_by_likelihood, [], []⟩
def d_put_in : He.DefD := ⟨("put_in", none), "put_in", "put_in", defArgs s_put_in, defBody s_put_in, defScope s_put_in, [], []⟩
def d_is_little : He.DefD := ⟨("is_little", none), "is_little", "is_little", defArgs s_is_little, defBody s_is_little, defScope s_is_little, [], []⟩
def d_central : He.DefD := ⟨("central", none), "central", "central", defArgs s_central, defBody s_central, defScope s_central, [], []⟩
def d_order_of : He.DefD := ⟨("order_of", none), "order_of", "order_of", defArgs s_order_of, defBody s_order_of, defScope s_order_of, [], []⟩
def d_let_at : He.DefD := ⟨("let_at", none), "let_at", "let_at", defArgs s_let_at, defBody s_let_at, defScope s_let_at, [], []⟩
def d_let_in : He.DefD := ⟨("let_in", none), "let_in", "let_in", defArgs s_let_in, defBody s_let_in, defScope s_let_in, [], []⟩
def d_part_let : He.DefD := ⟨("part_let", none), "part_let", "part_let", defArgs s_part_let, defBody s_part_let, defScope s_part_let, [], []⟩
def d_belt_of : He.DefD := ⟨("belt_of", none), "belt_of", "belt_of", defArgs s_belt_of, defBody s_belt_of, defScope s_belt_of, [], []⟩
def d_parts_left : He.DefD := ⟨("parts_left", none), "parts_left", "parts_left", defArgs s_parts_left, defBody s_parts_left, defScope s_parts_left, [], []⟩
def d_Fault_init : He.DefD := ⟨("Fault", some "__init__"), "__init__", "Fault.__init__", defArgs s_Fault_init, defBody s_Fault_init, defScope s_Fault_init, [], []⟩
def d_Line_init : He.DefD := ⟨("Line", some "__init__"), "__init__", "Line.__init__", defArgs s_Line_init, defBody s_Line_init, defScope s_Line_init, [], []⟩
def d_Line_is_at_end : He.DefD := ⟨("Line", some "is_at_end"), "is_at_end", "Line.is_at_end", defArgs s_Line_is_at_end, defBody s_Line_is_at_end, defScope s_Line_is_at_end, [], []⟩
def d_Line_take : He.DefD := ⟨("Line", some "take"), "take", "Line.take", defArgs s_Line_take, defBody s_Line_take, defScope s_Line_take, [], []⟩
def d_Line_is_next : He.DefD := ⟨("Line", some "is_next"), "is_next", "Line.is_next", defArgs s_Line_is_next, defBody s_Line_is_next, defScope s_Line_is_next, [], []⟩
def d_Line_take_word : He.DefD := ⟨("Line", some "take_word"), "take_word", "Line.take_word", defArgs s_Line_take_word, defBody s_Line_take_word, defScope s_Line_take_word, [], []⟩
def d_Line_finish : He.DefD := ⟨("Line", some "finish"), "finish", "Line.finish", defArgs s_Line_finish, defBody s_Line_finish, defScope s_Line_finish, [], []⟩
def d_bytes_of : He.DefD := ⟨("bytes_of", none), "bytes_of", "bytes_of", defArgs s_bytes_of, defBody s_bytes_of, defScope s_bytes_of, [], []⟩
def d_line_of : He.DefD := ⟨("line_of", none), "line_of", "line_of", defArgs s_line_of, defBody s_line_of, defScope s_line_of, [], []⟩
def d_lines_of : He.DefD := ⟨("lines_of", none), "lines_of", "lines_of", defArgs s_lines_of, defBody s_lines_of, defScope s_lines_of, [], []⟩
def d_are_digits : He.DefD := ⟨("are_digits", none), "are_digits", "are_digits", defArgs s_are_digits, defBody s_are_digits, defScope s_are_digits, [], []⟩
def d_number_of : He.DefD := ⟨("number_of", none), "number_of", "number_of", defArgs s_number_of, defBody s_number_of, defScope s_number_of, [], []⟩
def d_signed : He.DefD := ⟨("signed", none), "signed", "signed", defArgs s_signed, defBody s_signed, defScope s_signed, [], []⟩
def d_fraction_of : He.DefD := ⟨("fraction_of", none), "fraction_of", "fraction_of", defArgs s_fraction_of, defBody s_fraction_of, defScope s_fraction_of, [], []⟩
def d_Channel_init : He.DefD := ⟨("Channel", some "__init__"), "__init__", "Channel.__init__", defArgs s_Channel_init, defBody s_Channel_init, defScope s_Channel_init, [], []⟩
def d_Channel_with_trials : He.DefD := ⟨("Channel", some "with_trials"), "with_trials", "Channel.with_trials", defArgs s_Channel_with_trials, defBody s_Channel_with_trials, defScope s_Channel_with_trials, [], []⟩
def d_Channel_with_order : He.DefD := ⟨("Channel", some "with_order"), "with_order", "Channel.with_order", defArgs s_Channel_with_order, defBody s_Channel_with_order, defScope s_Channel_with_order, [], []⟩
def d_Channel_with_sure : He.DefD := ⟨("Channel", some "with_sure"), "with_sure", "Channel.with_sure", defArgs s_Channel_with_sure, defBody s_Channel_with_sure, defScope s_Channel_with_sure, [], []⟩
def d_Plan_init : He.DefD := ⟨("Plan", some "__init__"), "__init__", "Plan.__init__", defArgs s_Plan_init, defBody s_Plan_init, defScope s_Plan_init, [], []⟩
def d_Plan_with_channel : He.DefD := ⟨("Plan", some "with_channel"), "with_channel", "Plan.with_channel", defArgs s_Plan_with_channel, defBody s_Plan_with_channel, defScope s_Plan_with_channel, [], []⟩
def d_read_number : He.DefD := ⟨("read_number", none), "read_number", "read_number", defArgs s_read_number, defBody s_read_number, defScope s_read_number, [], []⟩
def d_read_fraction_plans : He.DefD := ⟨("read_fraction_plans", none), "read_fraction", "read_fraction", defArgs s_read_fraction_plans, defBody s_read_fraction_plans, defScope s_read_fraction_plans, [], []⟩
def d_read_range : He.DefD := ⟨("read_range", none), "read_range", "read_range", defArgs s_read_range, defBody s_read_range, defScope s_read_range, [], []⟩
def d_read_sure : He.DefD := ⟨("read_sure", none), "read_sure", "read_sure", defArgs s_read_sure, defBody s_read_sure, defScope s_read_sure, [], []⟩
def d_is_name : He.DefD := ⟨("is_name", none), "is_name", "is_name", defArgs s_is_name, defBody s_is_name, defScope s_is_name, [], []⟩
def d_read_name : He.DefD := ⟨("read_name", none), "read_name", "read_name", defArgs s_read_name, defBody s_read_name, defScope s_read_name, [], []⟩
def d_read_order : He.DefD := ⟨("read_order", none), "read_order", "read_order", defArgs s_read_order, defBody s_read_order, defScope s_read_order, [], []⟩
def d_read_channel : He.DefD := ⟨("read_channel", none), "read_channel", "read_channel", defArgs s_read_channel, defBody s_read_channel, defScope s_read_channel, [], []⟩
def d_plan_of : He.DefD := ⟨("plan_of", none), "plan_of", "plan_of", defArgs s_plan_of, defBody s_plan_of, defScope s_plan_of, [], []⟩
def d_fraction_text : He.DefD := ⟨("fraction_text", none), "fraction_text", "fraction_text", defArgs s_fraction_text, defBody s_fraction_text, defScope s_fraction_text, [], []⟩
def d_range_text : He.DefD := ⟨("range_text", none), "range_text", "range_text", defArgs s_range_text, defBody s_range_text, defScope s_range_text, [], []⟩
def d_channel_bytes : He.DefD := ⟨("channel_bytes", none), "channel_bytes", "channel_bytes", defArgs s_channel_bytes, defBody s_channel_bytes, defScope s_channel_bytes, [], []⟩
def d_plan_bytes : He.DefD := ⟨("plan_bytes", none), "plan_bytes", "plan_bytes", defArgs s_plan_bytes, defBody s_plan_bytes, defScope s_plan_bytes, [], []⟩
def d_Refused_init : He.DefD := ⟨("Refused", some "__init__"), "__init__", "Refused.__init__", defArgs s_Refused_init, defBody s_Refused_init, defScope s_Refused_init, [], []⟩
def d_want : He.DefD := ⟨("want", none), "want", "want", defArgs s_want, defBody s_want, defScope s_want, [], []⟩
def d_want_up_to : He.DefD := ⟨("want_up_to", none), "want_up_to", "want_up_to", defArgs s_want_up_to, defBody s_want_up_to, defScope s_want_up_to, [], []⟩
def d_read_fraction_keeping : He.DefD := ⟨("read_fraction_keeping", none), "read_fraction", "read_fraction", defArgs s_read_fraction_keeping, defBody s_read_fraction_keeping, defScope s_read_fraction_keeping, [], []⟩
def d_parts_told : He.DefD := ⟨("parts_told", none), "parts_told", "parts_told", defArgs s_parts_told, defBody s_parts_told, defScope s_parts_told, [], []⟩
def d_how_often_apart : He.DefD := ⟨("how_often_apart", none), "how_often_apart", "how_often_apart", defArgs s_how_often_apart, defBody s_how_often_apart, defScope s_how_often_apart, [], []⟩
def d_Keeping_init : He.DefD := ⟨("Keeping", some "__init__"), "__init__", "Keeping.__init__", defArgs s_Keeping_init, defBody s_Keeping_init, defScope s_Keeping_init, [], []⟩
def d_Keeping_want_channel : He.DefD := ⟨("Keeping", some "want_channel"), "want_channel", "Keeping.want_channel", defArgs s_Keeping_want_channel, defBody s_Keeping_want_channel, defScope s_Keeping_want_channel, [], []⟩
def d_Keeping_want_parts : He.DefD := ⟨("Keeping", some "want_parts"), "want_parts", "Keeping.want_parts", defArgs s_Keeping_want_parts, defBody s_Keeping_want_parts, defScope s_Keeping_want_parts, [], []⟩
def d_Keeping_channel_at : He.DefD := ⟨("Keeping", some "channel_at"), "channel_at", "Keeping.channel_at", defArgs s_Keeping_channel_at, defBody s_Keeping_channel_at, defScope s_Keeping_channel_at, [], []⟩
def d_Keeping_tell_plan : He.DefD := ⟨("Keeping", some "tell_plan"), "tell_plan", "Keeping.tell_plan", defArgs s_Keeping_tell_plan, defBody s_Keeping_tell_plan, defScope s_Keeping_tell_plan, [], []⟩
def d_Keeping_told_text : He.DefD := ⟨("Keeping", some "told_text"), "told_text", "Keeping.told_text", defArgs s_Keeping_told_text, defBody s_Keeping_told_text, defScope s_Keeping_told_text, [], []⟩
def d_Keeping_set_count : He.DefD := ⟨("Keeping", some "set_count"), "set_count", "Keeping.set_count", defArgs s_Keeping_set_count, defBody s_Keeping_set_count, defScope s_Keeping_set_count, [], []⟩
def d_Keeping_forget : He.DefD := ⟨("Keeping", some "forget"), "forget", "Keeping.forget", defArgs s_Keeping_forget, defBody s_Keeping_forget, defScope s_Keeping_forget, [], []⟩
def d_Keeping_chance : He.DefD := ⟨("Keeping", some "chance"), "chance", "Keeping.chance", defArgs s_Keeping_chance, defBody s_Keeping_chance, defScope s_Keeping_chance, [], []⟩
def d_Keeping_how_often : He.DefD := ⟨("Keeping", some "how_often"), "how_often", "Keeping.how_often", defArgs s_Keeping_how_often, defBody s_Keeping_how_often, defScope s_Keeping_how_often, [], []⟩
def d_Keeping_part : He.DefD := ⟨("Keeping", some "part"), "part", "Keeping.part", defArgs s_Keeping_part, defBody s_Keeping_part, defScope s_Keeping_part, [], []⟩
def d_Keeping_belt : He.DefD := ⟨("Keeping", some "belt"), "belt", "Keeping.belt", defArgs s_Keeping_belt, defBody s_Keeping_belt, defScope s_Keeping_belt, [], []⟩
def d_Keeping_would : He.DefD := ⟨("Keeping", some "would"), "would", "Keeping.would", defArgs s_Keeping_would, defBody s_Keeping_would, defScope s_Keeping_would, [], []⟩
def d_Keeping_leaves : He.DefD := ⟨("Keeping", some "leaves"), "leaves", "Keeping.leaves", defArgs s_Keeping_leaves, defBody s_Keeping_leaves, defScope s_Keeping_leaves, [], []⟩
def d_Keeping_jointly : He.DefD := ⟨("Keeping", some "jointly"), "jointly", "Keeping.jointly", defArgs s_Keeping_jointly, defBody s_Keeping_jointly, defScope s_Keeping_jointly, [], []⟩
def d_Keeping_covers : He.DefD := ⟨("Keeping", some "covers"), "covers", "Keeping.covers", defArgs s_Keeping_covers, defBody s_Keeping_covers, defScope s_Keeping_covers, [], []⟩
def d_Keeping_judge : He.DefD := ⟨("Keeping", some "judge"), "judge", "Keeping.judge", defArgs s_Keeping_judge, defBody s_Keeping_judge, defScope s_Keeping_judge, [], []⟩
def d_Keeping_apart : He.DefD := ⟨("Keeping", some "apart"), "apart", "Keeping.apart", defArgs s_Keeping_apart, defBody s_Keeping_apart, defScope s_Keeping_apart, [], []⟩
def d_Keeping_fewest : He.DefD := ⟨("Keeping", some "fewest"), "fewest", "Keeping.fewest", defArgs s_Keeping_fewest, defBody s_Keeping_fewest, defScope s_Keeping_fewest, [], []⟩
def d_Keeping_few : He.DefD := ⟨("Keeping", some "few"), "few", "Keeping.few", defArgs s_Keeping_few, defBody s_Keeping_few, defScope s_Keeping_few, [], []⟩
def d_Keeping_table : He.DefD := ⟨("Keeping", some "table"), "table", "Keeping.table", defArgs s_Keeping_table, defBody s_Keeping_table, defScope s_Keeping_table, [], []⟩
def d_Keeping_set_order : He.DefD := ⟨("Keeping", some "set_order"), "set_order", "Keeping.set_order", defArgs s_Keeping_set_order, defBody s_Keeping_set_order, defScope s_Keeping_set_order, [], []⟩
def d_Keeping_set_sure : He.DefD := ⟨("Keeping", some "set_sure"), "set_sure", "Keeping.set_sure", defArgs s_Keeping_set_sure, defBody s_Keeping_set_sure, defScope s_Keeping_set_sure, [], []⟩
def d_Keeping_told_counts : He.DefD := ⟨("Keeping", some "told_counts"), "told_counts", "Keeping.told_counts", defArgs s_Keeping_told_counts, defBody s_Keeping_told_counts, defScope s_Keeping_told_counts, [], []⟩
def d_counted : He.DefD := ⟨("counted", none), "counted", "counted", defArgs s_counted, defBody s_counted, defScope s_counted, [], []⟩
def d_judged : He.DefD := ⟨("judged", none), "judged", "judged", defArgs s_judged, defBody s_judged, defScope s_judged, [], []⟩
def d_called : He.DefD := ⟨("called", none), "called", "called", defArgs s_called, defBody s_called, defScope s_called, [], []⟩
def d_answer : He.DefD := ⟨("answer", none), "answer", "answer", defArgs s_answer, defBody s_answer, defScope s_answer, [], []⟩
def d_answers : He.DefD := ⟨("answers", none), "answers", "answers", defArgs s_answers, defBody s_answers, defScope s_answers, [], []⟩
def fn : List He.DefD := [d_divisor, d_fraction, d_plus, d_minus, d_times, d_is_less, d_is_between, d_chance_with, d_chance_at, d_powers, d_Spread_init, d_Spread_many_from, d_Spread_often, d_Spread_is_sure, d_spread_at, d_ends_of, d_likeliest, d_ratio_of, d_is_greater, d_by_ratio, d_by_likelihood, d_put_in, d_is_little, d_central, d_order_of, d_let_at, d_let_in, d_part_let, d_belt_of, d_parts_left, d_Fault_init, d_Line_init, d_Line_is_at_end, d_Line_take, d_Line_is_next, d_Line_take_word, d_Line_finish, d_bytes_of, d_line_of, d_lines_of, d_are_digits, d_number_of, d_signed, d_fraction_of, d_Channel_init, d_Channel_with_trials, d_Channel_with_order, d_Channel_with_sure, d_Plan_init, d_Plan_with_channel, d_read_number, d_read_fraction_plans, d_read_range, d_read_sure, d_is_name, d_read_name, d_read_order, d_read_channel, d_plan_of, d_fraction_text, d_range_text, d_channel_bytes, d_plan_bytes, d_Refused_init, d_want, d_want_up_to, d_read_fraction_keeping, d_parts_told, d_how_often_apart, d_Keeping_init, d_Keeping_want_channel, d_Keeping_want_parts, d_Keeping_channel_at, d_Keeping_tell_plan, d_Keeping_told_text, d_Keeping_set_count, d_Keeping_forget, d_Keeping_chance, d_Keeping_how_often, d_Keeping_part, d_Keeping_belt, d_Keeping_would, d_Keeping_leaves, d_Keeping_jointly, d_Keeping_covers, d_Keeping_judge, d_Keeping_apart, d_Keeping_fewest, d_Keeping_few, d_Keeping_table, d_Keeping_set_order, d_Keeping_set_sure, d_Keeping_told_counts, d_counted, d_judged, d_called, d_answer, d_answers]
def fa0 : List He.Fa := [.glo "divisor", .glo "fraction", .glo "plus", .glo "minus", .glo "times", .glo "is_less", .glo "is_between", .glo "chance_with", .glo "chance_at", .glo "powers", .glo "spread_at", .glo "ends_of", .glo "likeliest", .glo "ratio_of", .glo "is_greater", .glo "by_ratio", .glo "by_likelihood", .glo "put_in", .glo "is_little", .glo "central", .glo "order_of", .glo "let_at", .glo "let_in", .glo "part_let", .glo "belt_of", .glo "parts_left", .glo "bytes_of", .glo "line_of", .glo "lines_of", .glo "are_digits", .glo "number_of", .glo "signed", .glo "fraction_of", .glo "read_number", .glo "read_fraction_plans", .glo "read_range", .glo "read_sure", .glo "is_name", .glo "read_name", .glo "read_order"]
def fa1 : List He.Fa := [.glo "read_channel", .glo "plan_of", .glo "fraction_text", .glo "range_text", .glo "channel_bytes", .glo "plan_bytes", .glo "want", .glo "want_up_to", .glo "read_fraction_keeping", .glo "parts_told", .glo "how_often_apart", .glo "counted", .glo "judged", .glo "called", .glo "answer", .glo "answers", .glo "Spread", .glo "Fault", .glo "Line", .glo "Channel", .glo "Plan", .glo "Refused", .glo "Keeping", .glo "NOUGHT_fractions", .glo "ONE", .glo "NOUGHT_RATIO", .glo "ORDERS", .glo "NO_NAMES", .glo "NUMBERS", .glo "WITH_ROW", .free "abs", .free "sum", .free "len", .free "range", .free "max", .free "min", .free "sorted", .free "enumerate", .free "list", .free "ord"]
def fa2 : List He.Fa := [.free "str", .free "all", .free "zip", .free "ValueError", .int "BEGINNING" (0), .int "ENDING" (1), .int "UPPER" (0), .int "LOWER" (1), .int "CENTRAL" (2), .int "LIKELY" (3), .int "LINE_END" (10), .int "BLANK" (32), .int "MINUS" (45), .int "SLASH" (47), .int "NOUGHT_words" (48), .int "MOST_FIGURES" (7), .int "LEAST_LOWER" (2), .int "LACKS" (1), .int "MISPLACED" (1), .int "OUT_OF_RANGE" (2), .int "TOLD_ALREADY" (3), .int "FIFTH" (4), .int "MOST_PARTS" (12), .int "MOST_CHANNELS" (4), .int "MOST_TRIALS" (40), .int "MOST_LOWER" (1000), .int "MOST_LETTERS" (8), .int "FIRST_LETTER" (97), .int "LAST_LETTER" (122), .int "NOT_AS_TOLD" (-1), .int "NO_CHANNEL" (-2), .int "TOO_GREAT" (-3), .int "NO_PLAN" (-4), .int "NO_PART" (-5), .int "NO_COUNT" (-6), .int "NOT_BETWEEN" (-7), .int "MOST_BYTES" (400), .int "MOST_BYTE" (255), .int "FAULTS" (1000), .int "PLAN" (0)]
def fa3 : List He.Fa := [.cls "Spread", .mkr "Spread", .cls "Line", .mkr "Line", .cls "Channel", .mkr "Channel", .cls "Plan", .mkr "Plan", .cls "Keeping", .mkr "Keeping", .noat "Spread" "shares", .noat "Spread" "whole", .noat "Line" "words", .noat "Line" "end", .noat "Line" "at", .noat "Channel" "name", .noat "Channel" "trials", .noat "Channel" "base", .noat "Channel" "gain", .noat "Channel" "sure", .noat "Channel" "order", .noat "Plan" "parts", .noat "Plan" "channels", .noat "Keeping" "plan", .noat "Keeping" "counted", .noat "Fault" "kind", .noat "Fault" "place", .noat "Refused" "number", .meth "Spread" "many_from", .meth "Spread" "often", .meth "Spread" "is_sure", .meth "Line" "is_at_end", .meth "Line" "take", .meth "Line" "is_next", .meth "Line" "take_word", .meth "Line" "finish", .meth "Channel" "with_trials", .meth "Channel" "with_order", .meth "Channel" "with_sure", .meth "Plan" "with_channel"]
def fa4 : List He.Fa := [.meth "Keeping" "want_channel", .meth "Keeping" "want_parts", .meth "Keeping" "channel_at", .meth "Keeping" "tell_plan", .meth "Keeping" "told_text", .meth "Keeping" "set_count", .meth "Keeping" "forget", .meth "Keeping" "chance", .meth "Keeping" "how_often", .meth "Keeping" "part", .meth "Keeping" "belt", .meth "Keeping" "would", .meth "Keeping" "leaves", .meth "Keeping" "jointly", .meth "Keeping" "covers", .meth "Keeping" "judge", .meth "Keeping" "apart", .meth "Keeping" "fewest", .meth "Keeping" "few", .meth "Keeping" "table", .meth "Keeping" "set_order", .meth "Keeping" "set_sure", .meth "Keeping" "told_counts", .exm "Fault" "Fault" true, .exm "Refused" "Refused" true]
def fa : List He.Fa := fa0 ++ fa1 ++ fa2 ++ fa3 ++ fa4
/-- what the numbers above do not tell: the tuples, the classes of errors -/
def exB (K : PySem.W.Frag) : Bool :=
  [He.tupB K "NOUGHT_fractions" [.int 0, .int 1], He.tupB K "ONE" [.int 1, .int 1], He.tupB K "NOUGHT_RATIO" [.int 0, .int 1], He.tupB K "ORDERS" [.str "upper", .str "lower", .str "central", .str "likely", .str "ratio"], He.tupB K "NO_NAMES" [.str "column", .str "sealed", .str "constant", .str "box", .str "good", .str "plus", .str "minus", .str "times", .str "always", .str "less", .str "same", .str "not", .str "both", .str "either", .str "count", .str "sum", .str "if", .str "objects", .str "most", .str "least", .str "pairs"], He.tupB K "NUMBERS" [.int 0, .int 0, .int 2, .int 1, .int 3, .int 5, .int 2, .int 1, .int 2, .int 1, .int 0, .int 8, .int 1, .int 4, .int 6, .int 3, .int 1, .int 2, .int 3, .int 0], He.tupB K "WITH_ROW" [.int 0, .int 12], oexB K "Fault", oexB K "Refused", xfB K (He.ga K "Fault"), xfB K (He.ga K "Refused")].all id
/-- what is known of the written part -/
structure TX (K : PySem.W.Frag) (mg : Str → Option Value) : Prop where
  ns : ∃ h : Heap, K.In h ∧ h.Ns mainGlobals mg
  sd : He.SaysD fa fn K
  ex : exB K = true
section
variable {K : PySem.W.Frag} {mg : Str → Option Value}
theorem TX.glo (T : TX K mg) {x : Str} (c : (He.Fa.glo x).ok K = true) : mg x = some (.ref (He.ga K x)) := let ⟨_, X, G⟩ := T.ns; He.glo_ok X G c
theorem TX.free (T : TX K mg) {x : Str} (c : (He.Fa.free x).ok K = true) : mg x = none := let ⟨_, X, G⟩ := T.ns; He.free_ok X G c
theorem TX.int (T : TX K mg) {x : Str} {i : Int} (c : (He.Fa.int x i).ok K = true) : ∃ u, mg x = some u ∧ RelV (.int i) u := let ⟨_, X, G⟩ := T.ns; let ⟨t, e⟩ := He.int_ok X G c; ⟨_, e, t, rfl⟩
theorem TX.exs (T : TX K mg) {i : Nat} {b : Bool} (h : [He.tupB K "NOUGHT_fractions" [.int 0, .int 1], He.tupB K "ONE" [.int 1, .int 1], He.tupB K "NOUGHT_RATIO" [.int 0, .int 1], He.tupB K "ORDERS" [.str "upper", .str "lower", .str "central", .str "likely", .str "ratio"], He.tupB K "NO_NAMES" [.str "column", .str "sealed", .str "constant", .str "box", .str "good", .str "plus", .str "minus", .str "times", .str "always", .str "less", .str "same", .str "not", .str "both", .str "either", .str "count", .str "sum", .str "if", .str "objects", .str "most", .str "least", .str "pairs"], He.tupB K "NUMBERS" [.int 0, .int 0, .int 2, .int 1, .int 3, .int 5, .int 2, .int 1, .int 2, .int 1, .int 0, .int 8, .int 1, .int 4, .int 6, .int 3, .int 1, .int 2, .int 3, .int 0], He.tupB K "WITH_ROW" [.int 0, .int 12], oexB K "Fault", oexB K "Refused", xfB K (He.ga K "Fault"), xfB K (He.ga K "Refused")][i]? = some b) : b = true := List.all_eq_true.mp T.ex b (List.mem_of_getElem? h)
theorem TX.g_divisor (T : TX K mg) : mg "divisor" = some (.ref (He.ga K "divisor")) := T.glo (T.sd.fact 0 rfl)
theorem TX.g_fraction (T : TX K mg) : mg "fraction" = some (.ref (He.ga K "fraction")) := T.glo (T.sd.fact 1 rfl)
theorem TX.g_plus (T : TX K mg) : mg "plus" = some (.ref (He.ga K "plus")) := T.glo (T.sd.fact 2 rfl)
theorem TX.g_minus (T : TX K mg) : mg "minus" = some (.ref (He.ga K "minus")) := T.glo (T.sd.fact 3 rfl)
theorem TX.g_times (T : TX K mg) : mg "times" = some (.ref (He.ga K "times")) := T.glo (T.sd.fact 4 rfl)
theorem TX.g_is_less (T : TX K mg) : mg "is_less" = some (.ref (He.ga K "is_less")) := T.glo (T.sd.fact 5 rfl)
theorem TX.g_is_between (T : TX K mg) : mg "is_between" = some (.ref (He.ga K "is_between")) := T.glo (T.sd.fact 6 rfl)
theorem TX.g_chance_with (T : TX K mg) : mg "chance_with" = some (.ref (He.ga K "chance_with")) := T.glo (T.sd.fact 7 rfl)
theorem TX.g_chance_at (T : TX K mg) : mg "chance_at" = some (.ref (He.ga K "chance_at")) := T.glo (T.sd.fact 8 rfl)
theorem TX.g_powers (T : TX K mg) : mg "powers" = some (.ref (He.ga K "powers")) := T.glo (T.sd.fact 9 rfl)
theorem TX.g_spread_at (T : TX K mg) : mg "spread_at" = some (.ref (He.ga K "spread_at")) := T.glo (T.sd.fact 10 rfl)
theorem TX.g_ends_of (T : TX K mg) : mg "ends_of" = some (.ref (He.ga K "ends_of")) := T.glo (T.sd.fact 11 rfl)
theorem TX.g_likeliest (T : TX K mg) : mg "likeliest" = some (.ref (He.ga K "likeliest")) := T.glo (T.sd.fact 12 rfl)
theorem TX.g_ratio_of (T : TX K mg) : mg "ratio_of" = some (.ref (He.ga K "ratio_of")) := T.glo (T.sd.fact 13 rfl)
theorem TX.g_is_greater (T : TX K mg) : mg "is_greater" = some (.ref (He.ga K "is_greater")) := T.glo (T.sd.fact 14 rfl)
theorem TX.g_by_ratio (T : TX K mg) : mg "by_ratio" = some (.ref (He.ga K "by_ratio")) := T.glo (T.sd.fact 15 rfl)
theorem TX.g_by_likelihood (T : TX K mg) : mg "by_likelihood" = some (.ref (He.ga K "by_likelihood")) := T.glo (T.sd.fact 16 rfl)
theorem TX.g_put_in (T : TX K mg) : mg "put_in" = some (.ref (He.ga K "put_in")) := T.glo (T.sd.fact 17 rfl)
theorem TX.g_is_little (T : TX K mg) : mg "is_little" = some (.ref (He.ga K "is_little")) := T.glo (T.sd.fact 18 rfl)
theorem TX.g_central (T : TX K mg) : mg "central" = some (.ref (He.ga K "central")) := T.glo (T.sd.fact 19 rfl)
theorem TX.g_order_of (T : TX K mg) : mg "order_of" = some (.ref (He.ga K "order_of")) := T.glo (T.sd.fact 20 rfl)
theorem TX.g_let_at (T : TX K mg) : mg "let_at" = some (.ref (He.ga K "let_at")) := T.glo (T.sd.fact 21 rfl)
theorem TX.g_let_in (T : TX K mg) : mg "let_in" = some (.ref (He.ga K "let_in")) := T.glo (T.sd.fact 22 rfl)
theorem TX.g_part_let (T : TX K mg) : mg "part_let" = some (.ref (He.ga K "part_let")) := T.glo (T.sd.fact 23 rfl)
theorem TX.g_belt_of (T : TX K mg) : mg "belt_of" = some (.ref (He.ga K "belt_of")) := T.glo (T.sd.fact 24 rfl)
theorem TX.g_parts_left (T : TX K mg) : mg "parts_left" = some (.ref (He.ga K "parts_left")) := T.glo (T.sd.fact 25 rfl)
theorem TX.g_bytes_of (T : TX K mg) : mg "bytes_of" = some (.ref (He.ga K "bytes_of")) := T.glo (T.sd.fact 26 rfl)
theorem TX.g_line_of (T : TX K mg) : mg "line_of" = some (.ref (He.ga K "line_of")) := T.glo (T.sd.fact 27 rfl)
theorem TX.g_lines_of (T : TX K mg) : mg "lines_of" = some (.ref (He.ga K "lines_of")) := T.glo (T.sd.fact 28 rfl)
theorem TX.g_are_digits (T : TX K mg) : mg "are_digits" = some (.ref (He.ga K "are_digits")) := T.glo (T.sd.fact 29 rfl)
theorem TX.g_number_of (T : TX K mg) : mg "number_of" = some (.ref (He.ga K "number_of")) := T.glo (T.sd.fact 30 rfl)
theorem TX.g_signed (T : TX K mg) : mg "signed" = some (.ref (He.ga K "signed")) := T.glo (T.sd.fact 31 rfl)
theorem TX.g_fraction_of (T : TX K mg) : mg "fraction_of" = some (.ref (He.ga K "fraction_of")) := T.glo (T.sd.fact 32 rfl)
theorem TX.g_read_number (T : TX K mg) : mg "read_number" = some (.ref (He.ga K "read_number")) := T.glo (T.sd.fact 33 rfl)
theorem TX.g_read_fraction_plans (T : TX K mg) : mg "read_fraction_plans" = some (.ref (He.ga K "read_fraction_plans")) := T.glo (T.sd.fact 34 rfl)
theorem TX.g_read_range (T : TX K mg) : mg "read_range" = some (.ref (He.ga K "read_range")) := T.glo (T.sd.fact 35 rfl)
theorem TX.g_read_sure (T : TX K mg) : mg "read_sure" = some (.ref (He.ga K "read_sure")) := T.glo (T.sd.fact 36 rfl)
theorem TX.g_is_name (T : TX K mg) : mg "is_name" = some (.ref (He.ga K "is_name")) := T.glo (T.sd.fact 37 rfl)
theorem TX.g_read_name (T : TX K mg) : mg "read_name" = some (.ref (He.ga K "read_name")) := T.glo (T.sd.fact 38 rfl)
theorem TX.g_read_order (T : TX K mg) : mg "read_order" = some (.ref (He.ga K "read_order")) := T.glo (T.sd.fact 39 rfl)
theorem TX.g_read_channel (T : TX K mg) : mg "read_channel" = some (.ref (He.ga K "read_channel")) := T.glo (T.sd.fact 40 rfl)
theorem TX.g_plan_of (T : TX K mg) : mg "plan_of" = some (.ref (He.ga K "plan_of")) := T.glo (T.sd.fact 41 rfl)
theorem TX.g_fraction_text (T : TX K mg) : mg "fraction_text" = some (.ref (He.ga K "fraction_text")) := T.glo (T.sd.fact 42 rfl)
theorem TX.g_range_text (T : TX K mg) : mg "range_text" = some (.ref (He.ga K "range_text")) := T.glo (T.sd.fact 43 rfl)
theorem TX.g_channel_bytes (T : TX K mg) : mg "channel_bytes" = some (.ref (He.ga K "channel_bytes")) := T.glo (T.sd.fact 44 rfl)
theorem TX.g_plan_bytes (T : TX K mg) : mg "plan_bytes" = some (.ref (He.ga K "plan_bytes")) := T.glo (T.sd.fact 45 rfl)
theorem TX.g_want (T : TX K mg) : mg "want" = some (.ref (He.ga K "want")) := T.glo (T.sd.fact 46 rfl)
theorem TX.g_want_up_to (T : TX K mg) : mg "want_up_to" = some (.ref (He.ga K "want_up_to")) := T.glo (T.sd.fact 47 rfl)
theorem TX.g_read_fraction_keeping (T : TX K mg) : mg "read_fraction_keeping" = some (.ref (He.ga K "read_fraction_keeping")) := T.glo (T.sd.fact 48 rfl)
theorem TX.g_parts_told (T : TX K mg) : mg "parts_told" = some (.ref (He.ga K "parts_told")) := T.glo (T.sd.fact 49 rfl)
theorem TX.g_how_often_apart (T : TX K mg) : mg "how_often_apart" = some (.ref (He.ga K "how_often_apart")) := T.glo (T.sd.fact 50 rfl)
theorem TX.g_counted (T : TX K mg) : mg "counted" = some (.ref (He.ga K "counted")) := T.glo (T.sd.fact 51 rfl)
theorem TX.g_judged (T : TX K mg) : mg "judged" = some (.ref (He.ga K "judged")) := T.glo (T.sd.fact 52 rfl)
theorem TX.g_called (T : TX K mg) : mg "called" = some (.ref (He.ga K "called")) := T.glo (T.sd.fact 53 rfl)
theorem TX.g_answer (T : TX K mg) : mg "answer" = some (.ref (He.ga K "answer")) := T.glo (T.sd.fact 54 rfl)
theorem TX.g_answers (T : TX K mg) : mg "answers" = some (.ref (He.ga K "answers")) := T.glo (T.sd.fact 55 rfl)
theorem TX.g_Spread (T : TX K mg) : mg "Spread" = some (.ref (He.ga K "Spread")) := T.glo (T.sd.fact 56 rfl)
theorem TX.g_Fault (T : TX K mg) : mg "Fault" = some (.ref (He.ga K "Fault")) := T.glo (T.sd.fact 57 rfl)
theorem TX.g_Line (T : TX K mg) : mg "Line" = some (.ref (He.ga K "Line")) := T.glo (T.sd.fact 58 rfl)
theorem TX.g_Channel (T : TX K mg) : mg "Channel" = some (.ref (He.ga K "Channel")) := T.glo (T.sd.fact 59 rfl)
theorem TX.g_Plan (T : TX K mg) : mg "Plan" = some (.ref (He.ga K "Plan")) := T.glo (T.sd.fact 60 rfl)
theorem TX.g_Refused (T : TX K mg) : mg "Refused" = some (.ref (He.ga K "Refused")) := T.glo (T.sd.fact 61 rfl)
theorem TX.g_Keeping (T : TX K mg) : mg "Keeping" = some (.ref (He.ga K "Keeping")) := T.glo (T.sd.fact 62 rfl)
theorem TX.g_NOUGHT_fractions (T : TX K mg) : mg "NOUGHT_fractions" = some (.ref (He.ga K "NOUGHT_fractions")) := T.glo (T.sd.fact 63 rfl)
theorem TX.g_ONE (T : TX K mg) : mg "ONE" = some (.ref (He.ga K "ONE")) := T.glo (T.sd.fact 64 rfl)
theorem TX.g_NOUGHT_RATIO (T : TX K mg) : mg "NOUGHT_RATIO" = some (.ref (He.ga K "NOUGHT_RATIO")) := T.glo (T.sd.fact 65 rfl)
theorem TX.g_ORDERS (T : TX K mg) : mg "ORDERS" = some (.ref (He.ga K "ORDERS")) := T.glo (T.sd.fact 66 rfl)
theorem TX.g_NO_NAMES (T : TX K mg) : mg "NO_NAMES" = some (.ref (He.ga K "NO_NAMES")) := T.glo (T.sd.fact 67 rfl)
theorem TX.g_NUMBERS (T : TX K mg) : mg "NUMBERS" = some (.ref (He.ga K "NUMBERS")) := T.glo (T.sd.fact 68 rfl)
theorem TX.g_WITH_ROW (T : TX K mg) : mg "WITH_ROW" = some (.ref (He.ga K "WITH_ROW")) := T.glo (T.sd.fact 69 rfl)
theorem TX.n_abs (T : TX K mg) : mg "abs" = none := T.free (T.sd.fact 70 rfl)
theorem TX.n_sum (T : TX K mg) : mg "sum" = none := T.free (T.sd.fact 71 rfl)
theorem TX.n_len (T : TX K mg) : mg "len" = none := T.free (T.sd.fact 72 rfl)
theorem TX.n_range (T : TX K mg) : mg "range" = none := T.free (T.sd.fact 73 rfl)
theorem TX.n_max (T : TX K mg) : mg "max" = none := T.free (T.sd.fact 74 rfl)
theorem TX.n_min (T : TX K mg) : mg "min" = none := T.free (T.sd.fact 75 rfl)
theorem TX.n_sorted (T : TX K mg) : mg "sorted" = none := T.free (T.sd.fact 76 rfl)
theorem TX.n_enumerate (T : TX K mg) : mg "enumerate" = none := T.free (T.sd.fact 77 rfl)
theorem TX.n_list (T : TX K mg) : mg "list" = none := T.free (T.sd.fact 78 rfl)
theorem TX.n_ord (T : TX K mg) : mg "ord" = none := T.free (T.sd.fact 79 rfl)
theorem TX.n_str (T : TX K mg) : mg "str" = none := T.free (T.sd.fact 80 rfl)
theorem TX.n_all (T : TX K mg) : mg "all" = none := T.free (T.sd.fact 81 rfl)
theorem TX.n_zip (T : TX K mg) : mg "zip" = none := T.free (T.sd.fact 82 rfl)
theorem TX.n_ValueError (T : TX K mg) : mg "ValueError" = none := T.free (T.sd.fact 83 rfl)
theorem TX.c_BEGINNING (T : TX K mg) : ∃ u, mg "BEGINNING" = some u ∧ RelV (.int (0)) u := T.int (T.sd.fact 84 rfl)
theorem TX.c_ENDING (T : TX K mg) : ∃ u, mg "ENDING" = some u ∧ RelV (.int (1)) u := T.int (T.sd.fact 85 rfl)
theorem TX.c_UPPER (T : TX K mg) : ∃ u, mg "UPPER" = some u ∧ RelV (.int (0)) u := T.int (T.sd.fact 86 rfl)
theorem TX.c_LOWER (T : TX K mg) : ∃ u, mg "LOWER" = some u ∧ RelV (.int (1)) u := T.int (T.sd.fact 87 rfl)
theorem TX.c_CENTRAL (T : TX K mg) : ∃ u, mg "CENTRAL" = some u ∧ RelV (.int (2)) u := T.int (T.sd.fact 88 rfl)
theorem TX.c_LIKELY (T : TX K mg) : ∃ u, mg "LIKELY" = some u ∧ RelV (.int (3)) u := T.int (T.sd.fact 89 rfl)
theorem TX.c_LINE_END (T : TX K mg) : ∃ u, mg "LINE_END" = some u ∧ RelV (.int (10)) u := T.int (T.sd.fact 90 rfl)
theorem TX.c_BLANK (T : TX K mg) : ∃ u, mg "BLANK" = some u ∧ RelV (.int (32)) u := T.int (T.sd.fact 91 rfl)
theorem TX.c_MINUS (T : TX K mg) : ∃ u, mg "MINUS" = some u ∧ RelV (.int (45)) u := T.int (T.sd.fact 92 rfl)
theorem TX.c_SLASH (T : TX K mg) : ∃ u, mg "SLASH" = some u ∧ RelV (.int (47)) u := T.int (T.sd.fact 93 rfl)
theorem TX.c_NOUGHT_words (T : TX K mg) : ∃ u, mg "NOUGHT_words" = some u ∧ RelV (.int (48)) u := T.int (T.sd.fact 94 rfl)
theorem TX.c_MOST_FIGURES (T : TX K mg) : ∃ u, mg "MOST_FIGURES" = some u ∧ RelV (.int (7)) u := T.int (T.sd.fact 95 rfl)
theorem TX.c_LEAST_LOWER (T : TX K mg) : ∃ u, mg "LEAST_LOWER" = some u ∧ RelV (.int (2)) u := T.int (T.sd.fact 96 rfl)
theorem TX.c_LACKS (T : TX K mg) : ∃ u, mg "LACKS" = some u ∧ RelV (.int (1)) u := T.int (T.sd.fact 97 rfl)
theorem TX.c_MISPLACED (T : TX K mg) : ∃ u, mg "MISPLACED" = some u ∧ RelV (.int (1)) u := T.int (T.sd.fact 98 rfl)
theorem TX.c_OUT_OF_RANGE (T : TX K mg) : ∃ u, mg "OUT_OF_RANGE" = some u ∧ RelV (.int (2)) u := T.int (T.sd.fact 99 rfl)
theorem TX.c_TOLD_ALREADY (T : TX K mg) : ∃ u, mg "TOLD_ALREADY" = some u ∧ RelV (.int (3)) u := T.int (T.sd.fact 100 rfl)
theorem TX.c_FIFTH (T : TX K mg) : ∃ u, mg "FIFTH" = some u ∧ RelV (.int (4)) u := T.int (T.sd.fact 101 rfl)
theorem TX.c_MOST_PARTS (T : TX K mg) : ∃ u, mg "MOST_PARTS" = some u ∧ RelV (.int (12)) u := T.int (T.sd.fact 102 rfl)
theorem TX.c_MOST_CHANNELS (T : TX K mg) : ∃ u, mg "MOST_CHANNELS" = some u ∧ RelV (.int (4)) u := T.int (T.sd.fact 103 rfl)
theorem TX.c_MOST_TRIALS (T : TX K mg) : ∃ u, mg "MOST_TRIALS" = some u ∧ RelV (.int (40)) u := T.int (T.sd.fact 104 rfl)
theorem TX.c_MOST_LOWER (T : TX K mg) : ∃ u, mg "MOST_LOWER" = some u ∧ RelV (.int (1000)) u := T.int (T.sd.fact 105 rfl)
theorem TX.c_MOST_LETTERS (T : TX K mg) : ∃ u, mg "MOST_LETTERS" = some u ∧ RelV (.int (8)) u := T.int (T.sd.fact 106 rfl)
theorem TX.c_FIRST_LETTER (T : TX K mg) : ∃ u, mg "FIRST_LETTER" = some u ∧ RelV (.int (97)) u := T.int (T.sd.fact 107 rfl)
theorem TX.c_LAST_LETTER (T : TX K mg) : ∃ u, mg "LAST_LETTER" = some u ∧ RelV (.int (122)) u := T.int (T.sd.fact 108 rfl)
theorem TX.c_NOT_AS_TOLD (T : TX K mg) : ∃ u, mg "NOT_AS_TOLD" = some u ∧ RelV (.int (-1)) u := T.int (T.sd.fact 109 rfl)
theorem TX.c_NO_CHANNEL (T : TX K mg) : ∃ u, mg "NO_CHANNEL" = some u ∧ RelV (.int (-2)) u := T.int (T.sd.fact 110 rfl)
theorem TX.c_TOO_GREAT (T : TX K mg) : ∃ u, mg "TOO_GREAT" = some u ∧ RelV (.int (-3)) u := T.int (T.sd.fact 111 rfl)
theorem TX.c_NO_PLAN (T : TX K mg) : ∃ u, mg "NO_PLAN" = some u ∧ RelV (.int (-4)) u := T.int (T.sd.fact 112 rfl)
theorem TX.c_NO_PART (T : TX K mg) : ∃ u, mg "NO_PART" = some u ∧ RelV (.int (-5)) u := T.int (T.sd.fact 113 rfl)
theorem TX.c_NO_COUNT (T : TX K mg) : ∃ u, mg "NO_COUNT" = some u ∧ RelV (.int (-6)) u := T.int (T.sd.fact 114 rfl)
theorem TX.c_NOT_BETWEEN (T : TX K mg) : ∃ u, mg "NOT_BETWEEN" = some u ∧ RelV (.int (-7)) u := T.int (T.sd.fact 115 rfl)
theorem TX.c_MOST_BYTES (T : TX K mg) : ∃ u, mg "MOST_BYTES" = some u ∧ RelV (.int (400)) u := T.int (T.sd.fact 116 rfl)
theorem TX.c_MOST_BYTE (T : TX K mg) : ∃ u, mg "MOST_BYTE" = some u ∧ RelV (.int (255)) u := T.int (T.sd.fact 117 rfl)
theorem TX.c_FAULTS (T : TX K mg) : ∃ u, mg "FAULTS" = some u ∧ RelV (.int (1000)) u := T.int (T.sd.fact 118 rfl)
theorem TX.c_PLAN (T : TX K mg) : ∃ u, mg "PLAN" = some u ∧ RelV (.int (0)) u := T.int (T.sd.fact 119 rfl)
theorem TX.cl_Spread (T : TX K mg) : Cls K (He.ga K "Spread") := He.cls_ok (T.sd.fact 120 rfl)
theorem TX.mk_Spread (T : TX K mg) : Mk K (He.ga K "Spread") (He.ma K (He.ga K "Spread") "__init__") := He.mkr_ok (T.sd.fact 121 rfl)
theorem TX.cl_Line (T : TX K mg) : Cls K (He.ga K "Line") := He.cls_ok (T.sd.fact 122 rfl)
theorem TX.mk_Line (T : TX K mg) : Mk K (He.ga K "Line") (He.ma K (He.ga K "Line") "__init__") := He.mkr_ok (T.sd.fact 123 rfl)
theorem TX.cl_Channel (T : TX K mg) : Cls K (He.ga K "Channel") := He.cls_ok (T.sd.fact 124 rfl)
theorem TX.mk_Channel (T : TX K mg) : Mk K (He.ga K "Channel") (He.ma K (He.ga K "Channel") "__init__") := He.mkr_ok (T.sd.fact 125 rfl)
theorem TX.cl_Plan (T : TX K mg) : Cls K (He.ga K "Plan") := He.cls_ok (T.sd.fact 126 rfl)
theorem TX.mk_Plan (T : TX K mg) : Mk K (He.ga K "Plan") (He.ma K (He.ga K "Plan") "__init__") := He.mkr_ok (T.sd.fact 127 rfl)
theorem TX.cl_Keeping (T : TX K mg) : Cls K (He.ga K "Keeping") := He.cls_ok (T.sd.fact 128 rfl)
theorem TX.mk_Keeping (T : TX K mg) : Mk K (He.ga K "Keeping") (He.ma K (He.ga K "Keeping") "__init__") := He.mkr_ok (T.sd.fact 129 rfl)
theorem TX.na_Spread_shares (T : TX K mg) : NoAttr K (He.ga K "Spread") "shares" := He.noat_ok (T.sd.fact 130 rfl)
theorem TX.na_Spread_whole (T : TX K mg) : NoAttr K (He.ga K "Spread") "whole" := He.noat_ok (T.sd.fact 131 rfl)
theorem TX.na_Line_words (T : TX K mg) : NoAttr K (He.ga K "Line") "words" := He.noat_ok (T.sd.fact 132 rfl)
theorem TX.na_Line_end (T : TX K mg) : NoAttr K (He.ga K "Line") "end" := He.noat_ok (T.sd.fact 133 rfl)
theorem TX.na_Line_at (T : TX K mg) : NoAttr K (He.ga K "Line") "at" := He.noat_ok (T.sd.fact 134 rfl)
theorem TX.na_Channel_name (T : TX K mg) : NoAttr K (He.ga K "Channel") "name" := He.noat_ok (T.sd.fact 135 rfl)
theorem TX.na_Channel_trials (T : TX K mg) : NoAttr K (He.ga K "Channel") "trials" := He.noat_ok (T.sd.fact 136 rfl)
theorem TX.na_Channel_base (T : TX K mg) : NoAttr K (He.ga K "Channel") "base" := He.noat_ok (T.sd.fact 137 rfl)
theorem TX.na_Channel_gain (T : TX K mg) : NoAttr K (He.ga K "Channel") "gain" := He.noat_ok (T.sd.fact 138 rfl)
theorem TX.na_Channel_sure (T : TX K mg) : NoAttr K (He.ga K "Channel") "sure" := He.noat_ok (T.sd.fact 139 rfl)
theorem TX.na_Channel_order (T : TX K mg) : NoAttr K (He.ga K "Channel") "order" := He.noat_ok (T.sd.fact 140 rfl)
theorem TX.na_Plan_parts (T : TX K mg) : NoAttr K (He.ga K "Plan") "parts" := He.noat_ok (T.sd.fact 141 rfl)
theorem TX.na_Plan_channels (T : TX K mg) : NoAttr K (He.ga K "Plan") "channels" := He.noat_ok (T.sd.fact 142 rfl)
theorem TX.na_Keeping_plan (T : TX K mg) : NoAttr K (He.ga K "Keeping") "plan" := He.noat_ok (T.sd.fact 143 rfl)
theorem TX.na_Keeping_counted (T : TX K mg) : NoAttr K (He.ga K "Keeping") "counted" := He.noat_ok (T.sd.fact 144 rfl)
theorem TX.na_Fault_kind (T : TX K mg) : NoAttr K (He.ga K "Fault") "kind" := He.noat_ok (T.sd.fact 145 rfl)
theorem TX.na_Fault_place (T : TX K mg) : NoAttr K (He.ga K "Fault") "place" := He.noat_ok (T.sd.fact 146 rfl)
theorem TX.na_Refused_number (T : TX K mg) : NoAttr K (He.ga K "Refused") "number" := He.noat_ok (T.sd.fact 147 rfl)
theorem TX.m_Spread_many_from (T : TX K mg) : Meth K (He.ga K "Spread") "many_from" (He.ma K (He.ga K "Spread") "many_from") := He.meth_ok (T.sd.fact 148 rfl)
theorem TX.m_Spread_often (T : TX K mg) : Meth K (He.ga K "Spread") "often" (He.ma K (He.ga K "Spread") "often") := He.meth_ok (T.sd.fact 149 rfl)
theorem TX.m_Spread_is_sure (T : TX K mg) : Meth K (He.ga K "Spread") "is_sure" (He.ma K (He.ga K "Spread") "is_sure") := He.meth_ok (T.sd.fact 150 rfl)
theorem TX.m_Line_is_at_end (T : TX K mg) : Meth K (He.ga K "Line") "is_at_end" (He.ma K (He.ga K "Line") "is_at_end") := He.meth_ok (T.sd.fact 151 rfl)
theorem TX.m_Line_take (T : TX K mg) : Meth K (He.ga K "Line") "take" (He.ma K (He.ga K "Line") "take") := He.meth_ok (T.sd.fact 152 rfl)
theorem TX.m_Line_is_next (T : TX K mg) : Meth K (He.ga K "Line") "is_next" (He.ma K (He.ga K "Line") "is_next") := He.meth_ok (T.sd.fact 153 rfl)
theorem TX.m_Line_take_word (T : TX K mg) : Meth K (He.ga K "Line") "take_word" (He.ma K (He.ga K "Line") "take_word") := He.meth_ok (T.sd.fact 154 rfl)
theorem TX.m_Line_finish (T : TX K mg) : Meth K (He.ga K "Line") "finish" (He.ma K (He.ga K "Line") "finish") := He.meth_ok (T.sd.fact 155 rfl)
theorem TX.m_Channel_with_trials (T : TX K mg) : Meth K (He.ga K "Channel") "with_trials" (He.ma K (He.ga K "Channel") "with_trials") := He.meth_ok (T.sd.fact 156 rfl)
theorem TX.m_Channel_with_order (T : TX K mg) : Meth K (He.ga K "Channel") "with_order" (He.ma K (He.ga K "Channel") "with_order") := He.meth_ok (T.sd.fact 157 rfl)
theorem TX.m_Channel_with_sure (T : TX K mg) : Meth K (He.ga K "Channel") "with_sure" (He.ma K (He.ga K "Channel") "with_sure") := He.meth_ok (T.sd.fact 158 rfl)
theorem TX.m_Plan_with_channel (T : TX K mg) : Meth K (He.ga K "Plan") "with_channel" (He.ma K (He.ga K "Plan") "with_channel") := He.meth_ok (T.sd.fact 159 rfl)
theorem TX.m_Keeping_want_channel (T : TX K mg) : Meth K (He.ga K "Keeping") "want_channel" (He.ma K (He.ga K "Keeping") "want_channel") := He.meth_ok (T.sd.fact 160 rfl)
theorem TX.m_Keeping_want_parts (T : TX K mg) : Meth K (He.ga K "Keeping") "want_parts" (He.ma K (He.ga K "Keeping") "want_parts") := He.meth_ok (T.sd.fact 161 rfl)
theorem TX.m_Keeping_channel_at (T : TX K mg) : Meth K (He.ga K "Keeping") "channel_at" (He.ma K (He.ga K "Keeping") "channel_at") := He.meth_ok (T.sd.fact 162 rfl)
theorem TX.m_Keeping_tell_plan (T : TX K mg) : Meth K (He.ga K "Keeping") "tell_plan" (He.ma K (He.ga K "Keeping") "tell_plan") := He.meth_ok (T.sd.fact 163 rfl)
theorem TX.m_Keeping_told_text (T : TX K mg) : Meth K (He.ga K "Keeping") "told_text" (He.ma K (He.ga K "Keeping") "told_text") := He.meth_ok (T.sd.fact 164 rfl)
theorem TX.m_Keeping_set_count (T : TX K mg) : Meth K (He.ga K "Keeping") "set_count" (He.ma K (He.ga K "Keeping") "set_count") := He.meth_ok (T.sd.fact 165 rfl)
theorem TX.m_Keeping_forget (T : TX K mg) : Meth K (He.ga K "Keeping") "forget" (He.ma K (He.ga K "Keeping") "forget") := He.meth_ok (T.sd.fact 166 rfl)
theorem TX.m_Keeping_chance (T : TX K mg) : Meth K (He.ga K "Keeping") "chance" (He.ma K (He.ga K "Keeping") "chance") := He.meth_ok (T.sd.fact 167 rfl)
theorem TX.m_Keeping_how_often (T : TX K mg) : Meth K (He.ga K "Keeping") "how_often" (He.ma K (He.ga K "Keeping") "how_often") := He.meth_ok (T.sd.fact 168 rfl)
theorem TX.m_Keeping_part (T : TX K mg) : Meth K (He.ga K "Keeping") "part" (He.ma K (He.ga K "Keeping") "part") := He.meth_ok (T.sd.fact 169 rfl)
theorem TX.m_Keeping_belt (T : TX K mg) : Meth K (He.ga K "Keeping") "belt" (He.ma K (He.ga K "Keeping") "belt") := He.meth_ok (T.sd.fact 170 rfl)
theorem TX.m_Keeping_would (T : TX K mg) : Meth K (He.ga K "Keeping") "would" (He.ma K (He.ga K "Keeping") "would") := He.meth_ok (T.sd.fact 171 rfl)
theorem TX.m_Keeping_leaves (T : TX K mg) : Meth K (He.ga K "Keeping") "leaves" (He.ma K (He.ga K "Keeping") "leaves") := He.meth_ok (T.sd.fact 172 rfl)
theorem TX.m_Keeping_jointly (T : TX K mg) : Meth K (He.ga K "Keeping") "jointly" (He.ma K (He.ga K "Keeping") "jointly") := He.meth_ok (T.sd.fact 173 rfl)
theorem TX.m_Keeping_covers (T : TX K mg) : Meth K (He.ga K "Keeping") "covers" (He.ma K (He.ga K "Keeping") "covers") := He.meth_ok (T.sd.fact 174 rfl)
theorem TX.m_Keeping_judge (T : TX K mg) : Meth K (He.ga K "Keeping") "judge" (He.ma K (He.ga K "Keeping") "judge") := He.meth_ok (T.sd.fact 175 rfl)
theorem TX.m_Keeping_apart (T : TX K mg) : Meth K (He.ga K "Keeping") "apart" (He.ma K (He.ga K "Keeping") "apart") := He.meth_ok (T.sd.fact 176 rfl)
theorem TX.m_Keeping_fewest (T : TX K mg) : Meth K (He.ga K "Keeping") "fewest" (He.ma K (He.ga K "Keeping") "fewest") := He.meth_ok (T.sd.fact 177 rfl)
theorem TX.m_Keeping_few (T : TX K mg) : Meth K (He.ga K "Keeping") "few" (He.ma K (He.ga K "Keeping") "few") := He.meth_ok (T.sd.fact 178 rfl)
theorem TX.m_Keeping_table (T : TX K mg) : Meth K (He.ga K "Keeping") "table" (He.ma K (He.ga K "Keeping") "table") := He.meth_ok (T.sd.fact 179 rfl)
theorem TX.m_Keeping_set_order (T : TX K mg) : Meth K (He.ga K "Keeping") "set_order" (He.ma K (He.ga K "Keeping") "set_order") := He.meth_ok (T.sd.fact 180 rfl)
theorem TX.m_Keeping_set_sure (T : TX K mg) : Meth K (He.ga K "Keeping") "set_sure" (He.ma K (He.ga K "Keeping") "set_sure") := He.meth_ok (T.sd.fact 181 rfl)
theorem TX.m_Keeping_told_counts (T : TX K mg) : Meth K (He.ga K "Keeping") "told_counts" (He.ma K (He.ga K "Keeping") "told_counts") := He.meth_ok (T.sd.fact 182 rfl)
theorem TX.ex_Fault (T : TX K mg) : PySem.W.exmOne K (.ref (He.ga K "Fault")) (.ref (He.ga K "Fault")) = some true := He.exm_ok (T.sd.fact 183 rfl)
theorem TX.ex_Refused (T : TX K mg) : PySem.W.exmOne K (.ref (He.ga K "Refused")) (.ref (He.ga K "Refused")) = some true := He.exm_ok (T.sd.fact 184 rfl)
theorem TX.c_NOUGHT_fractions (T : TX K mg) : ∃ u, mg "NOUGHT_fractions" = some u ∧ RelV (.ref (He.ga K "NOUGHT_fractions")) u := ⟨_, T.g_NOUGHT_fractions, rfl⟩
theorem TX.t_NOUGHT_fractions (T : TX K mg) (H : Hp) : SqT K H (He.ga K "NOUGHT_fractions") [.int 0, .int 1] := He.tupB_ok (T.exs (i := 0) rfl) H
theorem TX.c_ONE (T : TX K mg) : ∃ u, mg "ONE" = some u ∧ RelV (.ref (He.ga K "ONE")) u := ⟨_, T.g_ONE, rfl⟩
theorem TX.t_ONE (T : TX K mg) (H : Hp) : SqT K H (He.ga K "ONE") [.int 1, .int 1] := He.tupB_ok (T.exs (i := 1) rfl) H
theorem TX.c_NOUGHT_RATIO (T : TX K mg) : ∃ u, mg "NOUGHT_RATIO" = some u ∧ RelV (.ref (He.ga K "NOUGHT_RATIO")) u := ⟨_, T.g_NOUGHT_RATIO, rfl⟩
theorem TX.t_NOUGHT_RATIO (T : TX K mg) (H : Hp) : SqT K H (He.ga K "NOUGHT_RATIO") [.int 0, .int 1] := He.tupB_ok (T.exs (i := 2) rfl) H
theorem TX.c_ORDERS (T : TX K mg) : ∃ u, mg "ORDERS" = some u ∧ RelV (.ref (He.ga K "ORDERS")) u := ⟨_, T.g_ORDERS, rfl⟩
theorem TX.t_ORDERS (T : TX K mg) (H : Hp) : SqT K H (He.ga K "ORDERS") [.str "upper", .str "lower", .str "central", .str "likely", .str "ratio"] := He.tupB_ok (T.exs (i := 3) rfl) H
theorem TX.c_NO_NAMES (T : TX K mg) : ∃ u, mg "NO_NAMES" = some u ∧ RelV (.ref (He.ga K "NO_NAMES")) u := ⟨_, T.g_NO_NAMES, rfl⟩
theorem TX.t_NO_NAMES (T : TX K mg) (H : Hp) : SqT K H (He.ga K "NO_NAMES") [.str "column", .str "sealed", .str "constant", .str "box", .str "good", .str "plus", .str "minus", .str "times", .str "always", .str "less", .str "same", .str "not", .str "both", .str "either", .str "count", .str "sum", .str "if", .str "objects", .str "most", .str "least", .str "pairs"] := He.tupB_ok (T.exs (i := 4) rfl) H
theorem TX.c_NUMBERS (T : TX K mg) : ∃ u, mg "NUMBERS" = some u ∧ RelV (.ref (He.ga K "NUMBERS")) u := ⟨_, T.g_NUMBERS, rfl⟩
theorem TX.t_NUMBERS (T : TX K mg) (H : Hp) : SqT K H (He.ga K "NUMBERS") [.int 0, .int 0, .int 2, .int 1, .int 3, .int 5, .int 2, .int 1, .int 2, .int 1, .int 0, .int 8, .int 1, .int 4, .int 6, .int 3, .int 1, .int 2, .int 3, .int 0] := He.tupB_ok (T.exs (i := 5) rfl) H
theorem TX.c_WITH_ROW (T : TX K mg) : ∃ u, mg "WITH_ROW" = some u ∧ RelV (.ref (He.ga K "WITH_ROW")) u := ⟨_, T.g_WITH_ROW, rfl⟩
theorem TX.t_WITH_ROW (T : TX K mg) (H : Hp) : SqT K H (He.ga K "WITH_ROW") [.int 0, .int 12] := He.tupB_ok (T.exs (i := 6) rfl) H
theorem TX.ox_Fault (T : TX K mg) : OexC K (He.ga K "Fault") := (oexB_ok (T.exs (i := 7) rfl)).1
theorem TX.i_Fault (T : TX K mg) : PySem.W.findIn K (.ref (He.ga K "Fault")) "__init__" = some (some (.ref (He.ma K (He.ga K "Fault") "__init__"))) := (oexB_ok (T.exs (i := 7) rfl)).2.1
theorem TX.t_Fault (T : TX K mg) : PySem.W.typeIn K (.ref (He.ma K (He.ga K "Fault") "__init__")) = some (.type "function") := (oexB_ok (T.exs (i := 7) rfl)).2.2
theorem TX.xf_Fault (T : TX K mg) : XfC K (He.ga K "Fault") := xfB_ok (T.exs (i := 9) rfl)
theorem TX.ox_Refused (T : TX K mg) : OexC K (He.ga K "Refused") := (oexB_ok (T.exs (i := 8) rfl)).1
theorem TX.i_Refused (T : TX K mg) : PySem.W.findIn K (.ref (He.ga K "Refused")) "__init__" = some (some (.ref (He.ma K (He.ga K "Refused") "__init__"))) := (oexB_ok (T.exs (i := 8) rfl)).2.1
theorem TX.t_Refused (T : TX K mg) : PySem.W.typeIn K (.ref (He.ma K (He.ga K "Refused") "__init__")) = some (.type "function") := (oexB_ok (T.exs (i := 8) rfl)).2.2
theorem TX.xf_Refused (T : TX K mg) : XfC K (He.ga K "Refused") := xfB_ok (T.exs (i := 10) rfl)
theorem TX.f_divisor (T : TX K mg) : ∃ fd, Fun K "divisor" "divisor" s_divisor (He.ga K "divisor") fd := let ⟨fd, F⟩ := T.sd.def_ 0 (d := d_divisor) rfl; ⟨fd, fun_of F⟩
theorem TX.k_divisor (T : TX K mg) : PySem.W.keepIn K (.ref (He.ga K "divisor")) = true := let ⟨_, F⟩ := T.f_divisor; F.kp
theorem TX.f_fraction (T : TX K mg) : ∃ fd, Fun K "fraction" "fraction" s_fraction (He.ga K "fraction") fd := let ⟨fd, F⟩ := T.sd.def_ 1 (d := d_fraction) rfl; ⟨fd, fun_of F⟩
theorem TX.k_fraction (T : TX K mg) : PySem.W.keepIn K (.ref (He.ga K "fraction")) = true := let ⟨_, F⟩ := T.f_fraction; F.kp
theorem TX.f_plus (T : TX K mg) : ∃ fd, Fun K "plus" "plus" s_plus (He.ga K "plus") fd := let ⟨fd, F⟩ := T.sd.def_ 2 (d := d_plus) rfl; ⟨fd, fun_of F⟩
theorem TX.k_plus (T : TX K mg) : PySem.W.keepIn K (.ref (He.ga K "plus")) = true := let ⟨_, F⟩ := T.f_plus; F.kp
theorem TX.f_minus (T : TX K mg) : ∃ fd, Fun K "minus" "minus" s_minus (He.ga K "minus") fd := let ⟨fd, F⟩ := T.sd.def_ 3 (d := d_minus) rfl; ⟨fd, fun_of F⟩
theorem TX.k_minus (T : TX K mg) : PySem.W.keepIn K (.ref (He.ga K "minus")) = true := let ⟨_, F⟩ := T.f_minus; F.kp
theorem TX.f_times (T : TX K mg) : ∃ fd, Fun K "times" "times" s_times (He.ga K "times") fd := let ⟨fd, F⟩ := T.sd.def_ 4 (d := d_times) rfl; ⟨fd, fun_of F⟩
theorem TX.k_times (T : TX K mg) : PySem.W.keepIn K (.ref (He.ga K "times")) = true := let ⟨_, F⟩ := T.f_times; F.kp
theorem TX.f_is_less (T : TX K mg) : ∃ fd, Fun K "is_less" "is_less" s_is_less (He.ga K "is_less") fd := let ⟨fd, F⟩ := T.sd.def_ 5 (d := d_is_less) rfl; ⟨fd, fun_of F⟩
theorem TX.k_is_less (T : TX K mg) : PySem.W.keepIn K (.ref (He.ga K "is_less")) = true := let ⟨_, F⟩ := T.f_is_less; F.kp
theorem TX.f_is_between (T : TX K mg) : ∃ fd, Fun K "is_between" "is_between" s_is_between (He.ga K "is_between") fd := let ⟨fd, F⟩ := T.sd.def_ 6 (d := d_is_between) rfl; ⟨fd, fun_of F⟩
theorem TX.k_is_between (T : TX K mg) : PySem.W.keepIn K (.ref (He.ga K "is_between")) = true := let ⟨_, F⟩ := T.f_is_between; F.kp
theorem TX.f_chance_with (T : TX K mg) : ∃ fd, Fun K "chance_with" "chance_with" s_chance_with (He.ga K "chance_with") fd := let ⟨fd, F⟩ := T.sd.def_ 7 (d := d_chance_with) rfl; ⟨fd, fun_of F⟩
theorem TX.k_chance_with (T : TX K mg) : PySem.W.keepIn K (.ref (He.ga K "chance_with")) = true := let ⟨_, F⟩ := T.f_chance_with; F.kp
theorem TX.f_chance_at (T : TX K mg) : ∃ fd, Fun K "chance_at" "chance_at" s_chance_at (He.ga K "chance_at") fd := let ⟨fd, F⟩ := T.sd.def_ 8 (d := d_chance_at) rfl; ⟨fd, fun_of F⟩
theorem TX.k_chance_at (T : TX K mg) : PySem.W.keepIn K (.ref (He.ga K "chance_at")) = true := let ⟨_, F⟩ := T.f_chance_at; F.kp
theorem TX.f_powers (T : TX K mg) : ∃ fd, Fun K "powers" "powers" s_powers (He.ga K "powers") fd := let ⟨fd, F⟩ := T.sd.def_ 9 (d := d_powers) rfl; ⟨fd, fun_of F⟩
theorem TX.k_powers (T : TX K mg) : PySem.W.keepIn K (.ref (He.ga K "powers")) = true := let ⟨_, F⟩ := T.f_powers; F.kp
theorem TX.f_Spread_init (T : TX K mg) : ∃ fd, Fun K "__init__" "Spread.__init__" s_Spread_init (He.ma K (He.ga K "Spread") "__init__") fd := let ⟨fd, F⟩ := T.sd.def_ 10 (d := d_Spread_init) rfl; ⟨fd, fun_of F⟩
theorem TX.f_Spread_many_from (T : TX K mg) : ∃ fd, Fun K "many_from" "Spread.many_from" s_Spread_many_from (He.ma K (He.ga K "Spread") "many_from") fd := let ⟨fd, F⟩ := T.sd.def_ 11 (d := d_Spread_many_from) rfl; ⟨fd, fun_of F⟩
theorem TX.f_Spread_often (T : TX K mg) : ∃ fd, Fun K "often" "Spread.often" s_Spread_often (He.ma K (He.ga K "Spread") "often") fd := let ⟨fd, F⟩ := T.sd.def_ 12 (d := d_Spread_often) rfl; ⟨fd, fun_of F⟩
theorem TX.f_Spread_is_sure (T : TX K mg) : ∃ fd, Fun K "is_sure" "Spread.is_sure" s_Spread_is_sure (He.ma K (He.ga K "Spread") "is_sure") fd := let ⟨fd, F⟩ := T.sd.def_ 13 (d := d_Spread_is_sure) rfl; ⟨fd, fun_of F⟩
theorem TX.f_spread_at (T : TX K mg) : ∃ fd, Fun K "spread_at" "spread_at" s_spread_at (He.ga K "spread_at") fd := let ⟨fd, F⟩ := T.sd.def_ 14 (d := d_spread_at) rfl; ⟨fd, fun_of F⟩
theorem TX.k_spread_at (T : TX K mg) : PySem.W.keepIn K (.ref (He.ga K "spread_at")) = true := let ⟨_, F⟩ := T.f_spread_at; F.kp
theorem TX.f_ends_of (T : TX K mg) : ∃ fd, Fun K "ends_of" "ends_of" s_ends_of (He.ga K "ends_of") fd := let ⟨fd, F⟩ := T.sd.def_ 15 (d := d_ends_of) rfl; ⟨fd, fun_of F⟩
theorem TX.k_ends_of (T : TX K mg) : PySem.W.keepIn K (.ref (He.ga K "ends_of")) = true := let ⟨_, F⟩ := T.f_ends_of; F.kp
theorem TX.f_likeliest (T : TX K mg) : ∃ fd, Fun K "likeliest" "likeliest" s_likeliest (He.ga K "likeliest") fd := let ⟨fd, F⟩ := T.sd.def_ 16 (d := d_likeliest) rfl; ⟨fd, fun_of F⟩
theorem TX.k_likeliest (T : TX K mg) : PySem.W.keepIn K (.ref (He.ga K "likeliest")) = true := let ⟨_, F⟩ := T.f_likeliest; F.kp
theorem TX.f_ratio_of (T : TX K mg) : ∃ fd, Fun K "ratio_of" "ratio_of" s_ratio_of (He.ga K "ratio_of") fd := let ⟨fd, F⟩ := T.sd.def_ 17 (d := d_ratio_of) rfl; ⟨fd, fun_of F⟩
theorem TX.k_ratio_of (T : TX K mg) : PySem.W.keepIn K (.ref (He.ga K "ratio_of")) = true := let ⟨_, F⟩ := T.f_ratio_of; F.kp
theorem TX.f_is_greater (T : TX K mg) : ∃ fd, Fun K "is_greater" "is_greater" s_is_greater (He.ga K "is_greater") fd := let ⟨fd, F⟩ := T.sd.def_ 18 (d := d_is_greater) rfl; ⟨fd, fun_of F⟩
theorem TX.k_is_greater (T : TX K mg) : PySem.W.keepIn K (.ref (He.ga K "is_greater")) = true := let ⟨_, F⟩ := T.f_is_greater; F.kp
theorem TX.f_by_ratio (T : TX K mg) : ∃ fd, Fun K "by_ratio" "by_ratio" s_by_ratio (He.ga K "by_ratio") fd := let ⟨fd, F⟩ := T.sd.def_ 19 (d := d_by_ratio) rfl; ⟨fd, fun_of F⟩
theorem TX.k_by_ratio (T : TX K mg) : PySem.W.keepIn K (.ref (He.ga K "by_ratio")) = true := let ⟨_, F⟩ := T.f_by_ratio; F.kp
theorem TX.f_by_likelihood (T : TX K mg) : ∃ fd, Fun K "by_likelihood" "by_likelihood" s_by_likelihood (He.ga K "by_likelihood") fd := let ⟨fd, F⟩ := T.sd.def_ 20 (d := d_by_likelihood) rfl; ⟨fd, fun_of F⟩
theorem TX.k_by_likelihood (T : TX K mg) : PySem.W.keepIn K (.ref (He.ga K "by_likelihood")) = true := let ⟨_, F⟩ := T.f_by_likelihood; F.kp
theorem TX.f_put_in (T : TX K mg) : ∃ fd, Fun K "put_in" "put_in" s_put_in (He.ga K "put_in") fd := let ⟨fd, F⟩ := T.sd.def_ 21 (d := d_put_in) rfl; ⟨fd, fun_of F⟩
theorem TX.k_put_in (T : TX K mg) : PySem.W.keepIn K (.ref (He.ga K "put_in")) = true := let ⟨_, F⟩ := T.f_put_in; F.kp
theorem TX.f_is_little (T : TX K mg) : ∃ fd, Fun K "is_little" "is_little" s_is_little (He.ga K "is_little") fd := let ⟨fd, F⟩ := T.sd.def_ 22 (d := d_is_little) rfl; ⟨fd, fun_of F⟩
theorem TX.k_is_little (T : TX K mg) : PySem.W.keepIn K (.ref (He.ga K "is_little")) = true := let ⟨_, F⟩ := T.f_is_little; F.kp
theorem TX.f_central (T : TX K mg) : ∃ fd, Fun K "central" "central" s_central (He.ga K "central") fd := let ⟨fd, F⟩ := T.sd.def_ 23 (d := d_central) rfl; ⟨fd, fun_of F⟩
theorem TX.k_central (T : TX K mg) : PySem.W.keepIn K (.ref (He.ga K "central")) = true := let ⟨_, F⟩ := T.f_central; F.kp
theorem TX.f_order_of (T : TX K mg) : ∃ fd, Fun K "order_of" "order_of" s_order_of (He.ga K "order_of") fd := let ⟨fd, F⟩ := T.sd.def_ 24 (d := d_order_of) rfl; ⟨fd, fun_of F⟩
theorem TX.k_order_of (T : TX K mg) : PySem.W.keepIn K (.ref (He.ga K "order_of")) = true := let ⟨_, F⟩ := T.f_order_of; F.kp
theorem TX.f_let_at (T : TX K mg) : ∃ fd, Fun K "let_at" "let_at" s_let_at (He.ga K "let_at") fd := let ⟨fd, F⟩ := T.sd.def_ 25 (d := d_let_at) rfl; ⟨fd, fun_of F⟩
theorem TX.k_let_at (T : TX K mg) : PySem.W.keepIn K (.ref (He.ga K "let_at")) = true := let ⟨_, F⟩ := T.f_let_at; F.kp
theorem TX.f_let_in (T : TX K mg) : ∃ fd, Fun K "let_in" "let_in" s_let_in (He.ga K "let_in") fd := let ⟨fd, F⟩ := T.sd.def_ 26 (d := d_let_in) rfl; ⟨fd, fun_of F⟩
theorem TX.k_let_in (T : TX K mg) : PySem.W.keepIn K (.ref (He.ga K "let_in")) = true := let ⟨_, F⟩ := T.f_let_in; F.kp
theorem TX.f_part_let (T : TX K mg) : ∃ fd, Fun K "part_let" "part_let" s_part_let (He.ga K "part_let") fd := let ⟨fd, F⟩ := T.sd.def_ 27 (d := d_part_let) rfl; ⟨fd, fun_of F⟩
theorem TX.k_part_let (T : TX K mg) : PySem.W.keepIn K (.ref (He.ga K "part_let")) = true := let ⟨_, F⟩ := T.f_part_let; F.kp
theorem TX.f_belt_of (T : TX K mg) : ∃ fd, Fun K "belt_of" "belt_of" s_belt_of (He.ga K "belt_of") fd := let ⟨fd, F⟩ := T.sd.def_ 28 (d := d_belt_of) rfl; ⟨fd, fun_of F⟩
theorem TX.k_belt_of (T : TX K mg) : PySem.W.keepIn K (.ref (He.ga K "belt_of")) = true := let ⟨_, F⟩ := T.f_belt_of; F.kp
theorem TX.f_parts_left (T : TX K mg) : ∃ fd, Fun K "parts_left" "parts_left" s_parts_left (He.ga K "parts_left") fd := let ⟨fd, F⟩ := T.sd.def_ 29 (d := d_parts_left) rfl; ⟨fd, fun_of F⟩
theorem TX.k_parts_left (T : TX K mg) : PySem.W.keepIn K (.ref (He.ga K "parts_left")) = true := let ⟨_, F⟩ := T.f_parts_left; F.kp
theorem TX.f_Fault_init (T : TX K mg) : ∃ fd, Fun K "__init__" "Fault.__init__" s_Fault_init (He.ma K (He.ga K "Fault") "__init__") fd := let ⟨fd, F⟩ := T.sd.def_ 30 (d := d_Fault_init) rfl; ⟨fd, fun_of F⟩
theorem TX.f_Line_init (T : TX K mg) : ∃ fd, Fun K "__init__" "Line.__init__" s_Line_init (He.ma K (He.ga K "Line") "__init__") fd := let ⟨fd, F⟩ := T.sd.def_ 31 (d := d_Line_init) rfl; ⟨fd, fun_of F⟩
theorem TX.f_Line_is_at_end (T : TX K mg) : ∃ fd, Fun K "is_at_end" "Line.is_at_end" s_Line_is_at_end (He.ma K (He.ga K "Line") "is_at_end") fd := let ⟨fd, F⟩ := T.sd.def_ 32 (d := d_Line_is_at_end) rfl; ⟨fd, fun_of F⟩
theorem TX.f_Line_take (T : TX K mg) : ∃ fd, Fun K "take" "Line.take" s_Line_take (He.ma K (He.ga K "Line") "take") fd := let ⟨fd, F⟩ := T.sd.def_ 33 (d := d_Line_take) rfl; ⟨fd, fun_of F⟩
theorem TX.f_Line_is_next (T : TX K mg) : ∃ fd, Fun K "is_next" "Line.is_next" s_Line_is_next (He.ma K (He.ga K "Line") "is_next") fd := let ⟨fd, F⟩ := T.sd.def_ 34 (d := d_Line_is_next) rfl; ⟨fd, fun_of F⟩
theorem TX.f_Line_take_word (T : TX K mg) : ∃ fd, Fun K "take_word" "Line.take_word" s_Line_take_word (He.ma K (He.ga K "Line") "take_word") fd := let ⟨fd, F⟩ := T.sd.def_ 35 (d := d_Line_take_word) rfl; ⟨fd, fun_of F⟩
theorem TX.f_Line_finish (T : TX K mg) : ∃ fd, Fun K "finish" "Line.finish" s_Line_finish (He.ma K (He.ga K "Line") "finish") fd := let ⟨fd, F⟩ := T.sd.def_ 36 (d := d_Line_finish) rfl; ⟨fd, fun_of F⟩
theorem TX.f_bytes_of (T : TX K mg) : ∃ fd, Fun K "bytes_of" "bytes_of" s_bytes_of (He.ga K "bytes_of") fd := let ⟨fd, F⟩ := T.sd.def_ 37 (d := d_bytes_of) rfl; ⟨fd, fun_of F⟩
theorem TX.k_bytes_of (T : TX K mg) : PySem.W.keepIn K (.ref (He.ga K "bytes_of")) = true := let ⟨_, F⟩ := T.f_bytes_of; F.kp
theorem TX.f_line_of (T : TX K mg) : ∃ fd, Fun K "line_of" "line_of" s_line_of (He.ga K "line_of") fd := let ⟨fd, F⟩ := T.sd.def_ 38 (d := d_line_of) rfl; ⟨fd, fun_of F⟩
theorem TX.k_line_of (T : TX K mg) : PySem.W.keepIn K (.ref (He.ga K "line_of")) = true := let ⟨_, F⟩ := T.f_line_of; F.kp
theorem TX.f_lines_of (T : TX K mg) : ∃ fd, Fun K "lines_of" "lines_of" s_lines_of (He.ga K "lines_of") fd := let ⟨fd, F⟩ := T.sd.def_ 39 (d := d_lines_of) rfl; ⟨fd, fun_of F⟩
theorem TX.k_lines_of (T : TX K mg) : PySem.W.keepIn K (.ref (He.ga K "lines_of")) = true := let ⟨_, F⟩ := T.f_lines_of; F.kp
theorem TX.f_are_digits (T : TX K mg) : ∃ fd, Fun K "are_digits" "are_digits" s_are_digits (He.ga K "are_digits") fd := let ⟨fd, F⟩ := T.sd.def_ 40 (d := d_are_digits) rfl; ⟨fd, fun_of F⟩
theorem TX.k_are_digits (T : TX K mg) : PySem.W.keepIn K (.ref (He.ga K "are_digits")) = true := let ⟨_, F⟩ := T.f_are_digits; F.kp
theorem TX.f_number_of (T : TX K mg) : ∃ fd, Fun K "number_of" "number_of" s_number_of (He.ga K "number_of") fd := let ⟨fd, F⟩ := T.sd.def_ 41 (d := d_number_of) rfl; ⟨fd, fun_of F⟩
theorem TX.k_number_of (T : TX K mg) : PySem.W.keepIn K (.ref (He.ga K "number_of")) = true := let ⟨_, F⟩ := T.f_number_of; F.kp
theorem TX.f_signed (T : TX K mg) : ∃ fd, Fun K "signed" "signed" s_signed (He.ga K "signed") fd := let ⟨fd, F⟩ := T.sd.def_ 42 (d := d_signed) rfl; ⟨fd, fun_of F⟩
theorem TX.k_signed (T : TX K mg) : PySem.W.keepIn K (.ref (He.ga K "signed")) = true := let ⟨_, F⟩ := T.f_signed; F.kp
theorem TX.f_fraction_of (T : TX K mg) : ∃ fd, Fun K "fraction_of" "fraction_of" s_fraction_of (He.ga K "fraction_of") fd := let ⟨fd, F⟩ := T.sd.def_ 43 (d := d_fraction_of) rfl; ⟨fd, fun_of F⟩
theorem TX.k_fraction_of (T : TX K mg) : PySem.W.keepIn K (.ref (He.ga K "fraction_of")) = true := let ⟨_, F⟩ := T.f_fraction_of; F.kp
theorem TX.f_Channel_init (T : TX K mg) : ∃ fd, Fun K "__init__" "Channel.__init__" s_Channel_init (He.ma K (He.ga K "Channel") "__init__") fd := let ⟨fd, F⟩ := T.sd.def_ 44 (d := d_Channel_init) rfl; ⟨fd, fun_of F⟩
theorem TX.f_Channel_with_trials (T : TX K mg) : ∃ fd, Fun K "with_trials" "Channel.with_trials" s_Channel_with_trials (He.ma K (He.ga K "Channel") "with_trials") fd := let ⟨fd, F⟩ := T.sd.def_ 45 (d := d_Channel_with_trials) rfl; ⟨fd, fun_of F⟩
theorem TX.f_Channel_with_order (T : TX K mg) : ∃ fd, Fun K "with_order" "Channel.with_order" s_Channel_with_order (He.ma K (He.ga K "Channel") "with_order") fd := let ⟨fd, F⟩ := T.sd.def_ 46 (d := d_Channel_with_order) rfl; ⟨fd, fun_of F⟩
theorem TX.f_Channel_with_sure (T : TX K mg) : ∃ fd, Fun K "with_sure" "Channel.with_sure" s_Channel_with_sure (He.ma K (He.ga K "Channel") "with_sure") fd := let ⟨fd, F⟩ := T.sd.def_ 47 (d := d_Channel_with_sure) rfl; ⟨fd, fun_of F⟩
theorem TX.f_Plan_init (T : TX K mg) : ∃ fd, Fun K "__init__" "Plan.__init__" s_Plan_init (He.ma K (He.ga K "Plan") "__init__") fd := let ⟨fd, F⟩ := T.sd.def_ 48 (d := d_Plan_init) rfl; ⟨fd, fun_of F⟩
theorem TX.f_Plan_with_channel (T : TX K mg) : ∃ fd, Fun K "with_channel" "Plan.with_channel" s_Plan_with_channel (He.ma K (He.ga K "Plan") "with_channel") fd := let ⟨fd, F⟩ := T.sd.def_ 49 (d := d_Plan_with_channel) rfl; ⟨fd, fun_of F⟩
theorem TX.f_read_number (T : TX K mg) : ∃ fd, Fun K "read_number" "read_number" s_read_number (He.ga K "read_number") fd := let ⟨fd, F⟩ := T.sd.def_ 50 (d := d_read_number) rfl; ⟨fd, fun_of F⟩
theorem TX.k_read_number (T : TX K mg) : PySem.W.keepIn K (.ref (He.ga K "read_number")) = true := let ⟨_, F⟩ := T.f_read_number; F.kp
theorem TX.f_read_fraction_plans (T : TX K mg) : ∃ fd, Fun K "read_fraction" "read_fraction" s_read_fraction_plans (He.ga K "read_fraction_plans") fd := let ⟨fd, F⟩ := T.sd.def_ 51 (d := d_read_fraction_plans) rfl; ⟨fd, fun_of F⟩
theorem TX.k_read_fraction_plans (T : TX K mg) : PySem.W.keepIn K (.ref (He.ga K "read_fraction_plans")) = true := let ⟨_, F⟩ := T.f_read_fraction_plans; F.kp
theorem TX.f_read_range (T : TX K mg) : ∃ fd, Fun K "read_range" "read_range" s_read_range (He.ga K "read_range") fd := let ⟨fd, F⟩ := T.sd.def_ 52 (d := d_read_range) rfl; ⟨fd, fun_of F⟩
theorem TX.k_read_range (T : TX K mg) : PySem.W.keepIn K (.ref (He.ga K "read_range")) = true := let ⟨_, F⟩ := T.f_read_range; F.kp
theorem TX.f_read_sure (T : TX K mg) : ∃ fd, Fun K "read_sure" "read_sure" s_read_sure (He.ga K "read_sure") fd := let ⟨fd, F⟩ := T.sd.def_ 53 (d := d_read_sure) rfl; ⟨fd, fun_of F⟩
theorem TX.k_read_sure (T : TX K mg) : PySem.W.keepIn K (.ref (He.ga K "read_sure")) = true := let ⟨_, F⟩ := T.f_read_sure; F.kp
theorem TX.f_is_name (T : TX K mg) : ∃ fd, Fun K "is_name" "is_name" s_is_name (He.ga K "is_name") fd := let ⟨fd, F⟩ := T.sd.def_ 54 (d := d_is_name) rfl; ⟨fd, fun_of F⟩
theorem TX.k_is_name (T : TX K mg) : PySem.W.keepIn K (.ref (He.ga K "is_name")) = true := let ⟨_, F⟩ := T.f_is_name; F.kp
theorem TX.f_read_name (T : TX K mg) : ∃ fd, Fun K "read_name" "read_name" s_read_name (He.ga K "read_name") fd := let ⟨fd, F⟩ := T.sd.def_ 55 (d := d_read_name) rfl; ⟨fd, fun_of F⟩
theorem TX.k_read_name (T : TX K mg) : PySem.W.keepIn K (.ref (He.ga K "read_name")) = true := let ⟨_, F⟩ := T.f_read_name; F.kp
theorem TX.f_read_order (T : TX K mg) : ∃ fd, Fun K "read_order" "read_order" s_read_order (He.ga K "read_order") fd := let ⟨fd, F⟩ := T.sd.def_ 56 (d := d_read_order) rfl; ⟨fd, fun_of F⟩
theorem TX.k_read_order (T : TX K mg) : PySem.W.keepIn K (.ref (He.ga K "read_order")) = true := let ⟨_, F⟩ := T.f_read_order; F.kp
theorem TX.f_read_channel (T : TX K mg) : ∃ fd, Fun K "read_channel" "read_channel" s_read_channel (He.ga K "read_channel") fd := let ⟨fd, F⟩ := T.sd.def_ 57 (d := d_read_channel) rfl; ⟨fd, fun_of F⟩
theorem TX.k_read_channel (T : TX K mg) : PySem.W.keepIn K (.ref (He.ga K "read_channel")) = true := let ⟨_, F⟩ := T.f_read_channel; F.kp
theorem TX.f_plan_of (T : TX K mg) : ∃ fd, Fun K "plan_of" "plan_of" s_plan_of (He.ga K "plan_of") fd := let ⟨fd, F⟩ := T.sd.def_ 58 (d := d_plan_of) rfl; ⟨fd, fun_of F⟩
theorem TX.k_plan_of (T : TX K mg) : PySem.W.keepIn K (.ref (He.ga K "plan_of")) = true := let ⟨_, F⟩ := T.f_plan_of; F.kp
theorem TX.f_fraction_text (T : TX K mg) : ∃ fd, Fun K "fraction_text" "fraction_text" s_fraction_text (He.ga K "fraction_text") fd := let ⟨fd, F⟩ := T.sd.def_ 59 (d := d_fraction_text) rfl; ⟨fd, fun_of F⟩
theorem TX.k_fraction_text (T : TX K mg) : PySem.W.keepIn K (.ref (He.ga K "fraction_text")) = true := let ⟨_, F⟩ := T.f_fraction_text; F.kp
theorem TX.f_range_text (T : TX K mg) : ∃ fd, Fun K "range_text" "range_text" s_range_text (He.ga K "range_text") fd := let ⟨fd, F⟩ := T.sd.def_ 60 (d := d_range_text) rfl; ⟨fd, fun_of F⟩
theorem TX.k_range_text (T : TX K mg) : PySem.W.keepIn K (.ref (He.ga K "range_text")) = true := let ⟨_, F⟩ := T.f_range_text; F.kp
theorem TX.f_channel_bytes (T : TX K mg) : ∃ fd, Fun K "channel_bytes" "channel_bytes" s_channel_bytes (He.ga K "channel_bytes") fd := let ⟨fd, F⟩ := T.sd.def_ 61 (d := d_channel_bytes) rfl; ⟨fd, fun_of F⟩
theorem TX.k_channel_bytes (T : TX K mg) : PySem.W.keepIn K (.ref (He.ga K "channel_bytes")) = true := let ⟨_, F⟩ := T.f_channel_bytes; F.kp
theorem TX.f_plan_bytes (T : TX K mg) : ∃ fd, Fun K "plan_bytes" "plan_bytes" s_plan_bytes (He.ga K "plan_bytes") fd := let ⟨fd, F⟩ := T.sd.def_ 62 (d := d_plan_bytes) rfl; ⟨fd, fun_of F⟩
theorem TX.k_plan_bytes (T : TX K mg) : PySem.W.keepIn K (.ref (He.ga K "plan_bytes")) = true := let ⟨_, F⟩ := T.f_plan_bytes; F.kp
theorem TX.f_Refused_init (T : TX K mg) : ∃ fd, Fun K "__init__" "Refused.__init__" s_Refused_init (He.ma K (He.ga K "Refused") "__init__") fd := let ⟨fd, F⟩ := T.sd.def_ 63 (d := d_Refused_init) rfl; ⟨fd, fun_of F⟩
theorem TX.f_want (T : TX K mg) : ∃ fd, Fun K "want" "want" s_want (He.ga K "want") fd := let ⟨fd, F⟩ := T.sd.def_ 64 (d := d_want) rfl; ⟨fd, fun_of F⟩
theorem TX.k_want (T : TX K mg) : PySem.W.keepIn K (.ref (He.ga K "want")) = true := let ⟨_, F⟩ := T.f_want; F.kp
theorem TX.f_want_up_to (T : TX K mg) : ∃ fd, Fun K "want_up_to" "want_up_to" s_want_up_to (He.ga K "want_up_to") fd := let ⟨fd, F⟩ := T.sd.def_ 65 (d := d_want_up_to) rfl; ⟨fd, fun_of F⟩
theorem TX.k_want_up_to (T : TX K mg) : PySem.W.keepIn K (.ref (He.ga K "want_up_to")) = true := let ⟨_, F⟩ := T.f_want_up_to; F.kp
theorem TX.f_read_fraction_keeping (T : TX K mg) : ∃ fd, Fun K "read_fraction" "read_fraction" s_read_fraction_keeping (He.ga K "read_fraction_keeping") fd := let ⟨fd, F⟩ := T.sd.def_ 66 (d := d_read_fraction_keeping) rfl; ⟨fd, fun_of F⟩
theorem TX.k_read_fraction_keeping (T : TX K mg) : PySem.W.keepIn K (.ref (He.ga K "read_fraction_keeping")) = true := let ⟨_, F⟩ := T.f_read_fraction_keeping; F.kp
theorem TX.f_parts_told (T : TX K mg) : ∃ fd, Fun K "parts_told" "parts_told" s_parts_told (He.ga K "parts_told") fd := let ⟨fd, F⟩ := T.sd.def_ 67 (d := d_parts_told) rfl; ⟨fd, fun_of F⟩
theorem TX.k_parts_told (T : TX K mg) : PySem.W.keepIn K (.ref (He.ga K "parts_told")) = true := let ⟨_, F⟩ := T.f_parts_told; F.kp
theorem TX.f_how_often_apart (T : TX K mg) : ∃ fd, Fun K "how_often_apart" "how_often_apart" s_how_often_apart (He.ga K "how_often_apart") fd := let ⟨fd, F⟩ := T.sd.def_ 68 (d := d_how_often_apart) rfl; ⟨fd, fun_of F⟩
theorem TX.k_how_often_apart (T : TX K mg) : PySem.W.keepIn K (.ref (He.ga K "how_often_apart")) = true := let ⟨_, F⟩ := T.f_how_often_apart; F.kp
theorem TX.f_Keeping_init (T : TX K mg) : ∃ fd, Fun K "__init__" "Keeping.__init__" s_Keeping_init (He.ma K (He.ga K "Keeping") "__init__") fd := let ⟨fd, F⟩ := T.sd.def_ 69 (d := d_Keeping_init) rfl; ⟨fd, fun_of F⟩
theorem TX.f_Keeping_want_channel (T : TX K mg) : ∃ fd, Fun K "want_channel" "Keeping.want_channel" s_Keeping_want_channel (He.ma K (He.ga K "Keeping") "want_channel") fd := let ⟨fd, F⟩ := T.sd.def_ 70 (d := d_Keeping_want_channel) rfl; ⟨fd, fun_of F⟩
theorem TX.f_Keeping_want_parts (T : TX K mg) : ∃ fd, Fun K "want_parts" "Keeping.want_parts" s_Keeping_want_parts (He.ma K (He.ga K "Keeping") "want_parts") fd := let ⟨fd, F⟩ := T.sd.def_ 71 (d := d_Keeping_want_parts) rfl; ⟨fd, fun_of F⟩
theorem TX.f_Keeping_channel_at (T : TX K mg) : ∃ fd, Fun K "channel_at" "Keeping.channel_at" s_Keeping_channel_at (He.ma K (He.ga K "Keeping") "channel_at") fd := let ⟨fd, F⟩ := T.sd.def_ 72 (d := d_Keeping_channel_at) rfl; ⟨fd, fun_of F⟩
theorem TX.f_Keeping_tell_plan (T : TX K mg) : ∃ fd, Fun K "tell_plan" "Keeping.tell_plan" s_Keeping_tell_plan (He.ma K (He.ga K "Keeping") "tell_plan") fd := let ⟨fd, F⟩ := T.sd.def_ 73 (d := d_Keeping_tell_plan) rfl; ⟨fd, fun_of F⟩
theorem TX.f_Keeping_told_text (T : TX K mg) : ∃ fd, Fun K "told_text" "Keeping.told_text" s_Keeping_told_text (He.ma K (He.ga K "Keeping") "told_text") fd := let ⟨fd, F⟩ := T.sd.def_ 74 (d := d_Keeping_told_text) rfl; ⟨fd, fun_of F⟩
theorem TX.f_Keeping_set_count (T : TX K mg) : ∃ fd, Fun K "set_count" "Keeping.set_count" s_Keeping_set_count (He.ma K (He.ga K "Keeping") "set_count") fd := let ⟨fd, F⟩ := T.sd.def_ 75 (d := d_Keeping_set_count) rfl; ⟨fd, fun_of F⟩
theorem TX.f_Keeping_forget (T : TX K mg) : ∃ fd, Fun K "forget" "Keeping.forget" s_Keeping_forget (He.ma K (He.ga K "Keeping") "forget") fd := let ⟨fd, F⟩ := T.sd.def_ 76 (d := d_Keeping_forget) rfl; ⟨fd, fun_of F⟩
theorem TX.f_Keeping_chance (T : TX K mg) : ∃ fd, Fun K "chance" "Keeping.chance" s_Keeping_chance (He.ma K (He.ga K "Keeping") "chance") fd := let ⟨fd, F⟩ := T.sd.def_ 77 (d := d_Keeping_chance) rfl; ⟨fd, fun_of F⟩
theorem TX.f_Keeping_how_often (T : TX K mg) : ∃ fd, Fun K "how_often" "Keeping.how_often" s_Keeping_how_often (He.ma K (He.ga K "Keeping") "how_often") fd := let ⟨fd, F⟩ := T.sd.def_ 78 (d := d_Keeping_how_often) rfl; ⟨fd, fun_of F⟩
theorem TX.f_Keeping_part (T : TX K mg) : ∃ fd, Fun K "part" "Keeping.part" s_Keeping_part (He.ma K (He.ga K "Keeping") "part") fd := let ⟨fd, F⟩ := T.sd.def_ 79 (d := d_Keeping_part) rfl; ⟨fd, fun_of F⟩
theorem TX.f_Keeping_belt (T : TX K mg) : ∃ fd, Fun K "belt" "Keeping.belt" s_Keeping_belt (He.ma K (He.ga K "Keeping") "belt") fd := let ⟨fd, F⟩ := T.sd.def_ 80 (d := d_Keeping_belt) rfl; ⟨fd, fun_of F⟩
theorem TX.f_Keeping_would (T : TX K mg) : ∃ fd, Fun K "would" "Keeping.would" s_Keeping_would (He.ma K (He.ga K "Keeping") "would") fd := let ⟨fd, F⟩ := T.sd.def_ 81 (d := d_Keeping_would) rfl; ⟨fd, fun_of F⟩
theorem TX.f_Keeping_leaves (T : TX K mg) : ∃ fd, Fun K "leaves" "Keeping.leaves" s_Keeping_leaves (He.ma K (He.ga K "Keeping") "leaves") fd := let ⟨fd, F⟩ := T.sd.def_ 82 (d := d_Keeping_leaves) rfl; ⟨fd, fun_of F⟩
theorem TX.f_Keeping_jointly (T : TX K mg) : ∃ fd, Fun K "jointly" "Keeping.jointly" s_Keeping_jointly (He.ma K (He.ga K "Keeping") "jointly") fd := let ⟨fd, F⟩ := T.sd.def_ 83 (d := d_Keeping_jointly) rfl; ⟨fd, fun_of F⟩
theorem TX.f_Keeping_covers (T : TX K mg) : ∃ fd, Fun K "covers" "Keeping.covers" s_Keeping_covers (He.ma K (He.ga K "Keeping") "covers") fd := let ⟨fd, F⟩ := T.sd.def_ 84 (d := d_Keeping_covers) rfl; ⟨fd, fun_of F⟩
theorem TX.f_Keeping_judge (T : TX K mg) : ∃ fd, Fun K "judge" "Keeping.judge" s_Keeping_judge (He.ma K (He.ga K "Keeping") "judge") fd := let ⟨fd, F⟩ := T.sd.def_ 85 (d := d_Keeping_judge) rfl; ⟨fd, fun_of F⟩
theorem TX.f_Keeping_apart (T : TX K mg) : ∃ fd, Fun K "apart" "Keeping.apart" s_Keeping_apart (He.ma K (He.ga K "Keeping") "apart") fd := let ⟨fd, F⟩ := T.sd.def_ 86 (d := d_Keeping_apart) rfl; ⟨fd, fun_of F⟩
theorem TX.f_Keeping_fewest (T : TX K mg) : ∃ fd, Fun K "fewest" "Keeping.fewest" s_Keeping_fewest (He.ma K (He.ga K "Keeping") "fewest") fd := let ⟨fd, F⟩ := T.sd.def_ 87 (d := d_Keeping_fewest) rfl; ⟨fd, fun_of F⟩
theorem TX.f_Keeping_few (T : TX K mg) : ∃ fd, Fun K "few" "Keeping.few" s_Keeping_few (He.ma K (He.ga K "Keeping") "few") fd := let ⟨fd, F⟩ := T.sd.def_ 88 (d := d_Keeping_few) rfl; ⟨fd, fun_of F⟩
theorem TX.f_Keeping_table (T : TX K mg) : ∃ fd, Fun K "table" "Keeping.table" s_Keeping_table (He.ma K (He.ga K "Keeping") "table") fd := let ⟨fd, F⟩ := T.sd.def_ 89 (d := d_Keeping_table) rfl; ⟨fd, fun_of F⟩
theorem TX.f_Keeping_set_order (T : TX K mg) : ∃ fd, Fun K "set_order" "Keeping.set_order" s_Keeping_set_order (He.ma K (He.ga K "Keeping") "set_order") fd := let ⟨fd, F⟩ := T.sd.def_ 90 (d := d_Keeping_set_order) rfl; ⟨fd, fun_of F⟩
theorem TX.f_Keeping_set_sure (T : TX K mg) : ∃ fd, Fun K "set_sure" "Keeping.set_sure" s_Keeping_set_sure (He.ma K (He.ga K "Keeping") "set_sure") fd := let ⟨fd, F⟩ := T.sd.def_ 91 (d := d_Keeping_set_sure) rfl; ⟨fd, fun_of F⟩
theorem TX.f_Keeping_told_counts (T : TX K mg) : ∃ fd, Fun K "told_counts" "Keeping.told_counts" s_Keeping_told_counts (He.ma K (He.ga K "Keeping") "told_counts") fd := let ⟨fd, F⟩ := T.sd.def_ 92 (d := d_Keeping_told_counts) rfl; ⟨fd, fun_of F⟩
theorem TX.f_counted (T : TX K mg) : ∃ fd, Fun K "counted" "counted" s_counted (He.ga K "counted") fd := let ⟨fd, F⟩ := T.sd.def_ 93 (d := d_counted) rfl; ⟨fd, fun_of F⟩
theorem TX.k_counted (T : TX K mg) : PySem.W.keepIn K (.ref (He.ga K "counted")) = true := let ⟨_, F⟩ := T.f_counted; F.kp
theorem TX.f_judged (T : TX K mg) : ∃ fd, Fun K "judged" "judged" s_judged (He.ga K "judged") fd := let ⟨fd, F⟩ := T.sd.def_ 94 (d := d_judged) rfl; ⟨fd, fun_of F⟩
theorem TX.k_judged (T : TX K mg) : PySem.W.keepIn K (.ref (He.ga K "judged")) = true := let ⟨_, F⟩ := T.f_judged; F.kp
theorem TX.f_called (T : TX K mg) : ∃ fd, Fun K "called" "called" s_called (He.ga K "called") fd := let ⟨fd, F⟩ := T.sd.def_ 95 (d := d_called) rfl; ⟨fd, fun_of F⟩
theorem TX.k_called (T : TX K mg) : PySem.W.keepIn K (.ref (He.ga K "called")) = true := let ⟨_, F⟩ := T.f_called; F.kp
theorem TX.f_answer (T : TX K mg) : ∃ fd, Fun K "answer" "answer" s_answer (He.ga K "answer") fd := let ⟨fd, F⟩ := T.sd.def_ 96 (d := d_answer) rfl; ⟨fd, fun_of F⟩
theorem TX.k_answer (T : TX K mg) : PySem.W.keepIn K (.ref (He.ga K "answer")) = true := let ⟨_, F⟩ := T.f_answer; F.kp
theorem TX.f_answers (T : TX K mg) : ∃ fd, Fun K "answers" "answers" s_answers (He.ga K "answers") fd := let ⟨fd, F⟩ := T.sd.def_ 97 (d := d_answers) rfl; ⟨fd, fun_of F⟩
theorem TX.k_answers (T : TX K mg) : PySem.W.keepIn K (.ref (He.ga K "answers")) = true := let ⟨_, F⟩ := T.f_answers; F.kp
end
end Bc


-- end of a part
set_option Elab.async false
set_option linter.all false
set_option maxRecDepth 100000
set_option maxHeartbeats 0
namespace Bc
open PySem PySem.Spec PyProof.Rows L2 PySem.W
abbrev R : PySem.W.OpenSpec := PySem.Challenge.rw_beltcounts_s01_answers
/-- what these name, one step on -/
def lay (g : Addr → Option Obj) (as : List Addr) : List Addr := as.flatMap fun a => match g a with
  | some o => He.refsO o
  | none => []
/-- the list made, cell by cell, ahead of what follows -/
def forced {β : Type} : List Addr → (List Addr → β) → β
  | [], k => k []
  | a :: r, k => HandSHeadRun.frNat a fun a => forced r fun r => k (a :: r)
theorem forced_eq {β : Type} : ∀ (l : List Addr) (k : List Addr → β), forced l k = k l
  | [], _ => rfl
  | a :: r, k => by
    show HandSHeadRun.frNat a (fun a => forced r fun r => k (a :: r)) = _
    rw [HandSHeadRun.frNat_eq, forced_eq r]
def asB {β : Type} (g : Addr → Option Obj) (k : List Addr → β) : β :=
  forced (lay g [mainGlobals]) fun l1 => forced (lay g l1) fun l2 => forced (lay g l2) fun l3 => forced (lay g l3) fun l4 => k (mainGlobals :: (l1 ++ (l2 ++ (l3 ++ l4))))
def forcedK {β : Type} (g : Addr → Option Obj) : List Addr → (PySem.W.Frag → β) → β
  | [], k => k []
  | a :: r, k => match g a with
    | some ⟨c, d, dt, sl⟩ => forcedK g r fun K => k ((a, ⟨c, d, dt, sl⟩) :: K)
    | none => forcedK g r k
theorem forcedK_eq {β : Type} {g : Addr → Option Obj} : ∀ (l : List Addr) (k : PySem.W.Frag → β), forcedK g l k = k (He.frG g l)
  | [], _ => rfl
  | a :: r, k => by
    unfold forcedK He.frG
    rw [List.filterMap_cons]
    cases e : g a with
    | none => exact forcedK_eq r k
    | some o => exact forcedK_eq r _
/-- the addresses looked at -/
def asL (g : Addr → Option Obj) : List Addr :=
  let l1 := lay g [mainGlobals]
  let l2 := lay g l1
  let l3 := lay g l2
  let l4 := lay g l3
  mainGlobals :: (l1 ++ (l2 ++ (l3 ++ l4)))
theorem asB_eq {β : Type} (g : Addr → Option Obj) (k : List Addr → β) : asB g k = k (asL g) := by
  unfold asB
  rw [forced_eq, forced_eq, forced_eq, forced_eq]
  rfl
def look {β : Type} (g : Addr → Option Obj) (k : PySem.W.Frag → β) : β := asB g fun l => forcedK g l k
def fragOf (g : Addr → Option Obj) : PySem.W.Frag := He.frG g (asL g)
theorem look_eq {β : Type} (g : Addr → Option Obj) (k : PySem.W.Frag → β) : look g k = k (fragOf g) := by
  unfold look
  rw [asB_eq, forcedK_eq]
  rfl
abbrev AlB : Type := He.AlD × Bool
def obsB (g : Addr → Option Obj) : AlB := (He.obsD fa fn (fragOf g), exB (fragOf g))
def hk : PySem.W.Hook where
  α := AlB
  obs := fun s => obsB s.heap.get?
  val := fun _ => (He.valD fn, true)
  says := fun _ h => ∃ K : PySem.W.Frag, K.In h ∧ He.SaysD fa fn K ∧ exB K = true
  of := fun _ _ e => ⟨_, He.frG_in, congrArg (fun z : AlB => z.1) e, congrArg (fun z : AlB => z.2) e⟩
  keeps := fun _ _ _ ⟨K, hK, c⟩ k => ⟨K, PySem.W.Frag.In.keeps hK k, c⟩
def ob (s : PySem.W.SharedT) : AlB := obsB (HandSHeadRun.getT s)
theorem ob_eq (s : PySem.W.SharedT) : ob s = hk.obs s.abs := by
  have e : HandSHeadRun.getT s = s.abs.heap.get? := funext fun a => HandSHeadRun.getT_eq s a
  show obsB (HandSHeadRun.getT s) = obsB s.abs.heap.get?
  rw [e]
def loose0 : List Str := ["NOUGHT_fractions", "ONE", "divisor", "fraction", "plus", "minus", "times", "is_less", "is_between", "BEGINNING", "ENDING", "chance_with", "chance_at", "powers", "Spread", "spread_at", "UPPER", "LOWER", "CENTRAL", "LIKELY", "NOUGHT_RATIO", "ends_of", "likeliest", "ratio_of", "is_greater", "by_ratio", "by_likelihood", "put_in", "is_little", "central"]
def loose1 : List Str := ["order_of", "let_at", "let_in", "part_let", "belt_of", "parts_left", "LINE_END", "BLANK", "MINUS", "SLASH", "NOUGHT_words", "MOST_FIGURES", "LEAST_LOWER", "LACKS", "Fault", "Line", "bytes_of", "line_of", "lines_of", "are_digits", "number_of", "signed", "fraction_of", "MISPLACED", "OUT_OF_RANGE", "TOLD_ALREADY", "FIFTH", "MOST_PARTS", "MOST_CHANNELS", "MOST_TRIALS"]
def loose2 : List Str := ["MOST_LOWER", "MOST_LETTERS", "FIRST_LETTER", "LAST_LETTER", "ORDERS", "NO_NAMES", "Channel", "Plan", "read_number", "read_fraction", "read_fraction_plans", "read_range", "read_sure", "is_name", "read_name", "read_order", "read_channel", "plan_of", "fraction_text", "range_text", "channel_bytes", "plan_bytes", "NOT_AS_TOLD", "NO_CHANNEL", "TOO_GREAT", "NO_PLAN", "NO_PART", "NO_COUNT", "NOT_BETWEEN", "MOST_BYTES"]
def loose3 : List Str := ["MOST_BYTE", "FAULTS", "Refused", "want", "want_up_to", "read_fraction_keeping", "parts_told", "how_often_apart", "Keeping", "PLAN", "NUMBERS", "WITH_ROW", "counted", "judged", "called", "answer"]
def loose : List Str := loose0 ++ loose1 ++ loose2 ++ loose3
abbrev qv : Program := PySem.W.view R.prog [114]
noncomputable abbrev theEnd (w : World) (os : OsState) : Option SharedT := HandSHeadRun.endF (HandSHeadRun.stepQ (HandSHeadRun.denQ HandSHeadRun.tabQ) R.prog w) 20000 R.prog w os
theorem run_a (w : World) (os : OsState) : (theEnd w os).map (fun s => (HandSHeadRun.looksF R.prog (boot_heap w.params) s.abs, HandSHeadRun.seenQ qv loose (importedModules R.prog.main.body) (fun s => xlAt qv [] s && recOk [] s) s.abs)) = some (true, openGood qv loose) := by
  kernel_rfl
theorem run_b (w : World) (os : OsState) : (theEnd w os).map (fun s => look (HandSHeadRun.getT s) fun K => (fa.all fun f => f.ok K) && exB K) = some true := by
  kernel_rfl
theorem run_c (w : World) (os : OsState) : (theEnd w os).map (fun s => look (HandSHeadRun.getT s) fun K => fn.all fun d => d.ok K) = some true := by
  kernel_rfl
theorem run_d (w : World) (os : OsState) : (theEnd w os).map (fun s => look (HandSHeadRun.getT s) fun K => fn.map fun d => He.fnW K d.at_) = some (fn.map He.DefD.val) := by
  kernel_rfl
theorem run (w : World) : HandSHeadRun.RunEqS R qv hk ob 20000 loose w := by
  intro os
  have a := run_a w os
  have b := run_b w os
  have c := run_c w os
  have d := run_d w os
  show (theEnd w os).map _ = _
  generalize theEnd w os = e at a b c d
  cases e with
  | none => cases a
  | some s =>
    have a' : (HandSHeadRun.looksF R.prog (boot_heap w.params) s.abs, HandSHeadRun.seenQ qv loose (importedModules R.prog.main.body) (fun s => xlAt qv [] s && recOk [] s) s.abs) = (true, openGood qv loose) := Option.some.inj a
    have b' : (look (HandSHeadRun.getT s) fun K => (fa.all fun f => f.ok K) && exB K) = true := Option.some.inj b
    have c' : (look (HandSHeadRun.getT s) fun K => fn.all fun d => d.ok K) = true := Option.some.inj c
    have d' : (look (HandSHeadRun.getT s) fun K => fn.map fun d => He.fnW K d.at_) = fn.map He.DefD.val := Option.some.inj d
    rw [look_eq] at b' c' d'
    obtain ⟨a1, a2⟩ := Prod.mk.inj a'
    obtain ⟨b1, b2⟩ := He.ba b'
    have o : ob s = (He.valD fn, true) := by
      show (((fa.all fun f => f.ok (fragOf (HandSHeadRun.getT s))) && fn.all fun d => d.ok (fragOf (HandSHeadRun.getT s)), fn.map fun d => He.fnW (fragOf (HandSHeadRun.getT s)) d.at_), exB (fragOf (HandSHeadRun.getT s))) = ((true, fn.map He.DefD.val), true)
      rw [b1, c', d', b2] <;> rfl
    show some (_, _, ob s) = some (true, openGood qv loose, (He.valD fn, true))
    rw [o]
    exact congrArg some (Prod.ext a1 (Prod.ext a2 rfl))
end Bc


-- end of a part
set_option Elab.async false
set_option linter.all false
set_option exponentiation.threshold 100000
/-! # plain laws of fractions and chances -/
namespace Bc
abbrev Qd := VbkdCore.Q
/-- of less than so many bits -/
def Sm (k : Nat) (q : Qd) : Prop := q.n.natAbs < 2 ^ k ∧ 0 < q.d ∧ q.d < 2 ^ k
theorem Sm.mono {j k : Nat} {q : Qd} (h : Sm j q) (l : j ≤ k) : Sm k q :=
  have z : 2 ^ j ≤ 2 ^ k := Nat.pow_le_pow_right (by decide) l
  ⟨Nat.lt_of_lt_of_le h.1 z, h.2.1, Nat.lt_of_lt_of_le h.2.2 z⟩
/-- a fraction from 0 to 1, its lower number at most so much -/
structure Fq (k : Nat) (q : Qd) : Prop where
  n0 : 0 ≤ q.n
  nd : q.n ≤ (q.d : Int)
  d0 : 0 < q.d
  dk : q.d ≤ k
theorem Fq.sm {k : Nat} {q : Qd} (h : Fq k q) {j : Nat} (hk : k < 2 ^ j) : Sm j q := by
  have := h.n0; have := h.nd; have := h.dk
  exact ⟨by omega, h.d0, by omega⟩
theorem Fq.mono {j k : Nat} {q : Qd} (h : Fq j q) (l : j ≤ k) : Fq k q := ⟨h.n0, h.nd, h.d0, Nat.le_trans h.dk l⟩
/-- a chance -/
structure Pr (p : Qd) : Prop where
  n0 : 0 ≤ p.n
  nd : p.n ≤ (p.d : Int)
  d0 : 0 < p.d
  d1 : p.d < 2 ^ 30
theorem Pr.sm {p : Qd} (h : Pr p) {k : Nat} (hk : 30 ≤ k) : Sm k p := by
  have z : 2 ^ 30 ≤ 2 ^ k := Nat.pow_le_pow_right (by decide) hk
  have := h.n0; have := h.nd; have := h.d1
  exact ⟨by omega, h.d0, by omega⟩
theorem Fq.pr {k : Nat} {q : Qd} (h : Fq k q) (l : k < 2 ^ 30) : Pr q := ⟨h.n0, h.nd, h.d0, Nat.lt_of_le_of_lt h.dk l⟩
/-- in lowest terms -/
theorem mk_spec {a : Int} {b : Nat} (hb : 0 < b) : ∃ g : Nat, 0 < g ∧ (VbkdCore.mk a b).n * (g : Int) = a ∧ (VbkdCore.mk a b).d * g = b := by
  have g0 : 0 < Nat.gcd a.natAbs b := Nat.gcd_pos_of_pos_right _ hb
  refine ⟨Nat.gcd a.natAbs b, g0, ?_, ?_⟩
  · unfold VbkdCore.mk
    rw [if_neg (by omega)]
    show a / ((Nat.gcd a.natAbs b : Nat) : Int) * ((Nat.gcd a.natAbs b : Nat) : Int) = a
    exact Int.ediv_mul_cancel (Int.ofNat_dvd_left.mpr (Nat.gcd_dvd_left _ _))
  · unfold VbkdCore.mk
    rw [if_neg (by omega)]
    exact Nat.div_mul_cancel (Nat.gcd_dvd_right _ _)
theorem mk_d0 {a : Int} {b : Nat} (hb : 0 < b) : 0 < (VbkdCore.mk a b).d := by
  obtain ⟨g, g0, h1, h2⟩ := mk_spec (a := a) hb
  apply Nat.pos_of_ne_zero
  intro z
  rw [z, Nat.zero_mul] at h2
  omega
theorem mk_dle {a : Int} {b : Nat} (hb : 0 < b) : (VbkdCore.mk a b).d ≤ b := by
  obtain ⟨g, g0, h1, h2⟩ := mk_spec (a := a) hb
  have := Nat.le_mul_of_pos_right (VbkdCore.mk a b).d g0
  omega
theorem mk_nle {a : Int} {b : Nat} (hb : 0 < b) : (VbkdCore.mk a b).n.natAbs ≤ a.natAbs := by
  obtain ⟨g, g0, h1, h2⟩ := mk_spec (a := a) hb
  have e : a.natAbs = (VbkdCore.mk a b).n.natAbs * g := by rw [← congrArg Int.natAbs h1, Int.natAbs_mul, Int.natAbs_natCast]
  rw [e]
  exact Nat.le_mul_of_pos_right _ g0
theorem sm_mk {a : Int} {b k : Nat} (hb : 0 < b) (ha : a.natAbs < 2 ^ k) (hk : b < 2 ^ k) : Sm k (VbkdCore.mk a b) :=
  ⟨Nat.lt_of_le_of_lt (mk_nle hb) ha, mk_d0 hb, Nat.lt_of_le_of_lt (mk_dle hb) hk⟩
theorem mk_fq {a : Int} {b : Nat} (hb : 0 < b) (h0 : 0 ≤ a) (h1 : a ≤ (b : Int)) : Fq b (VbkdCore.mk a b) := by
  obtain ⟨g, g0, e1, e2⟩ := mk_spec (a := a) hb
  have g0' : (0 : Int) < (g : Int) := by omega
  have e2' : ((VbkdCore.mk a b).d : Int) * (g : Int) = (b : Int) := by exact_mod_cast e2
  refine ⟨?_, ?_, mk_d0 hb, mk_dle hb⟩
  · refine Int.le_of_mul_le_mul_right (show (0 : Int) * (g : Int) ≤ (VbkdCore.mk a b).n * (g : Int) from ?_) g0'
    rw [Int.zero_mul, e1]
    exact h0
  · refine Int.le_of_mul_le_mul_right (show (VbkdCore.mk a b).n * (g : Int) ≤ ((VbkdCore.mk a b).d : Int) * (g : Int) from ?_) g0'
    rw [e1, e2']
    exact h1
/-- as a fraction it is a / b -/
theorem mk_cross {a : Int} {b : Nat} (hb : 0 < b) : (VbkdCore.mk a b).n * (b : Int) = a * ((VbkdCore.mk a b).d : Int) := by
  obtain ⟨g, g0, e1, e2⟩ := mk_spec (a := a) hb
  have e2' : ((VbkdCore.mk a b).d : Int) * (g : Int) = (b : Int) := by exact_mod_cast e2
  generalize (VbkdCore.mk a b).n = n at e1
  generalize ((VbkdCore.mk a b).d : Int) = d at e2'
  rw [← e1, ← e2', Int.mul_comm d, ← Int.mul_assoc]
theorem mul_fq {j k : Nat} {x y : Qd} (hx : Fq j x) (hy : Fq k y) : Fq (j * k) (VbkdCore.mul x y) := by
  have hb : 0 < x.d * y.d := Nat.mul_pos hx.d0 hy.d0
  refine (mk_fq hb (Int.mul_nonneg hx.n0 hy.n0) ?_).mono (Nat.mul_le_mul hx.dk hy.dk)
  rw [Int.natCast_mul]
  exact Int.mul_le_mul hx.nd hy.nd hy.n0 (by have := hx.d0; omega)
/-- less of a told fraction -/
theorem less_mk_left {a : Int} {b : Nat} {y : Qd} (hb : 0 < b) : VbkdCore.less (VbkdCore.mk a b) y = decide (a * (y.d : Int) < y.n * (b : Int)) := by
  obtain ⟨g, g0, e1, e2⟩ := mk_spec (a := a) hb
  have e2' : ((VbkdCore.mk a b).d : Int) * (g : Int) = (b : Int) := by exact_mod_cast e2
  have g0' : (0 : Int) < (g : Int) := by omega
  unfold VbkdCore.less
  generalize (VbkdCore.mk a b).n = n at e1
  generalize ((VbkdCore.mk a b).d : Int) = d at e2'
  have h1 : a * (y.d : Int) = n * (y.d : Int) * (g : Int) := by rw [← e1, Int.mul_assoc, Int.mul_comm (g : Int), ← Int.mul_assoc]
  have h2 : y.n * (b : Int) = y.n * d * (g : Int) := by rw [← e2', ← Int.mul_assoc]
  rw [h1, h2]
  exact decide_eq_decide.mpr ⟨fun h => Int.mul_lt_mul_of_pos_right h g0', fun h => Int.lt_of_mul_lt_mul_right h (Int.le_of_lt g0')⟩
theorem less_mk_right {a : Int} {b : Nat} {y : Qd} (hb : 0 < b) : VbkdCore.less y (VbkdCore.mk a b) = decide (y.n * (b : Int) < a * (y.d : Int)) := by
  obtain ⟨g, g0, e1, e2⟩ := mk_spec (a := a) hb
  have e2' : ((VbkdCore.mk a b).d : Int) * (g : Int) = (b : Int) := by exact_mod_cast e2
  have g0' : (0 : Int) < (g : Int) := by omega
  unfold VbkdCore.less
  generalize (VbkdCore.mk a b).n = n at e1
  generalize ((VbkdCore.mk a b).d : Int) = d at e2'
  have h1 : a * (y.d : Int) = n * (y.d : Int) * (g : Int) := by rw [← e1, Int.mul_assoc, Int.mul_comm (g : Int), ← Int.mul_assoc]
  have h2 : y.n * (b : Int) = y.n * d * (g : Int) := by rw [← e2', ← Int.mul_assoc]
  rw [h1, h2]
  exact decide_eq_decide.mpr ⟨fun h => Int.mul_lt_mul_of_pos_right h g0', fun h => Int.lt_of_mul_lt_mul_right h (Int.le_of_lt g0')⟩
/-- base and gain times strength: a chance -/
theorem chance_fq {b g s : Qd} {j k l : Nat} (hb : Fq j b) (hg : Fq k g) (hs : Fq l s) (h : g.n * (b.d : Int) ≤ ((b.d : Int) - b.n) * (g.d : Int)) : Fq (j * (k * l)) (VbkdCore.add b (VbkdCore.mul g s)) := by
  have hm := mul_fq hg hs
  have h0 : 0 < b.d * (VbkdCore.mul g s).d := Nat.mul_pos hb.d0 hm.d0
  refine (mk_fq h0 ?_ ?_).mono (Nat.mul_le_mul hb.dk hm.dk)
  · have h1 : 0 ≤ b.n * ((VbkdCore.mul g s).d : Int) := Int.mul_nonneg hb.n0 (by omega)
    have h2 : 0 ≤ (VbkdCore.mul g s).n * (b.d : Int) := Int.mul_nonneg hm.n0 (by omega)
    omega
  · have gs0 : 0 < g.d * s.d := Nat.mul_pos hg.d0 hs.d0
    have cr : (VbkdCore.mul g s).n * ((g.d * s.d : Nat) : Int) = (g.n * s.n) * ((VbkdCore.mul g s).d : Int) := mk_cross gs0
    generalize (VbkdCore.mul g s).n = mn at *
    generalize hmd : (VbkdCore.mul g s).d = md at *
    rw [Int.natCast_mul] at cr ⊢
    -- mn * b.d ≤ (b.d - b.n) * md
    have key : mn * (b.d : Int) ≤ ((b.d : Int) - b.n) * (md : Int) := by
      have gs1 : (0 : Int) < (g.d : Int) * (s.d : Int) := by
        have := hg.d0
        have := hs.d0
        exact Int.mul_pos (by omega) (by omega)
      refine Int.le_of_mul_le_mul_right (show mn * (b.d : Int) * ((g.d : Int) * (s.d : Int)) ≤ ((b.d : Int) - b.n) * (md : Int) * ((g.d : Int) * (s.d : Int)) from ?_) gs1
      have e1 : mn * (b.d : Int) * ((g.d : Int) * (s.d : Int)) = (g.n * (b.d : Int)) * (s.n * (md : Int)) := by
        calc mn * (b.d : Int) * ((g.d : Int) * (s.d : Int)) = (mn * ((g.d : Int) * (s.d : Int))) * (b.d : Int) := by ac_rfl
          _ = (g.n * s.n * (md : Int)) * (b.d : Int) := by rw [cr]
          _ = _ := by ac_rfl
      have e2 : ((b.d : Int) - b.n) * (md : Int) * ((g.d : Int) * (s.d : Int)) = (((b.d : Int) - b.n) * (g.d : Int)) * ((s.d : Int) * (md : Int)) := by ac_rfl
      rw [e1, e2]
      have c1 : s.n * (md : Int) ≤ (s.d : Int) * (md : Int) := Int.mul_le_mul_of_nonneg_right hs.nd (by omega)
      have c2 : 0 ≤ s.n * (md : Int) := Int.mul_nonneg hs.n0 (by omega)
      have c3 : 0 ≤ ((b.d : Int) - b.n) * (g.d : Int) := Int.mul_nonneg (by have := hb.nd; omega) (by omega)
      exact Int.mul_le_mul h c1 c2 c3
    have e3 : ((b.d : Int) - b.n) * (md : Int) = (b.d : Int) * (md : Int) - b.n * (md : Int) := Int.sub_mul _ _ _
    omega
/-- a channel as the plans' words have it -/
structure ChOk (c : Vbkdai.Chan) : Prop where
  t1 : 1 ≤ c.trials
  t40 : c.trials ≤ 40
  o4 : c.order ≤ 4
  nm : c.name.length ≤ 8
  b1 : Fq 1000 c.base1
  b2 : Fq 1000 c.base2
  g1 : Fq 1000 c.gain1
  g2 : Fq 1000 c.gain2
  su : Fq 1000 c.sure
  su0 : 0 < c.sure.n
  bb : c.base1.n * (c.base2.d : Int) ≤ c.base2.n * (c.base1.d : Int)
  gg : c.gain1.n * (c.gain2.d : Int) ≤ c.gain2.n * (c.gain1.d : Int)
  bg : c.gain2.n * (c.base2.d : Int) ≤ ((c.base2.d : Int) - c.base2.n) * (c.gain2.d : Int)
structure PlOk (p : Vbkdai.Plan) : Prop where
  g1 : 1 ≤ p.parts
  g12 : p.parts ≤ 12
  c4 : p.chans.length ≤ 4
  ch : ∀ c ∈ p.chans, ChOk c
/-- less or alike, from fraction to fraction -/
theorem cross_trans {a b c : Qd} (ha : 0 < a.d) (hb : 0 < b.d) (hc : 0 < c.d) (h1 : a.n * (b.d : Int) ≤ b.n * (a.d : Int)) (h2 : b.n * (c.d : Int) ≤ c.n * (b.d : Int)) : a.n * (c.d : Int) ≤ c.n * (a.d : Int) := by
  have b0 : (0 : Int) < (b.d : Int) := by omega
  refine Int.le_of_mul_le_mul_right (show a.n * (c.d : Int) * (b.d : Int) ≤ c.n * (a.d : Int) * (b.d : Int) from ?_) b0
  calc a.n * (c.d : Int) * (b.d : Int) = (a.n * (b.d : Int)) * (c.d : Int) := by ac_rfl
    _ ≤ (b.n * (a.d : Int)) * (c.d : Int) := Int.mul_le_mul_of_nonneg_right h1 (by omega)
    _ = (b.n * (c.d : Int)) * (a.d : Int) := by ac_rfl
    _ ≤ (c.n * (b.d : Int)) * (a.d : Int) := Int.mul_le_mul_of_nonneg_right h2 (by omega)
    _ = c.n * (a.d : Int) * (b.d : Int) := by ac_rfl
/-- what's left of 1 by a base, for a gain that lies below the greatest, a base below the greatest -/
theorem bg_of {c : Vbkdai.Chan} (h : ChOk c) {u v : Qd} {j k : Nat} (hu : Fq j u) (hv : Fq k v) (h1 : u.n * (c.base2.d : Int) ≤ c.base2.n * (u.d : Int)) (h2 : v.n * (c.gain2.d : Int) ≤ c.gain2.n * (v.d : Int)) :
    v.n * (u.d : Int) ≤ ((u.d : Int) - u.n) * (v.d : Int) := by
  -- v ≤ g2 ≤ 1 - b2 ≤ 1 - u
  have a := cross_trans (a := v) (b := c.gain2) (c := ⟨(c.base2.d : Int) - c.base2.n, c.base2.d⟩) hv.d0 h.g2.d0 h.b2.d0 h2 h.bg
  refine cross_trans (a := v) (b := ⟨(c.base2.d : Int) - c.base2.n, c.base2.d⟩) (c := ⟨(u.d : Int) - u.n, u.d⟩) hv.d0 h.b2.d0 hu.d0 a ?_
  show ((c.base2.d : Int) - c.base2.n) * (u.d : Int) ≤ ((u.d : Int) - u.n) * (c.base2.d : Int)
  rw [Int.sub_mul, Int.sub_mul, Int.mul_comm (c.base2.d : Int) (u.d : Int)]
  omega
end Bc


-- end of a part
set_option Elab.async false
set_option linter.all false
set_option exponentiation.threshold 100000
/-! # plain laws of terms -/
namespace Bc
/-- in how many ways, as the loop has it -/
def wy (t i : Nat) : Nat := (List.range i).foldl (fun c j => c * (t - j) / (j + 1)) 1
theorem wy_more (t i : Nat) : wy t (i + 1) = wy t i * (t - i) / (i + 1) := by
  unfold wy
  rw [List.range_succ, List.foldl_append]
  rfl
theorem choose_wy {t i : Nat} (h : i ≤ t) : Vbkdai.choose t i = wy t i := by
  unfold Vbkdai.choose wy
  rw [if_neg (by omega)]
theorem wy_le (t i : Nat) : wy t i ≤ t ^ i := by
  induction i with
  | zero => exact Nat.le_refl _
  | succ i ih =>
    rw [wy_more, Nat.pow_succ]
    refine Nat.le_trans (Nat.div_le_self _ _) ?_
    exact Nat.mul_le_mul ih (Nat.sub_le _ _)
theorem wy_small {t i : Nat} (ht : t ≤ 40) (hi : i ≤ 41) : wy t i < 2 ^ 300 := by
  refine Nat.lt_of_le_of_lt (wy_le t i) ?_
  refine Nat.lt_of_le_of_lt (Nat.pow_le_pow_left ht i) ?_
  refine Nat.lt_of_le_of_lt (Nat.pow_le_pow_right (by decide) hi) ?_
  decide
theorem upper_le {p : Qd} (h : Pr p) : Vbkdai.upper p ≤ p.d := by
  have := h.nd
  unfold Vbkdai.upper
  omega
theorem upper_cast {p : Qd} (h : Pr p) : ((Vbkdai.upper p : Nat) : Int) = p.n := by
  have := h.n0
  unfold Vbkdai.upper
  omega
theorem pow_small {x i : Nat} (hx : x < 2 ^ 30) (hi : i ≤ 41) : x ^ i < 2 ^ 1300 := by
  have h1 : x ^ i ≤ (2 ^ 30) ^ i := Nat.pow_le_pow_left (Nat.le_of_lt hx) i
  rw [← Nat.pow_mul] at h1
  exact Nat.lt_of_le_of_lt h1 (Nat.pow_lt_pow_right (by decide) (by omega))
theorem total_small {t : Nat} {p : Qd} (h : Pr p) (ht : t ≤ 40) : Vbkdai.total t p < 2 ^ 1300 := pow_small h.d1 (by omega)
theorem total_pos {t : Nat} {p : Qd} (h : Pr p) : 0 < Vbkdai.total t p := Nat.pow_pos h.d0
/-- the term as the loop has it -/
theorem term_wy {t i : Nat} {p : Qd} (h : i ≤ t) : Vbkdai.term t p i = wy t i * Vbkdai.upper p ^ i * (p.d - Vbkdai.upper p) ^ (t - i) := by
  unfold Vbkdai.term
  rw [choose_wy h, Nat.mul_assoc]
theorem term_small {t i : Nat} {p : Qd} (h : Pr p) (ht : t ≤ 40) (hi : i ≤ t) : Vbkdai.term t p i < 2 ^ 3000 := by
  rw [term_wy hi]
  have h1 := wy_small ht (show i ≤ 41 by omega)
  have h2 := pow_small (x := Vbkdai.upper p) (i := i) (Nat.lt_of_le_of_lt (upper_le h) h.d1) (by omega)
  have h3 := pow_small (x := p.d - Vbkdai.upper p) (i := t - i) (Nat.lt_of_le_of_lt (Nat.sub_le _ _) h.d1) (by omega)
  rw [show (2 : Nat) ^ 3000 = 2 ^ 300 * 2 ^ 1400 * 2 ^ 1300 from by rw [← Nat.pow_add, ← Nat.pow_add]]
  refine Nat.mul_lt_mul'' (Nat.mul_lt_mul'' h1 (Nat.lt_trans h2 ?_)) h3
  exact Nat.pow_lt_pow_right (by decide) (by decide)
end Bc


-- end of a part
set_option Elab.async false
set_option linter.all false
set_option exponentiation.threshold 100000
/-! # plain laws of orders, of what is let -/
namespace Bc
/-- the chances at the beginnings and ends of all parts -/
def endsQ (g : Nat) (c : Vbkdai.Chan) : List Qd := (List.range g).flatMap fun k => [Vbkdai.chanceAt g c k 0, Vbkdai.chanceAt g c k 1]
theorem endsQ_more (g i : Nat) (c : Vbkdai.Chan) : ((List.range (i + 1)).flatMap fun k => [Vbkdai.chanceAt g c k 0, Vbkdai.chanceAt g c k 1]) = ((List.range i).flatMap fun k => [Vbkdai.chanceAt g c k 0, Vbkdai.chanceAt g c k 1]) ++ [Vbkdai.chanceAt g c i 0, Vbkdai.chanceAt g c i 1] := by
  rw [List.range_succ, List.flatMap_append]
  simp
theorem endsQ_len (g : Nat) (c : Vbkdai.Chan) : ∀ n, ((List.range n).flatMap fun k => [Vbkdai.chanceAt g c k 0, Vbkdai.chanceAt g c k 1]).length = 2 * n
  | 0 => rfl
  | n + 1 => by
    rw [endsQ_more, List.length_append, endsQ_len g c n]
    show 2 * n + 2 = _
    omega
theorem endsQ_at (g : Nat) (c : Vbkdai.Chan) {k : Nat} : ∀ {n : Nat}, k < n → ((List.range n).flatMap fun k => [Vbkdai.chanceAt g c k 0, Vbkdai.chanceAt g c k 1])[2 * k]? = some (Vbkdai.chanceAt g c k 0) ∧
    ((List.range n).flatMap fun k => [Vbkdai.chanceAt g c k 0, Vbkdai.chanceAt g c k 1])[2 * k + 1]? = some (Vbkdai.chanceAt g c k 1)
  | n + 1, h => by
    rw [endsQ_more]
    have hl := endsQ_len g c n
    by_cases e : k = n
    · subst e
      constructor
      · rw [List.getElem?_append_right (by omega), hl, Nat.sub_self]
        rfl
      · rw [List.getElem?_append_right (by omega), hl, show 2 * k + 1 - 2 * k = 1 by omega]
        rfl
    · obtain ⟨h1, h2⟩ := endsQ_at g c (k := k) (n := n) (by omega)
      exact ⟨by rw [List.getElem?_append_left (by omega)]; exact h1, by rw [List.getElem?_append_left (by omega)]; exact h2⟩
theorem endsQ_mem {g : Nat} {c : Vbkdai.Chan} {p : Qd} (h : p ∈ endsQ g c) : ∃ k e, k < g ∧ e ≤ 1 ∧ p = Vbkdai.chanceAt g c k e := by
  obtain ⟨k, hk, hp⟩ := List.mem_flatMap.mp h
  have := List.mem_range.mp hk
  rcases List.mem_cons.mp hp with e | hp
  · exact ⟨k, 0, this, by decide, e⟩
  · exact ⟨k, 1, this, by decide, List.mem_singleton.mp hp⟩
/-- a pair of counts as a fraction, in whatever terms -/
def prQ (m : Nat × Nat) : Qd := ⟨(m.1 : Int), m.2⟩
/-- one step of likeliest -/
def best1 (t n : Nat) (m : Nat × Nat) (p : Qd) : Nat × Nat := if Vbkdai.term t p n * m.2 > m.1 * Vbkdai.total t p then (Vbkdai.term t p n, Vbkdai.total t p) else m
def bestN (t : Nat) (ps : List Qd) (n : Nat) : Nat × Nat := ps.foldl (best1 t n) (0, 1)
def ratioN (t : Nat) (p : Qd) (m : Nat × Nat) (n : Nat) : Nat × Nat := if m.1 = 0 then (0, 1) else (Vbkdai.term t p n * m.2, m.1)
/-- so many bits, the second above 0 -/
def SmP (k : Nat) (m : Nat × Nat) : Prop := m.1 < 2 ^ k ∧ 0 < m.2 ∧ m.2 < 2 ^ k
theorem best1_sm {t n : Nat} {m : Nat × Nat} {p : Qd} (hm : SmP 3000 m) (hp : Pr p) (ht : t ≤ 40) (hn : n ≤ t) : SmP 3000 (best1 t n m p) := by
  unfold best1
  split
  · exact ⟨term_small hp ht hn, total_pos hp, Nat.lt_trans (total_small hp ht) (Nat.pow_lt_pow_right (by decide) (by decide))⟩
  · exact hm
theorem bestN_sm {t n : Nat} (ht : t ≤ 40) (hn : n ≤ t) : ∀ (ps : List Qd) (m : Nat × Nat), (∀ p ∈ ps, Pr p) → SmP 3000 m → SmP 3000 (ps.foldl (best1 t n) m)
  | [], _, _, h => h
  | p :: ps, m, hp, h => bestN_sm ht hn ps _ (fun q hq => hp q (List.mem_cons_of_mem _ hq)) (best1_sm h (hp p List.mem_cons_self) ht hn)
theorem sm01 {k : Nat} (h : 1 ≤ k) : SmP k (0, 1) := ⟨Nat.pow_pos (by decide), by decide, Nat.lt_of_lt_of_le (by decide : 1 < 2 ^ 1) (Nat.pow_le_pow_right (by decide) h)⟩
theorem ratioN_sm {t n : Nat} {m : Nat × Nat} {p : Qd} (hm : SmP 3000 m) (hp : Pr p) (ht : t ≤ 40) (hn : n ≤ t) : SmP 6000 (ratioN t p m n) := by
  unfold ratioN
  split
  · exact sm01 (by decide)
  · rename_i h
    refine ⟨?_, by show 0 < m.1; omega, Nat.lt_trans hm.1 (Nat.pow_lt_pow_right (by decide) (by decide))⟩
    rw [show (2 : Nat) ^ 6000 = 2 ^ 3000 * 2 ^ 3000 from by rw [← Nat.pow_add]]
    exact Nat.mul_lt_mul'' (term_small hp ht hn) hm.2.2
theorem take_succ {α : Type} {l : List α} {i : Nat} {x : α} (h : l[i]? = some x) : l.take (i + 1) = l.take i ++ [x] := by
  rw [List.take_succ, h]
  rfl
theorem foldl_take {α β : Type} {f : β → α → β} {b : β} {l : List α} {i : Nat} {x : α} (h : l[i]? = some x) : (l.take (i + 1)).foldl f b = f ((l.take i).foldl f b) x := by
  rw [take_succ h, List.foldl_append]
  rfl
end Bc


-- end of a part
set_option Elab.async false
set_option linter.all false
set_option exponentiation.threshold 100000
/-! # plain laws: counts in order -/
namespace Bc
section
variable (G : Nat → Nat → Bool)
/-- ahead of the first that is less -/
def insF (n : Nat) : List Nat → List Nat
  | [] => [n]
  | y :: l => if G n y = true then n :: y :: l else y :: insF n l
end
section
variable {G : Nat → Nat → Bool}
theorem insF_mem {n x : Nat} : ∀ {l : List Nat}, x ∈ insF G n l ↔ x = n ∨ x ∈ l
  | [] => by simp [insF]
  | y :: l => by
    unfold insF
    split
    · simp
    · rw [List.mem_cons, insF_mem (l := l), List.mem_cons]
      constructor
      · rintro (h | h | h)
        · exact .inr (.inl h)
        · exact .inl h
        · exact .inr (.inr h)
      · rintro (h | h | h)
        · exact .inr (.inl h)
        · exact .inl h
        · exact .inr (.inr h)
theorem insF_perm {n : Nat} : ∀ {l : List Nat}, (insF G n l).Perm (n :: l)
  | [] => List.Perm.refl _
  | y :: l => by
    unfold insF
    split
    · exact List.Perm.refl _
    · exact (insF_perm (l := l)).cons y |>.trans (List.Perm.swap n y l)
theorem insF_len {n : Nat} {l : List Nat} : (insF G n l).length = l.length + 1 := insF_perm.length_eq
/-- a strict order by worth -/
structure Worth (G : Nat → Nat → Bool) : Prop where
  as : ∀ {a b}, G a b = true → G b a = false
  tr : ∀ {a b c}, G a b = true → G b c = true → G a c = true
  nt : ∀ {a b c}, G a b = false → G b c = false → G a c = false
theorem insF_sorted (W : Worth G) {n : Nat} : ∀ {l : List Nat}, l.Pairwise (fun a b => G b a = false) → (insF G n l).Pairwise (fun a b => G b a = false)
  | [], _ => by simp [insF]
  | y :: l, h => by
    obtain ⟨h1, h2⟩ := List.pairwise_cons.mp h
    unfold insF
    split
    · rename_i e
      refine List.pairwise_cons.mpr ⟨fun z hz => ?_, h⟩
      rcases List.mem_cons.mp hz with rfl | hz
      · exact W.as e
      · cases e2 : G z n with
        | false => rfl
        | true =>
          have := W.tr e2 e
          rw [h1 z hz] at this
          cases this
    · rename_i e
      refine List.pairwise_cons.mpr ⟨fun z hz => ?_, insF_sorted W h2⟩
      rcases insF_mem.mp hz with rfl | hz
      · simpa using e
      · exact h1 z hz
/-- found from the end -/
theorem insF_at (W : Worth G) {n : Nat} : ∀ {l : List Nat} {i : Nat}, l.Pairwise (fun a b => G b a = false) → i ≤ l.length → (∀ j y, i ≤ j → l[j]? = some y → G n y = true) → (∀ y, 0 < i → l[i - 1]? = some y → G n y = false) →
    l.take i ++ [n] ++ l.drop i = insF G n l
  | [], i, _, _, _, _ => by simp [insF]
  | y :: l, 0, h, _, h1, _ => by
    have e : G n y = true := h1 0 y (Nat.le_refl _) rfl
    unfold insF
    rw [if_pos e]
    rfl
  | y :: l, i + 1, h, hi, h1, h2 => by
    obtain ⟨q1, q2⟩ := List.pairwise_cons.mp h
    have e : G n y = false := by
      cases i with
      | zero => exact h2 y (by decide) rfl
      | succ i =>
        have hlt : i < l.length := by
          have : i + 1 + 1 ≤ l.length + 1 := hi
          omega
        have hz : (y :: l)[i + 1 + 1 - 1]? = some l[i] := by
          show l[i]? = _
          exact List.getElem?_eq_getElem hlt
        have f := h2 _ (by omega) hz
        exact W.nt f (q1 _ (List.getElem_mem hlt))
    unfold insF
    rw [if_neg (by rw [e]; decide)]
    show y :: (l.take i ++ [n] ++ l.drop i) = _
    congr 1
    refine insF_at W q2 (by have : i + 1 ≤ l.length + 1 := hi; omega) (fun j z hj hz => h1 (j + 1) z (by omega) hz) (fun z h0 hz => h2 z (by omega) ?_)
    obtain ⟨i', rfl⟩ : ∃ i', i = i' + 1 := ⟨i - 1, by omega⟩
    exact hz
/-- all put in, one by one -/
def allF (G : Nat → Nat → Bool) (N : Nat) : List Nat := (List.range N).foldl (fun l n => insF G n l) []
theorem allF_more (N : Nat) : allF G (N + 1) = insF G N (allF G N) := by
  unfold allF
  rw [List.range_succ, List.foldl_append]
  rfl
theorem allF_sorted (W : Worth G) : ∀ N, (allF G N).Pairwise (fun a b => G b a = false)
  | 0 => List.Pairwise.nil
  | N + 1 => by
    rw [allF_more]
    exact insF_sorted W (allF_sorted W N)
theorem allF_len : ∀ N, (allF G N).length = N
  | 0 => rfl
  | N + 1 => by rw [allF_more, insF_len, allF_len N]
theorem allF_mem {x : Nat} : ∀ N, x ∈ allF G N ↔ x < N
  | 0 => by simp [allF]
  | N + 1 => by
    rw [allF_more, insF_mem, allF_mem N]
    omega
theorem allF_perm : ∀ N, (allF G N).Perm (List.range N)
  | 0 => List.Perm.refl _
  | N + 1 => by
    rw [allF_more, List.range_succ]
    exact insF_perm.trans (((allF_perm N).cons N).trans (List.perm_append_comm (l₁ := [N])))
theorem putBy_ins {q : Nat → Qd} (h : ∀ a b, VbkdCore.less (q b) (q a) = G a b) {n : Nat} : ∀ l : List Nat, Vbkdai.putBy (n, q n) (l.map fun m => (m, q m)) = (insF G n l).map fun m => (m, q m)
  | [] => rfl
  | y :: l => by
    show (if VbkdCore.less (q y) (q n) = true then _ else _) = _
    unfold insF
    rw [h]
    split
    · rfl
    · rw [putBy_ins h l]
      rfl
/-- the specification's order by worth -/
theorem byWorth_all {q : Nat → Qd} (h : ∀ a b, VbkdCore.less (q b) (q a) = G a b) (N : Nat) : Vbkdai.byWorth ((List.range N).map fun n => (n, q n)) = allF G N := by
  have key : ∀ N, ((List.range N).map fun n => (n, q n)).foldl (fun a x => Vbkdai.putBy x a) [] = (allF G N).map fun m => (m, q m) := fun N => by
    induction N with
    | zero => rfl
    | succ N ih =>
      rw [List.range_succ, List.map_append, List.foldl_append, ih, allF_more]
      exact putBy_ins h _
  unfold Vbkdai.byWorth
  rw [key, List.map_map]
  show (allF G N).map (fun m => m) = _
  exact List.map_id' _
theorem byWorth_congr {q : Nat → Qd} (N : Nat) (h : ∀ a b, a < N → b < N → VbkdCore.less (q b) (q a) = G a b) : Vbkdai.byWorth ((List.range N).map fun n => (n, q n)) = allF G N := by
  -- only counts below N are asked
  have key : ∀ M, M ≤ N → ((List.range M).map fun n => (n, q n)).foldl (fun a x => Vbkdai.putBy x a) [] = (allF G M).map fun m => (m, q m) := fun M => by
    induction M with
    | zero => intro _; rfl
    | succ M ih =>
      intro hM
      rw [List.range_succ, List.map_append, List.foldl_append, ih (by omega), allF_more]
      show Vbkdai.putBy (M, q M) _ = _
      have : ∀ l : List Nat, (∀ x ∈ l, x < N) → Vbkdai.putBy (M, q M) (l.map fun m => (m, q m)) = (insF G M l).map fun m => (m, q m) := fun l => by
        induction l with
        | nil => intro _; rfl
        | cons y l ih2 =>
          intro hl
          show (if VbkdCore.less (q y) (q M) = true then _ else _) = _
          unfold insF
          rw [h M y (by omega) (hl y List.mem_cons_self)]
          split
          · rfl
          · rw [ih2 fun x hx => hl x (List.mem_cons_of_mem _ hx)]
            rfl
      exact this _ fun x hx => by
        have := (allF_mem M).mp hx
        omega
  unfold Vbkdai.byWorth
  rw [key N (Nat.le_refl _), List.map_map]
  show (allF G N).map (fun m => m) = _
  exact List.map_id' _
end
/-- fractions with lower numbers above 0 are in order by worth -/
theorem worth_of (x : Nat → Nat × Nat) (h : ∀ n, 0 < (x n).2) : Worth fun a b => decide ((x a).1 * (x b).2 > (x b).1 * (x a).2) := by
  constructor
  · intro a b h1
    have := of_decide_eq_true h1
    exact decide_eq_false (by omega)
  · intro a b c h1 h2
    have h1 := of_decide_eq_true h1
    have h2 := of_decide_eq_true h2
    refine decide_eq_true ?_
    have hb := h b
    refine Nat.lt_of_mul_lt_mul_right (a := (x b).2) ?_
    calc (x c).1 * (x a).2 * (x b).2 = (x c).1 * (x b).2 * (x a).2 := by ac_rfl
      _ < (x b).1 * (x c).2 * (x a).2 := Nat.mul_lt_mul_of_pos_right h2 (h a)
      _ = (x b).1 * (x a).2 * (x c).2 := by ac_rfl
      _ < (x a).1 * (x b).2 * (x c).2 := Nat.mul_lt_mul_of_pos_right h1 (h c)
      _ = (x a).1 * (x c).2 * (x b).2 := by ac_rfl
  · intro a b c h1 h2
    have h1 := of_decide_eq_false h1
    have h2 := of_decide_eq_false h2
    refine decide_eq_false ?_
    have hb := h b
    intro h3
    have e1 : (x a).1 * (x b).2 ≤ (x b).1 * (x a).2 := by omega
    have e2 : (x b).1 * (x c).2 ≤ (x c).1 * (x b).2 := by omega
    have : (x a).1 * (x c).2 * (x b).2 ≤ (x c).1 * (x a).2 * (x b).2 := by
      calc (x a).1 * (x c).2 * (x b).2 = (x a).1 * (x b).2 * (x c).2 := by ac_rfl
        _ ≤ (x b).1 * (x a).2 * (x c).2 := Nat.mul_le_mul_right _ e1
        _ = (x b).1 * (x c).2 * (x a).2 := by ac_rfl
        _ ≤ (x c).1 * (x b).2 * (x a).2 := Nat.mul_le_mul_right _ e2
        _ = (x c).1 * (x a).2 * (x b).2 := by ac_rfl
    have := Nat.le_of_mul_le_mul_right this hb
    omega
end Bc


-- end of a part
set_option Elab.async false
set_option linter.all false
set_option exponentiation.threshold 100000
/-! # plain laws: by ratio, by likelihood, central -/
namespace Bc
theorem stretch_one (n : Nat) : Vbkdai.stretch n n = [n] := by
  unfold Vbkdai.stretch
  rw [List.range_succ, List.filter_append]
  have : (List.range n).filter (fun m => decide (n ≤ m)) = [] := by
    rw [List.filter_eq_nil_iff]
    intro a ha
    have := List.mem_range.mp ha
    simp
    omega
  rw [this]
  simp
theorem chance_one (t : Nat) (p : Qd) (n : Nat) : Vbkdai.chance t p n n = VbkdCore.mk ((Vbkdai.term t p n : Nat) : Int) (Vbkdai.total t p) := by
  unfold Vbkdai.chance Vbkdai.chanceOf
  rw [stretch_one]
  rfl
/-- the same number, told twice -/
structure Alike (m : Nat × Nat) (b : Qd) : Prop where
  e : (m.1 : Int) * (b.d : Int) = b.n * (m.2 : Int)
  m0 : 0 < m.2
  b0 : 0 < b.d
  n0 : 0 ≤ b.n
theorem best_step {t n : Nat} {p : Qd} {m : Nat × Nat} {b : Qd} (hp : Pr p) (h : Alike m b) : Alike (best1 t n m p) (VbkdCore.greater b (Vbkdai.chance t p n n)) := by
  have W := total_pos (t := t) hp
  rw [chance_one]
  have e : VbkdCore.less b (VbkdCore.mk ((Vbkdai.term t p n : Nat) : Int) (Vbkdai.total t p)) = decide (Vbkdai.term t p n * m.2 > m.1 * Vbkdai.total t p) := by
    rw [less_mk_right W]
    refine decide_eq_decide.mpr ?_
    have hm := h.m0
    have hb := h.b0
    have he := h.e
    constructor
    · intro h1
      have h2 : (m.1 : Int) * ((Vbkdai.total t p : Nat) : Int) * (b.d : Int) < ((Vbkdai.term t p n : Nat) : Int) * (m.2 : Int) * (b.d : Int) := by
        calc (m.1 : Int) * ((Vbkdai.total t p : Nat) : Int) * (b.d : Int) = (m.1 : Int) * (b.d : Int) * ((Vbkdai.total t p : Nat) : Int) := by ac_rfl
          _ = b.n * ((Vbkdai.total t p : Nat) : Int) * (m.2 : Int) := by rw [he]; ac_rfl
          _ < ((Vbkdai.term t p n : Nat) : Int) * (b.d : Int) * (m.2 : Int) := Int.mul_lt_mul_of_pos_right h1 (by omega)
          _ = _ := by ac_rfl
      have h3 := Int.lt_of_mul_lt_mul_right h2 (by omega)
      show m.1 * Vbkdai.total t p < Vbkdai.term t p n * m.2
      exact_mod_cast h3
    · intro h1
      have h1' : (m.1 : Int) * ((Vbkdai.total t p : Nat) : Int) < ((Vbkdai.term t p n : Nat) : Int) * (m.2 : Int) := by exact_mod_cast h1
      have h2 : b.n * ((Vbkdai.total t p : Nat) : Int) * (m.2 : Int) < ((Vbkdai.term t p n : Nat) : Int) * (b.d : Int) * (m.2 : Int) := by
        calc b.n * ((Vbkdai.total t p : Nat) : Int) * (m.2 : Int) = b.n * (m.2 : Int) * ((Vbkdai.total t p : Nat) : Int) := by ac_rfl
          _ = (m.1 : Int) * ((Vbkdai.total t p : Nat) : Int) * (b.d : Int) := by rw [← he]; ac_rfl
          _ < ((Vbkdai.term t p n : Nat) : Int) * (m.2 : Int) * (b.d : Int) := Int.mul_lt_mul_of_pos_right h1' (by omega)
          _ = _ := by ac_rfl
      exact Int.lt_of_mul_lt_mul_right h2 (by omega)
  unfold VbkdCore.greater best1
  rw [e]
  by_cases c : Vbkdai.term t p n * m.2 > m.1 * Vbkdai.total t p
  · rw [if_pos c, if_pos (decide_eq_true c)]
    exact ⟨(mk_cross W).symm, W, mk_d0 W, (by
      obtain ⟨g, g0, e1, e2⟩ := mk_spec (a := ((Vbkdai.term t p n : Nat) : Int)) W
      have g1 : (0 : Int) < (g : Int) := by omega
      refine Int.le_of_mul_le_mul_right (show (0 : Int) * (g : Int) ≤ _ * (g : Int) from ?_) g1
      rw [Int.zero_mul, e1]
      omega)⟩
  · rw [if_neg c, decide_eq_false c]
    exact h
theorem best_all {t n : Nat} : ∀ (ps : List Qd) (m : Nat × Nat) (b : Qd), (∀ p ∈ ps, Pr p) → Alike m b → Alike (ps.foldl (best1 t n) m) (ps.foldl (fun b p => VbkdCore.greater b (Vbkdai.chance t p n n)) b)
  | [], _, _, _, h => h
  | p :: ps, m, b, hp, h => best_all ps _ _ (fun q hq => hp q (List.mem_cons_of_mem _ hq)) (best_step (hp p List.mem_cons_self) h)
theorem bestFor_ends (g : Nat) (c : Vbkdai.Chan) (n : Nat) : Vbkdai.bestFor g c n = (endsQ g c).foldl (fun b p => VbkdCore.greater b (Vbkdai.chance c.trials p n n)) Vbkdai.zero := by
  unfold Vbkdai.bestFor endsQ
  rw [List.foldl_flatMap]
  rfl
theorem best_is {g : Nat} {c : Vbkdai.Chan} {n : Nat} (h : ∀ p ∈ endsQ g c, Pr p) : Alike (bestN c.trials (endsQ g c) n) (Vbkdai.bestFor g c n) := by
  rw [bestFor_ends]
  exact best_all _ _ _ h ⟨rfl, by decide, by decide, by decide⟩
/-- a ratio of the program's, the specification's -/
structure Ratio (T : Nat) (r : Nat × Nat) (q : Qd) : Prop where
  e : (r.1 : Int) * (q.d : Int) = (T : Int) * q.n * (r.2 : Int)
  r0 : 0 < r.2
  q0 : 0 < q.d
theorem ratio_is {t n : Nat} {p : Qd} {m : Nat × Nat} {b : Qd} (hp : Pr p) (h : Alike m b) : Ratio (Vbkdai.total t p) (ratioN t p m n) (Vbkdai.ratioOf t p b n) := by
  have W := total_pos (t := t) hp
  have he := h.e
  have hm0 := h.m0
  have hb0 := h.b0
  have hn0 := h.n0
  unfold ratioN Vbkdai.ratioOf
  by_cases c : m.1 = 0
  · have bn : b.n = 0 := by
      rw [c] at he
      have : b.n * (m.2 : Int) = 0 := by rw [← he]; simp
      rcases Int.mul_eq_zero.mp this with z | z
      · exact z
      · omega
    rw [if_pos c, if_pos bn]
    exact ⟨by simp [Vbkdai.zero, VbkdCore.whole], by decide, by decide⟩
  · have bn : b.n ≠ 0 := fun z => by
      rw [z] at he
      have : (m.1 : Int) * (b.d : Int) = 0 := by rw [he]; simp
      rcases Int.mul_eq_zero.mp this with z | z <;> omega
    have bp : 0 < b.n := by omega
    rw [if_neg c, if_neg bn, chance_one]
    have cx := mk_cross (a := ((Vbkdai.term t p n : Nat) : Int)) W
    have xd := mk_d0 (a := ((Vbkdai.term t p n : Nat) : Int)) W
    generalize VbkdCore.mk ((Vbkdai.term t p n : Nat) : Int) (Vbkdai.total t p) = x at cx xd
    have ei : VbkdCore.inv b = ⟨(b.d : Int), b.n.natAbs⟩ := by
      unfold VbkdCore.inv
      rw [if_neg bn, if_neg (by omega)]
    unfold VbkdCore.div VbkdCore.mul
    rw [ei]
    have D : 0 < x.d * b.n.natAbs := Nat.mul_pos xd (by omega)
    have cq := mk_cross (a := x.n * (b.d : Int)) D
    have qd := mk_d0 (a := x.n * (b.d : Int)) D
    show Ratio _ _ (VbkdCore.mk (x.n * (b.d : Int)) (x.d * b.n.natAbs))
    generalize VbkdCore.mk (x.n * (b.d : Int)) (x.d * b.n.natAbs) = q at cq qd
    have eb : ((b.n.natAbs : Nat) : Int) = b.n := by omega
    rw [Int.natCast_mul, eb] at cq
    refine ⟨?_, by show 0 < m.1; omega, qd⟩
    show ((Vbkdai.term t p n * m.2 : Nat) : Int) * (q.d : Int) = ((Vbkdai.total t p : Nat) : Int) * q.n * (m.1 : Int)
    rw [Int.natCast_mul]
    have pos : (0 : Int) < (x.d : Int) * b.n := Int.mul_pos (by omega) bp
    refine Int.eq_of_mul_eq_mul_right (Int.ne_of_gt pos) ?_
    calc ((Vbkdai.term t p n : Nat) : Int) * (m.2 : Int) * (q.d : Int) * ((x.d : Int) * b.n) = (((Vbkdai.term t p n : Nat) : Int) * (x.d : Int)) * (b.n * (m.2 : Int)) * (q.d : Int) := by ac_rfl
      _ = (x.n * ((Vbkdai.total t p : Nat) : Int)) * ((m.1 : Int) * (b.d : Int)) * (q.d : Int) := by rw [cx, he]
      _ = ((Vbkdai.total t p : Nat) : Int) * (m.1 : Int) * (x.n * (b.d : Int) * (q.d : Int)) := by ac_rfl
      _ = ((Vbkdai.total t p : Nat) : Int) * (m.1 : Int) * (q.n * ((x.d : Int) * b.n)) := by rw [cq]
      _ = _ := by ac_rfl
theorem ratio_lt {T : Nat} {r s : Nat × Nat} {q u : Qd} (hT : 0 < T) (h1 : Ratio T r q) (h2 : Ratio T s u) : VbkdCore.less u q = decide (r.1 * s.2 > s.1 * r.2) := by
  unfold VbkdCore.less
  have r0 := h1.r0
  have s0 := h2.r0
  have q0 := h1.q0
  have u0 := h2.q0
  have e1 := h1.e
  have e2 := h2.e
  have pos : (0 : Int) < (T : Int) * ((r.2 : Int) * (s.2 : Int)) := Int.mul_pos (by omega) (Int.mul_pos (by omega) (by omega))
  have pos2 : (0 : Int) < (q.d : Int) * (u.d : Int) := Int.mul_pos (by omega) (by omega)
  have a1 : (s.1 : Int) * (r.2 : Int) * ((q.d : Int) * (u.d : Int)) = u.n * (q.d : Int) * ((T : Int) * ((r.2 : Int) * (s.2 : Int))) := by
    calc (s.1 : Int) * (r.2 : Int) * ((q.d : Int) * (u.d : Int)) = ((s.1 : Int) * (u.d : Int)) * ((r.2 : Int) * (q.d : Int)) := by ac_rfl
      _ = _ := by rw [e2]; ac_rfl
  have a2 : (r.1 : Int) * (s.2 : Int) * ((q.d : Int) * (u.d : Int)) = q.n * (u.d : Int) * ((T : Int) * ((r.2 : Int) * (s.2 : Int))) := by
    calc (r.1 : Int) * (s.2 : Int) * ((q.d : Int) * (u.d : Int)) = ((r.1 : Int) * (q.d : Int)) * ((s.2 : Int) * (u.d : Int)) := by ac_rfl
      _ = _ := by rw [e1]; ac_rfl
  refine decide_eq_decide.mpr ⟨fun h => ?_, fun h => ?_⟩
  · have b1 := Int.mul_lt_mul_of_pos_right h pos
    rw [← a1, ← a2] at b1
    have b2 := Int.lt_of_mul_lt_mul_right b1 (Int.le_of_lt pos2)
    show s.1 * r.2 < r.1 * s.2
    exact_mod_cast b2
  · have h' : (s.1 : Int) * (r.2 : Int) < (r.1 : Int) * (s.2 : Int) := by exact_mod_cast h
    have b1 := Int.mul_lt_mul_of_pos_right h' pos2
    rw [a1, a2] at b1
    exact Int.lt_of_mul_lt_mul_right b1 (Int.le_of_lt pos)
/-- what by_ratio compares -/
def gtR (x : Nat → Nat × Nat) (a b : Nat) : Bool := decide ((x a).1 * (x b).2 > (x b).1 * (x a).2)
theorem ratioN_pos {t n : Nat} {p : Qd} {m : Nat × Nat} : 0 < (ratioN t p m n).2 := by
  unfold ratioN
  split
  · decide
  · show 0 < m.1
    omega
def ratF (g : Nat) (c : Vbkdai.Chan) (p : Qd) (n : Nat) : Nat × Nat := ratioN c.trials p (bestN c.trials (endsQ g c) n) n
theorem ratio_less {g : Nat} {c : Vbkdai.Chan} {p : Qd} (hp : Pr p) (h : ∀ p ∈ endsQ g c, Pr p) (a b : Nat) :
    VbkdCore.less (Vbkdai.ratioOf c.trials p (Vbkdai.bestFor g c b) b) (Vbkdai.ratioOf c.trials p (Vbkdai.bestFor g c a) a) = gtR (ratF g c p) a b := by
  have r1 : Ratio (Vbkdai.total c.trials p) (ratF g c p a) _ := ratio_is hp (best_is (n := a) h)
  have r2 : Ratio (Vbkdai.total c.trials p) (ratF g c p b) _ := ratio_is hp (best_is (n := b) h)
  unfold gtR
  exact ratio_lt (total_pos hp) r1 r2
theorem ratio_law {g : Nat} {c : Vbkdai.Chan} {p : Qd} (hp : Pr p) (h : ∀ p ∈ endsQ g c, Pr p) :
    Vbkdai.byWorth ((List.range (c.trials + 1)).map fun n => (n, Vbkdai.ratioOf c.trials p (Vbkdai.bestFor g c n) n)) = allF (gtR (ratF g c p)) (c.trials + 1) :=
  byWorth_all (G := gtR (ratF g c p)) (q := fun n => Vbkdai.ratioOf c.trials p (Vbkdai.bestFor g c n) n) (ratio_less hp h) (c.trials + 1)
theorem gtR_worth (g : Nat) (c : Vbkdai.Chan) (p : Qd) : Worth (gtR (ratF g c p)) := worth_of _ fun _ => ratioN_pos
/-! ### by likelihood -/
def gtT (t : Nat) (p : Qd) (a b : Nat) : Bool := decide (Vbkdai.term t p a > Vbkdai.term t p b)
theorem likely_less {t : Nat} {p : Qd} (hp : Pr p) (a b : Nat) : VbkdCore.less (Vbkdai.chance t p b b) (Vbkdai.chance t p a a) = gtT t p a b := by
  have W := total_pos (t := t) hp
  rw [chance_one, chance_one, less_mk_left W, mk_cross W]
  have d0 := mk_d0 (a := ((Vbkdai.term t p a : Nat) : Int)) W
  generalize VbkdCore.mk ((Vbkdai.term t p a : Nat) : Int) (Vbkdai.total t p) = x at d0
  unfold gtT
  refine decide_eq_decide.mpr ⟨fun h => ?_, fun h => Int.mul_lt_mul_of_pos_right (by exact_mod_cast h) (by omega)⟩
  have h2 := Int.lt_of_mul_lt_mul_right h (by omega)
  exact_mod_cast h2
theorem likely_law {t : Nat} {p : Qd} (hp : Pr p) : Vbkdai.byChance t p = allF (gtT t p) (t + 1) := by
  unfold Vbkdai.byChance
  exact byWorth_all (G := gtT t p) (q := fun n => Vbkdai.chance t p n n) (likely_less hp) (t + 1)
/-- the likelier ahead, of alike ones the lesser -/
def likB (t : Nat) (p : Qd) (a b : Nat) : Prop := Vbkdai.term t p b < Vbkdai.term t p a ∨ (Vbkdai.term t p a = Vbkdai.term t p b ∧ a < b)
theorem insF_lik {t : Nat} {p : Qd} {n : Nat} : ∀ {l : List Nat}, l.Pairwise (likB t p) → (∀ x ∈ l, x < n) → (insF (gtT t p) n l).Pairwise (likB t p)
  | [], _, _ => by simp [insF]
  | y :: l, h, hn => by
    obtain ⟨h1, h2⟩ := List.pairwise_cons.mp h
    unfold insF
    split
    · rename_i e
      have e := of_decide_eq_true e
      refine List.pairwise_cons.mpr ⟨fun z hz => ?_, h⟩
      rcases List.mem_cons.mp hz with rfl | hz
      · exact .inl e
      · rcases h1 z hz with q | ⟨q, _⟩
        · exact .inl (by omega)
        · exact .inl (by omega)
    · rename_i e
      refine List.pairwise_cons.mpr ⟨fun z hz => ?_, insF_lik h2 fun x hx => hn x (List.mem_cons_of_mem _ hx)⟩
      rcases insF_mem.mp hz with rfl | hz
      · have e : ¬ (Vbkdai.term t p z > Vbkdai.term t p y) := fun q => e (decide_eq_true q)
        have := hn y List.mem_cons_self
        unfold likB
        omega
      · exact h1 z hz
theorem allF_lik {t : Nat} {p : Qd} : ∀ N, (allF (gtT t p) N).Pairwise (likB t p)
  | 0 => List.Pairwise.nil
  | N + 1 => by
    rw [allF_more]
    exact insF_lik (allF_lik N) fun x hx => (allF_mem N).mp hx
/-- two lists of the same items in a strict order are one -/
theorem sorted_one {R : Nat → Nat → Prop} (as : ∀ a b, R a b → R b a → False) : ∀ {l m : List Nat}, l.Perm m → l.Pairwise R → m.Pairwise R → l = m
  | [], m, h, _, _ => h.nil_eq
  | a :: l, [], h, _, _ => absurd h.length_eq (by simp)
  | a :: l, b :: m, h, h1, h2 => by
    obtain ⟨a1, a2⟩ := List.pairwise_cons.mp h1
    obtain ⟨b1, b2⟩ := List.pairwise_cons.mp h2
    have e : a = b := by
      have ha : a ∈ b :: m := h.subset List.mem_cons_self
      have hb : b ∈ a :: l := h.symm.subset List.mem_cons_self
      rcases List.mem_cons.mp ha with e | ha
      · exact e
      · rcases List.mem_cons.mp hb with e | hb
        · exact e.symm
        · exact (as a b (a1 b hb) (b1 a ha)).elim
    subst e
    rw [sorted_one as (List.Perm.cons_inv h) a2 b2]
theorem likely_one {t : Nat} {p : Qd} (hp : Pr p) {l : List Nat} (h1 : l.Perm (List.range (t + 1))) (h2 : l.Pairwise (likB t p)) : l = Vbkdai.byChance t p := by
  rw [likely_law hp]
  refine sorted_one (R := likB t p) (fun a b h1 h2 => ?_) (h1.trans (allF_perm _).symm) h2 (allF_lik _)
  unfold likB at h1 h2
  omega
/-! ### central -/
theorem little_law {t m : Nat} {p s : Qd} {k : Nat} (hs : Fq k s) : decide (2 * (m : Int) * ((VbkdCore.sub Vbkdai.one s).d : Int) ≤ (VbkdCore.sub Vbkdai.one s).n * ((Vbkdai.total t p : Nat) : Int)) = Vbkdai.lightEnough t p s m := by
  have e : VbkdCore.sub Vbkdai.one s = VbkdCore.mk ((s.d : Int) - s.n) s.d := by
    unfold VbkdCore.sub VbkdCore.add VbkdCore.neg Vbkdai.one VbkdCore.whole
    show VbkdCore.mk (1 * (s.d : Int) + -s.n * 1) (1 * s.d) = _
    rw [Int.one_mul, Int.mul_one, Nat.one_mul, Int.sub_eq_add_neg]
  rw [e]
  have c := mk_cross (a := (s.d : Int) - s.n) hs.d0
  have d0 := mk_d0 (a := (s.d : Int) - s.n) hs.d0
  generalize VbkdCore.mk ((s.d : Int) - s.n) s.d = l at c d0
  have u : ((Vbkdai.upper s : Nat) : Int) = s.n := by
    have := hs.n0
    unfold Vbkdai.upper
    omega
  have ul : Vbkdai.upper s ≤ s.d := by have := hs.nd; omega
  have us : ((s.d - Vbkdai.upper s : Nat) : Int) = (s.d : Int) - s.n := by rw [Int.ofNat_sub ul, u]
  unfold Vbkdai.lightEnough
  have s0 := hs.d0
  refine decide_eq_decide.mpr ⟨fun h => ?_, fun h => ?_⟩
  · have h2 : 2 * (m : Int) * (s.d : Int) * (l.d : Int) ≤ ((s.d : Int) - s.n) * ((Vbkdai.total t p : Nat) : Int) * (l.d : Int) := by
      calc 2 * (m : Int) * (s.d : Int) * (l.d : Int) = 2 * (m : Int) * (l.d : Int) * (s.d : Int) := by ac_rfl
        _ ≤ l.n * ((Vbkdai.total t p : Nat) : Int) * (s.d : Int) := Int.mul_le_mul_of_nonneg_right h (by omega)
        _ = l.n * (s.d : Int) * ((Vbkdai.total t p : Nat) : Int) := by ac_rfl
        _ = _ := by rw [c]; ac_rfl
    have h3 := Int.le_of_mul_le_mul_right h2 (by omega)
    rw [← us] at h3
    have h4 : 2 * ((m : Int) * (s.d : Int)) ≤ ((s.d - Vbkdai.upper s : Nat) : Int) * ((Vbkdai.total t p : Nat) : Int) := by rw [← Int.mul_assoc]; exact h3
    exact_mod_cast h4
  · have h4 : 2 * ((m : Int) * (s.d : Int)) ≤ ((s.d - Vbkdai.upper s : Nat) : Int) * ((Vbkdai.total t p : Nat) : Int) := by exact_mod_cast h
    rw [us, ← Int.mul_assoc] at h4
    have s1 : (0 : Int) < (s.d : Int) := by omega
    refine Int.le_of_mul_le_mul_right (show 2 * (m : Int) * (l.d : Int) * (s.d : Int) ≤ l.n * ((Vbkdai.total t p : Nat) : Int) * (s.d : Int) from ?_) s1
    calc 2 * (m : Int) * (l.d : Int) * (s.d : Int) = 2 * (m : Int) * (s.d : Int) * (l.d : Int) := by ac_rfl
      _ ≤ ((s.d : Int) - s.n) * ((Vbkdai.total t p : Nat) : Int) * (l.d : Int) := Int.mul_le_mul_of_nonneg_right h4 (by omega)
      _ = ((s.d : Int) - s.n) * (l.d : Int) * ((Vbkdai.total t p : Nat) : Int) := by ac_rfl
      _ = _ := by rw [← c]; ac_rfl
theorem foldl_max : ∀ (l : List Nat) (a : Nat), a ≤ l.foldl max a ∧ (∀ y ∈ l, y ≤ l.foldl max a) ∧ (l.foldl max a = a ∨ l.foldl max a ∈ l)
  | [], a => ⟨Nat.le_refl _, (fun _ h => by cases h), .inl rfl⟩
  | x :: l, a => by
    obtain ⟨h1, h2, h3⟩ := foldl_max l (max a x)
    refine ⟨Nat.le_trans (Nat.le_max_left _ _) h1, fun y hy => ?_, ?_⟩
    · rcases List.mem_cons.mp hy with rfl | hy
      · exact Nat.le_trans (Nat.le_max_right _ _) h1
      · exact h2 y hy
    · show l.foldl max (max a x) = a ∨ _
      rcases h3 with h3 | h3
      · rw [List.foldl_cons, h3]
        rcases Nat.le_total a x with q | q
        · rw [Nat.max_eq_right q]
          exact .inr List.mem_cons_self
        · rw [Nat.max_eq_left q]
          exact .inl rfl
      · exact .inr (List.mem_cons_of_mem _ h3)
theorem greatest_is {l : List Nat} {m : Nat} (h : m ∈ l) (hm : ∀ y ∈ l, y ≤ m) : Vbkdai.greatest l = m := by
  obtain ⟨h1, h2, h3⟩ := foldl_max l 0
  have a := h2 m h
  unfold Vbkdai.greatest
  rcases h3 with e | e
  · omega
  · have := hm _ e
    omega
theorem foldl_min : ∀ (l : List Nat) (a : Nat), l.foldl min a ≤ a ∧ (∀ y ∈ l, l.foldl min a ≤ y) ∧ (l.foldl min a = a ∨ l.foldl min a ∈ l)
  | [], a => ⟨Nat.le_refl _, (fun _ h => by cases h), .inl rfl⟩
  | x :: l, a => by
    obtain ⟨h1, h2, h3⟩ := foldl_min l (min a x)
    refine ⟨Nat.le_trans h1 (Nat.min_le_left _ _), fun y hy => ?_, ?_⟩
    · rcases List.mem_cons.mp hy with rfl | hy
      · exact Nat.le_trans h1 (Nat.min_le_right _ _)
      · exact h2 y hy
    · show l.foldl min (min a x) = a ∨ _
      rcases h3 with h3 | h3
      · rw [List.foldl_cons, h3]
        rcases Nat.le_total a x with q | q
        · rw [Nat.min_eq_left q]
          exact .inl rfl
        · rw [Nat.min_eq_right q]
          exact .inr List.mem_cons_self
      · exact .inr (List.mem_cons_of_mem _ h3)
theorem least_is {l : List Nat} {m : Nat} (h : m ∈ l) (hm : ∀ y ∈ l, m ≤ y) : Vbkdai.least l = m := by
  cases l with
  | nil => cases h
  | cons a r =>
    obtain ⟨h1, h2, h3⟩ := foldl_min r a
    have e : Vbkdai.least (a :: r) = r.foldl min a := rfl
    rw [e]
    have up : r.foldl min a ≤ m := by
      rcases List.mem_cons.mp h with rfl | h
      · exact h1
      · exact h2 m h
    have lo : m ≤ r.foldl min a := by
      rcases h3 with q | q
      · rw [q]
        exact hm a List.mem_cons_self
      · exact hm _ (List.mem_cons_of_mem _ q)
    omega
end Bc


-- end of a part
set_option Elab.async false
set_option linter.all false
set_option exponentiation.threshold 100000
/-! # plain laws: what sorted makes of pairs -/
namespace Bc
/-- counts as whole numbers -/
def nI (l : List Nat) : List Int := l.map fun n : Nat => (n : Int)
def pairT (t : Nat) (p : Qd) (n : Nat) : Int × Int := (-((Vbkdai.term t p n : Nat) : Int), (n : Int))
theorem sorted_law {t : Nat} {p : Qd} (hp : Pr p) {zs : List (Int × Int)} (h : zs.Perm ((List.range (t + 1)).map (pairT t p))) (s : zs.Pairwise fun x y => ¬ (y.1 < x.1 ∨ (y.1 = x.1 ∧ y.2 < x.2))) :
    zs.map (fun z => z.2) = nI (Vbkdai.byChance t p) := by
  have e1 : ∀ z ∈ zs, pairT t p z.2.toNat = z := fun z hz => by
    obtain ⟨n, _, rfl⟩ := List.mem_map.mp (h.subset hz)
    rfl
  have e2 : (zs.map fun z => z.2.toNat).map (pairT t p) = zs := by
    rw [List.map_map]
    calc zs.map (pairT t p ∘ fun z => z.2.toNat) = zs.map id := List.map_congr_left fun z hz => e1 z hz
      _ = zs := List.map_id _
  have pm : (zs.map fun z => z.2.toNat).Perm (List.range (t + 1)) := by
    have := h.map fun z : Int × Int => z.2.toNat
    rw [List.map_map] at this
    refine this.trans (List.Perm.of_eq ?_)
    calc (List.range (t + 1)).map ((fun z : Int × Int => z.2.toNat) ∘ pairT t p) = (List.range (t + 1)).map id := List.map_congr_left fun n _ => rfl
      _ = _ := List.map_id _
  generalize zs.map (fun z => z.2.toNat) = ns at e2 pm
  subst e2
  have nd : ns.Nodup := pm.nodup_iff.mpr List.nodup_range
  rw [List.pairwise_map] at s
  have so : ns.Pairwise (likB t p) := by
    refine (s.and nd).imp ?_
    intro a b h
    obtain ⟨h1, h2⟩ := h
    unfold likB
    show Vbkdai.term t p b < Vbkdai.term t p a ∨ _
    have h3 : ¬ (-((Vbkdai.term t p b : Nat) : Int) < -((Vbkdai.term t p a : Nat) : Int) ∨ (-((Vbkdai.term t p b : Nat) : Int) = -((Vbkdai.term t p a : Nat) : Int) ∧ (b : Int) < (a : Int))) := h1
    omega
  rw [← likely_one hp pm so, List.map_map]
  rfl
end Bc


-- end of a part
set_option Elab.async false
set_option linter.all false
set_option exponentiation.threshold 100000
/-! # plain laws: what's put in, what's let -/
namespace Bc
theorem sumOf_app : ∀ (l m : List Nat), Vbkdai.sumOf (l ++ m) = Vbkdai.sumOf l + Vbkdai.sumOf m
  | [], m => by simp [Vbkdai.sumOf]
  | a :: l, m => by
    show a + Vbkdai.sumOf (l ++ m) = a + Vbkdai.sumOf l + Vbkdai.sumOf m
    rw [sumOf_app l m, Nat.add_assoc]
theorem sum_bound {B : Nat} : ∀ (l : List Nat), (∀ x ∈ l, x ≤ B) → Vbkdai.sumOf l ≤ l.length * B
  | [], _ => Nat.zero_le _
  | a :: r, h => by
    show a + Vbkdai.sumOf r ≤ (r.length + 1) * B
    rw [Nat.succ_mul, Nat.add_comm]
    exact Nat.add_le_add (sum_bound r fun x hx => h x (List.mem_cons_of_mem _ hx)) (h a List.mem_cons_self)
/-- what comes of the counts put in so far -/
def put (t : Nat) (p : Qd) (l : List Nat) : Nat := Vbkdai.massOf t p l
theorem put_more {t : Nat} {p : Qd} {l : List Nat} {i n : Nat} (h : l[i]? = some n) : put t p (l.take (i + 1)) = put t p (l.take i) + Vbkdai.term t p n := by
  unfold put Vbkdai.massOf
  rw [take_succ h, List.map_append, sumOf_app]
  rfl
theorem put_small {t : Nat} {p : Qd} (hp : Pr p) (ht : t ≤ 40) {l : List Nat} (hl : l.length ≤ 41) (hm : ∀ n ∈ l, n ≤ t) : put t p l < 2 ^ 4000 := by
  unfold put Vbkdai.massOf
  refine Nat.lt_of_le_of_lt (sum_bound (B := 2 ^ 3000) _ fun x hx => ?_) ?_
  · obtain ⟨n, hn, rfl⟩ := List.mem_map.mp hx
    exact Nat.le_of_lt (term_small hp ht (hm n hn))
  · rw [List.length_map]
    refine Nat.lt_of_le_of_lt (Nat.mul_le_mul_right _ (show l.length ≤ 2 ^ 6 by omega)) ?_
    rw [← Nat.pow_add]
    exact Nat.pow_lt_pow_right (by decide) (by decide)
theorem until_go {t : Nat} {p s : Qd} {l : List Nat} {i n : Nat} (h : l[i]? = some n) (m : Nat) (r : Vbkdai.reaches t p s m = false) : Vbkdai.until_ t p s m (l.drop i) = n :: Vbkdai.until_ t p s (m + Vbkdai.term t p n) (l.drop (i + 1)) := by
  obtain ⟨hi, e⟩ := List.getElem?_eq_some_iff.mp h
  rw [List.drop_eq_getElem_cons hi, e]
  show (if Vbkdai.reaches t p s m = true then [] else n :: _) = _
  rw [if_neg (by rw [r]; decide)]
theorem until_stop {t : Nat} {p s : Qd} {l : List Nat} (m : Nat) (r : Vbkdai.reaches t p s m = true) : Vbkdai.until_ t p s m l = [] := by
  cases l with
  | nil => rfl
  | cons n l =>
    show (if Vbkdai.reaches t p s m = true then [] else n :: _) = _
    rw [if_pos r]
theorem until_mem {t : Nat} {p s : Qd} : ∀ {l : List Nat} {m x : Nat}, x ∈ Vbkdai.until_ t p s m l → x ∈ l
  | [], m, x, h => h
  | n :: l, m, x, h => by
    have h2 : x ∈ (if Vbkdai.reaches t p s m = true then [] else n :: Vbkdai.until_ t p s (m + Vbkdai.term t p n) l) := h
    split at h2
    · cases h2
    · rcases List.mem_cons.mp h2 with e | h2
      · rw [e]
        exact List.mem_cons_self
      · exact List.mem_cons_of_mem _ (until_mem h2)
theorem until_len {t : Nat} {p s : Qd} : ∀ {l : List Nat} {m : Nat}, (Vbkdai.until_ t p s m l).length ≤ l.length
  | [], m => Nat.le_refl _
  | n :: l, m => by
    show (if Vbkdai.reaches t p s m = true then [] else n :: Vbkdai.until_ t p s (m + Vbkdai.term t p n) l).length ≤ _
    split
    · exact Nat.zero_le _
    · exact Nat.succ_le_succ until_len
theorem reach0 {t : Nat} {p s : Qd} {k : Nat} (hp : Pr p) (hs : Fq k s) (h : 0 < s.n) : Vbkdai.reaches t p s 0 = false := by
  unfold Vbkdai.reaches
  refine decide_eq_false ?_
  have a := total_pos (t := t) hp
  have b : 0 < Vbkdai.upper s := by
    unfold Vbkdai.upper
    omega
  have := Nat.mul_pos b a
  omega
theorem until_some {t : Nat} {p s : Qd} {k : Nat} (hp : Pr p) (hs : Fq k s) (h : 0 < s.n) {l : List Nat} (hl : 0 < l.length) : 0 < (Vbkdai.until_ t p s 0 l).length := by
  cases l with
  | nil => exact absurd hl (by decide)
  | cons n l =>
    show 0 < (if Vbkdai.reaches t p s 0 = true then [] else n :: Vbkdai.until_ t p s (0 + Vbkdai.term t p n) l).length
    rw [if_neg (by rw [reach0 hp hs h]; decide)]
    exact Nat.succ_pos _
/-! ### orders -/
theorem order_perm {g : Nat} {c : Vbkdai.Chan} {p : Qd} (hp : Pr p) (h : ∀ p ∈ endsQ g c, Pr p) : (Vbkdai.orderOf g c p).Perm (List.range (c.trials + 1)) := by
  unfold Vbkdai.orderOf
  split
  · exact List.reverse_perm _
  · split
    · exact List.Perm.refl _
    · split
      · rw [likely_law hp]
        exact allF_perm _
      · rw [ratio_law hp h]
        exact allF_perm _
theorem order_len {g : Nat} {c : Vbkdai.Chan} {p : Qd} (hp : Pr p) (h : ∀ p ∈ endsQ g c, Pr p) : (Vbkdai.orderOf g c p).length = c.trials + 1 := by
  rw [(order_perm hp h).length_eq, List.length_range]
theorem order_mem {g : Nat} {c : Vbkdai.Chan} {p : Qd} (hp : Pr p) (h : ∀ p ∈ endsQ g c, Pr p) {n : Nat} (hn : n ∈ Vbkdai.orderOf g c p) : n ≤ c.trials := by
  have := List.mem_range.mp ((order_perm hp h).mem_iff.mp hn)
  omega
/-! ### central -/
theorem filter_lt (a : Nat) : ∀ N, (List.range N).filter (fun n => decide (n < a)) = (List.range N).take a
  | 0 => by simp
  | N + 1 => by
    rw [List.range_succ, List.filter_append, filter_lt a N]
    by_cases h : N < a
    · rw [List.take_of_length_le (by rw [List.length_range]; omega), List.take_of_length_le (by rw [List.length_append, List.length_range]; simp; omega)]
      simp [h]
    · rw [List.take_append_of_le_length (by rw [List.length_range]; omega)]
      simp [h]
theorem filter_gt (b : Nat) : ∀ N, (List.range N).filter (fun n => decide (b < n)) = (List.range N).drop (b + 1)
  | 0 => by simp
  | N + 1 => by
    rw [List.range_succ, List.filter_append, filter_gt b N]
    by_cases h : b < N
    · rw [List.drop_append_of_le_length (by rw [List.length_range]; omega)]
      simp [h]
    · rw [List.drop_of_length_le (by rw [List.length_range]; omega), List.drop_of_length_le (by rw [List.length_append, List.length_range]; simp; omega)]
      simp [h]
theorem light0 {t : Nat} {p s : Qd} : Vbkdai.lightEnough t p s 0 = true := by
  unfold Vbkdai.lightEnough
  refine decide_eq_true ?_
  simp
def lows (t : Nat) (p s : Qd) : List Nat := (List.range (t + 1)).filter fun a => Vbkdai.lightEnough t p s (Vbkdai.massOf t p ((List.range (t + 1)).filter fun n => decide (n < a)))
def highs (t : Nat) (p s : Qd) : List Nat := (List.range (t + 1)).filter fun b => Vbkdai.lightEnough t p s (Vbkdai.massOf t p ((List.range (t + 1)).filter fun n => decide (b < n)))
theorem lows_some (t : Nat) (p s : Qd) : 0 < (lows t p s).length := by
  apply List.length_pos_of_mem (a := 0)
  unfold lows
  refine List.mem_filter.mpr ⟨List.mem_range.mpr (Nat.succ_pos _), ?_⟩
  rw [filter_lt, List.take_zero]
  exact light0
theorem highs_some (t : Nat) (p s : Qd) : 0 < (highs t p s).length := by
  apply List.length_pos_of_mem (a := t)
  unfold highs
  refine List.mem_filter.mpr ⟨List.mem_range.mpr (Nat.lt_succ_self _), ?_⟩
  rw [filter_gt, List.drop_of_length_le (by rw [List.length_range]; exact Nat.le_refl _)]
  exact light0
theorem max_is {l : List Nat} {m : Int} (h : m ∈ nI l) (hm : ∀ y ∈ nI l, y ≤ m) : m = ((Vbkdai.greatest l : Nat) : Int) := by
  obtain ⟨n, hn, rfl⟩ := List.mem_map.mp h
  rw [greatest_is hn fun y hy => by
    have := hm (y : Int) (List.mem_map.mpr ⟨y, hy, rfl⟩)
    omega]
theorem min_is {l : List Nat} {m : Int} (h : m ∈ nI l) (hm : ∀ y ∈ nI l, m ≤ y) : m = ((Vbkdai.least l : Nat) : Int) := by
  obtain ⟨n, hn, rfl⟩ := List.mem_map.mp h
  rw [least_is hn fun y hy => by
    have := hm (y : Int) (List.mem_map.mpr ⟨y, hy, rfl⟩)
    omega]
theorem endsQ_pr {g : Nat} {c : Vbkdai.Chan} (h : ∀ k e, k < g → e ≤ 1 → Pr (Vbkdai.chanceAt g c k e)) : ∀ p ∈ endsQ g c, Pr p := fun p hp => by
  obtain ⟨k, e, hk, he, rfl⟩ := endsQ_mem hp
  exact h k e hk he
end Bc


-- end of a part
set_option Elab.async false
set_option linter.all false
set_option exponentiation.threshold 100000
/-! # plain laws: words, lines, numbers -/
namespace Bc
/-- the word that's begun: from a up to k -/
def cur (row : List Nat) (a k : Nat) : Option VbkdCore.Word := if a < k then some (a, (row.take k).drop a) else none
def done1 (row : List Nat) (a k : Nat) : List VbkdCore.Word := if a < k then [(a, (row.take k).drop a)] else []
theorem cur_none (row : List Nat) (k : Nat) : cur row k k = none := if_neg (Nat.lt_irrefl k)
theorem words_blank (row : List Nat) (a k : Nat) (r : List Nat) : VbkdCore.wordsFrom k (cur row a k) (32 :: r) = done1 row a k ++ VbkdCore.wordsFrom (k + 1) (cur row (k + 1) (k + 1)) r := by
  rw [cur_none]
  unfold cur done1
  by_cases h : a < k
  · rw [if_pos h, if_pos h]
    rfl
  · rw [if_neg h, if_neg h]
    rfl
theorem words_other {row : List Nat} {a k c : Nat} {r : List Nat} (hk : row[k]? = some c) (hc : c ≠ 32) (ha : a ≤ k) : VbkdCore.wordsFrom k (cur row a k) (c :: r) = VbkdCore.wordsFrom (k + 1) (cur row a (k + 1)) r := by
  have e : VbkdCore.wordsFrom k (cur row a k) (c :: r) = VbkdCore.wordsFrom (k + 1) (some (match cur row a k with
      | none => (k, [c])
      | some w => (w.1, w.2 ++ [c]))) r := by
    generalize cur row a k = o
    cases o with
    | none => 
      show (if c = 32 then _ else _) = _
      rw [if_neg hc]
    | some w =>
      show (if c = 32 then _ else _) = _
      rw [if_neg hc]
  rw [e]
  congr 1
  have l : k ≤ row.length := by have := (List.getElem?_eq_some_iff.mp hk).1; omega
  have t : row.take (k + 1) = row.take k ++ [c] := take_succ hk
  unfold cur
  rw [if_pos (show a < k + 1 by omega), t, List.drop_append_of_le_length (by rw [List.length_take]; omega)]
  by_cases h : a < k
  · rw [if_pos h]
  · have : a = k := by omega
    subst this
    rw [if_neg h, List.drop_of_length_le (by rw [List.length_take]; omega)]
    rfl
theorem words_end (row : List Nat) (a k : Nat) : VbkdCore.wordsFrom k (cur row a k) [] = done1 row a k := by
  unfold cur done1
  by_cases h : a < k
  · rw [if_pos h, if_pos h]
    rfl
  · rw [if_neg h, if_neg h]
    rfl
theorem lines_more {s : List Nat} (r : List Nat) : ∀ {b : Nat}, (∀ x ∈ s, x ≠ 10) → VbkdCore.linesFrom b (s ++ 10 :: r) = (b, s) :: VbkdCore.linesFrom (b + s.length + 1) r := by
  induction s with
  | nil => intro b _; rfl
  | cons c s ih =>
    intro b h
    have hc : c ≠ 10 := h c List.mem_cons_self
    rw [List.cons_append, VbkdCore.linesFrom, if_neg hc, ih fun x hx => h x (List.mem_cons_of_mem _ hx)]
    show (b, c :: s) :: VbkdCore.linesFrom (b + 1 + s.length + 1) r = (b, c :: s) :: VbkdCore.linesFrom (b + (s.length + 1) + 1) r
    rw [show b + 1 + s.length + 1 = b + (s.length + 1) + 1 by omega]
theorem lines_last {s : List Nat} : ∀ {b : Nat}, (∀ x ∈ s, x ≠ 10) → VbkdCore.linesFrom b s = [(b, s)] := by
  induction s with
  | nil => intro b _; rfl
  | cons c s ih =>
    intro b h
    have hc : c ≠ 10 := h c List.mem_cons_self
    show (if c = 10 then _ else _) = _
    rw [if_neg hc, ih fun x hx => h x (List.mem_cons_of_mem _ hx)]
/-! ### numbers -/
theorem value_more (l : List Nat) : ∀ (n k : Nat), n < 10 ^ k → (∀ c ∈ l, 48 ≤ c ∧ c ≤ 57) → l.foldl (fun n c => 10 * n + (c - 48)) n < 10 ^ (k + l.length) := by
  induction l with
  | nil => intro n k h _; exact h
  | cons c l ih =>
    intro n k h hl
    have := hl c List.mem_cons_self
    have z : 10 * n + (c - 48) < 10 ^ (k + 1) := by
      rw [Nat.pow_succ]
      omega
    have := ih _ (k + 1) z fun x hx => hl x (List.mem_cons_of_mem _ hx)
    rw [List.length_cons, show k + (l.length + 1) = k + 1 + l.length by omega]
    exact this
theorem digits_iff {l : List Nat} : l.all VbkdCore.isDigit = true ↔ ∀ c ∈ l, 48 ≤ c ∧ c ≤ 57 := by
  rw [List.all_eq_true]
  refine ⟨fun h c hc => ?_, fun h c hc => ?_⟩
  · have := h c hc
    unfold VbkdCore.isDigit at this
    rw [Bool.and_eq_true, decide_eq_true_eq, decide_eq_true_eq] at this
    exact this
  · unfold VbkdCore.isDigit
    rw [Bool.and_eq_true, decide_eq_true_eq, decide_eq_true_eq]
    exact h c hc
def digB (w : List Nat) : Bool := decide (w ≠ []) && w.all VbkdCore.isDigit
/-- as the program asks it -/
theorem numeral_no {w : List Nat} (h : digB w = false ∨ 7 < w.length ∨ (1 < w.length ∧ w.head? = some 48)) : VbkdCore.numeral w = none := by
  unfold VbkdCore.numeral
  refine if_neg ?_
  intro z
  rw [Bool.and_eq_true, Bool.and_eq_true, Bool.and_eq_true, decide_eq_true_eq, decide_eq_true_eq, Bool.or_eq_true] at z
  obtain ⟨z1, z2, z3, z4⟩ := z
  rcases h with h | h | ⟨h, h2⟩
  · unfold digB at h
    rw [z3, Bool.and_true, decide_eq_false_iff_not] at h
    refine h fun e => ?_
    rw [e] at z1
    exact absurd z1 (by decide)
  · omega
  · cases w with
    | nil => cases h2
    | cons c l =>
      cases Option.some.inj h2
      rcases z4 with z4 | z4
      · have := beq_iff_eq.mp z4
        omega
      · exact absurd z4 (by show ¬ (bne 48 48) = true; decide)
theorem numeral_yes {w : List Nat} (h1 : digB w = true) (h2 : ¬ 7 < w.length) (h3 : ¬ (1 < w.length ∧ w.head? = some 48)) : VbkdCore.numeral w = some (VbkdCore.valueOf w) := by
  unfold VbkdCore.numeral
  unfold digB at h1
  rw [Bool.and_eq_true, decide_eq_true_eq] at h1
  refine if_pos ?_
  cases w with
  | nil => exact absurd rfl h1.1
  | cons c l =>
    rw [Bool.and_eq_true, Bool.and_eq_true, Bool.and_eq_true, decide_eq_true_eq, decide_eq_true_eq, Bool.or_eq_true]
    refine ⟨by simp, by omega, h1.2, ?_⟩
    by_cases e : c = 48
    · subst e
      refine .inl ?_
      by_cases l0 : 1 < (48 :: l).length
      · exact absurd ⟨l0, rfl⟩ h3
      · rw [beq_iff_eq]
        simp at l0 ⊢
        exact l0
    · refine .inr ?_
      show (bne c 48) = true
      simp [e]
theorem numeral_small {w : List Nat} {n : Nat} (h : VbkdCore.numeral w = some n) : n < 10 ^ 7 := by
  unfold VbkdCore.numeral at h
  split at h
  · rename_i z
    rw [Bool.and_eq_true, Bool.and_eq_true, Bool.and_eq_true, decide_eq_true_eq, decide_eq_true_eq, Bool.or_eq_true] at z
    obtain ⟨z1, z2, z3, z4⟩ := z
    cases Option.some.inj h
    have := value_more w 0 0 (by decide) (digits_iff.mp z3)
    refine Nat.lt_of_lt_of_le this (Nat.pow_le_pow_right (by decide) (by omega))
  · cases h
theorem numeral_slash {w : List Nat} (h : 47 ∈ w) : VbkdCore.numeral w = none := by
  refine numeral_no (.inl ?_)
  unfold digB
  rw [show w.all VbkdCore.isDigit = false from by
    cases e : w.all VbkdCore.isDigit with
    | false => rfl
    | true =>
      have := digits_iff.mp e 47 h
      omega, Bool.and_false]
theorem signed_other {w : List Nat} (h : w.take 1 ≠ [45]) : VbkdCore.signed w = (VbkdCore.numeral w).map fun n : Nat => (n : Int) := by
  unfold VbkdCore.signed
  split
  · exact absurd rfl h
  · cases VbkdCore.numeral w <;> rfl
theorem signed_minus {w r : List Nat} (h : w = 45 :: r) : VbkdCore.signed w = (VbkdCore.numeral r).bind fun n => if n = 0 then none else some (-(n : Int)) := by
  subst h
  rfl
theorem signed_small {w : List Nat} {z : Int} (h : VbkdCore.signed w = some z) : z.natAbs < 10 ^ 7 := by
  by_cases c : w.take 1 = [45]
  · obtain ⟨r, rfl⟩ : ∃ r, w = 45 :: r := by
      cases w with
      | nil => cases c
      | cons x r =>
        have : x = 45 := by
          have := (List.cons.inj c).1
          exact this
        exact ⟨r, by rw [this]⟩
    rw [signed_minus rfl] at h
    obtain ⟨n, hn, h⟩ := Option.bind_eq_some_iff.mp h
    have := numeral_small hn
    split at h
    · cases h
    · cases h
      omega
  · rw [signed_other c] at h
    obtain ⟨n, hn, h⟩ := Option.map_eq_some_iff.mp h
    have := numeral_small hn
    subst h
    omega
/-! ### fractions -/
theorem split_none (c : Nat) : ∀ {w : List Nat}, c ∉ w → VbkdCore.splitAt c w = [w]
  | [], _ => rfl
  | x :: r, h => by
    have h1 : ¬ x = c := fun e => h (by rw [e]; exact List.mem_cons_self)
    show (if x = c then _ else _) = _
    rw [if_neg h1, split_none c fun z => h (List.mem_cons_of_mem _ z)]
theorem split_ne (c : Nat) : ∀ w : List Nat, ∃ x l, VbkdCore.splitAt c w = x :: l
  | [] => ⟨_, _, rfl⟩
  | y :: r => by
    obtain ⟨x, l, e⟩ := split_ne c r
    show ∃ x l, (if y = c then _ else _) = _
    by_cases h : y = c
    · rw [if_pos h]
      exact ⟨_, _, rfl⟩
    · rw [if_neg h, e]
      exact ⟨_, _, rfl⟩
theorem split_at (c : Nat) (b : List Nat) : ∀ {a : List Nat}, c ∉ a → VbkdCore.splitAt c (a ++ c :: b) = a :: VbkdCore.splitAt c b
  | [], _ => by
    show (if c = c then _ else _) = _
    rw [if_pos rfl]
  | x :: r, h => by
    have h1 : ¬ x = c := fun e => h (by rw [e]; exact List.mem_cons_self)
    rw [List.cons_append, VbkdCore.splitAt, if_neg h1, split_at c b fun z => h (List.mem_cons_of_mem _ z)]
theorem readQ_one {w : List Nat} (h : 47 ∉ w) : VbkdCore.readQ w = (VbkdCore.signed w).map VbkdCore.whole := by
  unfold VbkdCore.readQ
  rw [split_none 47 h]
theorem readQ_two {a b : List Nat} (h : 47 ∉ a) : VbkdCore.readQ (a ++ 47 :: b) = (VbkdCore.signed a).bind fun n => (VbkdCore.numeral b).bind fun d => if d ≤ 1 ∨ VbkdCore.mk n d ≠ ⟨n, d⟩ then none else some ⟨n, d⟩ := by
  by_cases hb : 47 ∈ b
  · rw [numeral_slash hb]
    have : VbkdCore.readQ (a ++ 47 :: b) = none := by
      unfold VbkdCore.readQ
      rw [split_at 47 b h]
      obtain ⟨a1, b1, rfl, h1⟩ : ∃ a1 b1, b = a1 ++ 47 :: b1 ∧ 47 ∉ a1 := by
        clear h
        induction b with
        | nil => cases hb
        | cons x r ih =>
          by_cases e : x = 47
          · exact ⟨[], r, by rw [e]; rfl, by simp⟩
          · rcases List.mem_cons.mp hb with e2 | e2
            · exact absurd e2.symm e
            · obtain ⟨a1, b1, e3, e4⟩ := ih e2
              refine ⟨x :: a1, b1, by rw [e3]; rfl, fun z => ?_⟩
              rcases List.mem_cons.mp z with e5 | e5
              · exact e e5.symm
              · exact e4 e5
      rw [split_at 47 b1 h1]
      obtain ⟨x, l, e⟩ := split_ne 47 b1
      rw [e]
    rw [this]
    cases VbkdCore.signed a <;> rfl
  · unfold VbkdCore.readQ
    rw [split_at 47 b h, split_none 47 hb]
theorem mk_same {n : Int} {d : Nat} (h : 1 < d) : VbkdCore.mk n d = ⟨n, d⟩ ↔ Nat.gcd n.natAbs d = 1 := by
  unfold VbkdCore.mk
  rw [if_neg (by omega)]
  have g0 : 0 < Nat.gcd n.natAbs d := Nat.gcd_pos_of_pos_right _ (by omega)
  refine ⟨fun e => ?_, fun e => ?_⟩
  · have e2 : d / Nat.gcd n.natAbs d = d := congrArg VbkdCore.Q.d e
    by_cases c : Nat.gcd n.natAbs d = 1
    · exact c
    · have := Nat.div_lt_self (show 0 < d by omega) (show 1 < Nat.gcd n.natAbs d by omega)
      omega
  · show (⟨n / ((Nat.gcd n.natAbs d : Nat) : Int), d / Nat.gcd n.natAbs d⟩ : Qd) = _
    rw [e, Nat.div_one]
    congr 1
    exact Int.ediv_one n
end Bc


-- end of a part
set_option Elab.async false
set_option linter.all false
set_option exponentiation.threshold 100000
/-! # plain laws: what is asked of numbers -/
namespace Bc
def wantB (b : Bool) (n : Int) : Except Int Unit := if b = true then .ok () else .error n
def upTo (l : List Int) (m : Int) : Except Int Unit := wantB (l.all fun z => Vbkdai.within z 0 m) (-1)
def fracR (a d : Int) : Except Int Qd := match Vbkdai.fracOf a d with
  | none => .error (-1)
  | some q => .ok q
def wantC (p : Vbkdai.Plan) (c : Int) : Except Int Vbkdai.Chan := match p.chans[c.toNat]? with
  | none => .error (-2)
  | some x => .ok x
def wantP (p : Vbkdai.Plan) (ps : List Int) : Except Int Unit := wantB (ps.all fun k => decide (k < (p.parts : Int))) (-5)
def chanR (p : Vbkdai.Plan) (c : Int) (ps : List Int) : Except Int Vbkdai.Chan := (upTo [c] 3).bind fun _ => (upTo ps 11).bind fun _ => (wantC p c).bind fun x => (wantP p ps).bind fun _ => .ok x
theorem wantB_ok {b : Bool} {n : Int} {u : Unit} (h : wantB b n = .ok u) : b = true := by
  unfold wantB at h
  split at h
  · assumption
  · cases h
theorem wantB_t {b : Bool} {n : Int} (h : b = true) : wantB b n = .ok () := if_pos h
theorem wantB_f {b : Bool} {n : Int} (h : b = false) : wantB b n = .error n := if_neg (by rw [h]; decide)
theorem within_iff {z m : Int} : Vbkdai.within z 0 m = true ↔ 0 ≤ z ∧ z ≤ m := by
  unfold Vbkdai.within
  rw [Bool.and_eq_true, decide_eq_true_eq, decide_eq_true_eq]
theorem upTo_ok {l : List Int} {m : Int} {u : Unit} (h : upTo l m = .ok u) : ∀ z ∈ l, 0 ≤ z ∧ z ≤ m := fun z hz => within_iff.mp (List.all_eq_true.mp (wantB_ok h) z hz)
theorem fracR_ok {a d : Int} {q : Qd} (h : fracR a d = .ok q) : Fq 1000 q := by
  unfold fracR Vbkdai.fracOf at h
  by_cases c : Vbkdai.within d 1 (Vbkdai.LOW : Int) = true ∧ Vbkdai.within a 0 d = true
  · rw [if_pos c] at h
    cases h
    have c1 : 1 ≤ d ∧ d ≤ 1000 := by
      have := c.1
      unfold Vbkdai.within at this
      rw [Bool.and_eq_true, decide_eq_true_eq, decide_eq_true_eq] at this
      exact this
    have c2 := within_iff.mp c.2
    exact (mk_fq (by omega) c2.1 (by omega)).mono (by omega)
  · rw [if_neg c] at h
    cases h
theorem bind_ok {ε α β : Type} {x : Except ε α} {f : α → Except ε β} {y : β} (h : x.bind f = .ok y) : ∃ a, x = .ok a ∧ f a = .ok y := by
  cases x with
  | error e => cases h
  | ok a => exact ⟨a, rfl, h⟩
theorem wantC_ok {p : Vbkdai.Plan} {c : Int} {x : Vbkdai.Chan} (h : wantC p c = .ok x) : p.chans[c.toNat]? = some x := by
  unfold wantC at h
  cases e : p.chans[c.toNat]? with
  | none => rw [e] at h; cases h
  | some y => rw [e] at h; cases h; rfl
theorem chanR_ok {p : Vbkdai.Plan} {c : Int} {ps : List Int} {x : Vbkdai.Chan} (h : chanR p c ps = .ok x) : (0 ≤ c ∧ c ≤ 3) ∧ (∀ k ∈ ps, 0 ≤ k ∧ k ≤ 11 ∧ k < (p.parts : Int)) ∧ p.chans[c.toNat]? = some x := by
  unfold chanR at h
  obtain ⟨_, h1, h⟩ := bind_ok h
  obtain ⟨_, h2, h⟩ := bind_ok h
  obtain ⟨y, h3, h⟩ := bind_ok h
  obtain ⟨_, h4, h⟩ := bind_ok h
  cases h
  refine ⟨upTo_ok h1 c List.mem_cons_self, fun k hk => ?_, wantC_ok h3⟩
  have a := upTo_ok h2 k hk
  have b := of_decide_eq_true (List.all_eq_true.mp (wantB_ok h4) k hk)
  exact ⟨a.1, a.2, b⟩
/-! ### how often -/
theorem stretch_is {t a b : Nat} (h : b ≤ t) : Vbkdai.stretch a b = ((List.range (t + 1)).take (b + 1)).drop a := by
  unfold Vbkdai.stretch
  have e : (List.range (t + 1)).take (b + 1) = List.range (b + 1) := by
    rw [List.take_range, Nat.min_eq_left (by omega)]
  rw [e]
  cases a with
  | zero =>
    rw [List.drop_zero]
    exact List.filter_eq_self.mpr fun n _ => decide_eq_true (Nat.zero_le n)
  | succ a => exact filter_gt a (b + 1)
theorem greatest_le {t : Nat} : ∀ {l : List Nat} {m : Nat}, (∀ n ∈ l, n ≤ t) → m ≤ t → l.foldl max m ≤ t
  | [], _, _, h => h
  | a :: r, m, h, hm => greatest_le (l := r) (m := max m a) (fun n hn => h n (List.mem_cons_of_mem _ hn)) (by have := h a List.mem_cons_self; omega)
theorem least_le {t : Nat} : ∀ {l : List Nat}, (∀ n ∈ l, n ≤ t) → Vbkdai.least l ≤ t := by
  intro l h
  cases l with
  | nil => exact Nat.zero_le _
  | cons a r =>
    show r.foldl min a ≤ t
    have ha := h a List.mem_cons_self
    clear h
    induction r generalizing a with
    | nil => exact ha
    | cons b r ih => exact ih (min a b) (by omega)
theorem letAt_le {g : Nat} {c : Vbkdai.Chan} {p : Qd} (hp : Pr p) (h : ∀ p ∈ endsQ g c, Pr p) : (Vbkdai.letAt g c p).2 ≤ c.trials := by
  unfold Vbkdai.letAt
  split
  · show Vbkdai.centralHigh c.trials p c.sure ≤ c.trials
    unfold Vbkdai.centralHigh
    refine least_le fun n hn => ?_
    have := List.mem_range.mp (List.mem_filter.mp hn).1
    omega
  · show Vbkdai.greatest _ ≤ _
    unfold Vbkdai.greatest
    exact greatest_le (fun n hn => order_mem hp h (until_mem hn)) (Nat.zero_le _)
end Bc


-- end of a part
set_option Elab.async false
set_option linter.all false
set_option exponentiation.threshold 100000
/-! # what each call answers behind 0, or by which number it's refused -/
namespace Bc
open Vbkdai (Plan Chan qRow chance chanceAt letIn belt partsRow partsFor partsOf counted)
abbrev Res := Except Int (List Int)
def mText (p : Plan) : List Int := counted (Vbkdai.planText p)
def mChance (p : Plan) (c k e : Int) : Res := (upTo [e] 1).bind fun _ => (chanR p c [k]).bind fun x => .ok (qRow (chanceAt p.parts x k.toNat e.toNat))
def mOften (p : Plan) (c k e a b : Int) : Res := (upTo [e] 1).bind fun _ => (upTo [a, b] 40).bind fun _ => (wantB (decide (a ≤ b)) (-1)).bind fun _ => (chanR p c [k]).bind fun x => (wantB (decide (b ≤ (x.trials : Int))) (-3)).bind fun _ => .ok (qRow (chance x.trials (chanceAt p.parts x k.toNat e.toNat) a.toNat b.toNat))
def mPart (p : Plan) (c k : Int) : Res := (chanR p c [k]).bind fun x => .ok (Vbkdai.ints [(letIn p.parts x k.toNat).1, (letIn p.parts x k.toNat).2] ++ (qRow (chance x.trials (chanceAt p.parts x k.toNat 0) (letIn p.parts x k.toNat).1 (letIn p.parts x k.toNat).2) ++ qRow (chance x.trials (chanceAt p.parts x k.toNat 1) (letIn p.parts x k.toNat).1 (letIn p.parts x k.toNat).2)))
def mBelt (p : Plan) (c : Int) : Res := (chanR p c []).bind fun x => .ok ((p.parts : Int) :: (belt p.parts x).flatMap fun y => Vbkdai.ints [y.1, y.2])
def mWould (p : Plan) (c n : Int) : Res := (upTo [n] 40).bind fun _ => (chanR p c []).bind fun x => (wantB (decide (n ≤ (x.trials : Int))) (-3)).bind fun _ => .ok (partsRow p.parts (partsFor p.parts x n.toNat))
def mLeaves (p : Plan) (cs : List (Option Nat)) (c : Int) : Res := (chanR p c []).bind fun x => match cs.getD c.toNat none with
  | none => .error (-6)
  | some n => .ok (partsRow p.parts (partsFor p.parts x n))
def mJoint (p : Plan) (cs : List (Option Nat)) : List Int := qRow (Vbkdai.sureOf p cs) ++ partsRow p.parts (Vbkdai.jointly p cs)
def mCovers (p : Plan) (c k a d b f g h : Int) : Res := (fracR a d).bind fun t => (fracR b f).bind fun u => (fracR g h).bind fun v => (chanR p c [k]).bind fun x =>
  (wantB (VbkdCore.le (VbkdCore.mk k p.parts) t && VbkdCore.le t (VbkdCore.mk (k + 1) p.parts)) (-7)).bind fun _ => (wantB (VbkdCore.le x.base1 u && VbkdCore.le u x.base2) (-7)).bind fun _ => (wantB (VbkdCore.le x.gain1 v && VbkdCore.le v x.gain2) (-7)).bind fun _ =>
    .ok (qRow (chance x.trials (VbkdCore.add u (VbkdCore.mul v t)) (letIn p.parts x k.toNat).1 (letIn p.parts x k.toNat).2))
def mApart (p : Plan) (c k j e : Int) : Res := (upTo [e] 1).bind fun _ => (chanR p c [k, j]).bind fun x => .ok (qRow (Vbkdai.apart p.parts x k.toNat j.toNat e.toNat))
def fewR (o : Option Nat) : List Int := match o with
  | none => [0]
  | some t => [1, (t : Int)]
def mFewest (p : Plan) (c k j e a d : Int) : Res := (upTo [e] 1).bind fun _ => (fracR a d).bind fun q => (chanR p c [k, j]).bind fun x => .ok (fewR (Vbkdai.fewest p.parts x k.toNat j.toNat e.toNat q))
def mFew (p : Plan) (c k e : Int) : Res := (upTo [e] 1).bind fun _ => (chanR p c [k]).bind fun x => .ok [(Vbkdai.fewCounts p.parts x k.toNat e.toNat : Int)]
def mTable (p : Plan) (c : Int) : Res := (chanR p c []).bind fun x => .ok (((x.trials : Int) + 1) :: (List.range (x.trials + 1)).flatMap fun n => counted (partsOf (belt p.parts x) n))
def cntR (x : Chan × Option Nat) : List Int := [(x.1.trials : Int), (x.1.order : Int), match x.2 with
    | none => -1
    | some n => (n : Int)]
def mCounts (p : Plan) (cs : List (Option Nat)) : List Int := (p.parts : Int) :: (p.chans.length : Int) :: (p.chans.zip cs).flatMap cntR
abbrev ResS := Except Int (Plan × List (Option Nat))
def mSet (p : Plan) (cs : List (Option Nat)) (c n : Int) : ResS := (upTo [n] 40).bind fun _ => (chanR p c []).bind fun x => (wantB (decide (n ≤ (x.trials : Int))) (-3)).bind fun _ => .ok (p, cs.set c.toNat (some n.toNat))
def mForget (p : Plan) (cs : List (Option Nat)) (c : Int) : ResS := (chanR p c []).bind fun _ => .ok (p, cs.set c.toNat none)
def mOrder (p : Plan) (cs : List (Option Nat)) (c o : Int) : ResS := (upTo [o] 4).bind fun _ => (chanR p c []).bind fun x => .ok ({ p with chans := p.chans.set c.toNat { x with order := o.toNat } }, cs)
def mSure (p : Plan) (cs : List (Option Nat)) (c a d : Int) : ResS := (fracR a d).bind fun q => (wantB (VbkdCore.less Vbkdai.zero q) (-1)).bind fun _ => (chanR p c []).bind fun x => .ok ({ p with chans := p.chans.set c.toNat { x with sure := q } }, cs)
end Bc


-- end of a part
set_option Elab.async false
set_option linter.all false
set_option exponentiation.threshold 100000
/-! # plain laws: each step is what the program's methods answer -/
namespace Bc
open Vbkdai (Plan Chan State qRow chance chanceAt letIn belt partsRow partsFor partsOf counted)
def outR (s : State) : Res → State × List Int
  | .error n => (s, [n])
  | .ok l => (s, 0 :: l)
def outS (s : State) : ResS → State × List Int
  | .error n => (s, [n])
  | .ok x => (⟨some x.1, x.2⟩, [0])
theorem ch1 : ((Vbkdai.CHANS : Nat) : Int) - 1 = 3 := rfl
theorem wantB_and {α : Type} {a b : Bool} {n : Int} {F : Unit → Except Int α} : ((wantB a n).bind fun _ => (wantB b n).bind F) = (wantB (a && b) n).bind F := by
  cases a <;> cases b <;> rfl
theorem upTo_one (z m : Int) : upTo [z] m = wantB (Vbkdai.within z 0 m) (-1) := by
  unfold upTo
  rw [List.all_cons, List.all_nil, Bool.and_true]
theorem chanR_nf {α : Type} {p : Plan} {c : Int} {ps : List Int} {F : Chan → Except Int α} : (chanR p c ps).bind F = (wantB (Vbkdai.within c 0 3 && ps.all fun z => Vbkdai.within z 0 11) (-1)).bind fun _ => (wantC p c).bind fun x => (wantP p ps).bind fun _ => F x := by
  unfold chanR
  rw [upTo_one]
  unfold upTo
  rw [wantB_and]
  cases wantB (Vbkdai.within c 0 3 && ps.all fun z => Vbkdai.within z 0 11) (-1) with
  | error e => rfl
  | ok u =>
    show ((wantC p c).bind _).bind F = _
    cases wantC p c with
    | error e => rfl
    | ok x =>
      show ((wantP p ps).bind _).bind F = _
      cases wantP p ps <;> rfl
theorem onChan_R {p : Plan} {cs : List (Option Nat)} {c : Int} {o : Bool} {f : Plan → Chan → State × List Int} {G : Chan → Res} (h : ∀ x, f p x = outR ⟨some p, cs⟩ (G x)) :
    Vbkdai.onChan ⟨some p, cs⟩ c o f = outR ⟨some p, cs⟩ ((wantB (Vbkdai.within c 0 3 && o) (-1)).bind fun _ => (wantC p c).bind G) := by
  show (if (Vbkdai.within c 0 3 && o) = false then _ else _) = _
  cases hb : Vbkdai.within c 0 3 && o with
  | false => rfl
  | true =>
    show (match p.chans[c.toNat]? with
      | none => Vbkdai.no _ (-2)
      | some x => f p x) = outR _ ((wantC p c).bind G)
    unfold wantC
    cases p.chans[c.toNat]? with
    | none => rfl
    | some x => exact h x
theorem onChan_S {p : Plan} {cs : List (Option Nat)} {c : Int} {o : Bool} {f : Plan → Chan → State × List Int} {G : Chan → ResS} (h : ∀ x, f p x = outS ⟨some p, cs⟩ (G x)) :
    Vbkdai.onChan ⟨some p, cs⟩ c o f = outS ⟨some p, cs⟩ ((wantB (Vbkdai.within c 0 3 && o) (-1)).bind fun _ => (wantC p c).bind G) := by
  show (if (Vbkdai.within c 0 3 && o) = false then _ else _) = _
  cases hb : Vbkdai.within c 0 3 && o with
  | false => rfl
  | true =>
    show (match p.chans[c.toNat]? with
      | none => Vbkdai.no _ (-2)
      | some x => f p x) = outS _ ((wantC p c).bind G)
    unfold wantC
    cases p.chans[c.toNat]? with
    | none => rfl
    | some x => exact h x
/-- too far: refused by -5 -/
theorem part_R {s : State} {p : Plan} {k : Int} {l : List Int} : (if (p.parts : Int) ≤ k then Vbkdai.no s (-5) else Vbkdai.yes s l) = outR s ((wantP p [k]).bind fun _ => .ok l) := by
  unfold wantP
  rw [List.all_cons, List.all_nil, Bool.and_true]
  by_cases h : (p.parts : Int) ≤ k
  · rw [if_pos h, decide_eq_false (by omega)]
    rfl
  · rw [if_neg h, decide_eq_true (by omega)]
    rfl
theorem parts_R {s : State} {p : Plan} {k j : Int} {l : List Int} : (if (p.parts : Int) ≤ k ∨ (p.parts : Int) ≤ j then Vbkdai.no s (-5) else Vbkdai.yes s l) = outR s ((wantP p [k, j]).bind fun _ => .ok l) := by
  unfold wantP
  rw [List.all_cons, List.all_cons, List.all_nil, Bool.and_true]
  by_cases h : (p.parts : Int) ≤ k
  · rw [if_pos (.inl h), decide_eq_false (by omega)]
    rfl
  · by_cases h2 : (p.parts : Int) ≤ j
    · rw [if_pos (.inr h2), decide_eq_true (by omega), decide_eq_false (by omega)]
      rfl
    · rw [if_neg (by omega), decide_eq_true (by omega), decide_eq_true (by omega)]
      rfl
theorem none_R {p : Plan} : wantP p [] = .ok () := rfl
theorem bool3 (a b c : Bool) : (c && (a && b)) = (a && (b && c)) := by cases a <;> cases b <;> cases c <;> rfl
theorem step4 (p : Plan) (cs : List (Option Nat)) (c k e : Int) : Vbkdai.step ⟨some p, cs⟩ [[4, c, k, e]] = outR ⟨some p, cs⟩ (mChance p c k e) := by
  refine (onChan_R (fun x => part_R)).trans ?_
  unfold mChance
  rw [upTo_one]
  simp only [chanR_nf]
  rw [wantB_and, List.all_cons, List.all_nil, Bool.and_true, bool3 (Vbkdai.within c 0 3) (Vbkdai.within k 0 11) (Vbkdai.within e 0 1)]
  rfl
theorem step6 (p : Plan) (cs : List (Option Nat)) (c k : Int) : Vbkdai.step ⟨some p, cs⟩ [[6, c, k]] = outR ⟨some p, cs⟩ (mPart p c k) := by
  refine (onChan_R (fun x => part_R)).trans ?_
  unfold mPart
  simp only [chanR_nf]
  rw [List.all_cons, List.all_nil, Bool.and_true]
  rfl
theorem step7 (p : Plan) (cs : List (Option Nat)) (c : Int) : Vbkdai.step ⟨some p, cs⟩ [[7, c]] = outR ⟨some p, cs⟩ (mBelt p c) := by
  refine (onChan_R (G := fun x => .ok ((p.parts : Int) :: (belt p.parts x).flatMap fun y => Vbkdai.ints [y.1, y.2])) (fun x => rfl)).trans ?_
  unfold mBelt
  simp only [chanR_nf]
  rfl
theorem step13 (p : Plan) (cs : List (Option Nat)) (c k j e : Int) : Vbkdai.step ⟨some p, cs⟩ [[13, c, k, j, e]] = outR ⟨some p, cs⟩ (mApart p c k j e) := by
  refine (onChan_R (fun x => parts_R)).trans ?_
  unfold mApart
  rw [upTo_one]
  simp only [chanR_nf]
  rw [wantB_and, List.all_cons, List.all_cons, List.all_nil, Bool.and_true]
  have : ∀ a b d e : Bool, (e && (a && (b && d))) = (a && (b && (d && e))) := by decide
  rw [this (Vbkdai.within c 0 3) (Vbkdai.within k 0 11) (Vbkdai.within j 0 11) (Vbkdai.within e 0 1)]
  rfl
theorem step15 (p : Plan) (cs : List (Option Nat)) (c k e : Int) : Vbkdai.step ⟨some p, cs⟩ [[15, c, k, e]] = outR ⟨some p, cs⟩ (mFew p c k e) := by
  refine (onChan_R (fun x => part_R)).trans ?_
  unfold mFew
  rw [upTo_one]
  simp only [chanR_nf]
  rw [wantB_and, List.all_cons, List.all_nil, Bool.and_true, bool3 (Vbkdai.within c 0 3) (Vbkdai.within k 0 11) (Vbkdai.within e 0 1)]
  rfl
theorem step16 (p : Plan) (cs : List (Option Nat)) (c : Int) : Vbkdai.step ⟨some p, cs⟩ [[16, c]] = outR ⟨some p, cs⟩ (mTable p c) := by
  refine (onChan_R (G := fun x => .ok (((x.trials : Int) + 1) :: (List.range (x.trials + 1)).flatMap fun n => counted (partsOf (belt p.parts x) n))) (fun x => rfl)).trans ?_
  unfold mTable
  simp only [chanR_nf]
  rfl
theorem step9 (p : Plan) (cs : List (Option Nat)) (c : Int) : Vbkdai.step ⟨some p, cs⟩ [[9, c]] = outR ⟨some p, cs⟩ (mLeaves p cs c) := by
  refine (onChan_R (G := fun x => match cs.getD c.toNat none with
    | none => .error (-6)
    | some n => .ok (partsRow p.parts (partsFor p.parts x n))) (fun x => ?_)).trans ?_
  · show (match cs.getD c.toNat none with
      | none => Vbkdai.no _ (-6)
      | some n => Vbkdai.yes _ (partsRow p.parts (partsFor p.parts x n))) = _
    cases cs.getD c.toNat none <;> rfl
  · unfold mLeaves
    simp only [chanR_nf]
    rfl
theorem step1 (p : Plan) (cs : List (Option Nat)) : Vbkdai.step ⟨some p, cs⟩ [[1]] = (⟨some p, cs⟩, 0 :: mText p) := rfl
theorem step10 (p : Plan) (cs : List (Option Nat)) : Vbkdai.step ⟨some p, cs⟩ [[10]] = (⟨some p, cs⟩, 0 :: mJoint p cs) := rfl
theorem step19 (p : Plan) (cs : List (Option Nat)) : Vbkdai.step ⟨some p, cs⟩ [[19]] = (⟨some p, cs⟩, 0 :: mCounts p cs) := by
  show (_, 0 :: ((p.parts : Int) :: (p.chans.length : Int) :: (p.chans.zip cs).flatMap _)) = _
  unfold mCounts
  congr 4
/-- more than the trials: refused by -3 -/
theorem want_if {s : State} {b : Bool} {P : Prop} [Decidable P] {n : Int} {l : List Int} (h : b = true ↔ ¬ P) : (if P then Vbkdai.no s n else Vbkdai.yes s l) = outR s ((wantB b n).bind fun _ => .ok l) := by
  by_cases c : P
  · rw [if_pos c]
    cases b with
    | true => exact absurd c (h.mp rfl)
    | false => rfl
  · rw [if_neg c, h.mpr c]
    rfl
theorem step8 (p : Plan) (cs : List (Option Nat)) (c n : Int) : Vbkdai.step ⟨some p, cs⟩ [[8, c, n]] = outR ⟨some p, cs⟩ (mWould p c n) := by
  refine (onChan_R (fun x => want_if (b := decide (n ≤ (x.trials : Int))) (by rw [decide_eq_true_eq]; omega))).trans ?_
  unfold mWould
  rw [upTo_one]
  simp only [chanR_nf]
  rw [wantB_and, List.all_nil, Bool.and_true, Bool.and_comm]
  rfl
theorem step2 (p : Plan) (cs : List (Option Nat)) (c n : Int) : Vbkdai.step ⟨some p, cs⟩ [[2, c, n]] = outS ⟨some p, cs⟩ (mSet p cs c n) := by
  refine (onChan_S (G := fun x => (wantB (decide (n ≤ (x.trials : Int))) (-3)).bind fun _ => .ok (p, cs.set c.toNat (some n.toNat))) (fun x => ?_)).trans ?_
  · show (if (x.trials : Int) < n then _ else _) = _
    by_cases h : (x.trials : Int) < n
    · rw [if_pos h, decide_eq_false (by omega)]
      rfl
    · rw [if_neg h, decide_eq_true (by omega)]
      rfl
  · unfold mSet
    rw [upTo_one]
    simp only [chanR_nf]
    rw [wantB_and, List.all_nil, Bool.and_true, Bool.and_comm]
    rfl
theorem step3 (p : Plan) (cs : List (Option Nat)) (c : Int) : Vbkdai.step ⟨some p, cs⟩ [[3, c]] = outS ⟨some p, cs⟩ (mForget p cs c) := by
  refine (onChan_S (G := fun _ => .ok (p, cs.set c.toNat none)) (fun x => rfl)).trans ?_
  unfold mForget
  simp only [chanR_nf]
  rfl
theorem step17 (p : Plan) (cs : List (Option Nat)) (c o : Int) : Vbkdai.step ⟨some p, cs⟩ [[17, c, o]] = outS ⟨some p, cs⟩ (mOrder p cs c o) := by
  refine (onChan_S (G := fun x => .ok ({ p with chans := p.chans.set c.toNat { x with order := o.toNat } }, cs)) (fun x => rfl)).trans ?_
  unfold mOrder
  rw [upTo_one]
  simp only [chanR_nf]
  rw [wantB_and, List.all_nil, Bool.and_true, Bool.and_comm]
  rfl
theorem step5 (p : Plan) (cs : List (Option Nat)) (c k e a b : Int) : Vbkdai.step ⟨some p, cs⟩ [[5, c, k, e, a, b]] = outR ⟨some p, cs⟩ (mOften p c k e a b) := by
  refine (onChan_R (G := fun x => (wantP p [k]).bind fun _ => (wantB (decide (b ≤ (x.trials : Int))) (-3)).bind fun _ => .ok (qRow (chance x.trials (chanceAt p.parts x k.toNat e.toNat) a.toNat b.toNat))) (fun x => ?_)).trans ?_
  · show (if (p.parts : Int) ≤ k then _ else if (x.trials : Int) < b then _ else _) = _
    unfold wantP
    rw [List.all_cons, List.all_nil, Bool.and_true]
    by_cases h : (p.parts : Int) ≤ k
    · rw [if_pos h, decide_eq_false (by omega)]
      rfl
    · rw [if_neg h, decide_eq_true (by omega)]
      by_cases h2 : (x.trials : Int) < b
      · rw [if_pos h2, decide_eq_false (by omega)]
        rfl
      · rw [if_neg h2, decide_eq_true (by omega)]
        rfl
  · unfold mOften
    rw [upTo_one]
    unfold upTo
    simp only [chanR_nf, wantB_and]
    simp only [List.all_cons, List.all_nil, Bool.and_true]
    have : ∀ c k e a b l : Bool, (c && (k && (e && (a && (b && l))))) = (e && ((a && b) && (l && (c && k)))) := by decide
    have e2 := this (Vbkdai.within c 0 3) (Vbkdai.within k 0 11) (Vbkdai.within e 0 1) (Vbkdai.within a 0 40) (Vbkdai.within b 0 40) (decide (a ≤ b))
    show outR _ ((wantB (Vbkdai.within c 0 3 && (Vbkdai.within k 0 11 && (Vbkdai.within e 0 1 && (Vbkdai.within a 0 40 && (Vbkdai.within b 0 40 && decide (a ≤ b)))))) (-1)).bind _) = _
    rw [e2]
theorem fracR_none {a d : Int} (h : Vbkdai.fracOf a d = none) : fracR a d = .error (-1) := by
  unfold fracR
  rw [h]
theorem fracR_some {a d : Int} {q : Qd} (h : Vbkdai.fracOf a d = some q) : fracR a d = .ok q := by
  unfold fracR
  rw [h]
theorem onChan_bad {p : Plan} {cs : List (Option Nat)} {c : Int} {o : Bool} {f : Plan → Chan → State × List Int} (h : o = false) : Vbkdai.onChan ⟨some p, cs⟩ c o f = (⟨some p, cs⟩, [-1]) := by
  subst h
  show (if (Vbkdai.within c 0 3 && false) = false then _ else _) = _
  rw [Bool.and_false, if_pos rfl]
  rfl
theorem step14 (p : Plan) (cs : List (Option Nat)) (c k j e a d : Int) : Vbkdai.step ⟨some p, cs⟩ [[14, c, k, j, e, a, d]] = outR ⟨some p, cs⟩ (mFewest p c k j e a d) := by
  show Vbkdai.onChan _ c (Vbkdai.isPart k && (Vbkdai.isPart j && (Vbkdai.isEnd e && (Vbkdai.fracOf a d).isSome))) _ = _
  unfold mFewest
  rw [upTo_one]
  cases h : Vbkdai.fracOf a d with
  | none =>
    rw [onChan_bad (by rw [show (none : Option Qd).isSome = false from rfl, Bool.and_false, Bool.and_false, Bool.and_false]), fracR_none h]
    generalize Vbkdai.within e 0 1 = b
    cases b <;> rfl
  | some q =>
    rw [fracR_some h]
    refine (onChan_R (G := fun x => (wantP p [k, j]).bind fun _ => .ok (fewR (Vbkdai.fewest p.parts x k.toNat j.toNat e.toNat q))) (fun x => ?_)).trans ?_
    · show (if (p.parts : Int) ≤ k ∨ (p.parts : Int) ≤ j then _ else match Vbkdai.fewest p.parts x k.toNat j.toNat e.toNat q with
        | none => Vbkdai.yes _ [0]
        | some t => Vbkdai.yes _ [1, (t : Int)]) = _
      rw [← parts_R]
      cases Vbkdai.fewest p.parts x k.toNat j.toNat e.toNat q <;> rfl
    · show _ = outR _ ((wantB (Vbkdai.within e 0 1) (-1)).bind fun _ => (chanR p c [k, j]).bind _)
      simp only [chanR_nf]
      rw [wantB_and, List.all_cons, List.all_cons, List.all_nil, Bool.and_true]
      have : ∀ a b d e : Bool, (e && (a && (b && d))) = (a && (b && (d && (e && true)))) := by decide
      rw [this (Vbkdai.within c 0 3) (Vbkdai.within k 0 11) (Vbkdai.within j 0 11) (Vbkdai.within e 0 1)]
      rfl
theorem step11 (p : Plan) (cs : List (Option Nat)) (c k a d b f g h : Int) : Vbkdai.step ⟨some p, cs⟩ [[11, c, k, a, d, b, f, g, h]] = outR ⟨some p, cs⟩ (mCovers p c k a d b f g h) := by
  show Vbkdai.onChan _ c (Vbkdai.isPart k && ((Vbkdai.fracOf a d).isSome && ((Vbkdai.fracOf b f).isSome && (Vbkdai.fracOf g h).isSome))) _ = _
  unfold mCovers
  cases h1 : Vbkdai.fracOf a d with
  | none =>
    rw [onChan_bad (by rw [show (none : Option Qd).isSome = false from rfl, Bool.false_and, Bool.and_false]), fracR_none h1]
    rfl
  | some t =>
    rw [fracR_some h1]
    cases h2 : Vbkdai.fracOf b f with
    | none =>
      rw [onChan_bad (by rw [show (none : Option Qd).isSome = false from rfl, Bool.false_and, Bool.and_false, Bool.and_false]), fracR_none h2]
      rfl
    | some u =>
      rw [fracR_some h2]
      cases h3 : Vbkdai.fracOf g h with
      | none =>
        rw [onChan_bad (by rw [show (none : Option Qd).isSome = false from rfl, Bool.and_false, Bool.and_false, Bool.and_false]), fracR_none h3]
        rfl
      | some v =>
        rw [fracR_some h3]
        refine (onChan_R (G := fun x => (wantP p [k]).bind fun _ => (wantB (VbkdCore.le (VbkdCore.mk k p.parts) t && VbkdCore.le t (VbkdCore.mk (k + 1) p.parts)) (-7)).bind fun _ => (wantB (VbkdCore.le x.base1 u && VbkdCore.le u x.base2) (-7)).bind fun _ => (wantB (VbkdCore.le x.gain1 v && VbkdCore.le v x.gain2) (-7)).bind fun _ =>
            .ok (qRow (chance x.trials (VbkdCore.add u (VbkdCore.mul v t)) (letIn p.parts x k.toNat).1 (letIn p.parts x k.toNat).2))) (fun x => ?_)).trans ?_
        · show (if (p.parts : Int) ≤ k then Vbkdai.no _ (-5) else if (VbkdCore.le (VbkdCore.mk k p.parts) t && (VbkdCore.le t (VbkdCore.mk (k + 1) p.parts) && (VbkdCore.le x.base1 u && (VbkdCore.le u x.base2 && (VbkdCore.le x.gain1 v && VbkdCore.le v x.gain2))))) = false then Vbkdai.no _ (-7) else Vbkdai.yes _ _) = _
          simp only [wantB_and]
          unfold wantP
          rw [List.all_cons, List.all_nil, Bool.and_true]
          have e6 : ∀ a b c d e f : Bool, (a && (b && (c && (d && (e && f))))) = ((a && b) && ((c && d) && (e && f))) := by decide
          rw [e6]
          by_cases hp : (p.parts : Int) ≤ k
          · rw [if_pos hp, decide_eq_false (by omega)]
            rfl
          · rw [if_neg hp, decide_eq_true (by omega)]
            generalize ((VbkdCore.le (VbkdCore.mk k p.parts) t && VbkdCore.le t (VbkdCore.mk (k + 1) p.parts)) && ((VbkdCore.le x.base1 u && VbkdCore.le u x.base2) && (VbkdCore.le x.gain1 v && VbkdCore.le v x.gain2))) = bb
            cases bb <;> rfl
        · show _ = outR _ ((chanR p c [k]).bind _)
          rw [chanR_nf, List.all_cons, List.all_nil, Bool.and_true]
          show outR _ ((wantB (Vbkdai.within c 0 3 && (Vbkdai.isPart k && (true && (true && true)))) (-1)).bind _) = _
          rw [show ((true : Bool) && (true && true)) = true from rfl, Bool.and_true]
          rfl
theorem step18 (p : Plan) (cs : List (Option Nat)) (c a d : Int) : Vbkdai.step ⟨some p, cs⟩ [[18, c, a, d]] = outS ⟨some p, cs⟩ (mSure p cs c a d) := by
  show Vbkdai.onChan _ c ((Vbkdai.fracOf a d).any fun q => q.n != 0) _ = _
  unfold mSure
  cases h1 : Vbkdai.fracOf a d with
  | none =>
    refine (onChan_bad rfl).trans ?_
    rw [fracR_none h1]
    rfl
  | some q =>
    have fq := fracR_ok (fracR_some h1)
    rw [fracR_some h1]
    have el : VbkdCore.less Vbkdai.zero q = (q.n != 0) := by
      have z2 : VbkdCore.less Vbkdai.zero q = decide (0 * (q.d : Int) < q.n * ((1 : Nat) : Int)) := rfl
      have n0 := fq.n0
      rw [z2]
      by_cases h : q.n = 0
      · rw [decide_eq_false (by omega), h]
        rfl
      · rw [decide_eq_true (by omega)]
        simp [h]
    refine (onChan_S (G := fun x => .ok ({ p with chans := p.chans.set c.toNat { x with sure := q } }, cs)) (fun x => rfl)).trans ?_
    show _ = outS _ ((wantB (VbkdCore.less Vbkdai.zero q) (-1)).bind fun _ => (chanR p c []).bind _)
    simp only [chanR_nf]
    rw [wantB_and, List.all_nil, Bool.and_true, el, Bool.and_comm (q.n != 0)]
    rfl
/-- a plan told -/
def mTell (l : List Int) : Except Int Plan := (wantB (decide (l.length ≤ 400)) (-1)).bind fun _ => (upTo l 255).bind fun _ => match Vbkdai.readPlan (Vbkdai.nats l) with
  | .error e => .error (-1000 * (e.kind : Int) - (e.place : Int))
  | .ok p => .ok p
theorem step0 (s : State) (l : List Int) : Vbkdai.step s [[0], l] = match mTell l with
    | .error n => (s, [n])
    | .ok p => (⟨some p, p.chans.map fun _ => none⟩, 0 :: Vbkdai.ints [p.parts, p.chans.length]) := by
  show (if Vbkdai.isText l = false then Vbkdai.no s (-1) else match Vbkdai.readPlan (Vbkdai.nats l) with
    | .error e => Vbkdai.no s (Vbkdai.faultNumber e)
    | .ok p => (⟨some p, p.chans.map fun _ => none⟩, 0 :: Vbkdai.ints [p.parts, p.chans.length])) = _
  unfold mTell upTo
  rw [wantB_and]
  have e : Vbkdai.isText l = (decide (l.length ≤ 400) && l.all fun z => Vbkdai.within z 0 255) := rfl
  rw [e]
  generalize (decide (l.length ≤ 400) && l.all fun z => Vbkdai.within z 0 255) = b
  cases b with
  | false => rfl
  | true =>
    show (match Vbkdai.readPlan (Vbkdai.nats l) with
      | .error e => Vbkdai.no s (Vbkdai.faultNumber e)
      | .ok p => (⟨some p, p.chans.map fun _ => none⟩, 0 :: Vbkdai.ints [p.parts, p.chans.length])) = match (match Vbkdai.readPlan (Vbkdai.nats l) with
        | .error e => (.error (-1000 * (e.kind : Int) - (e.place : Int)) : Except Int Plan)
        | .ok p => .ok p) with
      | .error n => (s, [n])
      | .ok p => (⟨some p, p.chans.map fun _ => none⟩, 0 :: Vbkdai.ints [p.parts, p.chans.length])
    cases Vbkdai.readPlan (Vbkdai.nats l) <;> rfl
/-- a belt judged -/
def judR (p : Plan) (x : Chan) (m : List (Nat × Nat)) : List Int := match Vbkdai.wrongAt p.parts x m with
  | none => [1]
  | some y => [0, (y.1 : Int), (y.2.1 : Int)] ++ qRow y.2.2
def pairsR (l : List Int) : Except Int (List (Nat × Nat)) := match Vbkdai.pairsOf l with
  | none => .error (-1)
  | some m => .ok m
def mJudge (p : Plan) (c : Int) (l : List Int) : Res := (pairsR l).bind fun m => (chanR p c []).bind fun x => (wantB (decide (m.length = p.parts)) (-3)).bind fun _ => (wantB (m.all fun y => decide (y.2 ≤ x.trials)) (-3)).bind fun _ => .ok (judR p x m)
theorem step12 (p : Plan) (cs : List (Option Nat)) (c : Int) (l : List Int) : Vbkdai.step ⟨some p, cs⟩ [[12, c], l] = outR ⟨some p, cs⟩ (mJudge p c l) := by
  show Vbkdai.onChan _ c (Vbkdai.pairsOf l).isSome _ = _
  unfold mJudge pairsR
  cases h : Vbkdai.pairsOf l with
  | none =>
    exact onChan_bad rfl
  | some m =>
    refine (onChan_R (G := fun x => (wantB (decide (m.length = p.parts)) (-3)).bind fun _ => (wantB (m.all fun y => decide (y.2 ≤ x.trials)) (-3)).bind fun _ => .ok (judR p x m)) (fun x => ?_)).trans ?_
    · show (if m.length ≠ p.parts ∨ (m.any fun y => decide (x.trials < y.2)) = true then Vbkdai.no _ (-3) else match Vbkdai.wrongAt p.parts x m with
        | none => Vbkdai.yes _ [1]
        | some y => Vbkdai.yes _ ([0, (y.1 : Int), (y.2.1 : Int)] ++ qRow y.2.2)) = _
      have ea : (m.all fun y => decide (y.2 ≤ x.trials)) = !(m.any fun y => decide (x.trials < y.2)) := by
        clear h
        induction m with
        | nil => rfl
        | cons y r ih =>
          rw [List.all_cons, List.any_cons, Bool.not_or, ih]
          congr 1
          by_cases z : y.2 ≤ x.trials
          · rw [decide_eq_true z, decide_eq_false (by omega)]
            rfl
          · rw [decide_eq_false z, decide_eq_true (by omega)]
            rfl
      rw [ea]
      by_cases h1 : m.length = p.parts
      · rw [decide_eq_true h1]
        cases h2 : m.any fun y => decide (x.trials < y.2) with
        | true => rw [if_pos (.inr rfl)]; rfl
        | false =>
          rw [if_neg (by
            rintro (z | z)
            · exact z h1
            · cases z)]
          show _ = outR _ (.ok (judR p x m))
          unfold judR
          cases Vbkdai.wrongAt p.parts x m <;> rfl
      · rw [if_pos (.inl h1), decide_eq_false h1]
        rfl
    · show _ = outR _ ((chanR p c []).bind _)
      rw [chanR_nf]
      rfl
end Bc


-- end of a part
set_option Elab.async false
set_option linter.all false
set_option maxRecDepth 100000
set_option maxHeartbeats 4000000
set_option exponentiation.threshold 100000
/-! # what every promise is told in -/
namespace L2
open PySem PySem.Spec PyProof.Rows
theorem Same.new {H : Hp} {p : Addr} {o : HO} (h : H p = none) : Same H (upd H p o) := fun a u e => by
  rw [upd_ne (ne_of_none e h)]
  exact e
theorem Same.tup {K : PySem.W.Frag} {H H' : Hp} {a : Addr} {xs : List V} (e : Same H H') (h : SqT K H a xs) : SqT K H' a xs := by
  rcases h with (h | ⟨o, h⟩) | h
  · exact .inl (.inl (e _ _ h))
  · exact .inl (.inr ⟨o, e _ _ h⟩)
  · exact .inr h
/-- an object that H does not know may change -/
theorem Same.mut {H H' : Hp} {p : Addr} {o : HO} (e : Same H H') (h : H p = none) : Same H (upd H' p o) := fun a u ha => by
  rw [upd_ne (ne_of_none ha h)]
  exact e a u ha
end L2
namespace Bc
open PySem PySem.Spec PyProof.Rows L2
/-- a def at f, its promise sp by at most k rooms, its arguments all written -/
abbrev FOk (P : Program) (w : World) (K : PySem.W.Frag) (mg : Str → Option Value) (base : Heap) (CX : CXT) (k : Nat) (f : Addr) (ps : List Str) (sp : Sp) : Prop := ∃ fd, FnOk P w K mg base CX k f fd ps sp ∧ Binds K fd ps []
def mkSp (n : Nat) (f : List V → Hp → VK → XK → Prop) : Sp := fun vs H Q E => vs.length = n ∧ f vs H Q E
theorem room65 {k : Nat} {A : Around} (r : Room k A) : A.units + 65 < cLine := by have := r.un; omega
/-- what a def hands back whose new objects stand beside all else -/
def Ret (H : Hp) (Q : VK) (P : V → Hp → Prop) : Prop := ∀ v H', Same H H' → P v H' → Q v H'
/-! ### fractions -/
def qV (q : Qd) : List V := [.int q.n, .int (q.d : Int)]
def FrAt (K : PySem.W.Frag) (H : Hp) (v : V) (q : Qd) : Prop := ∃ a, v = .ref a ∧ SqT K H a (qV q)
theorem FrAt.same {K : PySem.W.Frag} {H H' : Hp} {v : V} {q : Qd} (h : FrAt K H v q) (e : Same H H') : FrAt K H' v q := let ⟨a, x, y⟩ := h; ⟨a, x, e.tup y⟩
theorem at0 {x y : V} : atI [x, y] 0 = some x := rfl
theorem at1 {x y : V} : atI [x, y] 1 = some y := rfl
end Bc


-- end of a part
set_option Elab.async false
set_option linter.all false
set_option maxRecDepth 100000
set_option maxHeartbeats 4000000
/-! # rules that the layer lacks: enumerate over a tuple -/
namespace PySem
theorem meets_enum_one {v : Value} {o : Obj} {H : Heap → Prop} (B : Begins v o H) :
    Meets (Builtin.«enumerate.__new__» ⟨[.type "enumerate", v], []⟩) (fun _ R s => H s.heap ∧
      R (.ok (.ret (.ref (s.heap.push o).objs.size))) { s with heap := (s.heap.push o).push { cls := .type "enumerate", data := .fields #[.none, .bool false, .ref s.heap.objs.size, rawInt 0, .none, .none] } }) :=
  .of_wp fun prog w A R s h => by
    obtain ⟨hp, g, d, tk, os⟩ := s; obtain ⟨h1, h⟩ := h
    have hsub := sub_enumerate
    have q1 : ∀ {A' : Around} {E : Value → Shared → Prop} {Q : Value → Shared → Prop}, Q (.ref hp.objs.size) ⟨hp.push o, g, d, tk, os⟩ → wpAny (model prog w) A' (pyIter v) Q E ⟨hp, g, d, tk, os⟩ :=
      fun q => B.iter prog w _ _ ⟨hp, g, d, tk, os⟩ _ h1 q
    wp_walk using q1
    refine wpAny_stack_any fun st => wpAny_pure ?_
    split
    · rename_i c _ _ _ _ _
      cases (c == Value.type "enumerate")
      · wp_walk using q1
        exact ⟨_, rfl, h⟩
      · wp_walk using q1
        exact ⟨_, rfl, h⟩
    · wp_walk using q1
      exact ⟨_, rfl, h⟩
theorem call_enum_one {prog : Program} {w : World} {A : Around} {E : Value → Shared → Prop} {s : Shared} {v : Value} {o : Obj} {H : Heap → Prop} {Q : Value → Shared → Prop} (B : Begins v o H) (h1 : H s.heap)
    (h : ∀ h', IsEnum h' (s.heap.objs.size + 1) s.heap.objs.size 0 .none → h'.get? s.heap.objs.size = some o → h'.objs.size = s.heap.objs.size + 2 →
      (∀ b o, s.heap.get? b = some o → h'.get? b = some o) → Q (.ref (s.heap.objs.size + 1)) { s with heap := h' }) :
    wpAny (model prog w) A (call (.type "enumerate") [v]) Q E s := by
  refine callType_new F.called_enumerate (by decide) (F.typeCall_enumerate_1 _) (F.newCall_enumerate_1 _) (fun obj => F.args_object_init_2 obj _) F.entry_enumerate_new
    (meets_enum_one B) ⟨h1, ?_⟩
  have hz : (s.heap.push o).objs.size = s.heap.objs.size + 1 := Heap.size_push ..
  show _ ∧ _
  rw [hz]
  have he : IsEnum ((s.heap.push o).push { cls := .type "enumerate", data := .fields #[.none, .bool false, .ref s.heap.objs.size, rawInt 0, .none, .none] }) (s.heap.objs.size + 1) s.heap.objs.size 0 .none := by
    have := Heap.get?_push_size (s.heap.push o) (o := { cls := .type "enumerate", data := .fields #[.none, .bool false, .ref s.heap.objs.size, rawInt 0, .none, .none] }) rfl
    rw [hz] at this; exact this
  refine ⟨⟨_, he, rfl⟩, h _ he (Heap.get?_push_of_some _ (Heap.get?_push_size _ B.free)) (by rw [Heap.size_push, hz]) fun b o x => Heap.get?_push_of_some _ (Heap.get?_push_of_some _ x)⟩
end PySem
namespace L2
open PySem PySem.Spec PyProof.Rows
/-- the tuple at a as it stands at each turn, each item in a new pair -/
def IteT (K : PySem.W.Frag) (a : Addr) : It :=
  ⟨fun i H => ∃ (xs : List V) (x : V), SqT K H a xs ∧ xs[i]? = some x, fun i H v H' => ∃ T x, v = .ref T ∧ H T = none ∧ H' = upd H T (.tup [.int (i : Nat), x]) ∧ ∀ xs, SqT K H a xs → xs[i]? = some x, fun i H => ∃ xs : List V, SqT K H a xs ∧ xs.length ≤ i⟩
theorem turn_enumT {P : Program} {w : World} {K : PySem.W.Frag} {elts : List Expr} {kk : Nat} {tpos : Pos} (a e it : Addr) :
    Turn P w K (.Tuple elts kk tpos) (IteT K a) [e, it] e (fun i h => (∃ old, IsEnum h e it ((i : Nat) : Int) old) ∧ h.IsTupleIter it a i ∧ e ≠ it ∧ a ≠ e ∧ a ≠ it) where
  mem := by simp
  obj := fun i h st b hb => by
    obtain ⟨⟨old, he⟩, ⟨o, ho, hc, hd⟩, _⟩ := st
    have e' : b = e ∨ b = it := by simpa using hb
    rcases e' with z | z
    · rw [z]; exact ⟨_, he, fun v q => nomatch q⟩
    · rw [z]; exact ⟨o, ho, fun v q => by rw [hd] at q; cases q⟩
  keep := fun i h h' st k => let ⟨⟨old, he⟩, hi, hne⟩ := st; ⟨⟨old, k e (by simp) _ he⟩, hi.at fun o q => k it (by simp) o q, hne⟩
  item := by
    intro X hP hw hK hc i pins s σ H E I hf st hg
    subst hP hw hK
    obtain ⟨⟨old, he⟩, hit, hne, hae, hai⟩ := st
    obtain ⟨xs, x, hq, hx⟩ := hg
    obtain ⟨its, rv, p, hz⟩ := I.tuple hq
    obtain ⟨u, hu, ru⟩ := rv.get hx
    have hel : e < s.heap.objs.size := Heap.lt_size he
    have hil : it < s.heap.objs.size := by obtain ⟨_, q, _⟩ := hit; exact Heap.lt_size q
    have D := Draws.tuple (prog := X.prog) (w := X.w) (A := X.A.in1) (I.ok.hd hc) it a hai its.toArray
    have hi : i < its.toArray.size := by
      have hl := rv.length
      have := (List.getElem?_eq_some_iff.mp hx).1
      simp only [List.size_toArray]
      omega
    refine wpAny_pyNext_enum_itemD (A := X.A) D he ⟨hit, p⟩ hi hne (by simp [hne, Ne.symm hae]) fun u2 h' tk hu2 ho hit' hT hsz hk => ?_
    have eu : u2 = u := by
      have h1 : its.toArray[i]? = some u := by simpa using hu
      rw [h1] at hu2
      exact (Option.some.inj hu2).symm
    subst eu
    refine ⟨_, rfl, wpAny_letOwnedTupleGo_enum (s := { s with heap := h', toks := tk + 1 }) ho fun h'' he' sb => ?_⟩
    have hT2 : h''.get? s.heap.objs.size = some { cls := .type "tuple", data := .seq #[.int i tk, u2] } := (sb.2 _ (Nat.ne_of_gt hel)).trans hT
    have new : ObjOk X.prog X.w (upd H s.heap.objs.size (.tup [.int (i : Nat), x])) h'' s.heap.objs.size (.tup [.int (i : Nat), x]) :=
      ⟨by show 2 ≤ sizeLine; decide, [.int i tk, u2], .cons ⟨_, rfl⟩ (.cons ru .nil), ⟨_, hT2, rfl, _, rfl⟩⟩
    have I1 : Inv X pins σ (upd H s.heap.objs.size (.tup [.int (i : Nat), x])) { s with heap := h'', toks := tk + 1 } :=
      I.turnedNew (ch := [e, it]) (fun b ob hb q => (sb.2 b (fun z => hb (by simp [z]))).trans (hk b ob (fun z => hb (by simp [z])) (fun z => hb (by simp [z])) q)) hf (Nat.le_refl _) new
    refine ⟨.ref s.heap.objs.size, _, I1, rfl, ⟨_, x, rfl, I.hok.fresh (Nat.le_refl _), rfl, fun ys hy => by rw [I.tuple_inj hy hq]; exact hx⟩, ⟨⟨u2, ?_⟩, hit'.1.at fun o q => (sb.2 it (Ne.symm hne)).trans q, hne, hae, hai⟩, fun b hb => ?_⟩
    · have e1 : ((i + 1 : Nat) : Int) = (i : Int) + 1 := by omega
      rw [e1]; exact he'
    · have hb' : b < s.heap.objs.size := by
        have e' : b = e ∨ b = it := by simpa using hb
        rcases e' with z | z
        · rw [z]; exact hel
        · rw [z]; exact hil
      rw [upd_ne (Nat.ne_of_lt hb')]
      exact (hf b hb).1
  done := by
    intro X hP hw hK hc i pins s σ H E I hf st hg
    subst hP hw hK
    obtain ⟨⟨old, he⟩, hit, hne, hae, hai⟩ := st
    obtain ⟨xs, hq, hx⟩ := hg
    obtain ⟨its, rv, p, hz⟩ := I.tuple hq
    obtain ⟨f0, f1, f2, f3, f4, f5⟩ := hf it (by simp)
    have hl := rv.length
    unfold pyNext
    have hT : s.TypeIs (.ref e) "enumerate" := ⟨_, he, rfl⟩
    refine wpAny_bind (wpAny_attempt (wpAny_callSpecial?_slot (name := Str.ofString "__next__") hT F.slot_enumerate_next
      (wpAny_call_entry F.slot_enumerate_next hT F.entry_enumerate_next ?_ (F.args_enumerate_next_1 _))))
    show wpAny _ _ (field (.ref e) 2 >>= _) _ _ _
    refine wpAny_bind (wpAny_field he rfl (x := .ref it) rfl ?_)
    refine wpAny_bind (wpAny_nextOf_tuple_end (I.ok.hd hc) hit (show s.heap.IsTuple a its.toArray from p) (by simp; omega) fun h' x he' hx' => ?_)
    obtain ⟨o, ho, hc⟩ := hx'
    refine wpAny_bind (wpAny_isInstance (T := "StopIteration") (b := true) ⟨o, ho, hc⟩ isSubtype_stop ?_)
    exact wpAny_pure ⟨rfl, I.turned (t' := s.toks) (fun b o hb q => he' b o hb q) f0 f1 f3 f4 f5⟩
  self := fun A i s Q E st h => let ⟨⟨_, he⟩, _⟩ := st; wpAny_pyIter_enum he h
def iEnumT (K : PySem.W.Frag) (ta : TA) : TI := fun σ H R => ta σ H fun vs H1 => ∃ a xs, vs = [.ref a] ∧ SqT K H1 a xs ∧ R (IteT K a) H1
theorem pi_enumT {X : Cx} {e : Expr} {ta : TA} {p pos tpos : Pos} {elts : List Expr} {kk : Nat} (hg : Gl X "enumerate") (hm : X.mg "enumerate" = none) (ha : PA X [e] ta) (hs : starEach [e] X.env = [(false, eval e X.env)] := by rfl) :
    PI X (.Tuple elts kk tpos) (.Call (.Name "enumerate" p) [e] [] pos) (iEnumT X.K ta) := by
  refine ⟨fun pins s σ H R I h => ?_⟩
  refine Call_ (ld_blt I hg hm boot_enumerate (PyProof.Rows.callWith_type1 (thn (ha.run pos pins s σ H _ I h) fun us s1 ⟨vs, H1, I1, r1, q1⟩ => ?_) hs rfl))
  obtain ⟨a, xs, ex, hq, q⟩ := q1
  subst ex
  cases r1 with
  | cons r rr =>
    cases rr
    cases r
    obtain ⟨its, rv, p', hz⟩ := I1.tuple hq
    have hal : a < s1.heap.objs.size := by obtain ⟨o, ho, _⟩ := p'; exact Heap.lt_size ho
    refine call_enum_one (begins_tuple a its.toArray) p' fun h' he hit hsz hk => wpAny_pyIter_enum he ?_
    have I2 : Inv X pins σ H1 { s1 with heap := h' } := I1.kept (t' := s1.toks) hk
    refine ⟨s1.heap.objs.size + 1, [s1.heap.objs.size + 1, s1.heap.objs.size], _, _, H1, rfl, I2, turn_enumT a (s1.heap.objs.size + 1) s1.heap.objs.size, ⟨⟨.none, he⟩, ⟨_, hit, rfl, rfl⟩, Nat.succ_ne_self _, Nat.ne_of_lt (Nat.lt_succ_of_lt hal), Nat.ne_of_lt hal⟩, fun b hb => ?_, q⟩
    have e' : b = s1.heap.objs.size + 1 ∨ b = s1.heap.objs.size := by simpa using hb
    have hle : s1.heap.objs.size ≤ b := by
      rcases e' with z | z
      · rw [z]; exact Nat.le_add_right _ _
      · rw [z]; exact Nat.le_refl _
    exact I1.fpOk hle (I1.hok.fresh hle)
theorem walk_enumT {K : PySem.W.Frag} {a : Addr} {xs : List V} : Walk (IteT K a) xs.length (fun H => SqT K H a xs) (YPair (fun i => some (.int (i : Nat))) (fun i => xs[i]?)) := by
  refine ⟨fun i _ hi q => ⟨xs, xs[i], q, by simp [hi]⟩, fun _ q => ⟨xs, q, Nat.le_refl _⟩, fun i H v H' _ q y => ?_⟩
  obtain ⟨T, x, h1, h2, h3, h4⟩ := y
  exact ⟨T, .int (i : Nat), x, h1, h2, h3, rfl, h4 xs q⟩
end L2


-- end of a part
set_option Elab.async false
set_option linter.all false
set_option maxRecDepth 100000
set_option maxHeartbeats 4000000
/-! # rules that the layer lacks: a list beside the empty one; every other item -/
namespace L2
open PySem PySem.Spec PyProof.Rows
/-- xs == [] -/
def rEqNil (K : PySem.W.Frag) : R2 := fun x y H Q => ∃ a b xs, x = .ref a ∧ y = .ref b ∧ SqL K H a xs ∧ SqL K H b [] ∧ Q (.bl xs.isEmpty) H
theorem op_eqNil {X : Cx} (hu : X.A.units + 64 < cLine) : OpR X (compareOp .Eq) (rEqNil X.K) := by
  intro pins s σ H x y v u Q I rx ry h
  obtain ⟨a, b, xs, rfl, rfl, ha, hb, q⟩ := h
  cases rx
  cases ry
  obtain ⟨its, rv, p, _⟩ := I.list ha
  obtain ⟨its2, rv2, p2, _⟩ := I.list hb
  have hl := rv.length
  have hl2 := rv2.length
  cases xs with
  | nil =>
    refine SeqAt.eq_listAt (e := fun _ => true) p.isList p2.isList (by simp only [List.size_toArray]; rw [← hl, ← hl2]) (by omega) (fun j h1 _ => ?_) ⟨.bl true, H, I, ?_, q⟩
    · simp only [List.size_toArray] at h1
      rw [← hl] at h1
      exact absurd h1 (Nat.not_lt_zero _)
    · have e : its.toArray.size = 0 := by simp only [List.size_toArray]; rw [← hl]; rfl
      rw [e]
      rfl
  | cons c r =>
    refine SeqAt.eq_list_lengthsAt p.isList p2.isList ?_ (by omega) ⟨.bl false, H, I, rfl, q⟩
    simp only [List.size_toArray]
    rw [← hl, ← hl2]
    rfl
end L2


-- end of a part
set_option Elab.async false
set_option linter.all false
set_option maxRecDepth 100000
set_option maxHeartbeats 4000000
/-! # rules that the layer lacks: every other item -/
namespace L2
open PySem PySem.Spec PyProof.Rows
/-- the places lo, lo + 2, .. -/
def every2 (lo n : Nat) : List Nat := (List.range ((n + 1 - lo) / 2)).map fun k => lo + 2 * k
def pick2 {α : Type} (lo : Nat) (xs : List α) : List α := (every2 lo xs.length).filterMap fun k => xs[k]?
theorem vals_pick {xs : List V} {us : List Value} (r : Vals xs us) : ∀ ks : List Nat, Vals (ks.filterMap fun k => xs[k]?) (ks.filterMap fun k => us[k]?)
  | [] => .nil
  | k :: ks => by
    have hl := r.length
    cases hx : xs[k]? with
    | none =>
      have hu : us[k]? = none := by
        have := List.getElem?_eq_none_iff.mp hx
        exact List.getElem?_eq_none (by omega)
      rw [List.filterMap_cons_none hx, List.filterMap_cons_none hu]
      exact vals_pick r ks
    | some x =>
      obtain ⟨u, hu, ru⟩ := r.get hx
      rw [List.filterMap_cons_some hx, List.filterMap_cons_some hu]
      exact .cons ru (vals_pick r ks)
theorem range2 (lo n : Nat) (l : Option Int) (hl : (l = none ∧ lo = 0) ∨ l = some (lo : Int)) (h1 : lo ≤ 1) : sliceRange (sliceBounds l none (some 2) n).1 (sliceBounds l none (some 2) n).2.1 (sliceBounds l none (some 2) n).2.2 = every2 lo n := by
  have e : sliceBounds l none (some 2) n = (((min lo n : Nat) : Int), (n : Int), 2) := by
    rcases hl with ⟨rfl, rfl⟩ | rfl
    · simp [sliceBounds]
    · simp only [sliceBounds, Option.getD_some, show (2 : Int) > 0 by decide, if_true, if_neg (show ¬ ((lo : Int) < 0) by omega)]
      congr 1
      omega
  rw [e]
  unfold sliceRange every2
  simp only [show (2 : Int) > 0 by decide, if_true]
  by_cases h : lo < n
  · rw [Nat.min_eq_left (by omega), if_pos (by omega)]
    have ec : (((n : Int) - (lo : Int) + 2 - 1) / 2).toNat = (n + 1 - lo) / 2 := by omega
    rw [ec]
    refine List.map_congr_left fun k _ => ?_
    omega
  · have ec : (n + 1 - lo) / 2 = 0 := by omega
    rw [ec, if_neg (by omega)]
    rfl
theorem slicePick2 (its : List Value) (lo : Nat) (l : Option Int) (hl : (l = none ∧ lo = 0) ∨ l = some (lo : Int)) (h1 : lo ≤ 1) : slicePick its.toArray l none (some 2) = (pick2 lo its).toArray := by
  unfold slicePick
  rw [range2 lo _ l hl h1]
  unfold pick2
  congr 1
  simp only [List.size_toArray, List.getElem?_toArray]
def tStep2 (K : PySem.W.Frag) (te : TE) (tl : TO) : TE := fun σ H Q => te σ H fun x H1 => tl σ H1 fun l H2 => ∃ (a : Addr) (xs : List V) (lo : Nat), x = .ref a ∧ ((l = none ∧ lo = 0) ∨ l = some (lo : Int)) ∧ lo ≤ 1 ∧ SqL K H2 a xs ∧ ∀ p, H2 p = none → Q (.ref p) (upd H2 p (.lst (pick2 lo xs)))
theorem pick2_len {α : Type} (lo : Nat) (xs : List α) : (pick2 lo xs).length ≤ xs.length := by
  unfold pick2 every2
  refine Nat.le_trans (List.length_filterMap_le _ _) ?_
  rw [List.length_map, List.length_range]
  omega
theorem pe_step2 {X : Cx} {e : Expr} {lo : Option Expr} {te : TE} {tl : TO} {k : Nat} {p1 p3 pos : Pos} (he : PE X e te) (hl : PO X lo tl) : PE X (.Subscript e (.Slice lo none (some (.Constant (.int 2) k p1)) p3) pos) (tStep2 X.K te tl) := by
  refine ⟨fun pins s σ H Q I h => ?_⟩
  refine Subscript_ (thn (he.run pins s σ H _ I h) fun v s1 ⟨x, H1, I1, r1, q1⟩ => ?_)
  have hst : PO X (some (.Constant (.int 2) k p1)) (tPart (tC (.int 2))) := po_some pe_int
  refine wpAny_Slice (thn (hl.run pins s1 σ H1 _ I1 q1) fun vl s2 ⟨l, H2, I2, pl, q2⟩ => ?_)
  obtain ⟨a, xs, lo, ex, hlo, h1, hx, q⟩ := q2
  subst ex
  cases r1
  refine thn (po_none.run pins s2 σ H2 (fun o H3 => o = none ∧ H3 = H2) I2 ⟨rfl, rfl⟩) fun vu s3 ⟨u, H3, I3, pu, eu, e3⟩ => ?_
  subst eu e3
  refine thn (hst.run pins s3 σ H3 (fun o H4 => o = some 2 ∧ H4 = H3) I3 ⟨2, rfl, rfl, rfl⟩) fun vs s4 ⟨o, H4, I4, ps, eo, e4⟩ => ?_
  subst eo e4
  have I5 : Inv X pins σ H4 { s4 with heap := s4.heap.push { cls := .type "slice", data := .fields #[vl, vu, vs] } } := I4.kept (t' := s4.toks) fun b ob q => Heap.get?_push_of_some _ q
  obtain ⟨its, r, ht, hz⟩ := I5.list hx
  have hlen := r.length
  show wpAny (model X.prog X.w) X.A (subscriptTail e _ (.ref a) (.ref s4.heap.objs.size)) (EP X pins σ Q) X.xe { s4 with heap := s4.heap.push { cls := .type "slice", data := .fields #[vl, vu, vs] } }
  refine tail_any (ops := [.ref a, .ref s4.heap.objs.size]) ht.isList.typeIs (PySem.slot_list_getitem.lookup) ?_ (by with_unfolding_all rfl)
  refine wpAny_getItem_list_slice ht.isList (Heap.IsSliceOf.new _ vl vu vs) pl pu ps (by decide) ?_ (by rw [List.size_toArray]; omega)
  rw [slicePick2 its lo _ hlo h1]
  refine ⟨.ref _, _, I5.laid (t' := s4.toks) (o := .lst (pick2 lo xs)) (fun b ob q => Heap.get?_push_of_some _ q) (Nat.le_refl _) ?_, rfl, q _ (I5.hok.fresh (Nat.le_refl _))⟩
  have rv : Vals (pick2 lo xs) (pick2 lo its) := by
    unfold pick2
    rw [hlen]
    exact vals_pick r _
  exact ⟨Nat.le_trans (pick2_len lo xs) hz, _, 0, rv, Heap.get?_push_size _ rfl⟩
end L2


-- end of a part
set_option Elab.async false
set_option linter.all false
set_option maxRecDepth 100000
set_option maxHeartbeats 4000000
/-! # rules that the layer lacks: own exceptions whose context is None -/
namespace L2N
open PySem PySem.Spec PyProof.Rows L2
section
variable {X : Cx}
theorem mk_endN {pins : List (Addr × Obj)} {σ : L2.St} {H1 H2 : Hp} {Q : XK} {hp hp2 h2 : Heap} {g1 g2 : Array GenState} {d1 d2 : Drawn} {t1 t2 : Nat} {os1 os2 : OsState} {a C d : Addr} {fs : List (Str × V)} (T : Raises X (.ref C)) (I1 : Inv X pins σ H1 ⟨hp, g1, d1, t1, os1⟩)
    (ha : hp.objs.size ≤ a) (k : ∀ b o, hp.get? b = some o → hp2.get? b = some o) (un : Un (frs X.stack) [] (upd H1 a (exo a C none)) H2 hp2 h2) (hok : HOk X.prog X.w H2 h2) (ho : os2 = os1) (hb : AllBare g2)
    (ea : H2 a = some (exo a C (some d))) (ed : H2 d = some (exd d fs)) (hd1 : H1 d = none) (q : Q (.ref C) (some d) (upd (del H2 a) d (.xd fs))) : L2N.MkP X pins σ Q (.ref a) ⟨h2, g2, d2, t2, os2⟩ := by
  obtain ⟨t0, G, J, kG, ge, hoe, na⟩ := mk_end0 (d2 := d2) (t2 := t2) I1 ha k un hok ho hb ea ed hd1
  exact ⟨a, _, _, ⟨G, g2, d2, t2, os2⟩, _, .ref C, some d, rfl, J, kG, ge, hoe, ⟨rfl, rfl, fun vs z => by cases z; rfl⟩, rfl, rfl, na, rfl, hb, T, q⟩
theorem pmk_oexN {CX : CXT} {x : Str} {C fI : Addr} {k : Nat} {fd : FuncData} {ps : List Str} {sp : Sp} {ds : List Value} {dvs : List V} {e : Expr} {es : List Expr} {ta : TA} {p pos : Pos} (T : OexC X.K C) (iC : PySem.W.findIn X.K (.ref C) "__init__" = some (some (.ref fI))) (tI : PySem.W.typeIn X.K (.ref fI) = some (.type "function"))
    (F1 : FnOk X.prog X.w X.K X.mg X.base CX k fI fd ps sp) (hr : Room (k + 1) X.A) (hb : Binds X.K fd ps ds) (hd : Vals dvs ds) (hx : Passes CX X (fun _ _ _ => False)) (hg : Gl X x) (hm : X.mg x = some (.ref C)) (ha : PA X (e :: es) ta)
    (hdb : (x == ("__debug__" : Str)) = false := by decide) (he : starEach (e :: es) X.env = (false, eval e X.env) :: starEach es X.env := by rfl) (hpl : (backTo pos (starEach es X.env)).any (·.1) = false := by rfl) :
    L2N.PMk X (.Call (.Name x p) (e :: es) [] pos) (tMkO C sp dvs ta) := by
  intro pins s σ H Q I h
  obtain ⟨nm, q, N, bs, bm, sn, sub, ab, col, dd, k0, k1, k2, k3, k5, hC, hbm⟩ := T.cls
  refine wpAny_Call_Name_kw (ld_glob I hg hm ?_ hdb)
  refine PySem.W.callWith_K (h₀ := X.base) I.ok.mod.kin T.kC (thn (ha.run pos pins s σ H _ I h) fun us s1 ⟨vs, H1, I1, r1, hz, q1⟩ => ⟨I1.kIn, ?_⟩) he hpl
  show wpAny _ _ (call (.ref C) us) _ _ _
  obtain ⟨hp, g, dr, tk, os⟩ := s1
  have hsz : hp.objs.size ≤ hp.objs.size + 1 := Nat.le_succ _
  have hn : H1 (hp.objs.size + 1) = none := I1.hok.fresh hsz
  have hq := q1 (hp.objs.size + 1) hn
  have kk : ∀ b o, hp.get? b = some o → ((hp.push (PySem.W.kdv_tup us)).push (PySem.HandSPX.excO C hp.objs.size)).get? b = some o := fun b o e => Heap.get?_push_of_some _ (Heap.get?_push_of_some _ e)
  have hget : ((hp.push (PySem.W.kdv_tup us)).push (PySem.HandSPX.excO C hp.objs.size)).get? (hp.objs.size + 1) = some (PySem.HandSPX.excO C hp.objs.size) := by heap_get
  have I2 : Inv X pins σ (upd H1 (hp.objs.size + 1) (exo (hp.objs.size + 1) C none)) ⟨(hp.push (PySem.W.kdv_tup us)).push (PySem.HandSPX.excO C hp.objs.size), g, dr, tk, os⟩ :=
    I1.laid (t' := tk) (a := hp.objs.size + 1) (o := exo (hp.objs.size + 1) C none) (h' := (hp.push (PySem.W.kdv_tup us)).push (PySem.HandSPX.excO C hp.objs.size)) kk hsz (exo_ok hget)
  have r2 : Vals (V.ref (hp.objs.size + 1) :: (vs ++ dvs)) (Value.ref (hp.objs.size + 1) :: (us ++ ds)) := .cons rfl (r1.append hd)
  have hl : (Value.ref (hp.objs.size + 1) :: us ++ ds).length = ps.length := by
    have e := r2.length
    rw [F1.len _ _ _ _ hq] at e
    exact e.symm
  have hus : us.length ≤ sizeLine := by
    rw [← Paired.length r1, sizeLine_eq]
    omega
  refine wpAny_call (PySem.HandSPX.call_own F.excBase_ValueError (fun Y => PySem.HandSPX.refsVE_contains Y bm hbm) (I1.kIn _ _ hC) (PySem.W.looks_findIn I1.kIn iC) (fun self => PySem.W.bind_fn I1.kIn self tI) hus
    (codeAny_mono (F1.run _ X.stack _ _ ⟨Value.ref (hp.objs.size + 1) :: us, []⟩ (Value.ref (hp.objs.size + 1) :: (us ++ ds)) _ _ (fun _ _ _ => False) (hr.make C us []) (I2.env0.make C us []) (hb _ (Value.ref (hp.objs.size + 1) :: us) I2.kIn hl) r2 hq) fun r s' hq' => ?_))
  cases r with
  | error er => exact hx pins σ _ _ er s' I2 hq'
  | ok fl =>
    cases fl with
    | ret u =>
      obtain ⟨v, H2, os2, bare2, un2, hok2, rv, ev, d, fs, ea, ed, hd1, q2⟩ := hq'
      subst ev
      obtain ⟨h2, g2, d2, t2, os'⟩ := s'
      exact ⟨rv, mk_endN (raises_own T.exC T.tyC) I1 hsz kk un2 hok2 os2 bare2 ea ed hd1 q2⟩
    | next => exact False.elim hq'
    | brk => exact False.elim hq'
    | cont => exact False.elim hq'
end
end L2N
namespace L2
open PySem PySem.Spec PyProof.Rows
/-- as Fun.okX, what is raised having no context -/
theorem Fun.okN {P : Program} {w : World} {K : PySem.W.Frag} {mg : Str → Option Value} {base : Heap} {x qual : Str} {st : Stmt} {f : Addr} {fd : FuncData} {N ps : List Str} {k : Nat} {sp : Sp} (F : Fun K x qual st f fd) (S : FnScope N ps (defScope st))
    (len : ∀ vs H Q E, sp vs H Q E → vs.length = ps.length)
    (hbody : ∀ (cdv : Value) (A : Around) (outer : List Env) (s : Shared) (H : Hp) (vs : List V) (Q : VK) (E : XK), Room k (A.deeper (envOfC qual (defScope st) s.heap.objs.size f cdv)) → sp vs H Q E →
      ∃ t, PSs (cxOf (L2N.CX P w) P w K mg base N qual (defScope st) f cdv A outer s H E) (defBody st) t ∧ t { nx := fun _ H' => Q .non H', rt := Q } (start N vs) H) : FnOk P w K mg base (L2N.CX P w) (k + 1) f fd ps sp := by
  obtain ⟨oc, od, kV, doc, pm, an, cdv, ct, osl, rfl, lk, hcd⟩ := F.ex
  exact fn_of lk hcd S len fun A outer s H vs Q E hr hsp => hbody cdv A outer s H vs Q E hr hsp
end L2


-- end of a part
set_option Elab.async false
set_option linter.all false
set_option maxRecDepth 100000
set_option maxHeartbeats 4000000
/-! # a rule that the layer lacks: list(zip(a, b)) -/
namespace PySem
open PySem PySem.Spec
theorem zip_no_len : typeLookup (.type "zip") "__len__" = pure none := by rw [typeLookup_type, builtinLookup_eq_fast]; kernel_rfl
theorem zip_no_hint : typeLookup (.type "zip") "__length_hint__" = pure none := by rw [typeLookup_type, builtinLookup_eq_fast]; kernel_rfl
/-- where a zip stands while list.extend draws it: S is the list that is filled -/
def ZSt (z TI TO i1 i2 l1 l2 S : Addr) (xs ys : Array Value) (i : Nat) (h : Heap) : Prop :=
  IsPair h TI (.ref i1) (.ref i2) ∧ h.IsListIter i1 l1 i ∧ h.IsListIter i2 l2 i ∧ h.IsList l1 xs ∧ h.IsList l2 ys ∧
    ((IsZip h z TI TO .none ∧ ∃ a b, IsPair h TO a b) ∨ ∃ T f oT, IsZipHeld h z TI TO T f ∧ h.get? T = some oT ∧ T ≠ z ∧ T ≠ i1 ∧ T ≠ i2 ∧ T ≠ S)
structure ZOff (z TI TO i1 i2 l1 l2 S : Addr) : Prop where
  z : S ≠ z
  TI : S ≠ TI
  TO : S ≠ TO
  i1 : S ≠ i1
  i2 : S ≠ i2
  l1 : S ≠ l1
  l2 : S ≠ l2
/-- the pairs that were drawn -/
def ZItems (h : Heap) (base : Heap) (S : Addr) (xs ys acc : Array Value) (ts : List Addr) : Prop :=
  acc.toList = ts.map Value.ref ∧ ts.Nodup ∧ ∀ (j : Nat) T, ts[j]? = some T → base.objs.size ≤ T ∧ T ≠ S ∧ ∃ x y, xs[j]? = some x ∧ ys[j]? = some y ∧ IsPair h T x y
section
variable {prog : Program} {w : World} {A : Around} {R : Result → Shared → Prop} {z TI TO i1 i2 l1 l2 S : Addr} {xs ys : Array Value}
theorem ZSt.frame {i : Nat} {h h' : Heap} (O : ZOff z TI TO i1 i2 l1 l2 S) (st : ZSt z TI TO i1 i2 l1 l2 S xs ys i h) (hk : ∀ b o, b ≠ S → h.get? b = some o → h'.get? b = some o) : ZSt z TI TO i1 i2 l1 l2 S xs ys i h' := by
  obtain ⟨hTI, h1, h2, hl1, hl2, hz⟩ := st
  refine ⟨hk _ _ (Ne.symm O.TI) hTI, h1.at fun o e => hk _ o (Ne.symm O.i1) e, h2.at fun o e => hk _ o (Ne.symm O.i2) e, hl1.at fun o e => hk _ o (Ne.symm O.l1) e, hl2.at fun o e => hk _ o (Ne.symm O.l2) e, ?_⟩
  rcases hz with ⟨hz, a, b, hTO⟩ | ⟨T, f, oT, hz, hT, r1, r2, r3, r4⟩
  · exact .inl ⟨hk _ _ (Ne.symm O.z) hz, a, b, hk _ _ (Ne.symm O.TO) hTO⟩
  · exact .inr ⟨T, f, oT, hk _ _ (Ne.symm O.z) hz, hk _ _ r4 hT, r1, r2, r3, r4⟩
/-- kept but what the zip turns -/
abbrev ZKeep (z TO i1 i2 S : Addr) (h h' : Heap) : Prop := ∀ c o, c ≠ z → c ≠ TO → c ≠ i1 → c ≠ i2 → c ≠ S → h.get? c = some o → h'.get? c = some o
theorem ZSt.item {i : Nat} {s : Shared} {Q : Option Value → Shared → Prop} {E : Value → Shared → Prop} (D : ZipApart z TI TO i1 i2 l1 l2) (st : ZSt z TI TO i1 i2 l1 l2 S xs ys i s.heap) (hS : S < s.heap.objs.size) {x y : Value} (ex : xs[i]? = some x) (ey : ys[i]? = some y)
    (hQ : ∀ h', ZSt z TI TO i1 i2 l1 l2 S xs ys (i + 1) h' → IsPair h' s.heap.objs.size x y → h'.objs.size = s.heap.objs.size + 1 → (∀ c o, c ≠ z → c ≠ TO → c ≠ i1 → c ≠ i2 → s.heap.get? c = some o → h'.get? c = some o) → Q (some (.ref s.heap.objs.size)) { s with heap := h' }) :
    wpAny (model prog w) A (pyNext (.ref z)) Q E s := by
  obtain ⟨hTI, h1, h2, hl1, hl2, hz⟩ := st
  have lt : ∀ {c o}, s.heap.get? c = some o → s.heap.objs.size ≠ c := fun e => Nat.ne_of_gt (Heap.lt_size e)
  have n1 : s.heap.objs.size ≠ i1 := let ⟨_, e, _⟩ := h1; lt e
  have n2 : s.heap.objs.size ≠ i2 := let ⟨_, e, _⟩ := h2; lt e
  rcases hz with ⟨hz, a, b, hTO⟩ | ⟨T, f, oT, hz, hT, r1, r2, r3, r4⟩
  · refine wpAny_pyNext_zip_item D hz hTI hTO h1 h2 hl1 hl2 ex ey fun h' a1 a2 a3 a4 a5 a6 hk => ?_
    exact hQ h' ⟨hk _ _ D.TIz D.TITO D.TIi1 D.TIi2 hTI, a3, a4, hl1.at fun o e => hk _ o D.l1z D.l1TO D.l1i1 D.l1i2 e, hl2.at fun o e => hk _ o D.l2z D.l2TO D.l2i1 D.l2i2 e,
      .inr ⟨s.heap.objs.size, false, _, a1, a5, lt hz, n1, n2, Nat.ne_of_gt hS⟩⟩ a5 a6 hk
  · refine wpAny_pyNext_zip_item_held D hz hT hTI h1 h2 hl1 hl2 ex ey fun h' a1 a3 a4 a5 a6 hk => ?_
    exact hQ h' ⟨hk _ _ D.TIz D.TIi1 D.TIi2 hTI, a3, a4, hl1.at fun o e => hk _ o D.l1z D.l1i1 D.l1i2 e, hl2.at fun o e => hk _ o D.l2z D.l2i1 D.l2i2 e,
      .inr ⟨T, true, oT, a1, hk _ _ r1 r2 r3 hT, r1, r2, r3, r4⟩⟩ a5 a6 fun c o c1 _ c3 c4 e => hk c o c1 c3 c4 e
theorem ZSt.done {i : Nat} {s : Shared} {Q : Option Value → Shared → Prop} {E : Value → Shared → Prop} (hA : A.handled = none) (D : ZipApart z TI TO i1 i2 l1 l2) (st : ZSt z TI TO i1 i2 l1 l2 S xs ys i s.heap) (hend : xs[i]? = none ∨ ys[i]? = none)
    (hQ : ∀ h', (∀ c o, c ≠ z → c ≠ TO → c ≠ i1 → c ≠ i2 → s.heap.get? c = some o → h'.get? c = some o) → Q none { s with heap := h' }) : wpAny (model prog w) A (pyNext (.ref z)) Q E s := by
  obtain ⟨hTI, h1, h2, hl1, hl2, hz⟩ := st
  rcases hz with ⟨hz, a, b, hTO⟩ | ⟨T, f, oT, hz, hT, r1, r2, r3, r4⟩
  · exact wpAny_pyNext_zip_end hA D hz hTI hTO h1 h2 hl1 hl2 hend fun h' hk => hQ h' hk
  · exact wpAny_pyNext_zip_end_held hA D hz hT hTI h1 h2 hl1 hl2 hend fun h' hk => hQ h' fun c o c1 _ c3 c4 e => hk c o c1 c3 c4 e
theorem ZItems.frame {h h' base : Heap} {acc : Array Value} {ts : List Addr} (hb : ∀ b, b = z ∨ b = TO ∨ b = i1 ∨ b = i2 → ∃ o, base.get? b = some o) (Z : ZItems h base S xs ys acc ts) (hk : ZKeep z TO i1 i2 S h h') : ZItems h' base S xs ys acc ts := by
  obtain ⟨e, nd, f⟩ := Z
  refine ⟨e, nd, fun j T hj => ?_⟩
  obtain ⟨b0, nS, x, y, ex, ey, hp⟩ := f j T hj
  have off : ∀ b, b = z ∨ b = TO ∨ b = i1 ∨ b = i2 → T ≠ b := fun b h hT => by
    obtain ⟨o, ho⟩ := hb b h
    rw [← hT] at ho
    exact Nat.not_lt.mpr b0 (Heap.lt_size ho)
  exact ⟨b0, nS, x, y, ex, ey, hk _ _ (off z (.inl rfl)) (off TO (.inr (.inl rfl))) (off i1 (.inr (.inr (.inl rfl)))) (off i2 (.inr (.inr (.inr rfl)))) nS hp⟩
theorem none_of_size {h : Heap} {a : Addr} (e : h.objs.size ≤ a) : h.get? a = none := by
  cases he : h.get? a with
  | none => rfl
  | some o => exact absurd (Heap.lt_size he) (Nat.not_lt.mpr e)
theorem ZItems.push {h h' base : Heap} {acc : Array Value} {ts : List Addr} {x y : Value} (Z : ZItems h' base S xs ys acc ts) (hbs : base.objs.size ≤ h.objs.size) (hS : S < h.objs.size) (hlt : ∀ T ∈ ts, T < h.objs.size) (hz : h'.objs.size = h.objs.size + 1)
    (ex : xs[ts.length]? = some x) (ey : ys[ts.length]? = some y) (hp : IsPair h' h.objs.size x y) : ZItems h' base S xs ys (acc.push (.ref h.objs.size)) (ts ++ [h.objs.size]) := by
  obtain ⟨e, nd, f⟩ := Z
  refine ⟨by rw [Array.toList_push, e, List.map_append]; rfl, ?_, fun j T hj => ?_⟩
  · rw [List.nodup_append]
    refine ⟨nd, List.nodup_cons.mpr ⟨List.not_mem_nil, List.nodup_nil⟩, fun a ha b hb => ?_⟩
    rw [List.mem_singleton.mp hb]
    exact Nat.ne_of_lt (hlt a ha)
  · by_cases hj' : j < ts.length
    · rw [List.getElem?_append_left hj'] at hj
      exact f j T hj
    · rw [List.getElem?_append_right (Nat.not_lt.mp hj')] at hj
      obtain ⟨d, hd⟩ : ∃ d, j = ts.length + d := ⟨j - ts.length, by omega⟩
      subst hd
      rw [Nat.add_sub_cancel_left] at hj
      cases d with
      | succ d => cases hj
      | zero =>
        cases hj
        exact ⟨hbs, Nat.ne_of_gt hS, x, y, ex, ey, hp⟩
theorem zip_extend_loop (hA : A.handled = none) (D : ZipApart z TI TO i1 i2 l1 l2) (O : ZOff z TI TO i1 i2 l1 l2 S) {base : Heap} (hb : ∀ b, b = z ∨ b = TO ∨ b = i1 ∨ b = i2 → ∃ o, base.get? b = some o) {n : Nat} (hm : n = min xs.size ys.size) (hn : n ≤ sizeLine) (res : Value) :
    ∀ (k i : Nat) (s : Shared) (acc : Array Value) (c : Nat) (ts : List Addr), n - i = k → i ≤ n → ts.length = i → ZSt z TI TO i1 i2 l1 l2 S xs ys i s.heap → s.heap.get? S = some { cls := .type "list", dict := none, data := .seq acc c, slots := #[] } →
      ZItems s.heap base S xs ys acc ts → base.objs.size ≤ s.heap.objs.size →
      (∀ h' acc' c' ts', ts'.length = n → ZKeep z TO i1 i2 S s.heap h' → h'.get? S = some { cls := .type "list", dict := none, data := .seq acc' c', slots := #[] } → ZItems h' base S xs ys acc' ts' → R (.ok (.ret res)) { s with heap := h' }) →
      codeAny (model prog w) A (.builtin "list.extend.loop" ⟨[.ref S, .ref z, res], []⟩) R s := by
  intro k
  induction k with
  | zero =>
    intro i s acc c ts hk hi hl hst hS hZ hbs hR
    have hin : i = n := by omega
    have hend : xs[i]? = none ∨ ys[i]? = none := by
      rcases Nat.le_total xs.size ys.size with h | h
      · exact .inl (Array.getElem?_eq_none (by rw [hin, hm, Nat.min_eq_left h]; exact Nat.le_refl _))
      · exact .inr (Array.getElem?_eq_none (by rw [hin, hm, Nat.min_eq_right h]; exact Nat.le_refl _))
    refine codeAny_builtin F.entry_extend_loop ?_
    rw [Around.under_plainId F.plain_extend_loop _]
    show wpAny _ A.in1 (pyNext (.ref z) >>= _) _ _ s
    refine wpAny_bind (hst.done (by exact hA) D hend fun h' hk' => ?_)
    have hk2 : ZKeep z TO i1 i2 S s.heap h' := fun c o c1 c2 c3 c4 _ e => hk' c o c1 c2 c3 c4 e
    exact wpAny_pure (hR h' acc c ts (by rw [hl, hin]) hk2 (hk' S _ O.z O.TO O.i1 O.i2 hS) (hZ.frame hb hk2))
  | succ k ih =>
    intro i s acc c ts hk hi hl hst hS hZ hbs hR
    have hlt : i < n := by omega
    have hix : i < xs.size := by omega
    have hiy : i < ys.size := by omega
    have ex := Array.getElem?_eq_getElem hix
    have ey := Array.getElem?_eq_getElem hiy
    refine codeAny_builtin F.entry_extend_loop ?_
    rw [Around.under_plainId F.plain_extend_loop _]
    show wpAny _ A.in1 (pyNext (.ref z) >>= _) _ _ s
    refine wpAny_bind (hst.item D (Heap.lt_size hS) ex ey fun h' st' hp hsz hk' => ?_)
    have hk2 : ZKeep z TO i1 i2 S s.heap h' := fun c o c1 c2 c3 c4 _ e => hk' c o c1 c2 c3 c4 e
    have hS' := hk' S _ O.z O.TO O.i1 O.i2 hS
    have hacc : acc.size = i := by rw [← Array.length_toList, hZ.1, List.length_map, hl]
    have hltT : ∀ T ∈ ts, T < s.heap.objs.size := fun T hT => by
      obtain ⟨j, hj⟩ := List.getElem?_of_mem hT
      obtain ⟨_, _, _, _, _, _, hp⟩ := hZ.2.2 j T hj
      exact Heap.lt_size hp
    have hZ' := (hZ.frame hb hk2).push hbs (Heap.lt_size hS) hltT hsz (by rw [hl]; exact ex) (by rw [hl]; exact ey) hp
    show wpAny _ A.in1 (updateSeq S (·.push (.ref s.heap.objs.size)) >>= _) _ _ _
    refine wpAny_bind ?_
    have hu : ∀ b o, b ≠ S → h'.get? b = some o → (h'.update S (Obj.mapSeq (·.push (.ref s.heap.objs.size)))).get? b = some o := fun b o hb e => (Heap.get?_update_other _ _ (Ne.symm hb)).trans e
    have huz : (h'.update S (Obj.mapSeq (·.push (.ref s.heap.objs.size)))).objs.size = h'.objs.size := by simp [Heap.update]
    refine wpAny_updateSeq (s := { s with heap := h' }) hS' rfl (wpAny_pure ⟨plainId_quiet F.plain_extend_loop _, ih (i + 1) _ (acc.push (.ref s.heap.objs.size)) _ (ts ++ [s.heap.objs.size]) (by omega) hlt (by simp [hl]) (st'.frame O hu) (Heap.get?_update_self _ hS' rfl)
      (hZ'.frame hb fun c o _ _ _ _ c5 e => hu c o c5 e) (by show _ ≤ (h'.update S _).objs.size; rw [huz]; omega) fun h'' acc' c' ts' hl' hk'' hS'' hacc' => ?_⟩)
      (by rw [hacc]; omega) (by show (acc.push _).size ≤ sizeLine + 1; rw [Array.size_push, hacc]; omega)
    exact hR h'' acc' c' ts' hl' (fun c o c1 c2 c3 c4 c5 e => hk'' c o c1 c2 c3 c4 c5 (hu c o c5 (hk' c o c1 c2 c3 c4 e))) hS'' hacc'
theorem zip_extend (hA : A.handled = none) (D : ZipApart z TI TO i1 i2 l1 l2) (O : ZOff z TI TO i1 i2 l1 l2 S) {base : Heap} (hb : ∀ b, b = z ∨ b = TO ∨ b = i1 ∨ b = i2 → ∃ o, base.get? b = some o) {n : Nat} (hm : n = min xs.size ys.size) (hn : n ≤ sizeLine) (res : Value) {s : Shared} {c₀ : Nat}
    (hz : IsZip s.heap z TI TO .none) (hst : ZSt z TI TO i1 i2 l1 l2 S xs ys 0 s.heap) (hS : s.heap.get? S = some { cls := .type "list", data := .seq #[] c₀ }) (hbs : base.objs.size ≤ s.heap.objs.size)
    (hR : ∀ h' acc' c' ts', ts'.length = n → ZKeep z TO i1 i2 S s.heap h' → h'.get? S = some { cls := .type "list", dict := none, data := .seq acc' c', slots := #[] } → ZItems h' base S xs ys acc' ts' → R (.ok (.ret res)) { s with heap := h' }) :
    wpAny (model prog w) A.in1 (Builtin.List.listExtendWith (.ref S) (.ref z) res)
      (fun fin s' => match fin with | .done f => R (.ok f) s' | .again c' => c'.quiet = true ∧ codeAny (model prog w) A c' R s') (fun e s' => R (.error e) s') s := by
  have hT : s.TypeIs (.ref z) "zip" := ⟨_, hz, rfl⟩
  unfold Builtin.List.listExtendWith
  refine wpAny_bind (wpAny_typeOf hT ?_)
  have h1 : Builtin.List.listSameRef (.ref S) (.ref z) = false := by simp [Builtin.List.listSameRef, O.z]
  have h2 : (Value.type "zip" == Value.type "list") = false := by decide
  have h3 : (Value.type "zip" == Value.type "tuple") = false := by decide
  simp only [h1, h2, h3, Bool.or_false, Bool.false_eq_true, if_false]
  refine wpAny_bind (wpAny_pyIter_zip hz ?_)
  refine wpAny_bind (wpAny_holding ?_)
  unfold Builtin.List.listLengthHint
  refine wpAny_bind (wpAny_specialOf hT zip_no_len ?_)
  show wpAny _ A.in1 (specialOf (Value.ref z) (Str.ofString "__length_hint__") >>= _) _ _ _
  refine wpAny_bind (wpAny_specialOf hT zip_no_hint ?_)
  refine wpAny_pure ?_
  show wpAny _ A.in1 (rule "list.extend.makes-room" >>= fun _ => Builtin.List.listTouch (.ref S) >>= fun _ =>
    again (.builtin "list.extend.loop" ⟨[.ref S, .ref z, res], []⟩)) _ _ _
  refine wpAny_bind (wpAny_rule ?_)
  refine wpAny_bind ?_
  show wpAny _ A.in1 (updateSeq S (·.push .none) >>= fun _ => updateSeq S (·.pop)) _ _ _
  refine wpAny_bind (wpAny_updateSeq hS rfl ?_)
  have hS₂ := Heap.get?_update_self (Obj.mapSeq (·.push Value.none)) hS rfl
  refine wpAny_updateSeq (hz := by seq_fits) hS₂ rfl ?_
  have hS₃ := Heap.get?_update_self (Obj.mapSeq (·.pop)) hS₂ rfl
  have oth : ∀ b o, b ≠ S → s.heap.get? b = some o → ((s.heap.update S (Obj.mapSeq (·.push Value.none))).update S (Obj.mapSeq (·.pop))).get? b = some o :=
    fun b o hb e => (Heap.get?_update_other _ _ (Ne.symm hb)).trans ((Heap.get?_update_other _ _ (Ne.symm hb)).trans e)
  refine wpAny_pure ⟨plainId_quiet F.plain_extend_loop _, zip_extend_loop hA D O hb hm hn _ n 0 _ #[] _ [] rfl (Nat.zero_le _) rfl (hst.frame O oth) hS₃ ⟨rfl, List.nodup_nil, fun j T hj => by cases hj⟩ (by show _ ≤ ((s.heap.update S _).update S _).objs.size; simpa [Heap.update] using hbs) fun h' acc' c' ts' hl hk hS' hZ => ?_⟩
  exact hR h' acc' c' ts' hl (fun c o c1 c2 c3 c4 c5 e => hk c o c1 c2 c3 c4 c5 (oth c o c5 e)) hS' hZ
theorem call_list_zip {E : Value → Shared → Prop} {Q : Value → Shared → Prop} {s : Shared} (hA : A.handled = none) (D : ZipApart z TI TO i1 i2 l1 l2) (hz : IsZip s.heap z TI TO .none) (hTI : IsPair s.heap TI (.ref i1) (.ref i2)) (hTO : ∃ a b, IsPair s.heap TO a b)
    (h1 : s.heap.IsListIter i1 l1 0) (h2 : s.heap.IsListIter i2 l2 0) (hl1 : s.heap.IsList l1 xs) (hl2 : s.heap.IsList l2 ys) {n : Nat} (hm : n = min xs.size ys.size) (hn : n ≤ sizeLine)
    (hQ : ∀ h' acc' c' ts', ts'.length = n → (∀ c o, c ≠ z → c ≠ TO → c ≠ i1 → c ≠ i2 → s.heap.get? c = some o → h'.get? c = some o) → h'.get? s.heap.objs.size = some { cls := .type "list", dict := none, data := .seq acc' c', slots := #[] } → ZItems h' s.heap s.heap.objs.size xs ys acc' ts' → Q (.ref s.heap.objs.size) { s with heap := h' }) :
    wpAny (model prog w) A (call (.type "list") [.ref z]) Q E s := by
  have lt : ∀ {c o}, s.heap.get? c = some o → s.heap.objs.size ≠ c := fun e => Nat.ne_of_gt (Heap.lt_size e)
  have O : ZOff z TI TO i1 i2 l1 l2 s.heap.objs.size := ⟨lt hz, lt hTI, let ⟨_, _, e⟩ := hTO; lt e, let ⟨_, e, _⟩ := h1; lt e, let ⟨_, e, _⟩ := h2; lt e, let ⟨_, e, _⟩ := hl1; lt e, let ⟨_, e, _⟩ := hl2; lt e⟩
  have hb : ∀ b, b = z ∨ b = TO ∨ b = i1 ∨ b = i2 → ∃ o, s.heap.get? b = some o := fun b h => by
    rcases h with rfl | rfl | rfl | rfl
    · exact ⟨_, hz⟩
    · obtain ⟨_, _, e⟩ := hTO; exact ⟨_, e⟩
    · obtain ⟨_, e, _⟩ := h1; exact ⟨_, e⟩
    · obtain ⟨_, e, _⟩ := h2; exact ⟨_, e⟩
  refine callType_codes (Q₁ := fun obj s₁ => obj = .ref s.heap.objs.size ∧ s₁ = { s with heap := s.heap.push { cls := .type "list", data := .seq #[] } }) F.called_list (F.typeCall_list_1 _) F.entry_list_init
    (code_list_new _ ⟨rfl, rfl⟩) fun obj s₁ h₁ => ?_
  obtain ⟨rfl, rfl⟩ := h₁
  have hS : (s.heap.push { cls := .type "list", data := .seq #[] }).get? s.heap.objs.size = some { cls := .type "list", data := .seq #[] } := Heap.get?_push_size _ rfl
  have kp : ∀ c o, s.heap.get? c = some o → (s.heap.push { cls := .type "list", data := .seq #[] }).get? c = some o := fun c o e => Heap.get?_push_of_some _ e
  refine ⟨⟨_, hS, rfl⟩, F.args_list_init_2 _ _, ?_⟩
  show wpAny _ _ (do let old ← Builtin.List.listItems (.ref s.heap.objs.size); Builtin.List.listUpdate (.ref s.heap.objs.size) (fun _ => #[]); letGo old.toList.reverse; Builtin.List.listExtendWith (.ref s.heap.objs.size) (.ref z) .none) _ _ _
  refine wpAny_bind ?_
  unfold Builtin.List.listItems
  refine wpAny_bind (wpAny_seqItems hS rfl (wpAny_pure ?_))
  show wpAny _ _ (updateSeq s.heap.objs.size (fun _ => #[]) >>= fun _ => letGo (#[] : Array Value).toList.reverse >>= fun _ => Builtin.List.listExtendWith (.ref s.heap.objs.size) (.ref z) .none) _ _ _
  refine wpAny_bind (wpAny_updateSeq hS rfl ?_)
  have hS₂ := Heap.get?_update_self (Obj.mapSeq (fun _ => (#[] : Array Value))) hS rfl
  have oth : ∀ b o, b ≠ s.heap.objs.size → s.heap.get? b = some o → ((s.heap.push { cls := .type "list", data := .seq #[] }).update s.heap.objs.size (Obj.mapSeq (fun _ => (#[] : Array Value)))).get? b = some o :=
    fun b o hb e => (Heap.get?_update_other _ _ (Ne.symm hb)).trans (kp b o e)
  refine wpAny_bind (wpAny_letGo ?_)
  have st : ZSt z TI TO i1 i2 l1 l2 s.heap.objs.size xs ys 0 s.heap := ⟨hTI, h1, h2, hl1, hl2, .inl ⟨hz, hTO⟩⟩
  refine zip_extend (A := A.in1) hA D O hb hm hn .none (oth z _ (Ne.symm O.z) hz) (st.frame O oth) hS₂ (by show _ ≤ ((s.heap.push _).update _ _).objs.size; simp [Heap.update, Heap.size_push]) fun h' acc' c' ts' hl hk hS' hZ => ?_
  exact ⟨rfl, hQ h' acc' c' ts' hl (fun c o c1 c2 c3 c4 e => hk c o c1 c2 c3 c4 (lt e).symm (oth c o (lt e).symm e)) hS' hZ⟩
end
end PySem
namespace L2N
open PySem PySem.Spec PyProof.Rows L2
inductive NewPairs : Hp → List Addr → List (V × V) → Hp → Prop
  | nil (H : Hp) : NewPairs H [] [] H
  | cons {H H' : Hp} {T : Addr} {p : V × V} {ts : List Addr} {ps : List (V × V)} (hT : H T = none) (r : NewPairs (upd H T (.tup [p.1, p.2])) ts ps H') : NewPairs H (T :: ts) (p :: ps) H'
section
variable {X : Cx} {pins : List (Addr × Obj)} {σ : St}
theorem laidPairs {s : Shared} {h' : Heap} : ∀ (ts : List Addr) (ps : List (V × V)) (H : Hp) (G : Heap), Inv X pins σ H { s with heap := G } → (∀ b o, G.get? b = some o → h'.get? b = some o) → (∀ T ∈ ts, G.get? T = none ∧ H T = none) → ts.Nodup → ts.length = ps.length →
    (∀ (j : Nat) T (p : V × V), ts[j]? = some T → ps[j]? = some p → ∃ u v, RelV p.1 u ∧ RelV p.2 v ∧ IsPair h' T u v) →
    ∃ G' H', NewPairs H ts ps H' ∧ Inv X pins σ H' { s with heap := G' } ∧ (∀ b o, G'.get? b = some o → h'.get? b = some o) ∧ (∀ S, S ∉ ts → G.get? S = none → G'.get? S = none) ∧ (∀ S, S ∉ ts → H S = none → H' S = none)
  | [], [], H, G, I, k, _, _, _, _ => ⟨G, H, .nil H, I, k, fun _ _ e => e, fun _ _ e => e⟩
  | [], _ :: _, _, _, _, _, _, _, e, _ => by cases e
  | _ :: _, [], _, _, _, _, _, _, e, _ => by cases e
  | T :: ts, p :: ps, H, G, I, k, fr, nd, hl, hp => by
    obtain ⟨u, v, r1, r2, pT⟩ := hp 0 T p rfl rfl
    obtain ⟨gT, HT⟩ := fr T List.mem_cons_self
    obtain ⟨nT, nd'⟩ := List.nodup_cons.mp nd
    obtain ⟨G1, g1, g2⟩ := restrict h' fun b => decide (b = T) || (G.get? b).isSome
    have kG : ∀ b o, G.get? b = some o → G1.get? b = some o := fun b o e => by
      rw [g1 b (by rw [e]; simp)]
      exact k b o e
    have kT : G1.get? T = h'.get? T := g1 T (by simp)
    have nn : ∀ b, b ≠ T → G.get? b = none → G1.get? b = none := fun b hb e => g2 b (by rw [e]; simp [hb])
    have sub : ∀ b o, G1.get? b = some o → h'.get? b = some o := fun b o e => by
      by_cases hb : (decide (b = T) || (G.get? b).isSome) = true
      · rw [← g1 b hb]; exact e
      · rw [g2 b (by simpa using hb)] at e; cases e
    have I1 : Inv X pins σ (upd H T (.tup [p.1, p.2])) { s with heap := G1 } :=
      Inv.laidN (s := { s with heap := G }) (t' := s.toks) I kG gT HT (show ObjOk X.prog X.w _ _ _ (.tup [p.1, p.2]) from ⟨by rw [sizeLine_eq]; simp, [u, v], .cons r1 (.cons r2 .nil), by first | exact ⟨_, kT.trans pT, rfl, rfl, _, rfl⟩ | exact ⟨_, kT.trans pT, rfl, _, rfl, rfl⟩ | exact ⟨_, kT.trans pT, rfl, _, rfl⟩ | exact ⟨_, kT.trans pT, _, rfl, rfl, rfl⟩ | exact ⟨kT.trans pT, rfl⟩⟩)
    obtain ⟨G', H', np, I', sub', n1, n2⟩ := laidPairs ts ps _ G1 I1 sub (fun T' hT' => ⟨nn T' (fun e => nT (e ▸ hT')) (fr T' (List.mem_cons_of_mem _ hT')).1, (upd_ne (a := T) (b := T') fun e => nT (e ▸ hT')).trans (fr T' (List.mem_cons_of_mem _ hT')).2⟩) nd' (by simpa using hl)
      (fun j T' p' h1 h2 => hp (j + 1) T' p' h1 h2)
    refine ⟨G', H', .cons HT np, I', sub', fun S hS e => ?_, fun S hS e => ?_⟩
    · exact n1 S (fun h => hS (List.mem_cons_of_mem _ h)) (nn S (fun h => hS (h ▸ List.mem_cons_self)) e)
    · exact n2 S (fun h => hS (List.mem_cons_of_mem _ h)) ((upd_ne (a := T) (b := S) fun h => hS (h ▸ List.mem_cons_self)).trans e)
theorem vals_refs : ∀ ts : List Addr, Vals (ts.map V.ref) (ts.map Value.ref)
  | [] => .nil
  | _ :: ts => .cons rfl (vals_refs ts)
theorem vals_get : ∀ {xs : List V} {us : List Value}, Vals xs us → ∀ (j : Nat) (x : V) (u : Value), xs[j]? = some x → us[j]? = some u → RelV x u
  | _, _, .nil, j, _, _, e, _ => by cases j <;> cases e
  | _, _, .cons a r, 0, _, _, e1, e2 => by cases e1; cases e2; exact a
  | _, _, .cons a r, j + 1, x, u, e1, e2 => vals_get r j x u e1 e2
/-- list(zip(a, b)): a new list of new pairs -/
def rListZip (K : PySem.W.Frag) : List V → Hp → VK → Prop := fun args H Q => ∃ p q xs ys, args = [.ref p, .ref q] ∧ SqL K H p xs ∧ SqL K H q ys ∧ ∀ ts H', NewPairs H ts (xs.zip ys) H' → ∀ r, H' r = none → Q (.ref r) (upd H' r (.lst (ts.map V.ref)))
theorem call_list_zip2 (hc : X.calm = true) {s : Shared} {H : Hp} {Q : VK} {args : List V} {us : List Value} (I : Inv X pins σ H s) (r : Vals args us) (h : rListZip X.K args H Q) :
    wpAny (model X.prog X.w) X.A (call (.type "zip") us) (fun z s' => wpAny (model X.prog X.w) X.A (call (.type "list") [z]) (EP X pins σ Q) X.xe s') X.xe s := by
  obtain ⟨p, q, xs, ys, e, hx, hy, k⟩ := h
  subst e
  obtain ⟨u1, u2, rfl, r1, r2⟩ : ∃ u1 u2, us = [u1, u2] ∧ RelV (V.ref p) u1 ∧ RelV (V.ref q) u2 := by
    cases r with
    | cons a b => cases b with
      | cons c d => cases d; exact ⟨_, _, rfl, a, c⟩
  obtain rfl : u1 = Value.ref p := r1
  obtain rfl : u2 = Value.ref q := r2
  obtain ⟨i1, v1, pl1, z1⟩ := I.list hx
  obtain ⟨i2, v2, pl2, z2⟩ := I.list hy
  have l1 := pl1.isList
  have l2 := pl2.isList
  have a1 : p < s.heap.objs.size := by obtain ⟨_, e, _⟩ := l1; exact Heap.lt_size e
  have a2 : q < s.heap.objs.size := by obtain ⟨_, e, _⟩ := l2; exact Heap.lt_size e
  refine call_zip_2 l1 l2 fun h1 hz hTI hTO hi1 hi2 hsz hk => ?_
  refine call_list_zip (s := { s with heap := h1 }) (I.ok.hd hc) (zipApart_new a1 a2) hz hTI ⟨_, _, hTO⟩ hi1 hi2 (l1.at fun o e => hk _ o e) (l2.at fun o e => hk _ o e) rfl ?_ fun h2 acc c ts hl hk2 hS hZ => ?_
  · exact Nat.le_trans (Nat.min_le_left _ _) (by rw [List.size_toArray, ← v1.length]; exact z1)
  · have k02 : ∀ b o, s.heap.get? b = some o → h2.get? b = some o := fun b o e => by
      have lt := Heap.lt_size e
      exact hk2 b o (Nat.ne_of_lt (Nat.lt_of_lt_of_le lt (Nat.le_add_right _ _))) (Nat.ne_of_lt (Nat.lt_of_lt_of_le lt (Nat.le_add_right _ _))) (Nat.ne_of_lt lt) (Nat.ne_of_lt (Nat.lt_of_lt_of_le lt (Nat.le_add_right _ _))) (hk b o e)
    obtain ⟨e, nd, f⟩ := hZ
    have hnew : ∀ T ∈ ts, s.heap.objs.size ≤ T ∧ T ≠ h1.objs.size := fun T hT => by
      obtain ⟨j, hj⟩ := List.getElem?_of_mem hT
      obtain ⟨b0, nS, _⟩ := f j T hj
      exact ⟨by rw [hsz] at b0; omega, nS⟩
    have hlen : ts.length = (xs.zip ys).length := by
      have q1 := v1.length
      have q2 := v2.length
      rw [hl, List.length_zip, List.size_toArray, List.size_toArray]
      omega
    have hprs : ∀ (j : Nat) T (p : V × V), ts[j]? = some T → (xs.zip ys)[j]? = some p → ∃ u v, RelV p.1 u ∧ RelV p.2 v ∧ IsPair h2 T u v := by
      intro j T p hj hp
      obtain ⟨_, _, x, y, ex, ey, hpr⟩ := f j T hj
      rw [List.getElem?_zip_eq_some] at hp
      exact ⟨x, y, vals_get v1 j _ _ hp.1 (by rw [← ex, List.getElem?_toArray]), vals_get v2 j _ _ hp.2 (by rw [← ey, List.getElem?_toArray]), hpr⟩
    obtain ⟨G, H', np, I', sub, n1, n2⟩ := laidPairs (s := s) (h' := h2) ts (xs.zip ys) H s.heap I k02 (fun T hT => ⟨none_of_size (hnew T hT).1, I.hok.fresh (hnew T hT).1⟩) nd hlen hprs
    · have hS1 : h1.objs.size ∉ ts := fun h => (hnew _ h).2 rfl
      have hle : s.heap.objs.size ≤ h1.objs.size := by omega
      have HS := n2 _ hS1 (I.hok.fresh hle)
      refine ⟨.ref h1.objs.size, upd H' h1.objs.size (.lst (ts.map V.ref)), Inv.laidN (s := { s with heap := G }) (t' := s.toks) I' sub (n1 _ hS1 (none_of_size hle)) HS (show ObjOk X.prog X.w _ _ _ (.lst (ts.map V.ref)) from ⟨?_, acc.toList, c, ?_, ?_⟩), rfl, k ts H' np _ HS⟩
      · rw [List.length_map, hl]
        exact Nat.le_trans (Nat.min_le_left _ _) (by rw [List.size_toArray, ← v1.length]; exact z1)
      · rw [e]; exact vals_refs ts
      · rw [Array.toArray_toList]; exact hS
theorem pe_listZip {a : Expr} {es : List Expr} {ta : TA} {p p2 pos pos2 : Pos} (hc : X.calm = true) (hg : Gl X "list") (hm : X.mg "list" = none) (hg2 : Gl X "zip") (hm2 : X.mg "zip" = none) (ha : PA X (a :: es) ta)
    (na : starEach [.Call (.Name "zip" p2) (a :: es) [] pos2] X.env = (false, eval (.Call (.Name "zip" p2) (a :: es) [] pos2) X.env) :: starEach [] X.env := by rfl) (he : starEach (a :: es) X.env = (false, eval a X.env) :: starEach es X.env := by rfl) (hpl : (backTo pos2 (starEach es X.env)).any (·.1) = false := by rfl) :
    PE X (.Call (.Name "list" p) [.Call (.Name "zip" p2) (a :: es) [] pos2] [] pos) (tCB (rListZip X.K) ta) := by
  refine ⟨fun pins s σ H Q I h => ?_⟩
  refine Call_ (ld_blt I hg hm boot_list (PyProof.Rows.callWith_type1 (args_cons ?_ na) na))
  refine wpAny_Call_Name_kw (ld_blt I hg2 hm2 boot_zip ?_)
  exact PyProof.Rows.callWith_type1 (thn (ha.run pos2 pins s σ H _ I h) fun us s1 ⟨vs, H1, I1, r1, q1⟩ => thn (call_list_zip2 hc I1 r1 q1) fun z s' hz => args_nil hz) he hpl
end
end L2N


-- end of a part
set_option Elab.async false
set_option linter.all false
set_option maxRecDepth 100000
set_option maxHeartbeats 4000000
/-! # a rule that the layer lacks: try .. except X as n: a suite that raises out of it -/
namespace L2N
open PySem PySem.Spec PyProof.Rows L2 L2H
section
variable {X : Cx} {pins : List (Addr × Obj)} {σ : L2.St} {H : Hp} {s : Shared}
/-- the frame's own names have changed: what the slots hold is forgotten -/
theorem frameGone {t' : Nat} {h' : Heap} {m' : Str → Option Value} (I : Inv X pins σ H s) (hn' : h'.Ns X.env.locals m') (hs : Heap.SameBut X.env.locals s.heap h') : Inv X pins (σ.map fun _ => none) H { s with heap := h', toks := t' } := by
  have neL : ∀ b o, X.s_0.heap.get? b = some o → h'.get? b = s.heap.get? b := fun b o e => hs.2 b (Nat.ne_of_lt (Nat.lt_of_lt_of_le (Heap.lt_size e) I.ok.above))
  refine ⟨I.ok, I.os, I.bare, ⟨fun b o e n hb hx => (neL b o e).trans (I.base.keep b o e n hb hx), fun b o e n hb hx => ?_, I.base.free, fun b o e hx => ?_, I.base.tups, I.base.frzs, I.base.tbls⟩, ⟨m', hn', fun j y v e1 e2 _ => ?_⟩, fun y c e => ?_, I.free, I.freeC, fun p hp => ?_, fun b ob e => ?_, by rw [List.length_map]; exact I.len⟩
  · obtain ⟨sl, e1⟩ := I.base.slot b o e n hb hx
    exact ⟨sl, (neL b o e).trans e1⟩
  · obtain ⟨o', e1⟩ := I.base.there b o e hx
    exact ⟨o', (neL b o e).trans e1⟩
  · rw [List.getElem?_map] at e2
    cases q : σ[j]? with
    | none => rw [q] at e2; cases e2
    | some z => rw [q] at e2; cases e2
  · obtain ⟨w', z⟩ := I.cell y c e
    exact ⟨w', z.sameBut hs (I.cne y c e)⟩
  · obtain ⟨e, n, ne, nf, d⟩ := I.pin p hp
    exact ⟨(hs.2 p.1 ne).trans e, n, ne, nf, d⟩
  · refine (I.hok b ob e).stay (fun c w' hc q => (hs.2 c fun z => ?_).trans q) (fun _ q => q) fun _ _ q => q
    rw [z] at hc
    have fr := I.free
    rcases hc with hc | hc
    · rw [← hc, fr] at e; cases e
    · rw [fr] at hc; cases hc
theorem framesBut {a : Addr} {B h h' : Heap} (hs : Heap.SameBut a h h') {o' : Obj} (ha : h'.get? a = some o') (hd : ∀ vs, o'.data ≠ .fields vs) : ∀ {l : List Env}, h.FunFrames B l → h'.FunFrames B l
  | [], _ => trivial
  | _ :: _, ⟨k, ⟨L, o, hf, hn, ho, hd0⟩, r⟩ => by
    refine ⟨k, ?_, framesBut hs ha hd r⟩
    by_cases z : L = a
    · exact ⟨L, o', hf, hn, by rw [z]; exact ha, hd⟩
    · exact ⟨L, o, hf, hn, (hs.2 L z).trans ho, hd0⟩
/-- the suite behind `except .. as n` has raised: the name goes, the exception flies on -/
theorem as_raised {E : XK} {n : Str} {pos : Pos} (hs : X.stack = X.env :: X.outer) (hf : X.env.frame = some X.env.locals) (hln : X.env.kindOf n = some .local) (tk : L2.Takes X (fun cls d _ H => E cls d H)) {A' : Around} (hfr : A'.frames = some (X.env :: X.outer))
    {N E2 E3 : Value → Shared → Prop} (hN : ∀ e s, X.xe e s → N e s) {a : Addr} {B : Heap} {sI s' : Shared} {cls : Value} {d : Option Addr} (J : Inv X pins σ H sI) (nb : ∀ b o, sI.heap.get? b = some o → b ∉ frs X.stack → B.get? b = some o) (up : sI.heap.UpToSlots s'.heap)
    (sky : Sky B X.stack a (Zc cls d) X.env.locals s'.heap) (na : H a = none) (os : s'.os = sI.os) (ag : AllBare s'.gens) (w : E cls d H) :
    wpAny (model X.prog X.w) A' (noteFrame (.ref a) X.env) (fun _ s1 => wpAny (model X.prog X.w) A' (do bindName X.env n .none; unbindBehindTheSuite X.env n pos)
      (fun _ s2 => wpAny (model X.prog X.w) A' (passOn "try.except-as" (.ref a) X.env : Sem Flow) (fun _ _ => False) N s2) E2 s1) E3 s' := by
  rw [hs] at sky
  have fin : ∀ h1, HandSPX.HeldZ B (X.env :: X.outer) a (Zc cls d) X.env.locals h1 → s'.heap.UpToSlots h1 →
      wpAny (model X.prog X.w) A' (do bindName X.env n .none; unbindBehindTheSuite X.env n pos) (fun _ s2 => wpAny (model X.prog X.w) A' (passOn "try.except-as" (.ref a) X.env : Sem Flow) (fun _ _ => False) N s2) E2 { s' with heap := h1 } := by
    intro h1 hh up1
    have J3 : Inv X pins σ H { s' with heap := h1 } := J.landed nb hh.1 (up.trans up1) os ag
    obtain ⟨m, hn, _⟩ := id J3.loc
    have hcls : (X.env.scope.kind == .class || (X.env.scope.kind == .module && X.env.locals != X.env.globals)) = false := by rw [J.ok.kind]; rfl
    refine wpAny_nameGoes hln hn hcls fun h4 m4 hn4 hs4 => ?_
    obtain ⟨st, nB, ff, oe, vs, T, oT, ts, he, hz, hd, hT1, hnT, hTe, hT, hdT, h3⟩ := id hh
    obtain ⟨oL, es, ep, hoL, hdL, hsk, hmm⟩ := id hn
    have aL : a ≠ X.env.locals := fun z => by rw [z, hoL] at he; cases he; rw [hdL] at hd; cases hd
    have TL : T ≠ X.env.locals := fun z => by rw [z, hoL] at hT; cases hT; rw [hdL] at hdT; cases hdT
    obtain ⟨oL4, es4, ep4, hoL4, hdL4, hsk4, hmm4⟩ := id hn4
    have ndL4 : ∀ vs, oL4.data ≠ .fields vs := fun vs z => by rw [hdL4] at z; cases z
    have BL : B.get? X.env.locals = none := by
      obtain ⟨_, ⟨L, o, e1, e2, _⟩, _⟩ := id ff
      rw [hf] at e1
      cases e1
      exact e2
    have hh4 : HandSPX.HeldZ B (X.env :: X.outer) a (Zc cls d) X.env.locals h4 := by
      refine ⟨fun b o e => (hs4.2 b fun z => ?_).trans (st b o e), nB, framesBut hs4 hoL4 ndL4 ff, oe, vs, T, oT, ts, (hs4.2 a aL).trans he, hz, hd, hT1, hnT, hTe, (hs4.2 T TL).trans hT, hdT, h3⟩
      rw [z, BL] at e
      cases e
    -- the state without the exception
    obtain ⟨mI, hnI, _⟩ := id J.loc
    obtain ⟨oI, esI, epI, hoI, hdI, _⟩ := id hnI
    have hG := Heap.get?_update_self (fun _ => oL4) hoI (by cases oL4; cases hdL4; rfl)
    have oth : ∀ b, b ≠ X.env.locals → (sI.heap.update X.env.locals fun _ => oL4).get? b = sI.heap.get? b := fun b hb => Heap.get?_update_other _ _ (Ne.symm hb)
    have JG : Inv X pins (σ.map fun _ => none) H { sI with heap := sI.heap.update X.env.locals fun _ => oL4, toks := sI.toks } :=
      frameGone (m' := m4) J ⟨oL4, es4, ep4, hG, hdL4, hsk4, hmm4⟩ ⟨by simp [Heap.update], oth⟩
    unfold PySem.passOn
    refine wpAny_bind (wpAny_field ((hs4.2 a aL).trans he) hd hT1 ?_)
    rw [if_neg (show ¬ ((Value.ref T == Value.none) = true) from by simp)]
    have last : wpAny (model X.prog X.w) A' (setFlight (.ref a) X.env.frame) (fun _ s4 => wpAny (model X.prog X.w) A' (throw (.ref a) : Sem Flow) (fun _ _ => False) N s4) N { s' with heap := h4, toks := s'.toks + 1 } := by
      rw [hf]
      refine HandSPX.setFlight_onZ hh4 fun h5 hh5 up5 => wpAny_throw (hN _ _ (tk _ _ ?_))
      refine ⟨a, B, { sI with heap := sI.heap.update X.env.locals fun _ => oL4, toks := sI.toks }, pins, _, H, cls, d, rfl, JG, fun b o e hb => ?_, fun b o e hd' => ?_, .inr (.inr (by rw [hs]; exact hh5)), na, os, ag, w⟩
      · have bL : b ≠ X.env.locals := fun z => hb (by rw [hs, z]; exact List.mem_filterMap.mpr ⟨X.env, List.mem_cons_self, hf⟩)
        exact nb b o ((oth b bL).symm.trans e) hb
      · by_cases bL : b = X.env.locals
        · have e' : (sI.heap.update X.env.locals fun _ => oL4).get? b = some o := e
          rw [bL, hG] at e'
          cases e'
          rw [bL]
          exact up5 _ _ hoL4 hd'
        · obtain ⟨sl, e1⟩ := (up.trans up1) b o ((oth b bL).symm.trans e) hd'
          obtain ⟨sl2, e2⟩ := up5 b _ ((hs4.2 b bL).trans e1) hd'
          exact ⟨sl2, e2⟩
    first
      | exact wpAny_bind (wpAny_pure (wpAny_bind last))
      | exact wpAny_bind last
  rcases sky with ⟨hB, hn, hl, oe, vs, he, hz, hd, h1⟩ | fl | hh
  · exact HandSPX.look_newZ Zc.steady hfr hl hf he hB hn hd h1 hz fin
  · exact HandSPX.looks_onZ Zc.steady hfr hf fl fin
  · exact HandSPX.againZ hf hh.2.2.2 (fin s'.heap hh (Heap.UpToSlots.refl _))
end
/-- the context of an except suite whose errors go where xe says -/
abbrev suiteE (X : Cx) (a : Addr) (pn : List (Addr × Obj)) (xe : Value → Shared → Prop) : Cx := { suiteX X a pn with xe := xe }
/-- the exception is of the class that is named: the suite's reading, the name in slot i -/
def wAsX (K : PySem.W.Frag) (c : Value) (i : Nat) (ts : Addr → Value → Option Addr → TS) (D : Ends) : WX := fun cls d σ H =>
  PySem.W.exmOne K cls c = some true ∧ ∀ a, H a = none → ts a cls d { nx := fun σ' H' => D.nx (σ'.set i none) H', rt := D.rt, bk := fun σ' H' => D.bk (σ'.set i none) H', ct := fun σ' H' => D.ct (σ'.set i none) H' } (σ.set i (some (.ref a))) H
section
variable {X : Cx} {pins : List (Addr × Obj)} {σ : L2.St} {H : Hp} {s : Shared}
theorem suiteE_of {a : Addr} {pn pn' : List (Addr × Obj)} {xe : Value → Shared → Prop} (I : Inv (X.suite a pn) pn' σ H s) : Inv (suiteE X a pn xe) pn' σ H s := Inv.unwish (X := suiteE X a pn xe) (E := fun _ _ => False) I
theorem unsuiteE {a : Addr} {q : Addr × Obj} {pn' : List (Addr × Obj)} {xe : Value → Shared → Prop} (I : Inv (suiteE X a (q :: (X.pn ++ pins)) xe) pn' σ H s) (ok : X.Ok) : Inv X pins σ H s :=
  Inv.unsuite (X := X) (a := a) (q := q) (pn' := pn') (show Inv (X.suite a (q :: (X.pn ++ pins))) pn' σ H s from I.wish fun _ _ => False) ok
end
section
variable {X : Cx} {x n : Str} {c : Value} {i : Nat} {body suite : List Stmt} {b₀ : Stmt} {np pos pos' : Pos} {tb : WX → TS} {ts : Addr → Value → Option Addr → TS} {E : XK}
theorem ps_try_asX (hs : X.stack = X.env :: X.outer) (hf : X.env.frame = some X.env.locals) (hN : X.N.Nodup) (hi : X.N[i]? = some n) (hln : X.env.kindOf n = some .local) (hc : Names X x c) (hpa : ∀ hd : Option Value, PassesOwnAt (model X.prog X.w) (X.A.mark hd) X.A X.env X.xe)
    (tk : L2.Takes X (fun cls d _ H => E cls d H))
    (hb : ∀ (W : WX) (pn : List (Addr × Obj)) (xe : Value → Shared → Prop), L2N.Takes (X.tr pn xe) W → PassesOwn (model X.prog X.w) X.A X.env xe → PSs (X.tr pn xe) body (tb W))
    (hsu : ∀ (a : Addr) (oe : Obj) (cls : Value) (d : Option Addr) (pn : List (Addr × Obj)) (xe : Value → Shared → Prop), L2N.Zn cls d oe → (∃ vs, oe.data = .fields vs) → L2.Takes (suiteE X a ((a, oe) :: pn) xe) (fun cls d _ H => E cls d H) → HotC (suiteE X a ((a, oe) :: pn) xe) →
      PSs (suiteE X a ((a, oe) :: pn) xe) (b₀ :: suite) (ts a cls d)) :
    PS X (.Try body [.ExceptHandler (some (.Name x np)) (some n) (b₀ :: suite) pos'] [] [] pos) (fun D σ H => tb (wAsX X.K c i ts D) D σ H) := by
  refine ⟨fun pins s σ H D I h => ?_⟩
  have ok := I.ok
  have hfr : X.A.frames = some (X.env :: X.outer) := by rw [ok.frames, hs]
  have hloc : Loc X.env.scope n := .inl hln
  refine wpAny_Try_except ?_
  refine wpAny_mono ((hb (wAsX X.K c i ts D) (X.pn ++ pins) (fun e s₁ => wpAny (model X.prog X.w) X.A (noteFrame e X.env) (fun _ s₂ => wpAny (model X.prog X.w) X.A (setFlight e none) (fun _ s₃ =>
    wpAny (model X.prog X.w) X.A (handleBy e X.env [.ExceptHandler (some (.Name x np)) (some n) (b₀ :: suite) pos']) (SP X pins D) X.xe s₃) X.xe s₂) X.xe s₁) (fun u s' xx => ?_) PassesOwn.looking).run [] s σ H D (I.toTry _) h) (fun f s1 hsp => ?_) (fun e s1 he => he)
  · obtain ⟨a, B, sI, pins', σ', H', cls, d, rfl, J', nb, up, sky, na, os, ag, hb1, hyes⟩ := xx
    have J : Inv X pins σ' H' sI := J'.ofTry ok
    have sky' : Sky B (X.env :: X.outer) a (L2N.Zn cls d) X.env.locals s'.heap := by rw [← hs]; exact sky
    show wpAny (model X.prog X.w) X.A (noteFrame (.ref a) X.env) _ _ _
    refine L2N.Sky.land L2N.Zn.steady hfr hf sky' fun h3 fl3 up3 => ?_
    have J3 : Inv X pins σ' H' { s' with heap := h3 } := J.landed nb fl3.1 (up.trans up3) os ag
    obtain ⟨oe3, vs3, he3, hz3, hd3⟩ := fl3.there
    have nfr : a ∉ frs (X.env :: X.outer) := fun hm => by
      obtain ⟨_, o', e', hnf⟩ := fl3.2.2.1.mem hm
      rw [he3] at e'
      cases e'
      exact hnf _ hd3
    have nL : a ≠ X.env.locals := fun z => nfr (List.mem_filterMap.mpr ⟨X.env, List.mem_cons_self, by rw [hf, z]⟩)
    have nF : a ∉ X.fs := fun hm => by
      obtain ⟨e, he, q⟩ := List.mem_filterMap.mp hm
      exact nfr (List.mem_filterMap.mpr ⟨e, List.mem_cons_of_mem _ he, q⟩)
    have S3 := J3.suite he3 hd3 na nL nF
    refine wpAny_handleBy_cons (codeAny_handlers_test ?_) (by intro q; cases q)
    have LT : PySem.W.Looks (model X.prog X.w) h3 (typeOf (.ref a)) cls := fun A Q E s k q => wpAny_typeOf_ref (k _ _ he3) (by rw [hz3.1]; exact q)
    have LM := PySem.W.exm_one (M := model X.prog X.w) (J3.kIn) LT hb1
    have test : ∀ {Q : Value → Shared → Prop} {E : Value → Shared → Prop}, Q c { s' with heap := h3 } → wpAny (model X.prog X.w) (X.A.mark (some (.ref a))) (eval (.Name x np) X.env) Q E { s' with heap := h3 } := fun {Q E} q => by
      obtain ⟨hg, hdbg, hm | ⟨hm, hv, hnn⟩⟩ := hc
      · exact ld_glob (X := X.suite a ((a, oe3) :: (X.pn ++ pins))) S3 hg hm q hdbg
      · exact ld_blt (X := X.suite a ((a, oe3) :: (X.pn ++ pins))) S3 hg hm hv q hnn hdbg
    refine test (LM.here ?_)
    refine codeAny_handlers_suite_as ?_
    refine HandSPX.lands_againZ fl3 fun h4 fl4 up4 => ?_
    have J4 : Inv X pins σ' H' { s' with heap := h4 } := J.landed nb fl4.1 ((up.trans up3).trans up4) os ag
    obtain ⟨oe4, vs4, he4, hz4, hd4⟩ := fl4.there
    have S4 := J4.suite he4 hd4 na nL nF
    refine store_ok (X := X.suite a ((a, oe4) :: (X.pn ++ pins))) (v := .ref a) S4 hN hi hloc rfl (fun s5 S5 => ?_) (.inr hln)
    have hot : ∀ xe, HotC (suiteE X a ((a, oe4) :: (X.pn ++ pins)) xe) := fun _ => ⟨(a, oe4), ⟨rfl, vs4, hd4, hz4.2.2 vs4 hd4⟩, List.mem_cons_self⟩
    refine wpAny_mono ((hsu a oe4 cls d (X.pn ++ pins) _ hz4 ⟨_, hd4⟩ (fun u2 s2 x2 => ?_) (hot _)).run [] s5 _ H' _ (suiteE_of S5) (hyes a na)) (fun f s6 hsp => ?_) (fun e6 s6 z => z)
    · obtain ⟨a2, B2, sI2, pn2, σ2, H2, cls2, d2, rfl, I2, nb2, up2, sky2, na2, os2, ag2, w2⟩ := x2
      exact as_raised hs hf hln tk (A' := X.A.mark (some (.ref a))) hfr (fun e s h => hpa (some (.ref a)) e s h) (unsuiteE I2 ok) nb2 up2 sky2 na2 os2 ag2 w2
    have end_ : ∀ {σ6 : L2.St} {H6 : Hp} {Q : Shared → Prop}, Inv X pins σ6 H6 s6 → (∀ s7, Inv X pins (σ6.set i none) H6 s7 → Q s7) →
        wpAny (model X.prog X.w) X.A (do bindName X.env n .none; unbindBehindTheSuite X.env n pos') (fun _ s7 => Q s7) X.xe s6 := fun {σ6 H6 Q} S6 hq => gone_ok S6 hN hi hln hq
    cases f with
    | next =>
      obtain ⟨σ6, H6, S6, q6⟩ := hsp
      exact end_ (unsuiteE S6 ok) fun s7 J7 => ⟨_, _, J7, q6⟩
    | brk =>
      obtain ⟨σ6, H6, S6, q6⟩ := hsp
      exact end_ (unsuiteE S6 ok) fun s7 J7 => ⟨_, _, J7, q6⟩
    | cont =>
      obtain ⟨σ6, H6, S6, q6⟩ := hsp
      exact end_ (unsuiteE S6 ok) fun s7 J7 => ⟨_, _, J7, q6⟩
    | ret u =>
      obtain ⟨v6, σ6, H6, S6, r6, q6⟩ := hsp
      exact end_ (unsuiteE S6 ok) fun s7 J7 => ⟨_, _, _, J7, r6, q6⟩
  · cases f with
    | next =>
      obtain ⟨σ', H', J', q⟩ := hsp
      exact wpAny_execs_nil ⟨σ', H', J'.ofTry ok, q⟩
    | brk =>
      obtain ⟨σ', H', J', q⟩ := hsp
      exact ⟨σ', H', J'.ofTry ok, q⟩
    | cont =>
      obtain ⟨σ', H', J', q⟩ := hsp
      exact ⟨σ', H', J'.ofTry ok, q⟩
    | ret u =>
      obtain ⟨v, σ', H', J', r, q⟩ := hsp
      exact ⟨v, σ', H', J'.ofTry ok, r, q⟩
end
/-- err.f in such a suite -/
theorem pe_xfE {X : Cx} {a C : Addr} {oe : Obj} {cls : Value} {d : Option Addr} {pn : List (Addr × Obj)} {xe : Value → Shared → Prop} {e : Expr} {te : TE} {pos : Pos} {n : Str} (T : XfC X.K C) (hno : PySem.W.findIn X.K (.ref C) n = some none)
    (hz : L2N.Zn cls d oe) (hf : ∃ vs, oe.data = .fields vs) (he : PE (X.suite a ((a, oe) :: pn)) e te) (hb : attributeBase e n X.env (eval e X.env) = eval e X.env := by rfl) :
    PE (suiteE X a ((a, oe) :: pn) xe) (.Attribute e n pos) (tXf a cls d C n te) :=
  PE.nox (X := suiteE X a ((a, oe) :: pn) xe) (show PE (X.suite a ((a, oe) :: pn)) (.Attribute e n pos) (tXf a cls d C n te) from pe_xf T hno hz.zc hf he hb)
end L2N
namespace L2
open PySem PySem.Spec PyProof.Rows L2H
/-- as Fun.ok, for a def that is called while an exception is handled -/
theorem Fun.okH {P : Program} {w : World} {K : PySem.W.Frag} {mg : Str → Option Value} {base : Heap} {x qual : Str} {st : Stmt} {f : Addr} {fd : FuncData} {N ps : List Str} {k : Nat} {sp : Sp} (F : Fun K x qual st f fd) (S : FnScope N ps (defScope st))
    (len : ∀ vs H Q E, sp vs H Q E → vs.length = ps.length)
    (hbody : ∀ (cdv : Value) (A : Around) (outer : List Env) (s : Shared) (H : Hp) (vs : List V) (Q : VK) (E : XK) (p : Addr × Obj), Hot1 A p → RoomH k (A.deeper (envOfC qual (defScope st) s.heap.objs.size f cdv)) → sp vs H Q E →
      ∃ t, PSs (cxH CX0 P w K mg base N qual (defScope st) f cdv A outer s H E p).nox (defBody st) t ∧ t { nx := fun _ H' => Q .non H', rt := Q } (start N vs) H) : FnH P w K mg base CX0 (k + 1) f fd ps sp := by
  obtain ⟨oc, od, kV, doc, pm, an, cdv, ct, osl, rfl, lk, hcd⟩ := F.ex
  refine fn_ofH lk hcd S len fun A outer s H vs Q E p hot hr hsp => ?_
  obtain ⟨t, h, q⟩ := hbody cdv A outer s H vs Q E p hot hr hsp
  exact ⟨t, h.nox, q⟩
end L2


-- end of a part
set_option Elab.async false
set_option linter.all false
/-! # judge's plain law -/
namespace Bc
theorem pick2_nil {α : Type} (lo : Nat) (h : lo ≤ 1) : L2.pick2 lo ([] : List α) = [] := by
  unfold L2.pick2 L2.every2
  rw [show (([] : List α).length + 1 - lo) / 2 = 0 from by simp; omega]
  rfl
theorem pick2_cons {α : Type} (lo : Nat) (h : lo ≤ 1) (a b : α) (l : List α) : L2.pick2 lo (a :: b :: l) = (if lo = 0 then a else b) :: L2.pick2 lo l := by
  unfold L2.pick2 L2.every2
  have e : ((a :: b :: l).length + 1 - lo) / 2 = (l.length + 1 - lo) / 2 + 1 := by simp only [List.length_cons]; omega
  rw [e, List.range_succ_eq_map, List.map_cons, List.filterMap_cons]
  have e2 : (a :: b :: l)[lo + 2 * 0]? = some (if lo = 0 then a else b) := by
    rcases Nat.le_one_iff_eq_zero_or_eq_one.mp h with rfl | rfl <;> rfl
  rw [e2, List.map_map, List.filterMap_map, List.filterMap_map]
  congr 1
/-- the rows' pairs -/
def prz (l : List Int) : List (Int × Int) := (L2.pick2 0 l).zip (L2.pick2 1 l)
theorem prz_nil : prz [] = [] := by unfold prz; rw [pick2_nil 0 (by decide)]; rfl
theorem prz_cons (a b : Int) (l : List Int) : prz (a :: b :: l) = (a, b) :: prz l := by unfold prz; rw [pick2_cons 0 (by decide), pick2_cons 1 (by decide)]; rfl
def prB (l : List Int) : Bool := decide (l.length % 2 = 0) && ((l.all fun z => Vbkdai.within z 0 40) && (prz l).all fun y => decide (y.1 ≤ y.2))
theorem pairs_law : ∀ l : List Int, Vbkdai.pairsOf l = if prB l = true then some ((prz l).map fun y => (y.1.toNat, y.2.toNat)) else none
  | [] => by unfold prB; rw [prz_nil]; rfl
  | [a] => by
    have : prB [a] = false := by unfold prB; rfl
    rw [this]; rfl
  | a :: b :: l => by
    have e : prB (a :: b :: l) = ((Vbkdai.within a 0 40 && (Vbkdai.within b 0 40 && decide (a ≤ b))) && prB l) := by
      unfold prB
      rw [prz_cons, List.all_cons, List.all_cons, List.all_cons]
      rw [show (a :: b :: l).length % 2 = l.length % 2 from by simp only [List.length_cons]; omega]
      cases Vbkdai.within a 0 40 <;> cases Vbkdai.within b 0 40 <;> cases decide (l.length % 2 = 0) <;> cases (l.all fun z => Vbkdai.within z 0 40) <;> cases decide (a ≤ b) <;> cases ((prz l).all fun y => decide (y.1 ≤ y.2)) <;> rfl
    show (if Vbkdai.within a 0 40 = true ∧ Vbkdai.within b 0 40 = true ∧ a ≤ b then (Vbkdai.pairsOf l).map fun r => (a.toNat, b.toNat) :: r else none) = _
    rw [e, pairs_law l, prz_cons]
    cases Vbkdai.within a 0 40 with
    | false => rfl
    | true =>
      cases Vbkdai.within b 0 40 with
      | false => rfl
      | true =>
        by_cases h : a ≤ b
        · rw [if_pos ⟨rfl, rfl, h⟩, decide_eq_true h]
          cases prB l <;> rfl
        · rw [if_neg (fun z => h z.2.2), decide_eq_false h]
          rfl
theorem pairsR_law (l : List Int) : pairsR l = (wantB (decide (l.length % 2 = 0)) (-1)).bind fun _ => (upTo l 40).bind fun _ => (wantB ((prz l).all fun y => decide (y.1 ≤ y.2)) (-1)).bind fun _ => .ok ((prz l).map fun y => (y.1.toNat, y.2.toNat)) := by
  unfold pairsR upTo
  rw [pairs_law]
  unfold prB
  cases decide (l.length % 2 = 0) with
  | false => rfl
  | true =>
    show _ = (wantB (l.all fun z => Vbkdai.within z 0 40) (-1)).bind _
    cases (l.all fun z => Vbkdai.within z 0 40) with
    | false => rfl
    | true =>
      show _ = (wantB ((prz l).all fun y => decide (y.1 ≤ y.2)) (-1)).bind _
      cases ((prz l).all fun y => decide (y.1 ≤ y.2)) <;> rfl
theorem prz_mem : ∀ {l : List Int} {y : Int × Int}, y ∈ prz l → y.1 ∈ l ∧ y.2 ∈ l := fun {l y} h => by
  unfold prz at h
  have h2 := List.of_mem_zip h
  unfold L2.pick2 at h2
  rw [List.mem_filterMap, List.mem_filterMap] at h2
  obtain ⟨⟨i, _, hi⟩, j, _, hj⟩ := h2
  exact ⟨List.mem_of_getElem? hi, List.mem_of_getElem? hj⟩
end Bc


-- end of a part
set_option Elab.async false
set_option linter.all false
set_option exponentiation.threshold 100000
/-! # judge's plain law: where a belt is wrong -/
namespace Bc
theorem find_none2 {α β : Type} {f0 f1 : β × Nat → α} {P : α → Bool} : ∀ (m : List β) (n : Nat), (∀ i y, m[i]? = some y → P (f0 (y, n + i)) = false ∧ P (f1 (y, n + i)) = false) → ((m.zipIdx n).flatMap fun x => [f0 x, f1 x]).find? P = none
  | [], _, _ => rfl
  | a :: l, n, h => by
    obtain ⟨h0, h1⟩ := h 0 a rfl
    rw [Nat.add_zero] at h0 h1
    rw [List.zipIdx_cons, List.flatMap_cons, List.find?_append, find_none2 l (n + 1) fun i y e => by
      have := h (i + 1) y e
      rw [show n + 1 + i = n + (i + 1) by omega]
      exact this]
    show (([f0 (a, n), f1 (a, n)]).find? P).or none = none
    rw [List.find?_cons, h0, List.find?_cons, h1]
    rfl
theorem find_some2 {α β : Type} {f0 f1 : β × Nat → α} {P : α → Bool} : ∀ (m : List β) (n k : Nat) (y : β) (o : α), m[k]? = some y → (∀ i y, i < k → m[i]? = some y → P (f0 (y, n + i)) = false ∧ P (f1 (y, n + i)) = false) → ([f0 (y, n + k), f1 (y, n + k)]).find? P = some o → ((m.zipIdx n).flatMap fun x => [f0 x, f1 x]).find? P = some o
  | [], _, _, _, _, e, _, _ => by cases e
  | a :: l, n, 0, y, o, e, _, q => by
    cases e
    rw [List.zipIdx_cons, List.flatMap_cons, List.find?_append]
    rw [Nat.add_zero] at q
    rw [q]
    rfl
  | a :: l, n, k + 1, y, o, e, h, q => by
    obtain ⟨h0, h1⟩ := h 0 a (Nat.succ_pos k) rfl
    rw [Nat.add_zero] at h0 h1
    rw [List.zipIdx_cons, List.flatMap_cons, List.find?_append, find_some2 l (n + 1) k y o e (fun i y' hi e' => by
      have := h (i + 1) y' (Nat.succ_lt_succ hi) e'
      rw [show n + 1 + i = n + (i + 1) by omega]
      exact this) (by rw [show n + 1 + k = n + (k + 1) by omega]; exact q)]
    show (([f0 (a, n), f1 (a, n)]).find? P).or (some o) = some o
    rw [List.find?_cons, h0, List.find?_cons, h1]
    rfl
/-- too seldom at an end -/
def wrB (g : Nat) (c : Vbkdai.Chan) (k e : Nat) (y : Nat × Nat) : Bool := VbkdCore.less (Vbkdai.chance c.trials (Vbkdai.chanceAt g c k e) y.1 y.2) c.sure
def okB (g : Nat) (c : Vbkdai.Chan) (m : List (Nat × Nat)) (k : Nat) : Prop := ∀ i y, i < k → m[i]? = some y → wrB g c i 0 y = false ∧ wrB g c i 1 y = false
theorem wrong_none {g : Nat} {c : Vbkdai.Chan} {m : List (Nat × Nat)} (h : okB g c m m.length) : Vbkdai.wrongAt g c m = none := by
  unfold Vbkdai.wrongAt
  refine find_none2 m 0 fun i y e => ?_
  rw [Nat.zero_add]
  exact h i y (List.getElem?_eq_some_iff.mp e).1 e
theorem wrong_some {g : Nat} {c : Vbkdai.Chan} {m : List (Nat × Nat)} {k e : Nat} {y : Nat × Nat} (h : okB g c m k) (hk : m[k]? = some y) (he : e ≤ 1) (h0 : ∀ e', e' < e → wrB g c k e' y = false) (h1 : wrB g c k e y = true) :
    Vbkdai.wrongAt g c m = some (k, e, Vbkdai.chance c.trials (Vbkdai.chanceAt g c k e) y.1 y.2) := by
  unfold Vbkdai.wrongAt
  refine find_some2 m 0 k y _ hk (fun i y' hi e' => by rw [Nat.zero_add]; exact h i y' hi e') ?_
  rw [Nat.zero_add]
  rcases (show e = 0 ∨ e = 1 by omega) with rfl | rfl
  · have h1 : VbkdCore.less (Vbkdai.chance c.trials (Vbkdai.chanceAt g c k 0) y.1 y.2) c.sure = true := h1
    simp only [List.find?_cons, h1]
  · have h0 : VbkdCore.less (Vbkdai.chance c.trials (Vbkdai.chanceAt g c k 0) y.1 y.2) c.sure = false := h0 0 (by omega)
    have h1 : VbkdCore.less (Vbkdai.chance c.trials (Vbkdai.chanceAt g c k 1) y.1 y.2) c.sure = true := h1
    simp only [List.find?_cons, h0, h1]
theorem okB_succ {g : Nat} {c : Vbkdai.Chan} {m : List (Nat × Nat)} {k : Nat} {y : Nat × Nat} (h : okB g c m k) (hk : m[k]? = some y) (h0 : ∀ e, e < 2 → wrB g c k e y = false) : okB g c m (k + 1) := fun i y' hi e => by
  by_cases z : i = k
  · subst z
    rw [hk] at e
    cases e
    exact ⟨h0 0 (by omega), h0 1 (by omega)⟩
  · exact h i y' (by omega) e
/-- reached or too seldom -/
theorem wr_reach {t m : Nat} {p s : Qd} (hp : Pr p) (hs : Fq 1000 s) (hT : 0 < Vbkdai.total t p) : VbkdCore.less (VbkdCore.mk (m : Int) (Vbkdai.total t p)) s = !Vbkdai.reaches t p s m := by
  rw [less_mk_left hT]
  unfold Vbkdai.reaches Vbkdai.upper
  have := hs.n0
  have e : s.n = ((s.n.toNat : Nat) : Int) := by omega
  generalize s.n.toNat = u at e
  rw [e]
  generalize Vbkdai.total t p = T
  have e1 : ((m : Int) * (s.d : Int)) = ((m * s.d : Nat) : Int) := by rw [Int.natCast_mul]
  have e2 : ((u : Int) * (T : Int)) = ((u * T : Nat) : Int) := by rw [Int.natCast_mul]
  rw [e1, e2]
  by_cases z : u * T ≤ m * s.d
  · rw [decide_eq_true z, decide_eq_false (by omega)]
    rfl
  · rw [decide_eq_false z, decide_eq_true (by omega)]
    rfl
theorem judR_none {p : Vbkdai.Plan} {x : Vbkdai.Chan} {m : List (Nat × Nat)} (h : okB p.parts x m m.length) : judR p x m = [1] := by
  unfold judR
  rw [wrong_none h]
theorem judR_some {p : Vbkdai.Plan} {x : Vbkdai.Chan} {m : List (Nat × Nat)} {k e : Nat} {y : Nat × Nat} (h : okB p.parts x m k) (hk : m[k]? = some y) (he : e ≤ 1) (h0 : ∀ e', e' < e → wrB p.parts x k e' y = false) (h1 : wrB p.parts x k e y = true) :
    judR p x m = [0, (k : Int), (e : Int)] ++ Vbkdai.qRow (Vbkdai.chance x.trials (Vbkdai.chanceAt p.parts x k e) y.1 y.2) := by
  unfold judR
  rw [wrong_some h hk he h0 h1]
end Bc


-- end of a part
set_option Elab.async false
set_option linter.all false
set_option maxRecDepth 100000
set_option maxHeartbeats 4000000
set_option exponentiation.threshold 100000
namespace Bc
open PySem PySem.Spec PyProof.Rows L2
/-! ### fractions -/
def sp_divisor (K : PySem.W.Frag) : Sp := mkSp 2 fun vs H Q _ => ∃ a b : Nat, vs = [.int a, .int b] ∧ Q (.int (Nat.gcd b a : Nat)) H
def sp_fraction (K : PySem.W.Frag) : Sp := mkSp 2 fun vs H Q _ => ∃ (u : Int) (l : Nat), vs = [.int u, .int l] ∧ 0 < l ∧ l < 2 ^ 8000 ∧ Ret H Q fun v H' => FrAt K H' v (VbkdCore.mk u l)
def sp_q2 (f : Qd → Qd → Qd) (K : PySem.W.Frag) : Sp := mkSp 2 fun vs H Q _ => ∃ (x y : Qd) (v w : V), vs = [v, w] ∧ FrAt K H v x ∧ FrAt K H w y ∧ Sm 4000 x ∧ Sm 4000 y ∧ Ret H Q fun u H' => FrAt K H' u (f x y)
abbrev sp_plus := sp_q2 VbkdCore.add
abbrev sp_minus := sp_q2 VbkdCore.sub
abbrev sp_times := sp_q2 VbkdCore.mul
def sp_is_less (K : PySem.W.Frag) : Sp := mkSp 2 fun vs H Q _ => ∃ (x y : Qd) (v w : V), vs = [v, w] ∧ FrAt K H v x ∧ FrAt K H w y ∧ Sm 4000 x ∧ Sm 4000 y ∧ Q (.bl (VbkdCore.less x y)) H
def sp_is_between (K : PySem.W.Frag) : Sp := mkSp 3 fun vs H Q _ => ∃ (x l u : Qd) (v v1 v2 : V), vs = [v, v1, v2] ∧ FrAt K H v x ∧ FrAt K H v1 l ∧ FrAt K H v2 u ∧ Sm 4000 x ∧ Sm 4000 l ∧ Sm 4000 u ∧ Q (.bl (VbkdCore.le l x && VbkdCore.le x u)) H
section
variable {P : Program} {w : World} {K : PySem.W.Frag} {mg : Str → Option Value} {base : Heap}
theorem sc_divisor : FnScope N_divisor ["one", "other"] (defScope s_divisor) := ⟨rfl, rfl, rfl, by decide +kernel, rfl, by decide +kernel, by decide +kernel⟩
theorem ok_divisor (T : TX K mg) : FOk P w K mg base CX0 1 (He.ga K "divisor") ["one", "other"] (sp_divisor K) := by
  obtain ⟨fd, F⟩ := T.f_divisor
  refine ⟨fd, F.ok sc_divisor (fun _ _ _ _ h => h.1) (fun cdv A outer s H vs Q E hr h => ?_), F.binds fun _ _ _ _ _ _ us hl => match us, hl with | [_, _], _ => rfl⟩
  refine ⟨_, PSs.nox (pss_cons (ps_while PassesOwn.never (pt_cmpR op_gt (pv 1) pe_int (by rfl)) (pss_one (ps_par (i := 0) (j := 1) (by rfl) sc_divisor.nd rfl rfl (by decide) rfl rfl (pa_cons (pv 1) (pa_cons (pe_op op_mod (pv 0) (pv 1)) pa_nil)) (by rfl))))
    (pss_one (ps_ret (pv 0)))), ?_⟩
  obtain ⟨_, h⟩ := h
  obtain ⟨a, b, rfl, q⟩ := h
  refine while_by (fun σ H' => H' = H ∧ ∃ x y : Nat, σ = [some (.int x), some (.int y)] ∧ Nat.gcd y x = Nat.gcd b a) (fun σ _ => match σ with | [_, some (.int y)] => y.toNat | _ => 0) ⟨rfl, a, b, rfl, rfl⟩ ?_ ?_
  · rintro σ H' ⟨rfl, x, y, rfl, e⟩
    refine ⟨_, rfl, (y : Int), 0, rfl, rfl, _, rfl, ?_⟩
    refine ite2 (fun c => ?_) (fun c => ?_)
    · have hy : (0 : Int) < (y : Int) := of_decide_eq_true c
      refine ⟨_, rfl, _, rfl, _, rfl, (x : Int), (y : Int), rfl, rfl, hy, _, _, rfl, ⟨rfl, y, x % y, ?_, ?_⟩, ?_⟩
      · rfl
      · rw [← e, Nat.gcd_rec y x]
      · show ((x : Int) % (y : Int)).toNat < ((y : Nat) : Int).toNat
        have : (x : Int) % (y : Int) = ((x % y : Nat) : Int) := rfl
        rw [this, Int.toNat_natCast, Int.toNat_natCast]
        exact Nat.mod_lt _ (by omega)
    · have hy : ¬ (0 : Int) < (y : Int) := fun z => c (decide_eq_true z)
      have y0 : y = 0 := by omega
      subst y0
      rw [Nat.gcd_zero_left] at e
      refine ⟨_, rfl, ?_⟩
      rw [e]
      exact q
  · rintro σ H' Q1 Q2 m ⟨x, h1, i, j, h2, h3, k, h4, h5⟩
    exact ⟨x, h1, i, j, h2, h3, k, h4, m _ _ h5⟩
theorem sc_fraction : FnScope N_fraction ["upper", "lower"] (defScope s_fraction) := ⟨rfl, rfl, rfl, by decide +kernel, rfl, by decide +kernel, by decide +kernel⟩
theorem ok_fraction (T : TX K mg) : FOk P w K mg base CX0 2 (He.ga K "fraction") ["upper", "lower"] (sp_fraction K) := by
  obtain ⟨fd, F⟩ := T.f_fraction
  obtain ⟨fd0, G0, b0⟩ := ok_divisor (P := P) (w := w) (base := base) T
  refine ⟨fd, F.ok sc_fraction (fun _ _ _ _ h => h.1) (fun cdv A outer s H vs Q E hr h => ?_), F.binds fun _ _ _ _ _ _ us hl => match us, hl with | [_, _], _ => rfl⟩
  have hr0 := hr.mono (by decide : 1 ≤ 1)
  refine ⟨_, PSs.nox (pss_cons (ps_set (i := 2) sc_fraction.nd rfl (.inl rfl) (pe_call G0 hr0 (by rfl) T.g_divisor T.k_divisor b0 .nil pass0 (pa_cons (pe_callB call_abs (by rfl) T.n_abs (by decide +kernel) (pa_cons (pv 0) pa_nil)) (pa_cons (pv 1) pa_nil))))
    (pss_one (ps_ret (pe_tup (pa_cons (pe_op op_fdivW (pv 0) (pv 2)) (pa_cons (pe_op op_fdivW (pv 1) (pv 2)) pa_nil)))))), ?_⟩
  obtain ⟨_, h⟩ := h
  obtain ⟨u, l, rfl, h0, hl, q⟩ := h
  have e1 : (if u < 0 then -u else u) = (u.natAbs : Int) := by split <;> omega
  have g0 : 0 < Nat.gcd u.natAbs l := Nat.gcd_pos_of_pos_right _ h0
  have gl : Nat.gcd u.natAbs l < 2 ^ 8000 := Nat.lt_of_le_of_lt (Nat.gcd_le_right _ h0) hl
  have hd : ∀ i : Int, CDivW i ((Nat.gcd l u.natAbs : Nat) : Int) := fun i => wide_div (b := 8000) (by rw [Nat.gcd_comm]; omega) (by rw [Nat.gcd_comm, Int.natAbs_natCast]; exact gl) (by decide) (by decide)
  refine ⟨_, rfl, u, rfl, _, rfl, rfl, u.natAbs, l, ?_, ?_⟩
  · show [V.int (if u < 0 then -u else u), V.int (l : Int)] = _
    rw [e1]
  refine ⟨_, rfl, _, rfl, _, _, rfl, rfl, hd _, _, rfl, _, rfl, _, _, rfl, rfl, hd _, by show 2 ≤ sizeLine; decide, fun p hp => ?_⟩
  refine q _ _ (Same.new hp) ⟨p, rfl, SqT.of ?_⟩
  rw [upd_same]
  have m : VbkdCore.mk u l = ⟨u / ((Nat.gcd u.natAbs l : Nat) : Int), l / Nat.gcd u.natAbs l⟩ := by
    unfold VbkdCore.mk
    rw [if_neg (by omega)]
  rw [m, Nat.gcd_comm l]
  rfl
theorem sm_mulW {k : Nat} {x y : Int} (hx : x.natAbs < 2 ^ k) (hy : y.natAbs < 2 ^ k) (h0 : 0 < k) (h : k ≤ 100000) : CMulW x y := wide_mul hx hy h0 h0 (by omega)
theorem sm_d {k : Nat} {q : Qd} (h : Sm k q) : ((q.d : Int)).natAbs < 2 ^ k := by rw [Int.natAbs_natCast]; exact h.2.2
theorem sm_dd {a b : Nat} (ha : a < 2 ^ 4000) (hb : b < 2 ^ 4000) : a * b < 2 ^ 8000 := by
  rw [show (2 : Nat) ^ 8000 = 2 ^ 4000 * 2 ^ 4000 from by rw [← Nat.pow_add]]
  exact Nat.mul_lt_mul'' ha hb
theorem sc_plus : FnScope N_plus ["one", "other"] (defScope s_plus) := ⟨rfl, rfl, rfl, by decide +kernel, rfl, by decide +kernel, by decide +kernel⟩
theorem ok_plus (T : TX K mg) : FOk P w K mg base CX0 3 (He.ga K "plus") ["one", "other"] (sp_plus K) := by
  obtain ⟨fd, F⟩ := T.f_plus
  obtain ⟨fd0, G0, b0⟩ := ok_fraction (P := P) (w := w) (base := base) T
  refine ⟨fd, F.ok sc_plus (fun _ _ _ _ h => h.1) (fun cdv A outer s H vs Q E hr h => ?_), F.binds fun _ _ _ _ _ _ us hl => match us, hl with | [_, _], _ => rfl⟩
  have hr0 := hr.mono (by decide : 2 ≤ 2)
  refine ⟨_, PSs.nox (pss_one (ps_ret (pe_call G0 hr0 (by rfl) T.g_fraction T.k_fraction b0 .nil pass0 (pa_cons (pe_op op_add (pe_op op_mulW (pe_ix ix_tup (pv 0) pe_int (fun _ _ => rfl)) (pe_ix ix_tup (pv 1) pe_int (fun _ _ => rfl))) (pe_op op_mulW (pe_ix ix_tup (pv 1) pe_int (fun _ _ => rfl)) (pe_ix ix_tup (pv 0) pe_int (fun _ _ => rfl)))) (pa_cons (pe_op op_mulW (pe_ix ix_tup (pv 0) pe_int (fun _ _ => rfl)) (pe_ix ix_tup (pv 1) pe_int (fun _ _ => rfl))) pa_nil))))), ?_⟩
  obtain ⟨_, h⟩ := h
  obtain ⟨x, y, v, w, rfl, ⟨a, rfl, ha⟩, ⟨b, rfl, hb⟩, sx, sy, q⟩ := h
  refine ⟨_, rfl, a, _, _, _, rfl, rfl, ha, at0, _, rfl, b, _, _, _, rfl, rfl, hb, at1, _, _, rfl, rfl, sm_mulW sx.1 (sm_d sy) (by decide) (by decide), ?_⟩
  refine ⟨_, rfl, b, _, _, _, rfl, rfl, hb, at0, _, rfl, a, _, _, _, rfl, rfl, ha, at1, _, _, rfl, rfl, sm_mulW sy.1 (sm_d sx) (by decide) (by decide), ?_⟩
  refine ⟨_, _, rfl, rfl, ?_⟩
  refine ⟨_, rfl, a, _, _, _, rfl, rfl, ha, at1, _, rfl, b, _, _, _, rfl, rfl, hb, at1, _, _, rfl, rfl, sm_mulW (sm_d sx) (sm_d sy) (by decide) (by decide), ?_⟩
  exact ⟨rfl, _, x.d * y.d, rfl, Nat.mul_pos sx.2.1 sy.2.1, sm_dd sx.2.2 sy.2.2, q⟩
theorem sub_eq (x y : Qd) : VbkdCore.sub x y = VbkdCore.mk (x.n * (y.d : Int) - y.n * (x.d : Int)) (x.d * y.d) := by
  unfold VbkdCore.sub VbkdCore.add VbkdCore.neg
  rw [Int.sub_eq_add_neg, Int.neg_mul]
theorem sc_minus : FnScope N_minus ["one", "other"] (defScope s_minus) := ⟨rfl, rfl, rfl, by decide +kernel, rfl, by decide +kernel, by decide +kernel⟩
theorem ok_minus (T : TX K mg) : FOk P w K mg base CX0 3 (He.ga K "minus") ["one", "other"] (sp_minus K) := by
  obtain ⟨fd, F⟩ := T.f_minus
  obtain ⟨fd0, G0, b0⟩ := ok_fraction (P := P) (w := w) (base := base) T
  refine ⟨fd, F.ok sc_minus (fun _ _ _ _ h => h.1) (fun cdv A outer s H vs Q E hr h => ?_), F.binds fun _ _ _ _ _ _ us hl => match us, hl with | [_, _], _ => rfl⟩
  have hr0 := hr.mono (by decide : 2 ≤ 2)
  refine ⟨_, PSs.nox (pss_one (ps_ret (pe_call G0 hr0 (by rfl) T.g_fraction T.k_fraction b0 .nil pass0 (pa_cons (pe_op op_sub (pe_op op_mulW (pe_ix ix_tup (pv 0) pe_int (fun _ _ => rfl)) (pe_ix ix_tup (pv 1) pe_int (fun _ _ => rfl))) (pe_op op_mulW (pe_ix ix_tup (pv 1) pe_int (fun _ _ => rfl)) (pe_ix ix_tup (pv 0) pe_int (fun _ _ => rfl)))) (pa_cons (pe_op op_mulW (pe_ix ix_tup (pv 0) pe_int (fun _ _ => rfl)) (pe_ix ix_tup (pv 1) pe_int (fun _ _ => rfl))) pa_nil))))), ?_⟩
  obtain ⟨_, h⟩ := h
  obtain ⟨x, y, v, w, rfl, ⟨a, rfl, ha⟩, ⟨b, rfl, hb⟩, sx, sy, q⟩ := h
  refine ⟨_, rfl, a, _, _, _, rfl, rfl, ha, at0, _, rfl, b, _, _, _, rfl, rfl, hb, at1, _, _, rfl, rfl, sm_mulW sx.1 (sm_d sy) (by decide) (by decide), ?_⟩
  refine ⟨_, rfl, b, _, _, _, rfl, rfl, hb, at0, _, rfl, a, _, _, _, rfl, rfl, ha, at1, _, _, rfl, rfl, sm_mulW sy.1 (sm_d sx) (by decide) (by decide), ?_⟩
  refine ⟨_, _, rfl, rfl, ?_⟩
  refine ⟨_, rfl, a, _, _, _, rfl, rfl, ha, at1, _, rfl, b, _, _, _, rfl, rfl, hb, at1, _, _, rfl, rfl, sm_mulW (sm_d sx) (sm_d sy) (by decide) (by decide), ?_⟩
  exact ⟨rfl, _, x.d * y.d, rfl, Nat.mul_pos sx.2.1 sy.2.1, sm_dd sx.2.2 sy.2.2, by rw [← sub_eq]; exact q⟩
theorem sc_times : FnScope N_times ["one", "other"] (defScope s_times) := ⟨rfl, rfl, rfl, by decide +kernel, rfl, by decide +kernel, by decide +kernel⟩
theorem ok_times (T : TX K mg) : FOk P w K mg base CX0 3 (He.ga K "times") ["one", "other"] (sp_times K) := by
  obtain ⟨fd, F⟩ := T.f_times
  obtain ⟨fd0, G0, b0⟩ := ok_fraction (P := P) (w := w) (base := base) T
  refine ⟨fd, F.ok sc_times (fun _ _ _ _ h => h.1) (fun cdv A outer s H vs Q E hr h => ?_), F.binds fun _ _ _ _ _ _ us hl => match us, hl with | [_, _], _ => rfl⟩
  have hr0 := hr.mono (by decide : 2 ≤ 2)
  refine ⟨_, PSs.nox (pss_one (ps_ret (pe_call G0 hr0 (by rfl) T.g_fraction T.k_fraction b0 .nil pass0 (pa_cons (pe_op op_mulW (pe_ix ix_tup (pv 0) pe_int (fun _ _ => rfl)) (pe_ix ix_tup (pv 1) pe_int (fun _ _ => rfl))) (pa_cons (pe_op op_mulW (pe_ix ix_tup (pv 0) pe_int (fun _ _ => rfl)) (pe_ix ix_tup (pv 1) pe_int (fun _ _ => rfl))) pa_nil))))), ?_⟩
  obtain ⟨_, h⟩ := h
  obtain ⟨x, y, v, w, rfl, ⟨a, rfl, ha⟩, ⟨b, rfl, hb⟩, sx, sy, q⟩ := h
  refine ⟨_, rfl, a, _, _, _, rfl, rfl, ha, at0, _, rfl, b, _, _, _, rfl, rfl, hb, at0, _, _, rfl, rfl, sm_mulW sx.1 sy.1 (by decide) (by decide), ?_⟩
  refine ⟨_, rfl, a, _, _, _, rfl, rfl, ha, at1, _, rfl, b, _, _, _, rfl, rfl, hb, at1, _, _, rfl, rfl, sm_mulW (sm_d sx) (sm_d sy) (by decide) (by decide), ?_⟩
  exact ⟨rfl, _, x.d * y.d, rfl, Nat.mul_pos sx.2.1 sy.2.1, sm_dd sx.2.2 sy.2.2, q⟩
theorem sc_is_less : FnScope N_is_less ["one", "other"] (defScope s_is_less) := ⟨rfl, rfl, rfl, by decide +kernel, rfl, by decide +kernel, by decide +kernel⟩
theorem ok_is_less (T : TX K mg) : FOk P w K mg base CX0 1 (He.ga K "is_less") ["one", "other"] (sp_is_less K) := by
  obtain ⟨fd, F⟩ := T.f_is_less
  refine ⟨fd, F.ok sc_is_less (fun _ _ _ _ h => h.1) (fun cdv A outer s H vs Q E hr h => ?_), F.binds fun _ _ _ _ _ _ us hl => match us, hl with | [_, _], _ => rfl⟩
  refine ⟨_, PSs.nox (pss_one (ps_ret (pe_cmpR op_lt (pe_op op_mulW (pe_ix ix_tup (pv 0) pe_int (fun _ _ => rfl)) (pe_ix ix_tup (pv 1) pe_int (fun _ _ => rfl))) (pe_op op_mulW (pe_ix ix_tup (pv 1) pe_int (fun _ _ => rfl)) (pe_ix ix_tup (pv 0) pe_int (fun _ _ => rfl))) (by rfl)))), ?_⟩
  obtain ⟨_, h⟩ := h
  obtain ⟨x, y, v, w, rfl, ⟨a, rfl, ha⟩, ⟨b, rfl, hb⟩, sx, sy, q⟩ := h
  refine ⟨_, rfl, a, _, _, _, rfl, rfl, ha, at0, _, rfl, b, _, _, _, rfl, rfl, hb, at1, _, _, rfl, rfl, sm_mulW sx.1 (sm_d sy) (by decide) (by decide), ?_⟩
  refine ⟨_, rfl, b, _, _, _, rfl, rfl, hb, at0, _, rfl, a, _, _, _, rfl, rfl, ha, at1, _, _, rfl, rfl, sm_mulW sy.1 (sm_d sx) (by decide) (by decide), ?_⟩
  exact ⟨_, _, rfl, rfl, q⟩
theorem sc_is_between : FnScope N_is_between ["one", "low", "high"] (defScope s_is_between) := ⟨rfl, rfl, rfl, by decide +kernel, rfl, by decide +kernel, by decide +kernel⟩
theorem ok_is_between (T : TX K mg) : FOk P w K mg base CX0 2 (He.ga K "is_between") ["one", "low", "high"] (sp_is_between K) := by
  obtain ⟨fd, F⟩ := T.f_is_between
  obtain ⟨fd0, G0, b0⟩ := ok_is_less (P := P) (w := w) (base := base) T
  refine ⟨fd, F.ok sc_is_between (fun _ _ _ _ h => h.1) (fun cdv A outer s H vs Q E hr h => ?_), F.binds fun _ _ _ _ _ _ us hl => match us, hl with | [_, _, _], _ => rfl⟩
  have hr0 := hr.mono (by decide : 1 ≤ 1)
  refine ⟨_, PSs.nox (pss_one (ps_ret (pe_and (pe_not (pe_call G0 hr0 (by rfl) T.g_is_less T.k_is_less b0 .nil pass0 (pa_cons (pv 0) (pa_cons (pv 1) pa_nil)))) (pe_one (pe_not (pe_call G0 hr0 (by rfl) T.g_is_less T.k_is_less b0 .nil pass0 (pa_cons (pv 2) (pa_cons (pv 0) pa_nil)))))))), ?_⟩
  obtain ⟨_, h⟩ := h
  obtain ⟨x, l, u, v, v1, v2, rfl, hx, h1, h2, sx, s1, s2, q⟩ := h
  have e : (VbkdCore.le l x && VbkdCore.le x u) = (!VbkdCore.less x l && !VbkdCore.less u x) := rfl
  rw [e] at q
  refine ⟨_, rfl, _, rfl, rfl, x, l, _, _, rfl, hx, h1, sx, s1, _, rfl, _, rfl, ?_⟩
  generalize VbkdCore.less x l = b1 at q ⊢
  cases b1 with
  | true => exact iteF q
  | false =>
    refine iteT ?_
    exact ⟨_, rfl, _, rfl, rfl, u, x, _, _, rfl, h2, hx, s2, sx, _, rfl, q⟩
end
end Bc


-- end of a part
set_option Elab.async false
set_option linter.all false
set_option maxRecDepth 100000
set_option maxHeartbeats 4000000
set_option exponentiation.threshold 100000
/-! # how the program's objects lie in the heap -/
namespace Bc
open PySem PySem.Spec PyProof.Rows L2
theorem lk_here {k : Str} {v : V} {r : List (Str × V)} : List.lookup k ((k, v) :: r) = some v := by
  have e : (k == k) = true := beq_self_eq_true k
  simp only [List.lookup, e]
theorem lk_past {k g : Str} {v : V} {r : List (Str × V)} (h : (k == g) = false) : List.lookup k ((g, v) :: r) = List.lookup k r := by
  simp only [List.lookup, h]
theorem put_here {f : Str} {v x : V} {r : List (Str × V)} : putF f v ((f, x) :: r) = (f, v) :: r := if_pos rfl
theorem put_past {f g : Str} {v x : V} {r : List (Str × V)} (h : ¬ g = f) : putF f v ((g, x) :: r) = (g, x) :: putF f v r := if_neg h
def F_Spread (x0 x1 : V) : List (Str × V) := [("shares", x0), ("whole", x1)]
theorem L_Spread_shares {x0 x1 : V} : (F_Spread x0 x1).lookup ("shares" : Str) = some x0 := lk_here
theorem L_Spread_whole {x0 x1 : V} : (F_Spread x0 x1).lookup ("whole" : Str) = some x1 := (lk_past (by decide +kernel)).trans (lk_here)
theorem L_Spread_many_from {x0 x1 : V} : (F_Spread x0 x1).lookup ("many_from" : Str) = none := (lk_past (by decide +kernel)).trans ((lk_past (by decide +kernel)).trans (rfl))
theorem L_Spread_often {x0 x1 : V} : (F_Spread x0 x1).lookup ("often" : Str) = none := (lk_past (by decide +kernel)).trans ((lk_past (by decide +kernel)).trans (rfl))
theorem L_Spread_is_sure {x0 x1 : V} : (F_Spread x0 x1).lookup ("is_sure" : Str) = none := (lk_past (by decide +kernel)).trans ((lk_past (by decide +kernel)).trans (rfl))
theorem P_Spread_shares {x0 x1 y : V} : putF "shares" y (F_Spread x0 x1) = F_Spread y x1 := put_here
theorem P_Spread_whole {x0 x1 y : V} : putF "whole" y (F_Spread x0 x1) = F_Spread x0 y := (put_past (by decide +kernel)).trans (congrArg _ (put_here))
theorem M_Spread {x0 x1 : V} : putF "whole" x1 (putF "shares" x0 ([])) = F_Spread x0 x1 := by first | rfl | decide +kernel | simp [putF, F_Spread]
def F_Channel (x0 x1 x2 x3 x4 x5 : V) : List (Str × V) := [("name", x0), ("trials", x1), ("base", x2), ("gain", x3), ("sure", x4), ("order", x5)]
theorem L_Channel_name {x0 x1 x2 x3 x4 x5 : V} : (F_Channel x0 x1 x2 x3 x4 x5).lookup ("name" : Str) = some x0 := lk_here
theorem L_Channel_trials {x0 x1 x2 x3 x4 x5 : V} : (F_Channel x0 x1 x2 x3 x4 x5).lookup ("trials" : Str) = some x1 := (lk_past (by decide +kernel)).trans (lk_here)
theorem L_Channel_base {x0 x1 x2 x3 x4 x5 : V} : (F_Channel x0 x1 x2 x3 x4 x5).lookup ("base" : Str) = some x2 := (lk_past (by decide +kernel)).trans ((lk_past (by decide +kernel)).trans (lk_here))
theorem L_Channel_gain {x0 x1 x2 x3 x4 x5 : V} : (F_Channel x0 x1 x2 x3 x4 x5).lookup ("gain" : Str) = some x3 := (lk_past (by decide +kernel)).trans ((lk_past (by decide +kernel)).trans ((lk_past (by decide +kernel)).trans (lk_here)))
theorem L_Channel_sure {x0 x1 x2 x3 x4 x5 : V} : (F_Channel x0 x1 x2 x3 x4 x5).lookup ("sure" : Str) = some x4 := (lk_past (by decide +kernel)).trans ((lk_past (by decide +kernel)).trans ((lk_past (by decide +kernel)).trans ((lk_past (by decide +kernel)).trans (lk_here))))
theorem L_Channel_order {x0 x1 x2 x3 x4 x5 : V} : (F_Channel x0 x1 x2 x3 x4 x5).lookup ("order" : Str) = some x5 := (lk_past (by decide +kernel)).trans ((lk_past (by decide +kernel)).trans ((lk_past (by decide +kernel)).trans ((lk_past (by decide +kernel)).trans ((lk_past (by decide +kernel)).trans (lk_here)))))
theorem L_Channel_with_trials {x0 x1 x2 x3 x4 x5 : V} : (F_Channel x0 x1 x2 x3 x4 x5).lookup ("with_trials" : Str) = none := (lk_past (by decide +kernel)).trans ((lk_past (by decide +kernel)).trans ((lk_past (by decide +kernel)).trans ((lk_past (by decide +kernel)).trans ((lk_past (by decide +kernel)).trans ((lk_past (by decide +kernel)).trans (rfl))))))
theorem L_Channel_with_order {x0 x1 x2 x3 x4 x5 : V} : (F_Channel x0 x1 x2 x3 x4 x5).lookup ("with_order" : Str) = none := (lk_past (by decide +kernel)).trans ((lk_past (by decide +kernel)).trans ((lk_past (by decide +kernel)).trans ((lk_past (by decide +kernel)).trans ((lk_past (by decide +kernel)).trans ((lk_past (by decide +kernel)).trans (rfl))))))
theorem L_Channel_with_sure {x0 x1 x2 x3 x4 x5 : V} : (F_Channel x0 x1 x2 x3 x4 x5).lookup ("with_sure" : Str) = none := (lk_past (by decide +kernel)).trans ((lk_past (by decide +kernel)).trans ((lk_past (by decide +kernel)).trans ((lk_past (by decide +kernel)).trans ((lk_past (by decide +kernel)).trans ((lk_past (by decide +kernel)).trans (rfl))))))
theorem P_Channel_name {x0 x1 x2 x3 x4 x5 y : V} : putF "name" y (F_Channel x0 x1 x2 x3 x4 x5) = F_Channel y x1 x2 x3 x4 x5 := put_here
theorem P_Channel_trials {x0 x1 x2 x3 x4 x5 y : V} : putF "trials" y (F_Channel x0 x1 x2 x3 x4 x5) = F_Channel x0 y x2 x3 x4 x5 := (put_past (by decide +kernel)).trans (congrArg _ (put_here))
theorem P_Channel_base {x0 x1 x2 x3 x4 x5 y : V} : putF "base" y (F_Channel x0 x1 x2 x3 x4 x5) = F_Channel x0 x1 y x3 x4 x5 := (put_past (by decide +kernel)).trans (congrArg _ ((put_past (by decide +kernel)).trans (congrArg _ (put_here))))
theorem P_Channel_gain {x0 x1 x2 x3 x4 x5 y : V} : putF "gain" y (F_Channel x0 x1 x2 x3 x4 x5) = F_Channel x0 x1 x2 y x4 x5 := (put_past (by decide +kernel)).trans (congrArg _ ((put_past (by decide +kernel)).trans (congrArg _ ((put_past (by decide +kernel)).trans (congrArg _ (put_here))))))
theorem P_Channel_sure {x0 x1 x2 x3 x4 x5 y : V} : putF "sure" y (F_Channel x0 x1 x2 x3 x4 x5) = F_Channel x0 x1 x2 x3 y x5 := (put_past (by decide +kernel)).trans (congrArg _ ((put_past (by decide +kernel)).trans (congrArg _ ((put_past (by decide +kernel)).trans (congrArg _ ((put_past (by decide +kernel)).trans (congrArg _ (put_here))))))))
theorem P_Channel_order {x0 x1 x2 x3 x4 x5 y : V} : putF "order" y (F_Channel x0 x1 x2 x3 x4 x5) = F_Channel x0 x1 x2 x3 x4 y := (put_past (by decide +kernel)).trans (congrArg _ ((put_past (by decide +kernel)).trans (congrArg _ ((put_past (by decide +kernel)).trans (congrArg _ ((put_past (by decide +kernel)).trans (congrArg _ ((put_past (by decide +kernel)).trans (congrArg _ (put_here))))))))))
theorem M_Channel {x0 x1 x2 x3 x4 x5 : V} : putF "order" x5 (putF "sure" x4 (putF "gain" x3 (putF "base" x2 (putF "trials" x1 (putF "name" x0 ([])))))) = F_Channel x0 x1 x2 x3 x4 x5 := by first | rfl | decide +kernel | simp [putF, F_Channel]
def F_Plan (x0 x1 : V) : List (Str × V) := [("parts", x0), ("channels", x1)]
theorem L_Plan_parts {x0 x1 : V} : (F_Plan x0 x1).lookup ("parts" : Str) = some x0 := lk_here
theorem L_Plan_channels {x0 x1 : V} : (F_Plan x0 x1).lookup ("channels" : Str) = some x1 := (lk_past (by decide +kernel)).trans (lk_here)
theorem L_Plan_with_channel {x0 x1 : V} : (F_Plan x0 x1).lookup ("with_channel" : Str) = none := (lk_past (by decide +kernel)).trans ((lk_past (by decide +kernel)).trans (rfl))
theorem P_Plan_parts {x0 x1 y : V} : putF "parts" y (F_Plan x0 x1) = F_Plan y x1 := put_here
theorem P_Plan_channels {x0 x1 y : V} : putF "channels" y (F_Plan x0 x1) = F_Plan x0 y := (put_past (by decide +kernel)).trans (congrArg _ (put_here))
theorem M_Plan {x0 x1 : V} : putF "channels" x1 (putF "parts" x0 ([])) = F_Plan x0 x1 := by first | rfl | decide +kernel | simp [putF, F_Plan]
def F_Line (x0 x1 x2 : V) : List (Str × V) := [("words", x0), ("end", x1), ("at", x2)]
theorem L_Line_words {x0 x1 x2 : V} : (F_Line x0 x1 x2).lookup ("words" : Str) = some x0 := lk_here
theorem L_Line_end {x0 x1 x2 : V} : (F_Line x0 x1 x2).lookup ("end" : Str) = some x1 := (lk_past (by decide +kernel)).trans (lk_here)
theorem L_Line_at {x0 x1 x2 : V} : (F_Line x0 x1 x2).lookup ("at" : Str) = some x2 := (lk_past (by decide +kernel)).trans ((lk_past (by decide +kernel)).trans (lk_here))
theorem L_Line_is_at_end {x0 x1 x2 : V} : (F_Line x0 x1 x2).lookup ("is_at_end" : Str) = none := (lk_past (by decide +kernel)).trans ((lk_past (by decide +kernel)).trans ((lk_past (by decide +kernel)).trans (rfl)))
theorem L_Line_take {x0 x1 x2 : V} : (F_Line x0 x1 x2).lookup ("take" : Str) = none := (lk_past (by decide +kernel)).trans ((lk_past (by decide +kernel)).trans ((lk_past (by decide +kernel)).trans (rfl)))
theorem L_Line_is_next {x0 x1 x2 : V} : (F_Line x0 x1 x2).lookup ("is_next" : Str) = none := (lk_past (by decide +kernel)).trans ((lk_past (by decide +kernel)).trans ((lk_past (by decide +kernel)).trans (rfl)))
theorem L_Line_take_word {x0 x1 x2 : V} : (F_Line x0 x1 x2).lookup ("take_word" : Str) = none := (lk_past (by decide +kernel)).trans ((lk_past (by decide +kernel)).trans ((lk_past (by decide +kernel)).trans (rfl)))
theorem L_Line_finish {x0 x1 x2 : V} : (F_Line x0 x1 x2).lookup ("finish" : Str) = none := (lk_past (by decide +kernel)).trans ((lk_past (by decide +kernel)).trans ((lk_past (by decide +kernel)).trans (rfl)))
theorem P_Line_words {x0 x1 x2 y : V} : putF "words" y (F_Line x0 x1 x2) = F_Line y x1 x2 := put_here
theorem P_Line_end {x0 x1 x2 y : V} : putF "end" y (F_Line x0 x1 x2) = F_Line x0 y x2 := (put_past (by decide +kernel)).trans (congrArg _ (put_here))
theorem P_Line_at {x0 x1 x2 y : V} : putF "at" y (F_Line x0 x1 x2) = F_Line x0 x1 y := (put_past (by decide +kernel)).trans (congrArg _ ((put_past (by decide +kernel)).trans (congrArg _ (put_here))))
theorem M_Line {x0 x1 x2 : V} : putF "at" x2 (putF "end" x1 (putF "words" x0 ([]))) = F_Line x0 x1 x2 := by first | rfl | decide +kernel | simp [putF, F_Line]
def F_Keeping (x0 x1 : V) : List (Str × V) := [("plan", x0), ("counted", x1)]
theorem L_Keeping_plan {x0 x1 : V} : (F_Keeping x0 x1).lookup ("plan" : Str) = some x0 := lk_here
theorem L_Keeping_counted {x0 x1 : V} : (F_Keeping x0 x1).lookup ("counted" : Str) = some x1 := (lk_past (by decide +kernel)).trans (lk_here)
theorem L_Keeping_want_channel {x0 x1 : V} : (F_Keeping x0 x1).lookup ("want_channel" : Str) = none := (lk_past (by decide +kernel)).trans ((lk_past (by decide +kernel)).trans (rfl))
theorem L_Keeping_want_parts {x0 x1 : V} : (F_Keeping x0 x1).lookup ("want_parts" : Str) = none := (lk_past (by decide +kernel)).trans ((lk_past (by decide +kernel)).trans (rfl))
theorem L_Keeping_channel_at {x0 x1 : V} : (F_Keeping x0 x1).lookup ("channel_at" : Str) = none := (lk_past (by decide +kernel)).trans ((lk_past (by decide +kernel)).trans (rfl))
theorem L_Keeping_tell_plan {x0 x1 : V} : (F_Keeping x0 x1).lookup ("tell_plan" : Str) = none := (lk_past (by decide +kernel)).trans ((lk_past (by decide +kernel)).trans (rfl))
theorem L_Keeping_told_text {x0 x1 : V} : (F_Keeping x0 x1).lookup ("told_text" : Str) = none := (lk_past (by decide +kernel)).trans ((lk_past (by decide +kernel)).trans (rfl))
theorem L_Keeping_set_count {x0 x1 : V} : (F_Keeping x0 x1).lookup ("set_count" : Str) = none := (lk_past (by decide +kernel)).trans ((lk_past (by decide +kernel)).trans (rfl))
theorem L_Keeping_forget {x0 x1 : V} : (F_Keeping x0 x1).lookup ("forget" : Str) = none := (lk_past (by decide +kernel)).trans ((lk_past (by decide +kernel)).trans (rfl))
theorem L_Keeping_chance {x0 x1 : V} : (F_Keeping x0 x1).lookup ("chance" : Str) = none := (lk_past (by decide +kernel)).trans ((lk_past (by decide +kernel)).trans (rfl))
theorem L_Keeping_how_often {x0 x1 : V} : (F_Keeping x0 x1).lookup ("how_often" : Str) = none := (lk_past (by decide +kernel)).trans ((lk_past (by decide +kernel)).trans (rfl))
theorem L_Keeping_part {x0 x1 : V} : (F_Keeping x0 x1).lookup ("part" : Str) = none := (lk_past (by decide +kernel)).trans ((lk_past (by decide +kernel)).trans (rfl))
theorem L_Keeping_belt {x0 x1 : V} : (F_Keeping x0 x1).lookup ("belt" : Str) = none := (lk_past (by decide +kernel)).trans ((lk_past (by decide +kernel)).trans (rfl))
theorem L_Keeping_would {x0 x1 : V} : (F_Keeping x0 x1).lookup ("would" : Str) = none := (lk_past (by decide +kernel)).trans ((lk_past (by decide +kernel)).trans (rfl))
theorem L_Keeping_leaves {x0 x1 : V} : (F_Keeping x0 x1).lookup ("leaves" : Str) = none := (lk_past (by decide +kernel)).trans ((lk_past (by decide +kernel)).trans (rfl))
theorem L_Keeping_jointly {x0 x1 : V} : (F_Keeping x0 x1).lookup ("jointly" : Str) = none := (lk_past (by decide +kernel)).trans ((lk_past (by decide +kernel)).trans (rfl))
theorem L_Keeping_covers {x0 x1 : V} : (F_Keeping x0 x1).lookup ("covers" : Str) = none := (lk_past (by decide +kernel)).trans ((lk_past (by decide +kernel)).trans (rfl))
theorem L_Keeping_judge {x0 x1 : V} : (F_Keeping x0 x1).lookup ("judge" : Str) = none := (lk_past (by decide +kernel)).trans ((lk_past (by decide +kernel)).trans (rfl))
theorem L_Keeping_apart {x0 x1 : V} : (F_Keeping x0 x1).lookup ("apart" : Str) = none := (lk_past (by decide +kernel)).trans ((lk_past (by decide +kernel)).trans (rfl))
theorem L_Keeping_fewest {x0 x1 : V} : (F_Keeping x0 x1).lookup ("fewest" : Str) = none := (lk_past (by decide +kernel)).trans ((lk_past (by decide +kernel)).trans (rfl))
theorem L_Keeping_few {x0 x1 : V} : (F_Keeping x0 x1).lookup ("few" : Str) = none := (lk_past (by decide +kernel)).trans ((lk_past (by decide +kernel)).trans (rfl))
theorem L_Keeping_table {x0 x1 : V} : (F_Keeping x0 x1).lookup ("table" : Str) = none := (lk_past (by decide +kernel)).trans ((lk_past (by decide +kernel)).trans (rfl))
theorem L_Keeping_set_order {x0 x1 : V} : (F_Keeping x0 x1).lookup ("set_order" : Str) = none := (lk_past (by decide +kernel)).trans ((lk_past (by decide +kernel)).trans (rfl))
theorem L_Keeping_set_sure {x0 x1 : V} : (F_Keeping x0 x1).lookup ("set_sure" : Str) = none := (lk_past (by decide +kernel)).trans ((lk_past (by decide +kernel)).trans (rfl))
theorem L_Keeping_told_counts {x0 x1 : V} : (F_Keeping x0 x1).lookup ("told_counts" : Str) = none := (lk_past (by decide +kernel)).trans ((lk_past (by decide +kernel)).trans (rfl))
theorem P_Keeping_plan {x0 x1 y : V} : putF "plan" y (F_Keeping x0 x1) = F_Keeping y x1 := put_here
theorem P_Keeping_counted {x0 x1 y : V} : putF "counted" y (F_Keeping x0 x1) = F_Keeping x0 y := (put_past (by decide +kernel)).trans (congrArg _ (put_here))
theorem M_Keeping {x0 x1 : V} : putF "counted" x1 (putF "plan" x0 ([])) = F_Keeping x0 x1 := by first | rfl | decide +kernel | simp [putF, F_Keeping]
/-- a list of whole numbers -/
def InAt (H : Hp) (v : V) (ns : List Int) : Prop := ∃ a, v = .ref a ∧ H a = some (.lst (ns.map V.int))
theorem InAt.same {H H' : Hp} {v : V} {ns : List Int} (h : InAt H v ns) (e : Same H H') : InAt H' v ns := let ⟨a, x, y⟩ := h; ⟨a, x, e _ _ y⟩
/-- how likely each count of t trials is with chance p -/
def terms (t : Nat) (p : Qd) : List Int := (List.range (t + 1)).map fun n => ((Vbkdai.term t p n : Nat) : Int)
def SpreadAt (K : PySem.W.Frag) (H : Hp) (v : V) (t : Nat) (p : Qd) : Prop := ∃ a dx l, v = .ref a ∧ H a = some (.ins (He.ga K "Spread") dx (F_Spread (.ref l) (.int ((Vbkdai.total t p : Nat) : Int)))) ∧ H l = some (.lst ((terms t p).map V.int))
theorem SpreadAt.same {K : PySem.W.Frag} {H H' : Hp} {v : V} {t : Nat} {p : Qd} (h : SpreadAt K H v t p) (e : Same H H') : SpreadAt K H' v t p := let ⟨a, dx, l, x, y, z⟩ := h; ⟨a, dx, l, x, e _ _ y, e _ _ z⟩
/-- two fractions in a tuple -/
def Fr2At (K : PySem.W.Frag) (H : Hp) (v : V) (x y : Qd) : Prop := ∃ a u w, v = .ref a ∧ SqT K H a [u, w] ∧ FrAt K H u x ∧ FrAt K H w y
theorem Fr2At.same {K : PySem.W.Frag} {H H' : Hp} {v : V} {x y : Qd} (h : Fr2At K H v x y) (e : Same H H') : Fr2At K H' v x y := let ⟨a, u, w, q, r, s, t⟩ := h; ⟨a, u, w, q, e.tup r, s.same e, t.same e⟩
def ChanAt (K : PySem.W.Frag) (H : Hp) (v : V) (c : Vbkdai.Chan) : Prop := ∃ a dx nm b g s, v = .ref a ∧ H a = some (.ins (He.ga K "Channel") dx (F_Channel nm (.int (c.trials : Int)) b g s (.int (c.order : Int)))) ∧
  InAt H nm (nI c.name) ∧ Fr2At K H b c.base1 c.base2 ∧ Fr2At K H g c.gain1 c.gain2 ∧ FrAt K H s c.sure
theorem ChanAt.same {K : PySem.W.Frag} {H H' : Hp} {v : V} {c : Vbkdai.Chan} (h : ChanAt K H v c) (e : Same H H') : ChanAt K H' v c :=
  let ⟨a, dx, nm, b, g, s, x, y, z1, z2, z3, z4⟩ := h; ⟨a, dx, nm, b, g, s, x, e _ _ y, z1.same e, z2.same e, z3.same e, z4.same e⟩
theorem paired_imp {α β : Type} {F G : α → β → Prop} (f : ∀ a b, F a b → G a b) : ∀ {l : List α} {m : List β}, Paired F l m → Paired G l m
  | _, _, .nil => .nil
  | _, _, .cons h t => .cons (f _ _ h) (paired_imp f t)
def PlanAt (K : PySem.W.Frag) (H : Hp) (v : V) (p : Vbkdai.Plan) : Prop := ∃ a dx l vs, v = .ref a ∧ H a = some (.ins (He.ga K "Plan") dx (F_Plan (.int (p.parts : Int)) (.ref l))) ∧ H l = some (.lst vs) ∧ Paired (ChanAt K H) vs p.chans
theorem PlanAt.same {K : PySem.W.Frag} {H H' : Hp} {v : V} {p : Vbkdai.Plan} (h : PlanAt K H v p) (e : Same H H') : PlanAt K H' v p :=
  let ⟨a, dx, l, vs, x, y, z, u⟩ := h; ⟨a, dx, l, vs, x, e _ _ y, e _ _ z, paired_imp (fun _ _ q => q.same e) u⟩
end Bc


-- end of a part
set_option Elab.async false
set_option linter.all false
set_option maxRecDepth 100000
set_option maxHeartbeats 4000000
set_option exponentiation.threshold 100000
/-! # chances -/
namespace Bc
open PySem PySem.Spec PyProof.Rows L2
def sp_chance_with (K : PySem.W.Frag) : Sp := mkSp 3 fun vs H Q _ => ∃ (s b g : Qd) (v1 v2 v3 : V), vs = [v1, v2, v3] ∧ FrAt K H v1 s ∧ FrAt K H v2 b ∧ FrAt K H v3 g ∧ Fq 1000 s ∧ Fq 1000 b ∧ Fq 1000 g ∧ Ret H Q fun v H' => FrAt K H' v (VbkdCore.add b (VbkdCore.mul g s))
def sp_chance_at (K : PySem.W.Frag) : Sp := mkSp 4 fun vs H Q _ => ∃ (pl : Vbkdai.Plan) (c : Vbkdai.Chan) (v1 v2 : V) (k e : Nat), vs = [v1, v2, .int k, .int e] ∧ PlanAt K H v1 pl ∧ ChanAt K H v2 c ∧ ChOk c ∧ pl.parts ≤ 12 ∧ k < pl.parts ∧ e ≤ 1 ∧
  Ret H Q fun v H' => FrAt K H' v (Vbkdai.chanceAt pl.parts c k e)
def sp_powers (K : PySem.W.Frag) : Sp := mkSp 2 fun vs H Q _ => ∃ x m : Nat, vs = [.int x, .int m] ∧ x < 2 ^ 30 ∧ m ≤ 40 ∧ Ret H Q fun v H' => InAt H' v ((List.range (m + 1)).map fun i => ((x ^ i : Nat) : Int))
/-- all but the one at a stand as they stood -/
def SameBut (a : Addr) (H H' : Hp) : Prop := ∀ b o, b ≠ a → H b = some o → H' b = some o
def sp_Spread_init (K : PySem.W.Frag) : Sp := mkSp 3 fun vs H Q _ => ∃ (a dx : Addr) (t : Nat) (p : Qd) (v : V), vs = [.ref a, .int t, v] ∧ H a = some (.ins (He.ga K "Spread") dx []) ∧ FrAt K H v p ∧ Pr p ∧ t ≤ 40 ∧
  ∀ H', SameBut a H H' → SpreadAt K H' (.ref a) t p → Q .non H'
/-- the shares of the counts from a on, fewer than b' -/
def many (t : Nat) (p : Qd) (a b : Nat) : Nat := Vbkdai.sumOf (((List.range (t + 1)).take b).drop a |>.map (Vbkdai.term t p))
def sp_Spread_many_from (K : PySem.W.Frag) : Sp := mkSp 3 fun vs H Q _ => ∃ (v : V) (t : Nat) (p : Qd) (a : Nat) (b : Int), vs = [v, .int a, .int b] ∧ SpreadAt K H v t p ∧ -1 ≤ b ∧ ∀ H', Same H H' → Q (.int ((many t p a (b + 1).toNat : Nat) : Int)) H'
def sp_Spread_often (K : PySem.W.Frag) : Sp := mkSp 3 fun vs H Q _ => ∃ (v : V) (t : Nat) (p : Qd) (a b : Nat), vs = [v, .int a, .int b] ∧ SpreadAt K H v t p ∧ Pr p ∧ t ≤ 40 ∧ Ret H Q fun v H' => FrAt K H' v (VbkdCore.mk ((many t p a (b + 1) : Nat) : Int) (Vbkdai.total t p))
def sp_Spread_is_sure (K : PySem.W.Frag) : Sp := mkSp 3 fun vs H Q _ => ∃ (v w : V) (t : Nat) (p s : Qd) (m : Nat), vs = [v, .int m, w] ∧ SpreadAt K H v t p ∧ FrAt K H w s ∧ Pr p ∧ t ≤ 40 ∧ Fq 1000 s ∧ m < 2 ^ 4000 ∧ Q (.bl (Vbkdai.reaches t p s m)) H
def sp_spread_at (K : PySem.W.Frag) : Sp := mkSp 4 fun vs H Q _ => ∃ (pl : Vbkdai.Plan) (c : Vbkdai.Chan) (v1 v2 : V) (k e : Nat), vs = [v1, v2, .int k, .int e] ∧ PlanAt K H v1 pl ∧ ChanAt K H v2 c ∧ ChOk c ∧ pl.parts ≤ 12 ∧ k < pl.parts ∧ e ≤ 1 ∧
  Ret H Q fun v H' => SpreadAt K H' v c.trials (Vbkdai.chanceAt pl.parts c k e)
theorem small8000 {n : Nat} (h : n < 256) : n < 2 ^ 8000 := Nat.lt_trans (show n < 2 ^ 8 from h) (Nat.pow_lt_pow_right (by decide) (by decide))
section
variable {P : Program} {w : World} {K : PySem.W.Frag} {mg : Str → Option Value} {base : Heap}
theorem sc_chance_with : FnScope N_chance_with ["strength", "base", "gain"] (defScope s_chance_with) := ⟨rfl, rfl, rfl, by decide +kernel, rfl, by decide +kernel, by decide +kernel⟩
theorem ok_chance_with (T : TX K mg) : FOk P w K mg base CX0 4 (He.ga K "chance_with") ["strength", "base", "gain"] (sp_chance_with K) := by
  obtain ⟨fd, F⟩ := T.f_chance_with
  obtain ⟨fd0, G0, b0⟩ := ok_times (P := P) (w := w) (base := base) T
  obtain ⟨fd1, G1, b1⟩ := ok_plus (P := P) (w := w) (base := base) T
  refine ⟨fd, F.ok sc_chance_with (fun _ _ _ _ h => h.1) (fun cdv A outer s H vs Q E hr h => ?_), F.binds fun _ _ _ _ _ _ us hl => match us, hl with | [_, _, _], _ => rfl⟩
  have hr0 := hr.mono (by decide : 3 ≤ 3)
  have hr1 := hr.mono (by decide : 3 ≤ 3)
  refine ⟨_, PSs.nox (pss_one (ps_ret (pe_call G1 hr1 (by rfl) T.g_plus T.k_plus b1 .nil pass0 (pa_cons (pv 1) (pa_cons (pe_call G0 hr0 (by rfl) T.g_times T.k_times b0 .nil pass0 (pa_cons (pv 2) (pa_cons (pv 0) pa_nil))) pa_nil))))), ?_⟩
  obtain ⟨_, h⟩ := h
  obtain ⟨s, b, g, v1, v2, v3, rfl, h1, h2, h3, f1, f2, f3, q⟩ := h
  refine ⟨_, rfl, _, rfl, _, rfl, rfl, g, s, _, _, rfl, h3, h1, f3.sm (by decide), f1.sm (by decide), fun v H1 e hv => ?_⟩
  exact ⟨rfl, b, _, _, _, rfl, h2.same e, hv, f2.sm (by decide), (mul_fq f3 f1).sm (by decide), fun u H2 e2 hu => q u H2 (e.trans e2) hu⟩
theorem sc_chance_at : FnScope N_chance_at ["plan", "channel", "k", "e"] (defScope s_chance_at) := ⟨rfl, rfl, rfl, by decide +kernel, rfl, by decide +kernel, by decide +kernel⟩
theorem ok_chance_at (T : TX K mg) : FOk P w K mg base CX0 5 (He.ga K "chance_at") ["plan", "channel", "k", "e"] (sp_chance_at K) := by
  obtain ⟨fd, F⟩ := T.f_chance_at
  obtain ⟨fd0, G0, b0⟩ := ok_fraction (P := P) (w := w) (base := base) T
  obtain ⟨fd1, G1, b1⟩ := ok_chance_with (P := P) (w := w) (base := base) T
  refine ⟨fd, F.ok sc_chance_at (fun _ _ _ _ h => h.1) (fun cdv A outer s H vs Q E hr h => ?_), F.binds fun _ _ _ _ _ _ us hl => match us, hl with | [_, _, _, _], _ => rfl⟩
  have hr0 := hr.mono (by decide : 2 ≤ 4)
  have hr1 := hr.mono (by decide : 4 ≤ 4)
  refine ⟨_, PSs.nox (pss_one (ps_ret (pe_call G1 hr1 (by rfl) T.g_chance_with T.k_chance_with b1 .nil pass0 (pa_cons (pe_call G0 hr0 (by rfl) T.g_fraction T.k_fraction b0 .nil pass0 (pa_cons (pe_op op_add (pv 2) (pv 3)) (pa_cons (pe_fld (pv 0) rfl) pa_nil))) (pa_cons (pe_ix ix_tup (pe_fld (pv 1) rfl) (pv 3) (fun _ _ => rfl)) (pa_cons (pe_ix ix_tup (pe_fld (pv 1) rfl) (pv 3) (fun _ _ => rfl)) pa_nil)))))), ?_⟩
  obtain ⟨_, h⟩ := h
  obtain ⟨pl, c, v1, v2, k, e, rfl, ⟨a, dx, l, ws, rfl, ha, hl, hw⟩, ⟨a2, dx2, nm, b, g, s, rfl, h2, h3, ⟨ab, b1, b2, rfl, hb, hb1, hb2⟩, ⟨ag, g1, g2, rfl, hg, hg1, hg2⟩, h6⟩, ok, g12, kl, el, q⟩ := h
  refine ⟨_, rfl, _, rfl, _, _, rfl, rfl, _, rfl, a, _, dx, _, _, rfl, ha, T.cl_Plan, T.na_Plan_parts, L_Plan_parts, ?_⟩
  refine ⟨rfl, _, pl.parts, rfl, by omega, small8000 (by omega), fun v H1 e1 hv => ?_⟩
  refine ⟨_, rfl, a2, _, dx2, _, _, rfl, e1 _ _ h2, T.cl_Channel, T.na_Channel_base, L_Channel_base, _, rfl, ab, _, _, if e = 0 then b1 else b2, rfl, rfl, e1.tup hb, ?_, ?_⟩
  · rcases (show e = 0 ∨ e = 1 by omega) with rfl | rfl <;> rfl
  refine ⟨_, rfl, a2, _, dx2, _, _, rfl, e1 _ _ h2, T.cl_Channel, T.na_Channel_gain, L_Channel_gain, _, rfl, ag, _, _, if e = 0 then g1 else g2, rfl, rfl, e1.tup hg, ?_, ?_⟩
  · rcases (show e = 0 ∨ e = 1 by omega) with rfl | rfl <;> rfl
  have fs : Fq 1000 (VbkdCore.mk ((k : Int) + (e : Int)) pl.parts) := (mk_fq (by omega) (by omega) (by omega)).mono (by omega)
  rcases (show e = 0 ∨ e = 1 by omega) with rfl | rfl
  · refine ⟨rfl, _, c.base1, c.gain1, _, _, _, rfl, hv, hb1.same e1, hg1.same e1, fs, ok.b1, ok.g1, fun u H2 e2 hu => q u H2 (e1.trans e2) ?_⟩
    exact hu
  · refine ⟨rfl, _, c.base2, c.gain2, _, _, _, rfl, hv, hb2.same e1, hg2.same e1, fs, ok.b2, ok.g2, fun u H2 e2 hu => q u H2 (e1.trans e2) ?_⟩
    exact hu
theorem pw_more (f : Nat → Int) (i : Nat) : ((List.range (i + 1 + 1)).map f).map V.int = ((List.range (i + 1)).map f).map V.int ++ [V.int (f (i + 1))] := by
  rw [List.range_succ, List.map_append, List.map_append]
  rfl
theorem pw_last (f : Nat → Int) (i : Nat) : atI (((List.range (i + 1)).map f).map V.int) (-1) = some (V.int (f i)) := by
  rw [List.range_succ, List.map_append, List.map_append]
  exact atI_last _ _
theorem sc_powers : FnScope N_powers ["number", "many"] (defScope s_powers) := ⟨rfl, rfl, rfl, by decide +kernel, rfl, by decide +kernel, by decide +kernel⟩
theorem ok_powers (T : TX K mg) : FOk P w K mg base CX0 1 (He.ga K "powers") ["number", "many"] (sp_powers K) := by
  obtain ⟨fd, F⟩ := T.f_powers
  refine ⟨fd, F.ok sc_powers (fun _ _ _ _ h => h.1) (fun cdv A outer s H vs Q E hr h => ?_), F.binds fun _ _ _ _ _ _ us hl => match us, hl with | [_, _], _ => rfl⟩
  refine ⟨_, PSs.nox (pss_cons (ps_set (i := 2) sc_powers.nd rfl (.inl rfl) (pe_lst (pa_cons pe_int pa_nil)))
    (pss_cons (ps_for PassesOwn.never rfl (pi_range1 (by rfl) T.n_range (pa_cons (pv 1) pa_nil)) (pg_name (i := 3) sc_powers.nd rfl (.inl rfl)) (pss_one (ps_expr (pe_bm PySem.F.plainAttrs_list PySem.F.slot_list_append PySem.F.type_list_append mt_append (pv 2) (pa_cons (pe_op op_mulW (pe_ix ix_list (pv 2) (pe_un un_neg pe_int) (fun _ _ => rfl)) (pv 0)) pa_nil)))))
    (pss_one (ps_ret (pv 2))))), ?_⟩
  obtain ⟨_, h⟩ := h
  obtain ⟨x, m, rfl, hx, hm, q⟩ := h
  refine ⟨by show 1 ≤ sizeLine; decide, fun p hp => ?_⟩
  refine ⟨_, rfl, (m : Int), rfl, by omega, by omega, for_range (lo := 0) (n := m)
    (fun i σ H' => ∃ v3, σ = [some (.int x), some (.int m), some (.ref p), v3] ∧ Same H H' ∧ H' p = some (.lst (((List.range (i + 1)).map fun i => ((x ^ i : Nat) : Int)).map V.int)))
    ⟨none, rfl, Same.new hp, upd_same⟩ ?_ ?_⟩
  · rintro i σ H' hi ⟨v3, rfl, e, hl⟩
    have b1 : (((x ^ i : Nat) : Int)).natAbs < 2 ^ 1200 := by
      rw [Int.natAbs_natCast]
      have h1 : x ^ i ≤ (2 ^ 30) ^ i := Nat.pow_le_pow_left (Nat.le_of_lt hx) i
      rw [← Nat.pow_mul] at h1
      exact Nat.lt_of_le_of_lt h1 (Nat.pow_lt_pow_right (by decide) (by omega))
    have b2 : ((x : Int)).natAbs < 2 ^ 30 := by rw [Int.natAbs_natCast]; exact hx
    refine ⟨_, rfl, Or.inl ⟨rfl, _, SqL.of hl⟩, _, rfl, 1, rfl, p, _, _, _, rfl, rfl, SqL.of hl, pw_last _ i, _, rfl, _, _, rfl, rfl, wide_mul b1 b2 (by decide) (by decide) (by decide), p, _, _, rfl, rfl, hl, ?_, ?_⟩
    · rw [List.length_map, List.length_map, List.length_range]
      exact small1000 (by omega)
    refine ⟨_, rfl, e.mut hp, ?_⟩
    rw [upd_same, pw_more]
    show some (HO.lst (_ ++ [V.int (((x ^ i : Nat) : Int) * (x : Int))])) = _
    have e3 : (((x ^ i : Nat) : Int)) * (x : Int) = ((x ^ (i + 1) : Nat) : Int) := by rw [Nat.pow_succ, Int.natCast_mul]
    rw [e3]
  · rintro σ H' ⟨v3, rfl, e, hl⟩
    exact ⟨_, rfl, q _ _ e ⟨p, rfl, hl⟩⟩
theorem at_range (f : Nat → Int) {i n : Nat} (h : i < n) : (((List.range n).map f).map V.int)[i]? = some (V.int (f i)) := by
  rw [List.getElem?_map, List.getElem?_map, List.getElem?_range h]
  rfl
theorem sc_Spread_init : FnScope N_Spread_init ["self", "trials", "chance"] (defScope s_Spread_init) := ⟨rfl, rfl, rfl, by decide +kernel, rfl, by decide +kernel, by decide +kernel⟩
theorem ok_Spread_init (T : TX K mg) : FOk P w K mg base CX0 2 (He.ma K (He.ga K "Spread") "__init__") ["self", "trials", "chance"] (sp_Spread_init K) := by
  obtain ⟨fd, F⟩ := T.f_Spread_init
  obtain ⟨fd0, G0, b0⟩ := ok_powers (P := P) (w := w) (base := base) T
  refine ⟨fd, F.ok sc_Spread_init (fun _ _ _ _ h => h.1) (fun cdv A outer s H vs Q E hr h => ?_), F.binds fun _ _ _ _ _ _ us hl => match us, hl with | [_, _, _], _ => rfl⟩
  have hr0 := hr.mono (by decide : 1 ≤ 1)
  refine ⟨_, PSs.nox (pss_cons (ps_asg (pv 2) (pg_tup (by rfl) (pgs_cons (pg_name (i := 3) sc_Spread_init.nd rfl (.inl rfl)) (pgs_cons (pg_name (i := 4) sc_Spread_init.nd rfl (.inl rfl)) pgs_nil))))
    (pss_cons (ps_par (i := 5) (j := 6) (by rfl) sc_Spread_init.nd rfl rfl (by decide) rfl rfl (pa_cons (pe_call G0 hr0 (by rfl) T.g_powers T.k_powers b0 .nil pass0 (pa_cons (pv 3) (pa_cons (pv 1) pa_nil))) (pa_cons (pe_call G0 hr0 (by rfl) T.g_powers T.k_powers b0 .nil pass0 (pa_cons (pe_op op_sub (pv 4) (pv 3)) (pa_cons (pv 1) pa_nil))) pa_nil)) (by rfl))
    (pss_cons (ps_fld (pv 0) (pe_lst pa_nil) rfl)
    (pss_cons (ps_fld (pv 0) (pe_ix ix_list (pe_call G0 hr0 (by rfl) T.g_powers T.k_powers b0 .nil pass0 (pa_cons (pv 4) (pa_cons (pv 1) pa_nil))) (pv 1) (fun _ _ => rfl)) rfl)
    (pss_cons (ps_set (i := 7) sc_Spread_init.nd rfl (.inl rfl) pe_int)
    (pss_one (ps_for PassesOwn.never rfl (pi_range1 (by rfl) T.n_range (pa_cons (pe_op op_add (pv 1) pe_int) pa_nil)) (pg_name (i := 8) sc_Spread_init.nd rfl (.inl rfl)) (pss_cons (ps_expr (pe_bm PySem.F.plainAttrs_list PySem.F.slot_list_append PySem.F.type_list_append mt_append (pe_fld (pv 0) rfl) (pa_cons (pe_op op_mulW (pe_op op_mulW (pv 7) (pe_ix ix_list (pv 5) (pv 8) (fun _ _ => rfl))) (pe_ix ix_list (pv 6) (pe_op op_sub (pv 1) (pv 8)) (fun _ _ => rfl))) pa_nil)))
    (pss_one (ps_set (i := 7) sc_Spread_init.nd rfl (.inl rfl) (pe_op op_fdivW (pe_op op_mulW (pv 7) (pe_op op_sub (pv 1) (pv 8))) (pe_op op_add (pv 8) pe_int)))))))))))), ?_⟩
  obtain ⟨_, h⟩ := h
  obtain ⟨a, dx, t, p, v, rfl, ha, ⟨ap, rfl, hap⟩, pr, ht, q⟩ := h
  have lw := T.na_Spread_whole
  have eu := upper_cast pr
  have ul := upper_le pr
  have ud : Vbkdai.upper p < 2 ^ 30 := Nat.lt_of_le_of_lt ul pr.d1
  -- upper, lower = chance
  refine ⟨_, rfl, ap, _, rfl, hap, rfl, _, _, rfl, _, _, rfl, rfl, ?_⟩
  -- coming, lacking
  refine ⟨_, rfl, _, rfl, rfl, Vbkdai.upper p, t, ?_, ud, ht, fun v1 H1 e1 hv1 => ?_⟩
  · rw [eu]
    rfl
  obtain ⟨ca, rfl, hca⟩ := hv1
  refine ⟨_, rfl, _, rfl, _, _, rfl, rfl, _, rfl, rfl, p.d - Vbkdai.upper p, t, ?_, Nat.lt_of_le_of_lt (Nat.sub_le _ _) pr.d1, ht, fun v2 H2 e2 hv2 => ?_⟩
  · rw [Int.ofNat_sub ul, eu]
    rfl
  obtain ⟨la, rfl, hla⟩ := hv2
  have e12 := e1.trans e2
  have ha2 := e12 _ _ ha
  have hca2 := e2 _ _ hca
  refine ⟨_, _, rfl, ?_⟩
  -- self.shares = []
  refine ⟨by show 0 ≤ sizeLine; decide, fun s np => ?_⟩
  have sa : a ≠ s := ne_of_none ha2 np
  refine ⟨_, rfl, a, _, dx, _, rfl, (Same.new np) _ _ ha2, T.cl_Spread, T.na_Spread_shares, by show 0 < 1000; decide, ?_⟩
  generalize hH3 : upd (upd H2 s (.lst [])) a (.ins (He.ga K "Spread") dx (putF "shares" (.ref s) [])) = H3
  have k3 : ∀ b o, b ≠ a → H2 b = some o → H3 b = some o := fun b o hb hq => by
    rw [← hH3, upd_ne hb]
    exact Same.new np _ _ hq
  have h3a : H3 a = some (.ins (He.ga K "Spread") dx (putF "shares" (.ref s) [])) := by rw [← hH3, upd_same]
  have h3s : H3 s = some (.lst []) := by rw [← hH3, upd_ne (Ne.symm sa), upd_same]
  have ca_a : ca ≠ a := ne_of hca2 ha2 (by intro z; cases z)
  have la_a : la ≠ a := ne_of hla ha2 (by intro z; cases z)
  -- self.whole = powers(lower, trials)[trials]
  refine ⟨_, rfl, _, rfl, rfl, p.d, t, rfl, pr.d1, ht, fun v4 H4 e4 hv4 => ?_⟩
  obtain ⟨wa, rfl, hwa⟩ := hv4
  refine ⟨_, rfl, wa, _, _, _, rfl, rfl, SqL.of hwa, atI_nat (at_range (fun i => ((p.d ^ i : Nat) : Int)) (Nat.lt_succ_self t)), ?_⟩
  refine ⟨_, rfl, a, _, dx, _, rfl, e4 _ _ h3a, T.cl_Spread, T.na_Spread_whole, by show 1 < 1000; decide, ?_⟩
  rw [M_Spread]
  generalize hH5 : upd H4 a (.ins (He.ga K "Spread") dx (F_Spread (.ref s) (.int ((p.d ^ t : Nat) : Int)))) = H5
  have k5 : ∀ b o, b ≠ a → H4 b = some o → H5 b = some o := fun b o hb hq => by
    rw [← hH5, upd_ne hb]
    exact hq
  have h5a : H5 a = some (.ins (He.ga K "Spread") dx (F_Spread (.ref s) (.int ((p.d ^ t : Nat) : Int)))) := by rw [← hH5, upd_same]
  have h5s : H5 s = some (.lst []) := k5 _ _ (Ne.symm sa) (e4 _ _ h3s)
  have h5c : H5 ca = some _ := k5 _ _ ca_a (e4 _ _ (k3 _ _ ca_a hca2))
  have h5l : H5 la = some _ := k5 _ _ la_a (e4 _ _ (k3 _ _ la_a hla))
  have cas : ca ≠ s := ne_of_none hca2 np
  have las : la ≠ s := ne_of_none hla np
  -- the loop
  refine ⟨_, rfl, _, _, rfl, rfl, (t : Int) + 1, rfl, by omega, by omega, for_range (lo := 0) (n := ((t : Int) + 1).toNat)
    (fun i σ H' => ∃ v8, σ = [some (.ref a), some (.int t), some (.ref ap), some (.int p.n), some (.int (p.d : Int)), some (.ref ca), some (.ref la), some (.int ((wy t i : Nat) : Int)), v8] ∧ (∀ b o, b ≠ s → H5 b = some o → H' b = some o) ∧
      H' s = some (.lst (((List.range i).map fun n => ((Vbkdai.term t p n : Nat) : Int)).map V.int)))
    ⟨none, rfl, fun _ _ _ z => z, h5s⟩ ?_ ?_⟩
  · rintro i σ H' hi ⟨v8, rfl, k, hs⟩
    have hi2 : i ≤ t := by omega
    have b1 : (((wy t i : Nat) : Int)).natAbs < 2 ^ 300 := by rw [Int.natAbs_natCast]; exact wy_small ht (by omega)
    have b2 : (((Vbkdai.upper p ^ i : Nat) : Int)).natAbs < 2 ^ 1300 := by rw [Int.natAbs_natCast]; exact pow_small ud (by omega)
    have b3 : ((((p.d - Vbkdai.upper p) ^ (t - i) : Nat) : Int)).natAbs < 2 ^ 1300 := by rw [Int.natAbs_natCast]; exact pow_small (Nat.lt_of_le_of_lt (Nat.sub_le _ _) pr.d1) (by omega)
    have ei : (0 : Int) + (i : Int) = (i : Int) := Int.zero_add _
    have es : (t : Int) - (i : Int) = ((t - i : Nat) : Int) := by omega
    -- self.shares.append(..)
    refine ⟨_, rfl, a, _, dx, _, _, rfl, k _ _ sa h5a, T.cl_Spread, T.na_Spread_shares, L_Spread_shares, Or.inl ⟨rfl, _, SqL.of hs⟩, ?_⟩
    refine ⟨_, rfl, _, rfl, _, rfl, ca, _, _, _, rfl, rfl, SqL.of (k _ _ cas h5c), at_of ei (at_range (fun i => ((Vbkdai.upper p ^ i : Nat) : Int)) (show i < t + 1 by omega)), _, _, rfl, rfl, wide_mul b1 b2 (by decide) (by decide) (by decide), ?_⟩
    refine ⟨_, rfl, _, rfl, _, rfl, _, _, rfl, rfl, la, _, _, _, rfl, rfl, SqL.of (k _ _ las h5l), at_of (by rw [ei]; exact es) (at_range (fun i => (((p.d - Vbkdai.upper p) ^ i : Nat) : Int)) (show t - i < t + 1 by omega)), _, _, rfl, rfl, wide_mul (wide_lt b1 b2) b3 (by decide) (by decide) (by decide), ?_⟩
    refine ⟨s, _, _, rfl, rfl, hs, by rw [List.length_map, List.length_map, List.length_range]; exact small1000 (by omega), ?_⟩
    -- ways
    refine ⟨_, rfl, _, rfl, _, rfl, _, _, rfl, rfl, _, _, rfl, rfl, ?_, _, rfl, _, _, rfl, rfl, _, _, rfl, rfl, ?_, ?_⟩
    · rw [ei, es]
      exact wide_mul (b := 6) b1 (by rw [Int.natAbs_natCast]; omega) (by decide) (by decide) (by decide)
    · rw [ei]
      exact wide_div (b := 6) (by omega) (by omega) (by decide) (by decide)
    refine ⟨some (.int ((0 : Int) + (i : Int))), ?_, ?_, ?_⟩
    · have ew : ((wy t i : Nat) : Int) * ((t : Int) - ((0 : Int) + (i : Int))) / ((0 : Int) + (i : Int) + 1) = ((wy t (i + 1) : Nat) : Int) := by
        rw [ei, es, wy_more, Int.natCast_ediv, Int.natCast_mul, Int.natCast_add]
        rfl
      show [some (V.ref a), some (V.int t), some (V.ref ap), some (V.int p.n), some (V.int (p.d : Int)), some (V.ref ca), some (V.ref la), some (V.int (((wy t i : Nat) : Int) * ((t : Int) - ((0 : Int) + (i : Int))) / ((0 : Int) + (i : Int) + 1))), some (V.int ((0 : Int) + (i : Int)))] = _
      rw [ew]
    · intro b o hb hq
      rw [upd_ne hb]
      exact k b o hb hq
    · have et : ((Vbkdai.term t p i : Nat) : Int) = ((wy t i : Nat) : Int) * ((Vbkdai.upper p ^ i : Nat) : Int) * (((p.d - Vbkdai.upper p) ^ (t - i) : Nat) : Int) := by rw [term_wy hi2, Int.natCast_mul, Int.natCast_mul]
      rw [upd_same, List.range_succ, List.map_append, List.map_append]
      show _ = some (HO.lst (_ ++ [V.int ((Vbkdai.term t p i : Nat) : Int)]))
      rw [et]
  · rintro σ H' ⟨v8, rfl, k, hs⟩
    refine q H' (fun b o hb hq => ?_) ⟨a, dx, s, rfl, k _ _ sa h5a, ?_⟩
    · have hq2 := e12 _ _ hq
      exact k _ _ (ne_of_none hq2 np) (k5 _ _ hb (e4 _ _ (k3 _ _ hb hq2)))
    · rw [hs, show ((t : Int) + 1).toNat = t + 1 from by omega]
      rfl
theorem sumOf_cast : ∀ l : List Nat, ((Vbkdai.sumOf l : Nat) : Int) = (l.map fun n : Nat => (n : Int)).sum
  | [] => rfl
  | a :: r => by
    show ((a + Vbkdai.sumOf r : Nat) : Int) = _
    rw [Int.natCast_add, sumOf_cast r, List.map_cons, List.sum_cons]
theorem cut_ints (l : List Int) (a b : Nat) : cutV (l.map V.int) (some (a : Int)) (some (b : Int)) = ((l.take b).drop a).map V.int := by
  unfold cutV
  rw [HT.sIx_nat, HT.sIx_nat, ← List.map_drop, ← List.map_take, List.length_map, List.drop_take]
  congr 1
  by_cases h : b ≤ l.length
  · rw [Nat.min_eq_left h]
    by_cases h2 : a ≤ l.length
    · rw [Nat.min_eq_left h2]
    · rw [Nat.min_eq_right (by omega), show b - l.length = 0 by omega, show b - a = 0 by omega]
      simp
  · rw [Nat.min_eq_right (by omega : l.length ≤ b)]
    by_cases h2 : a ≤ l.length
    · rw [Nat.min_eq_left h2, List.take_of_length_le (by rw [List.length_drop]; omega), List.take_of_length_le (by rw [List.length_drop]; omega)]
    · rw [Nat.min_eq_right (by omega : l.length ≤ a), List.drop_of_length_le (Nat.le_refl _), List.drop_of_length_le (by omega)]
      simp
theorem sc_Spread_many_from : FnScope N_Spread_many_from ["self", "a", "b"] (defScope s_Spread_many_from) := ⟨rfl, rfl, rfl, by decide +kernel, rfl, by decide +kernel, by decide +kernel⟩
theorem ok_Spread_many_from (T : TX K mg) : FOk P w K mg base CX0 1 (He.ma K (He.ga K "Spread") "many_from") ["self", "a", "b"] (sp_Spread_many_from K) := by
  obtain ⟨fd, F⟩ := T.f_Spread_many_from
  refine ⟨fd, F.ok sc_Spread_many_from (fun _ _ _ _ h => h.1) (fun cdv A outer s H vs Q E hr h => ?_), F.binds fun _ _ _ _ _ _ us hl => match us, hl with | [_, _, _], _ => rfl⟩
  refine ⟨_, PSs.nox (pss_one (ps_ret (pe_callB (cr_sum rfl) (by rfl) T.n_sum (by decide +kernel) (pa_cons (pe_slice sl_list (pe_fld (pv 0) rfl) (po_some (pv 1)) (po_some (pe_op op_add (pv 2) pe_int))) pa_nil)))), ?_⟩
  obtain ⟨_, h⟩ := h
  obtain ⟨v, t, p, a, b, rfl, ⟨sa, dx, l, rfl, hs, hl⟩, hb, q⟩ := h
  have eb : b + 1 = (((b + 1).toNat : Nat) : Int) := by omega
  refine ⟨_, rfl, sa, _, dx, _, _, rfl, hs, T.cl_Spread, T.na_Spread_shares, L_Spread_shares, ?_⟩
  refine ⟨_, rfl, _, rfl, _, rfl, _, _, rfl, rfl, _, rfl, l, _, rfl, SqL.of hl, fun p2 np => ?_⟩
  have e : ((many t p a (b + 1).toNat : Nat) : Int) = (((terms t p).take (b + 1).toNat).drop a).sum := by
    unfold many terms
    rw [sumOf_cast, List.map_map, ← List.map_take, ← List.map_drop]
    rfl
  refine ⟨p2, ((terms t p).take (b + 1).toNat).drop a, rfl, SqL.of ?_, ?_⟩
  · rw [upd_same]
    show some (HO.lst (cutV ((terms t p).map V.int) (some (a : Int)) (some (b + 1)))) = _
    rw [eb, cut_ints]
    rfl
  · rw [← e]
    exact q _ (Same.new np)
theorem sum_drop_le : ∀ (l : List Nat) (n : Nat), Vbkdai.sumOf (l.drop n) ≤ Vbkdai.sumOf l
  | [], n => by simp
  | a :: r, 0 => Nat.le_refl _
  | a :: r, n + 1 => Nat.le_trans (sum_drop_le r n) (Nat.le_add_left _ _)
theorem sum_take_le : ∀ (l : List Nat) (n : Nat), Vbkdai.sumOf (l.take n) ≤ Vbkdai.sumOf l
  | [], n => by simp
  | a :: r, 0 => Nat.zero_le _
  | a :: r, n + 1 => Nat.add_le_add_left (sum_take_le r n) a
theorem many_small {t : Nat} {p : Qd} (h : Pr p) (ht : t ≤ 40) (a b : Nat) : many t p a b < 2 ^ 4000 := by
  unfold many
  rw [List.map_drop, List.map_take]
  refine Nat.lt_of_le_of_lt (Nat.le_trans (sum_drop_le _ _) (sum_take_le _ _)) ?_
  refine Nat.lt_of_le_of_lt (sum_bound (B := 2 ^ 3000) _ fun x hx => ?_) ?_
  · obtain ⟨n, hn, rfl⟩ := List.mem_map.mp hx
    exact Nat.le_of_lt (term_small h ht (by have := List.mem_range.mp hn; omega))
  · rw [List.length_map, List.length_range]
    refine Nat.lt_of_le_of_lt (Nat.mul_le_mul_right _ (show t + 1 ≤ 2 ^ 6 by omega)) ?_
    rw [← Nat.pow_add]
    exact Nat.pow_lt_pow_right (by decide) (by decide)
theorem sc_Spread_often : FnScope N_Spread_often ["self", "a", "b"] (defScope s_Spread_often) := ⟨rfl, rfl, rfl, by decide +kernel, rfl, by decide +kernel, by decide +kernel⟩
theorem ok_Spread_often (T : TX K mg) : FOk P w K mg base CX0 3 (He.ma K (He.ga K "Spread") "often") ["self", "a", "b"] (sp_Spread_often K) := by
  obtain ⟨fd, F⟩ := T.f_Spread_often
  obtain ⟨fd0, G0, b0⟩ := ok_Spread_many_from (P := P) (w := w) (base := base) T
  obtain ⟨fd1, G1, b1⟩ := ok_fraction (P := P) (w := w) (base := base) T
  refine ⟨fd, F.ok sc_Spread_often (fun _ _ _ _ h => h.1) (fun cdv A outer s H vs Q E hr h => ?_), F.binds fun _ _ _ _ _ _ us hl => match us, hl with | [_, _, _], _ => rfl⟩
  have hr0 := hr.mono (by decide : 1 ≤ 2)
  have hr1 := hr.mono (by decide : 2 ≤ 2)
  refine ⟨_, PSs.nox (pss_one (ps_ret (pe_call G1 hr1 (by rfl) T.g_fraction T.k_fraction b1 .nil pass0 (pa_cons (pe_meth (pv 0) T.cl_Spread T.m_Spread_many_from G0 hr0 b0 .nil pass0 (pa_cons (pv 1) (pa_cons (pv 2) pa_nil))) (pa_cons (pe_fld (pv 0) rfl) pa_nil))))), ?_⟩
  obtain ⟨_, h⟩ := h
  obtain ⟨v, t, p, a, b, rfl, hs, pr, ht, q⟩ := h
  obtain ⟨sa, dx, l, rfl, h1, h2⟩ := id hs
  refine ⟨_, rfl, sa, dx, _, rfl, h1, L_Spread_many_from, _, rfl, _, rfl, rfl, _, t, p, a, (b : Int), rfl, hs, by omega, fun H1 e1 => ?_⟩
  refine ⟨_, rfl, sa, _, dx, _, _, rfl, e1 _ _ h1, T.cl_Spread, T.na_Spread_whole, L_Spread_whole, ?_⟩
  exact ⟨rfl, _, _, rfl, total_pos pr, Nat.lt_trans (total_small pr ht) (Nat.pow_lt_pow_right (by decide) (by decide)), fun u H2 e2 hu => q u H2 (e1.trans e2) hu⟩
theorem reach_int {t m : Nat} {p s : Qd} {k : Nat} (hs : Fq k s) : decide (s.n * ((Vbkdai.total t p : Nat) : Int) ≤ (m : Int) * (s.d : Int)) = Vbkdai.reaches t p s m := by
  have e : ((Vbkdai.upper s : Nat) : Int) = s.n := by
    have := hs.n0
    unfold Vbkdai.upper
    omega
  unfold Vbkdai.reaches
  refine decide_eq_decide.mpr ?_
  rw [← e]
  exact ⟨fun h => by exact_mod_cast h, fun h => by exact_mod_cast h⟩
theorem sc_Spread_is_sure : FnScope N_Spread_is_sure ["self", "share", "sure"] (defScope s_Spread_is_sure) := ⟨rfl, rfl, rfl, by decide +kernel, rfl, by decide +kernel, by decide +kernel⟩
theorem ok_Spread_is_sure (T : TX K mg) : FOk P w K mg base CX0 1 (He.ma K (He.ga K "Spread") "is_sure") ["self", "share", "sure"] (sp_Spread_is_sure K) := by
  obtain ⟨fd, F⟩ := T.f_Spread_is_sure
  refine ⟨fd, F.ok sc_Spread_is_sure (fun _ _ _ _ h => h.1) (fun cdv A outer s H vs Q E hr h => ?_), F.binds fun _ _ _ _ _ _ us hl => match us, hl with | [_, _, _], _ => rfl⟩
  refine ⟨_, PSs.nox (pss_one (ps_ret (pe_cmpR op_ge (pe_op op_mulW (pv 1) (pe_ix ix_tup (pv 2) pe_int (fun _ _ => rfl))) (pe_op op_mulW (pe_ix ix_tup (pv 2) pe_int (fun _ _ => rfl)) (pe_fld (pv 0) rfl)) (by rfl)))), ?_⟩
  obtain ⟨_, h⟩ := h
  obtain ⟨v, w, t, p, s, m, rfl, ⟨sa, dx, l, rfl, h1, h2⟩, ⟨fa, rfl, hf⟩, pr, ht, fs, hm, q⟩ := h
  have b1 : ((m : Int)).natAbs < 2 ^ 4000 := by rw [Int.natAbs_natCast]; exact hm
  have b2 : (((Vbkdai.total t p : Nat) : Int)).natAbs < 2 ^ 1300 := by rw [Int.natAbs_natCast]; exact total_small pr ht
  have sm := fs.sm (j := 10) (by decide)
  refine ⟨_, rfl, _, rfl, fa, _, _, _, rfl, rfl, hf, at1, _, _, rfl, rfl, wide_mul b1 (sm_d sm) (by decide) (by decide) (by decide), ?_⟩
  refine ⟨_, rfl, fa, _, _, _, rfl, rfl, hf, at0, _, rfl, sa, _, dx, _, _, rfl, h1, T.cl_Spread, T.na_Spread_whole, L_Spread_whole, _, _, rfl, rfl, wide_mul sm.1 b2 (by decide) (by decide) (by decide), ?_⟩
  refine ⟨_, _, rfl, rfl, ?_⟩
  rw [← reach_int fs] at q
  exact q
theorem chanceAt_pr {pl : Nat} {c : Vbkdai.Chan} {k e : Nat} (ok : ChOk c) (h12 : pl ≤ 12) (hk : k < pl) (he : e ≤ 1) : Pr (Vbkdai.chanceAt pl c k e) := by
  unfold Vbkdai.chanceAt
  by_cases e0 : e = 0
  · rw [if_pos e0]
    have f : Fq 12 (VbkdCore.mk (k : Int) pl) := (mk_fq (by omega) (by omega) (by omega)).mono h12
    exact (chance_fq ok.b1 ok.g1 f (bg_of ok ok.b1 ok.g1 ok.bb ok.gg)).pr (by decide)
  · rw [if_neg e0]
    have f : Fq 12 (VbkdCore.mk ((k + 1 : Nat) : Int) pl) := (mk_fq (by omega) (by omega) (by omega)).mono h12
    exact (chance_fq ok.b2 ok.g2 f ok.bg).pr (by decide)
theorem sc_spread_at : FnScope N_spread_at ["plan", "channel", "k", "e"] (defScope s_spread_at) := ⟨rfl, rfl, rfl, by decide +kernel, rfl, by decide +kernel, by decide +kernel⟩
theorem ok_spread_at (T : TX K mg) : FOk P w K mg base CX0 6 (He.ga K "spread_at") ["plan", "channel", "k", "e"] (sp_spread_at K) := by
  obtain ⟨fd, F⟩ := T.f_spread_at
  obtain ⟨fd0, G0, b0⟩ := ok_chance_at (P := P) (w := w) (base := base) T
  obtain ⟨fd1, G1, b1⟩ := ok_Spread_init (P := P) (w := w) (base := base) T
  refine ⟨fd, F.ok sc_spread_at (fun _ _ _ _ h => h.1) (fun cdv A outer s H vs Q E hr h => ?_), F.binds fun _ _ _ _ _ _ us hl => match us, hl with | [_, _, _, _], _ => rfl⟩
  have hr0 := hr.mono (by decide : 5 ≤ 5)
  have hr1 := hr.mono (by decide : 3 ≤ 5)
  refine ⟨_, PSs.nox (pss_one (ps_ret (pe_make T.mk_Spread G1 hr1 (by rfl) T.g_Spread b1 .nil pass0 (pa_cons (pe_fld (pv 1) rfl) (pa_cons (pe_call G0 hr0 (by rfl) T.g_chance_at T.k_chance_at b0 .nil pass0 (pa_cons (pv 0) (pa_cons (pv 1) (pa_cons (pv 2) (pa_cons (pv 3) pa_nil))))) pa_nil))))), ?_⟩
  obtain ⟨_, h⟩ := h
  obtain ⟨pl, c, v1, v2, k, e, rfl, hp, hc, ok, g12, kl, el, q⟩ := h
  obtain ⟨a2, dx2, nm, b, g, s, rfl, h2, _⟩ := id hc
  refine ⟨_, rfl, a2, _, dx2, _, _, rfl, h2, T.cl_Channel, T.na_Channel_trials, L_Channel_trials, ?_⟩
  refine ⟨_, rfl, _, rfl, _, rfl, _, rfl, rfl, pl, c, _, _, k, e, rfl, hp, hc, ok, g12, kl, el, fun v H1 e1 hv => ?_⟩
  intro x dx nx nd ne
  have e2 : Same H1 (upd (upd H1 dx (.own x)) x (.ins (He.ga K "Spread") dx [])) := (Same.new nd).trans (Same.new (by rw [upd_ne (Ne.symm ne)]; exact nx))
  refine ⟨rfl, x, dx, c.trials, _, v, rfl, upd_same, hv.same e2, chanceAt_pr ok g12 kl el, ok.t40, fun H2 k2 hs => ⟨rfl, q _ _ (e1.trans ?_) hs⟩⟩
  exact fun b o hb => k2 b o (ne_of_none hb nx) (e2 b o hb)
end
end Bc


-- end of a part
set_option Elab.async false
set_option linter.all false
set_option maxRecDepth 100000
set_option maxHeartbeats 4000000
set_option exponentiation.threshold 100000
/-! # what is let -/
namespace L2
open PySem PySem.Spec PyProof.Rows
/-- a loop over range(n) -/
theorem for_r0 {n : Nat} {g : TG} {tb : TS} {D : Ends} {σ : L2.St} {H : Hp} (Pv : Nat → L2.St → Hp → Prop) (h0 : Pv 0 σ H)
    (hs : ∀ i σ H, i < n → Pv i σ H → g (.int (i : Int)) σ H fun σ2 H2 => tb { D with nx := Pv (i + 1), ct := Pv (i + 1), bk := D.nx } σ2 H2) (hd : ∀ σ H, Pv n σ H → D.nx σ H) :
    ∃ W : Nat → Nat → L2.St → Hp → Prop, (∃ m, W 0 m σ H) ∧ ∀ i m σ H, W i m σ H →
      ((Itr 0 n).stop i H ∧ D.nx σ H) ∨ ((Itr 0 n).go i H ∧ ∃ N : L2.St → Hp → Prop, (∀ σ' H', N σ' H' → ∃ m', m' < m ∧ W (i + 1) m' σ' H') ∧ ∀ x H', (Itr 0 n).yld i H x H' → g x σ H' fun σ2 H2 => tb { D with nx := N, ct := N, bk := D.nx } σ2 H2) :=
  for_range (lo := 0) Pv h0 (fun i σ H hi p => by rw [Int.zero_add]; exact hs i σ H hi p) hd
theorem lc_r0 {n : Nat} {g : TG} {tt : TT} {te : TE} {vs : List Nat} {σ : L2.St} {H1 : Hp} {D : Addr} {Qd : Hp → Prop} (Pv : Nat → Hp → Prop) (h0 : Pv 0 (upd H1 D (.lst [])))
    (hs : ∀ i H, i < n → Pv i H → g (.int (i : Int)) (wipe σ vs) H fun σ2 H2 => wipe σ2 vs = wipe σ vs ∧ tt σ2 H2 fun b H3 =>
      if b = true then te σ2 H3 fun y H4 => ∃ acc, H4 D = some (.lst acc) ∧ acc.length < sizeLine ∧ Pv (i + 1) (upd H4 D (.lst (acc ++ [y]))) else Pv (i + 1) H3) (hd : ∀ H, Pv n H → Qd H) :
    ∃ W : Nat → Nat → Hp → Prop, (∃ m, W 0 m (upd H1 D (.lst []))) ∧ ∀ i m H, W i m H →
      ((Itr 0 n).stop i H ∧ Qd H) ∨ ((Itr 0 n).go i H ∧ ∃ Nx : Hp → Prop, (∀ H', Nx H' → ∃ m', m' < m ∧ W (i + 1) m' H') ∧ ∀ x H', (Itr 0 n).yld i H x H' → g x (wipe σ vs) H' fun σ2 H2 => wipe σ2 vs = wipe σ vs ∧ tt σ2 H2 fun b H3 =>
        if b = true then te σ2 H3 fun y H4 => ∃ acc, H4 D = some (.lst acc) ∧ acc.length < sizeLine ∧ Nx (upd H4 D (.lst (acc ++ [y]))) else Nx H3) :=
  lc_range (lo := 0) Pv h0 (fun i H hi p => by rw [Int.zero_add]; exact hs i H hi p) hd
end L2
namespace Bc
open PySem PySem.Spec PyProof.Rows L2
/-- spreads of these chances in a list -/
def SpreadsAt (K : PySem.W.Frag) (H : Hp) (v : V) (t : Nat) (ps : List Qd) : Prop := ∃ a vs, v = .ref a ∧ H a = some (.lst vs) ∧ Paired (fun v p => SpreadAt K H v t p) vs ps
theorem SpreadsAt.same {K : PySem.W.Frag} {H H' : Hp} {v : V} {t : Nat} {ps : List Qd} (h : SpreadsAt K H v t ps) (e : Same H H') : SpreadsAt K H' v t ps :=
  let ⟨a, vs, x, y, z⟩ := h; ⟨a, vs, x, e _ _ y, paired_imp (fun _ _ q => q.same e) z⟩
theorem paired_len {α β : Type} {F : α → β → Prop} {l : List α} {m : List β} (h : Paired F l m) : l.length = m.length := Paired.length h
theorem paired_at {α β : Type} {F : α → β → Prop} : ∀ {l : List α} {m : List β} {i : Nat} {y : β}, Paired F l m → m[i]? = some y → ∃ x, l[i]? = some x ∧ F x y
  | _, _, i, y, .nil, h => by simp at h
  | _, _, 0, y, .cons f _, h => by
    cases Option.some.inj (show some _ = some y from h)
    exact ⟨_, rfl, f⟩
  | _, _, i + 1, y, .cons _ t, h => paired_at (i := i) t h
theorem paired_at' {α β : Type} {F : α → β → Prop} : ∀ {l : List α} {m : List β} {i : Nat} {x : α}, Paired F l m → l[i]? = some x → ∃ y, m[i]? = some y ∧ F x y
  | _, _, i, y, .nil, h => by simp at h
  | _, _, 0, y, .cons f _, h => by
    cases Option.some.inj (show some _ = some y from h)
    exact ⟨_, rfl, f⟩
  | _, _, i + 1, y, .cons _ t, h => paired_at' (i := i) t h
/-- a heap but for one object -/
theorem same_del_upd {H : Hp} {f : Addr} {x : HO} : Same (del H f) (upd H f x) := fun b o h => by
  by_cases e : b = f
  · rw [e, del_same] at h
    cases h
  · rw [upd_ne e]
    rw [del_ne e] at h
    exact h
theorem same_del {H : Hp} {f : Addr} : Same (del H f) H := fun b o h => by
  by_cases e : b = f
  · rw [e, del_same] at h
    cases h
  · rw [del_ne e] at h
    exact h
theorem Same_del {H H' : Hp} {f : Addr} (e : Same H H') : Same (del H f) (del H' f) := fun b o h => by
  by_cases z : b = f
  · rw [z, del_same] at h
    cases h
  · rw [del_ne z] at h ⊢
    exact e b o h
theorem same_del_new {H H' : Hp} {f : Addr} (e : Same H H') (h : H f = none) : Same H (del H' f) := fun b o q => by
  rw [del_ne (ne_of_none q h)]
  exact e b o q
def refs (vs : List V) : Prop := ∀ x ∈ vs, ∃ a, x = V.ref a
theorem ints_ne_refs {ns : List Int} {vs : List V} (h : 0 < ns.length) (r : refs vs) : (HO.lst (ns.map V.int)) ≠ HO.lst vs := fun e => by
  cases ns with
  | nil => exact absurd h (by decide)
  | cons n r2 =>
    have e2 : (n :: r2).map V.int = vs := HO.lst.inj e
    obtain ⟨a, ea⟩ := r (V.int n) (by rw [← e2]; exact List.mem_cons_self)
    cases ea
/-- a spread stands beside a list of objects -/
theorem SpreadAt.off {K : PySem.W.Frag} {H : Hp} {v : V} {t : Nat} {p : Qd} {f : Addr} {vs : List V} (h : SpreadAt K H v t p) (hf : H f = some (.lst vs)) (r : refs vs) : SpreadAt K (del H f) v t p := by
  obtain ⟨a, dx, l, rfl, h1, h2⟩ := h
  refine ⟨a, dx, l, rfl, ?_, ?_⟩
  · rw [del_ne (ne_of h1 hf (by intro z; cases z))]
    exact h1
  · rw [del_ne (ne_of h2 hf (ints_ne_refs (by unfold terms; simp) r))]
    exact h2
theorem spread_ref {K : PySem.W.Frag} {H : Hp} {v : V} {t : Nat} {p : Qd} (h : SpreadAt K H v t p) : ∃ a, v = .ref a := let ⟨a, _, _, e, _⟩ := h; ⟨a, e⟩
theorem paired_refs {K : PySem.W.Frag} {H : Hp} {t : Nat} : ∀ {vs : List V} {ps : List Qd}, Paired (fun v p => SpreadAt K H v t p) vs ps → refs vs
  | _, _, .nil => fun x hx => by cases hx
  | _, _, .cons h r => fun x hx => by
    rcases List.mem_cons.mp hx with e | hx
    · rw [e]
      exact spread_ref h
    · exact paired_refs r x hx
theorem paired_app {α β : Type} {F : α → β → Prop} : ∀ {a c : List α} {b d : List β}, Paired F a b → Paired F c d → Paired F (a ++ c) (b ++ d)
  | _, _, _, _, .nil, h => h
  | _, _, _, _, .cons x r, h => .cons x (paired_app r h)
def sp_ends_of (K : PySem.W.Frag) : Sp := mkSp 2 fun vs H Q _ => ∃ (pl : Vbkdai.Plan) (c : Vbkdai.Chan) (v1 v2 : V), vs = [v1, v2] ∧ PlanAt K H v1 pl ∧ ChanAt K H v2 c ∧ ChOk c ∧ pl.parts ≤ 12 ∧ Ret H Q fun v H' => SpreadsAt K H' v c.trials (endsQ pl.parts c)
def sp_likeliest (K : PySem.W.Frag) : Sp := mkSp 2 fun vs H Q _ => ∃ (v : V) (t n : Nat) (ps : List Qd), vs = [v, .int n] ∧ SpreadsAt K H v t ps ∧ (∀ p ∈ ps, Pr p) ∧ t ≤ 40 ∧ n ≤ t ∧ Ret H Q fun v H' => FrAt K H' v (prQ (bestN t ps n))
def sp_ratio_of (K : PySem.W.Frag) : Sp := mkSp 3 fun vs H Q _ => ∃ (v w : V) (t n : Nat) (p : Qd) (m : Nat × Nat), vs = [v, w, .int n] ∧ SpreadAt K H v t p ∧ FrAt K H w (prQ m) ∧ Pr p ∧ SmP 3000 m ∧ t ≤ 40 ∧ n ≤ t ∧ Ret H Q fun v H' => FrAt K H' v (prQ (ratioN t p m n))
def sp_is_greater (K : PySem.W.Frag) : Sp := mkSp 2 fun vs H Q _ => ∃ (v w : V) (x y : Nat × Nat), vs = [v, w] ∧ FrAt K H v (prQ x) ∧ FrAt K H w (prQ y) ∧ SmP 6000 x ∧ SmP 6000 y ∧ Q (.bl (decide (x.1 * y.2 > y.1 * x.2))) H
theorem terms_at {t n : Nat} {p : Qd} (h : n ≤ t) : ((terms t p).map V.int)[n]? = some (V.int ((Vbkdai.term t p n : Nat) : Int)) := at_range _ (by omega)
section
variable {P : Program} {w : World} {K : PySem.W.Frag} {mg : Str → Option Value} {base : Heap}
theorem sc_ends_of : FnScope N_ends_of ["plan", "channel"] (defScope s_ends_of) := ⟨rfl, rfl, rfl, by decide +kernel, rfl, by decide +kernel, by decide +kernel⟩
theorem ok_ends_of (T : TX K mg) : FOk P w K mg base CX0 7 (He.ga K "ends_of") ["plan", "channel"] (sp_ends_of K) := by
  obtain ⟨fd, F⟩ := T.f_ends_of
  obtain ⟨fd0, G0, b0⟩ := ok_spread_at (P := P) (w := w) (base := base) T
  refine ⟨fd, F.ok sc_ends_of (fun _ _ _ _ h => h.1) (fun cdv A outer s H vs Q E hr h => ?_), F.binds fun _ _ _ _ _ _ us hl => match us, hl with | [_, _], _ => rfl⟩
  have hr0 := hr.mono (by decide : 6 ≤ 6)
  refine ⟨_, PSs.nox (pss_cons (ps_set (i := 2) sc_ends_of.nd rfl (.inl rfl) (pe_lst pa_nil))
    (pss_cons (ps_for PassesOwn.never rfl (pi_range1 (by rfl) T.n_range (pa_cons (pe_fld (pv 0) rfl) pa_nil)) (pg_name (i := 3) sc_ends_of.nd rfl (.inl rfl)) (pss_one (ps_expr (pe_bm PySem.F.plainAttrs_list PySem.F.slot_list_extend PySem.F.type_list_extend mt_extend (pv 2) (pa_cons (pe_lst (pa_cons (pe_call G0 hr0 (by rfl) T.g_spread_at T.k_spread_at b0 .nil pass0 (pa_cons (pv 0) (pa_cons (pv 1) (pa_cons (pv 3) (pa_cons (C8.pe_gc (by rfl) T.c_BEGINNING) pa_nil))))) (pa_cons (pe_call G0 hr0 (by rfl) T.g_spread_at T.k_spread_at b0 .nil pass0 (pa_cons (pv 0) (pa_cons (pv 1) (pa_cons (pv 3) (pa_cons (C8.pe_gc (by rfl) T.c_ENDING) pa_nil))))) pa_nil))) pa_nil)))))
    (pss_one (ps_ret (pv 2))))), ?_⟩
  obtain ⟨_, h⟩ := h
  obtain ⟨pl, c, v1, v2, rfl, hp, hc, ok, g12, q⟩ := h
  obtain ⟨a, dx, l, ws, rfl, ha, _⟩ := id hp
  refine ⟨by show 0 ≤ sizeLine; decide, fun f nf => ?_⟩
  refine ⟨_, rfl, a, _, dx, _, _, rfl, (Same.new nf) _ _ ha, T.cl_Plan, T.na_Plan_parts, L_Plan_parts, (pl.parts : Int), rfl, by omega, by omega, for_r0 (n := pl.parts)
    (fun i σ H' => ∃ v3, σ = [some (.ref a), some v2, some (.ref f), v3] ∧ Same H H' ∧ ∃ vs, H' f = some (.lst vs) ∧ Paired (fun v p => SpreadAt K (del H' f) v c.trials p) vs ((List.range i).flatMap fun k => [Vbkdai.chanceAt pl.parts c k 0, Vbkdai.chanceAt pl.parts c k 1]))
    ⟨none, rfl, Same.new nf, [], upd_same, .nil⟩ ?_ ?_⟩
  · rintro i σ H' hi ⟨v3, rfl, e, vs, hf, hv⟩
    refine ⟨_, rfl, Or.inl ⟨rfl, _, SqL.of hf⟩, ?_⟩
    refine ⟨_, rfl, _, rfl, _, rfl, rfl, pl, c, _, _, i, 0, rfl, hp.same e, hc.same e, ok, g12, hi, by decide, fun u1 H1 e1 h1 => ?_⟩
    refine ⟨_, rfl, _, rfl, _, rfl, rfl, pl, c, _, _, i, 1, rfl, hp.same (e.trans e1), hc.same (e.trans e1), ok, g12, hi, by decide, fun u2 H2 e2 h2 => ?_⟩
    refine ⟨by show 2 ≤ sizeLine; decide, fun l2 nl => ?_⟩
    have e12 := e1.trans e2
    have e3 : Same H' (upd H2 l2 (.lst [u1, u2])) := e12.trans (Same.new nl)
    have hl := paired_len hv
    rw [endsQ_len] at hl
    have rv := paired_refs hv
    have k3 : Same H2 (upd H2 l2 (.lst [u1, u2])) := Same.new nl
    refine ⟨f, l2, _, _, rfl, rfl, e3 _ _ hf, upd_same, by rw [hl]; exact Nat.le_of_lt (small1000 (show 2 * i + 2 ≤ 1000 by omega)), ?_⟩
    refine ⟨some (.int (i : Int)), rfl, (e.trans e3).mut nf, vs ++ [u1, u2], upd_same, ?_⟩
    rw [endsQ_more]
    have em : del (upd (upd H2 l2 (.lst [u1, u2])) f (.lst (vs ++ [u1, u2]))) f = del (upd H2 l2 (.lst [u1, u2])) f := by
      funext b
      by_cases z : b = f
      · rw [z, del_same, del_same]
      · rw [del_ne z, del_ne z, upd_ne z]
    rw [em]
    refine paired_app (paired_imp (fun v p z => z.same (Same_del e3)) hv) (.cons ?_ (.cons ?_ .nil))
    · exact (h1.off (e1 _ _ hf) rv).same (Same_del (e2.trans k3))
    · exact (h2.off (e12 _ _ hf) rv).same (Same_del k3)
  · rintro σ H' ⟨v3, rfl, e, vs, hf, hv⟩
    exact ⟨_, rfl, q _ _ e ⟨f, vs, rfl, hf, paired_imp (fun v p z => z.same same_del) hv⟩⟩
theorem sp_total {t : Nat} {p : Qd} (h : Pr p) (ht : t ≤ 40) : (((Vbkdai.total t p : Nat) : Int)).natAbs < 2 ^ 3000 := by
  rw [Int.natAbs_natCast]
  exact Nat.lt_trans (total_small h ht) (Nat.pow_lt_pow_right (by decide) (by decide))
theorem sp_term {t n : Nat} {p : Qd} (h : Pr p) (ht : t ≤ 40) (hn : n ≤ t) : (((Vbkdai.term t p n : Nat) : Int)).natAbs < 2 ^ 3000 := by
  rw [Int.natAbs_natCast]
  exact term_small h ht hn
theorem n_abs {n k : Nat} (h : n < 2 ^ k) : ((n : Int)).natAbs < 2 ^ k := by
  rw [Int.natAbs_natCast]
  exact h
theorem sc_likeliest : FnScope N_likeliest ["spreads", "n"] (defScope s_likeliest) := ⟨rfl, rfl, rfl, by decide +kernel, rfl, by decide +kernel, by decide +kernel⟩
theorem ok_likeliest (T : TX K mg) : FOk P w K mg base CX0 1 (He.ga K "likeliest") ["spreads", "n"] (sp_likeliest K) := by
  obtain ⟨fd, F⟩ := T.f_likeliest
  refine ⟨fd, F.ok sc_likeliest (fun _ _ _ _ h => h.1) (fun cdv A outer s H vs Q E hr h => ?_), F.binds fun _ _ _ _ _ _ us hl => match us, hl with | [_, _], _ => rfl⟩
  refine ⟨_, PSs.nox (pss_cons (ps_set (i := 2) sc_likeliest.nd rfl (.inl rfl) (pe_tup (pa_cons pe_int (pa_cons pe_int pa_nil))))
    (pss_cons (ps_for PassesOwn.never rfl (pi_list (pv 0)) (pg_name (i := 3) sc_likeliest.nd rfl (.inl rfl)) (pss_one (ps_if (pt_cmpR op_gt (pe_op op_mulW (pe_ix ix_list (pe_fld (pv 3) rfl) (pv 1) (fun _ _ => rfl)) (pe_ix ix_tup (pv 2) pe_int (fun _ _ => rfl))) (pe_op op_mulW (pe_ix ix_tup (pv 2) pe_int (fun _ _ => rfl)) (pe_fld (pv 3) rfl)) (by rfl)) (pss_one (ps_set (i := 2) sc_likeliest.nd rfl (.inl rfl) (pe_tup (pa_cons (pe_ix ix_list (pe_fld (pv 3) rfl) (pv 1) (fun _ _ => rfl)) (pa_cons (pe_fld (pv 3) rfl) pa_nil))))) pss_nil)))
    (pss_one (ps_ret (pv 2))))), ?_⟩
  obtain ⟨_, h⟩ := h
  obtain ⟨v, t, n, ps, rfl, hs, hp, ht, hn, q⟩ := h
  obtain ⟨sa, vs, rfl, hl, hv⟩ := id hs
  refine ⟨by show 2 ≤ sizeLine; decide, fun f nf => ?_⟩
  refine ⟨_, rfl, sa, rfl, ⟨_, SqL.of ((Same.new nf) _ _ hl)⟩, for_list (K := K) (a := sa) (xs := vs)
    (fun i σ H' => ∃ u v3, σ = [some (.ref sa), some (.int n), some u, v3] ∧ Same H H' ∧ FrAt K H' u (prQ ((ps.take i).foldl (best1 t n) (0, 1))))
    ⟨.ref f, none, rfl, Same.new nf, f, rfl, SqT.of upd_same⟩ (fun i σ H' _ ⟨_, _, _, e, _⟩ => SqL.of (e _ _ hl)) ?_ ?_⟩
  · rintro i x σ H' hx ⟨u, v3, rfl, e, fa, rfl, hf⟩
    obtain ⟨p, hpi, hxp⟩ := paired_at' hv hx
    have prp := hp p (List.mem_of_getElem? hpi)
    have sm := bestN_sm ht hn (ps.take i) (0, 1) (fun y hy => hp y (List.mem_of_mem_take hy)) (sm01 (by decide))
    have step := foldl_take (f := best1 t n) (b := (0, 1)) hpi
    generalize hm : (ps.take i).foldl (best1 t n) (0, 1) = m at hf sm step
    obtain ⟨xa, dx, l, rfl, h1, h2⟩ := hxp.same e
    refine ⟨_, rfl, xa, _, dx, _, _, rfl, h1, T.cl_Spread, T.na_Spread_shares, L_Spread_shares, _, rfl, l, _, _, _, rfl, rfl, SqL.of h2, atI_nat (terms_at hn), ?_⟩
    refine ⟨_, rfl, fa, _, _, _, rfl, rfl, hf, at1, _, _, rfl, rfl, wide_mul (sp_term prp ht hn) (n_abs sm.2.2) (by decide) (by decide) (by decide), ?_⟩
    refine ⟨_, rfl, fa, _, _, _, rfl, rfl, hf, at0, _, rfl, xa, _, dx, _, _, rfl, h1, T.cl_Spread, T.na_Spread_whole, L_Spread_whole, _, _, rfl, rfl, wide_mul (n_abs sm.1) (sp_total prp ht) (by decide) (by decide) (by decide), ?_⟩
    refine ⟨_, _, rfl, rfl, _, rfl, ?_⟩
    refine ite2 (fun cc => ?_) (fun cc => ?_)
    · have c2 : Vbkdai.term t p n * m.2 > m.1 * Vbkdai.total t p := by
        have : ((m.1 : Nat) : Int) * ((Vbkdai.total t p : Nat) : Int) < ((Vbkdai.term t p n : Nat) : Int) * ((m.2 : Nat) : Int) := of_decide_eq_true cc
        exact_mod_cast this
      refine ⟨_, rfl, xa, _, dx, _, _, rfl, h1, T.cl_Spread, T.na_Spread_shares, L_Spread_shares, _, rfl, l, _, _, _, rfl, rfl, SqL.of h2, atI_nat (terms_at hn), ?_⟩
      refine ⟨_, rfl, xa, _, dx, _, _, rfl, h1, T.cl_Spread, T.na_Spread_whole, L_Spread_whole, by show 2 ≤ sizeLine; decide, fun g ng => ?_⟩
      refine ⟨.ref g, _, rfl, e.trans (Same.new ng), g, rfl, SqT.of ?_⟩
      rw [upd_same, step]
      unfold best1
      rw [if_pos c2]
      rfl
    · have c2 : ¬ Vbkdai.term t p n * m.2 > m.1 * Vbkdai.total t p := fun z => cc (decide_eq_true (by
        show ((m.1 : Nat) : Int) * ((Vbkdai.total t p : Nat) : Int) < ((Vbkdai.term t p n : Nat) : Int) * ((m.2 : Nat) : Int)
        exact_mod_cast z))
      refine ⟨_, _, rfl, e, ?_⟩
      rw [step]
      unfold best1
      rw [if_neg c2]
      exact ⟨fa, rfl, hf⟩
  · rintro σ H' ⟨u, v3, rfl, e, hf⟩
    rw [paired_len hv, List.take_length] at hf
    exact ⟨_, rfl, q _ _ e hf⟩
theorem sc_ratio_of : FnScope N_ratio_of ["spread", "top", "n"] (defScope s_ratio_of) := ⟨rfl, rfl, rfl, by decide +kernel, rfl, by decide +kernel, by decide +kernel⟩
theorem ok_ratio_of (T : TX K mg) : FOk P w K mg base CX0 1 (He.ga K "ratio_of") ["spread", "top", "n"] (sp_ratio_of K) := by
  obtain ⟨fd, F⟩ := T.f_ratio_of
  refine ⟨fd, F.ok sc_ratio_of (fun _ _ _ _ h => h.1) (fun cdv A outer s H vs Q E hr h => ?_), F.binds fun _ _ _ _ _ _ us hl => match us, hl with | [_, _, _], _ => rfl⟩
  refine ⟨_, PSs.nox (pss_cons (ps_if (pt_cmpR op_eq (pe_ix ix_tup (pv 1) pe_int (fun _ _ => rfl)) pe_int (by rfl)) (pss_one (ps_ret (C8.pe_gc (by rfl) T.c_NOUGHT_RATIO))) pss_nil)
    (pss_one (ps_ret (pe_tup (pa_cons (pe_op op_mulW (pe_ix ix_list (pe_fld (pv 0) rfl) (pv 2) (fun _ _ => rfl)) (pe_ix ix_tup (pv 1) pe_int (fun _ _ => rfl))) (pa_cons (pe_ix ix_tup (pv 1) pe_int (fun _ _ => rfl)) pa_nil)))))), ?_⟩
  obtain ⟨_, h⟩ := h
  obtain ⟨v, w, t, n, p, m, rfl, ⟨sa, dx, l, rfl, h1, h2⟩, ⟨fa, rfl, hf⟩, pr, sm, ht, hn, q⟩ := h
  refine ⟨_, rfl, fa, _, _, _, rfl, rfl, hf, at0, rfl, _, rfl, ?_⟩
  refine ite2 (fun cc => ?_) (fun cc => ?_)
  · have c2 : m.1 = 0 := by
      have := of_decide_eq_true cc
      have z : ((m.1 : Nat) : Int) = 0 := V.int.inj this
      exact_mod_cast z
    refine q _ _ (Same.refl H) ⟨_, rfl, ?_⟩
    unfold ratioN
    rw [if_pos c2]
    exact T.t_NOUGHT_RATIO H
  · have c2 : ¬ m.1 = 0 := fun z => cc (decide_eq_true (by rw [show (prQ m).n = ((m.1 : Nat) : Int) from rfl, z]; rfl))
    refine ⟨_, rfl, sa, _, dx, _, _, rfl, h1, T.cl_Spread, T.na_Spread_shares, L_Spread_shares, _, rfl, l, _, _, _, rfl, rfl, SqL.of h2, atI_nat (terms_at hn), ?_⟩
    refine ⟨_, rfl, fa, _, _, _, rfl, rfl, hf, at1, _, _, rfl, rfl, wide_mul (sp_term pr ht hn) (n_abs sm.2.2) (by decide) (by decide) (by decide), ?_⟩
    refine ⟨_, rfl, fa, _, _, _, rfl, rfl, hf, at0, by show 2 ≤ sizeLine; decide, fun g ng => ?_⟩
    refine q _ _ (Same.new ng) ⟨g, rfl, SqT.of ?_⟩
    rw [upd_same]
    unfold ratioN
    rw [if_neg c2]
    show some (HO.tup [V.int (((Vbkdai.term t p n : Nat) : Int) * ((m.2 : Nat) : Int)), V.int ((m.1 : Nat) : Int)]) = some (HO.tup [V.int ((Vbkdai.term t p n * m.2 : Nat) : Int), V.int ((m.1 : Nat) : Int)])
    rw [Int.natCast_mul]
theorem sc_is_greater : FnScope N_is_greater ["one", "other"] (defScope s_is_greater) := ⟨rfl, rfl, rfl, by decide +kernel, rfl, by decide +kernel, by decide +kernel⟩
theorem ok_is_greater (T : TX K mg) : FOk P w K mg base CX0 1 (He.ga K "is_greater") ["one", "other"] (sp_is_greater K) := by
  obtain ⟨fd, F⟩ := T.f_is_greater
  refine ⟨fd, F.ok sc_is_greater (fun _ _ _ _ h => h.1) (fun cdv A outer s H vs Q E hr h => ?_), F.binds fun _ _ _ _ _ _ us hl => match us, hl with | [_, _], _ => rfl⟩
  refine ⟨_, PSs.nox (pss_one (ps_ret (pe_cmpR op_gt (pe_op op_mulW (pe_ix ix_tup (pv 0) pe_int (fun _ _ => rfl)) (pe_ix ix_tup (pv 1) pe_int (fun _ _ => rfl))) (pe_op op_mulW (pe_ix ix_tup (pv 1) pe_int (fun _ _ => rfl)) (pe_ix ix_tup (pv 0) pe_int (fun _ _ => rfl))) (by rfl)))), ?_⟩
  obtain ⟨_, h⟩ := h
  obtain ⟨v, w, x, y, rfl, ⟨a, rfl, ha⟩, ⟨b, rfl, hb⟩, sx, sy, q⟩ := h
  refine ⟨_, rfl, a, _, _, _, rfl, rfl, ha, at0, _, rfl, b, _, _, _, rfl, rfl, hb, at1, _, _, rfl, rfl, wide_mul (n_abs sx.1) (n_abs sy.2.2) (by decide) (by decide) (by decide), ?_⟩
  refine ⟨_, rfl, b, _, _, _, rfl, rfl, hb, at0, _, rfl, a, _, _, _, rfl, rfl, ha, at1, _, _, rfl, rfl, wide_mul (n_abs sy.1) (n_abs sx.2.2) (by decide) (by decide) (by decide), ?_⟩
  refine ⟨_, _, rfl, rfl, ?_⟩
  have e : decide (((y.1 : Nat) : Int) * ((x.2 : Nat) : Int) < ((x.1 : Nat) : Int) * ((y.2 : Nat) : Int)) = decide (x.1 * y.2 > y.1 * x.2) :=
    decide_eq_decide.mpr ⟨fun h => by exact_mod_cast h, fun h => by exact_mod_cast h⟩
  rw [← e] at q
  exact q
end
end Bc


-- end of a part
set_option Elab.async false
set_option linter.all false
set_option maxRecDepth 100000
set_option maxHeartbeats 4000000
set_option exponentiation.threshold 100000
namespace Bc
open PySem PySem.Spec PyProof.Rows L2
def sp_by_ratio (K : PySem.W.Frag) : Sp := mkSp 2 fun vs H Q _ => ∃ (v w : V) (g : Nat) (c : Vbkdai.Chan) (p : Qd), vs = [v, w] ∧ SpreadAt K H v c.trials p ∧ SpreadsAt K H w c.trials (endsQ g c) ∧ Pr p ∧ (∀ p ∈ endsQ g c, Pr p) ∧ c.trials ≤ 40 ∧
  Ret H Q fun v H' => InAt H' v (nI (Vbkdai.byWorth ((List.range (c.trials + 1)).map fun n => (n, Vbkdai.ratioOf c.trials p (Vbkdai.bestFor g c n) n))))
def sp_by_likelihood (K : PySem.W.Frag) : Sp := mkSp 1 fun vs H Q _ => ∃ (v : V) (t : Nat) (p : Qd), vs = [v] ∧ SpreadAt K H v t p ∧ Pr p ∧ t ≤ 40 ∧ Ret H Q fun v H' => InAt H' v (nI (Vbkdai.byChance t p))
section
variable {P : Program} {w : World} {K : PySem.W.Frag} {mg : Str → Option Value} {base : Heap}
/-- a fraction stands beside a list -/
theorem FrAt.off {K : PySem.W.Frag} {H : Hp} {v : V} {q : Qd} {f : Addr} {xs : List V} (h : FrAt K H v q) (hf : H f = some (.lst xs)) : FrAt K (del H f) v q := by
  obtain ⟨a, rfl, h⟩ := h
  refine ⟨a, rfl, ?_⟩
  rcases h with (h | ⟨o, h⟩) | h
  · exact .inl (.inl (by rw [del_ne (ne_of h hf (by intro z; cases z))]; exact h))
  · exact .inl (.inr ⟨o, by rw [del_ne (ne_of h hf (by intro z; cases z))]; exact h⟩)
  · exact .inr h
theorem del_upd {H : Hp} {f : Addr} {x : HO} : del (upd H f x) f = del H f := by
  funext b
  by_cases z : b = f
  · rw [z, del_same, del_same]
  · rw [del_ne z, del_ne z, upd_ne z]
theorem nI_at {l : List Nat} {i n : Nat} (h : l[i]? = some n) : ((nI l).map V.int)[i]? = some (V.int (n : Int)) := by
  unfold nI
  rw [List.map_map, List.getElem?_map, h]
  rfl
theorem nI_len (l : List Nat) : ((nI l).map V.int).length = l.length := by unfold nI; rw [List.length_map, List.length_map]
theorem terms_len (t : Nat) (p : Qd) : ((terms t p).map V.int).length = t + 1 := by unfold terms; rw [List.length_map, List.length_map, List.length_range]
theorem paired_map_len {α β γ : Type} {F : α → β → Prop} {f : γ → β} {l : List α} {m : List γ} (h : Paired F l (m.map f)) : l.length = m.length := by rw [paired_len h, List.length_map]
theorem sc_by_ratio : FnScope N_by_ratio ["spread", "spreads"] (defScope s_by_ratio) := ⟨rfl, rfl, rfl, by decide +kernel, rfl, by decide +kernel, by decide +kernel⟩
theorem ok_by_ratio (T : TX K mg) : FOk P w K mg base CX0 2 (He.ga K "by_ratio") ["spread", "spreads"] (sp_by_ratio K) := by
  obtain ⟨fd, F⟩ := T.f_by_ratio
  obtain ⟨fd0, G0, b0⟩ := ok_likeliest (P := P) (w := w) (base := base) T
  obtain ⟨fd1, G1, b1⟩ := ok_ratio_of (P := P) (w := w) (base := base) T
  obtain ⟨fd2, G2, b2⟩ := ok_is_greater (P := P) (w := w) (base := base) T
  refine ⟨fd, F.ok sc_by_ratio (fun _ _ _ _ h => h.1) (fun cdv A outer s H vs Q E hr h => ?_), F.binds fun _ _ _ _ _ _ us hl => match us, hl with | [_, _], _ => rfl⟩
  have hr0 := hr.mono (by decide : 1 ≤ 1)
  have hr1 := hr.mono (by decide : 1 ≤ 1)
  have hr2 := hr.mono (by decide : 1 ≤ 1)
  refine ⟨_, PSs.nox (pss_cons (ps_setLc (g := (gName 2)) (i := 3) (own := [("n", 2)]) (by rfl) sc_by_ratio.nd rfl rfl (sw_true rfl rfl rfl (by decide +kernel)) (pi_range1 (by rfl) T.n_range (pa_cons (pe_callB call_len_seq (by rfl) T.n_len (by decide +kernel) (pa_cons (pe_fld (pv 0) rfl) pa_nil)) pa_nil)) (blkOk_by (own := [("n", 2)]) (N := N_by_ratio) (sc := defScope s_by_ratio) (by decide +kernel)) (fun _ _ _ _ _ => by exact (pg_name (i := 2) sc_by_ratio.nd rfl (.inl rfl))) (fun _ _ _ _ _ => by exact pts_nil) (fun _ _ _ _ _ => by exact (pe_call G1 hr1 (by rfl) T.g_ratio_of T.k_ratio_of b1 .nil pass0 (pa_cons (pv 0) (pa_cons (pe_call G0 hr0 (by rfl) T.g_likeliest T.k_likeliest b0 .nil pass0 (pa_cons (pv 1) (pa_cons (pv 2) pa_nil))) (pa_cons (pv 2) pa_nil))))))
    (pss_cons (ps_set (i := 4) sc_by_ratio.nd rfl (.inl rfl) (pe_lst pa_nil))
    (pss_cons (ps_for PassesOwn.never rfl (pi_range1 (by rfl) T.n_range (pa_cons (pe_callB call_len_seq (by rfl) T.n_len (by decide +kernel) (pa_cons (pv 3) pa_nil)) pa_nil)) (pg_name (i := 2) sc_by_ratio.nd rfl (.inl rfl)) (pss_cons (ps_set (i := 5) sc_by_ratio.nd rfl (.inl rfl) (pe_callB call_len_seq (by rfl) T.n_len (by decide +kernel) (pa_cons (pv 4) pa_nil)))
    (pss_cons (ps_while PassesOwn.never (PW.pt (pw_and (pt_cmpR op_gt (pv 5) pe_int (by rfl)) (pw_and1 (pt_val (pe_call G2 hr2 (by rfl) T.g_is_greater T.k_is_greater b2 .nil pass0 (pa_cons (pe_ix ix_list (pv 3) (pv 2) (fun _ _ => rfl)) (pa_cons (pe_ix ix_list (pv 3) (pe_ix ix_list (pv 4) (pe_op op_sub (pv 5) pe_int) (fun _ _ => rfl)) (fun _ _ => rfl)) pa_nil))))))) (pss_one (ps_set (i := 5) sc_by_ratio.nd rfl (.inl rfl) (pe_op op_sub (pv 5) pe_int))))
    (pss_one (ps_expr (pe_bm PySem.F.plainAttrs_list PySem.F.slot_list_insert PySem.F.type_list_insert mt_insert (pv 4) (pa_cons (pv 5) (pa_cons (pv 2) pa_nil))))))))
    (pss_one (ps_ret (pv 4)))))), ?_⟩
  obtain ⟨_, h⟩ := h
  obtain ⟨v, w, g, c, p, rfl, hs, hS, pr, hE, ht, q⟩ := h
  obtain ⟨sa, dx, l, rfl, h1, h2⟩ := id hs
  have rp : ∀ n, n ≤ c.trials → SmP 6000 (ratF g c p n) := fun n hn => ratioN_sm (bestN_sm ht hn _ _ hE (sm01 (by decide))) pr ht hn
  -- ratios
  refine ⟨_, rfl, sa, _, dx, _, _, rfl, h1, T.cl_Spread, T.na_Spread_shares, L_Spread_shares, l, _, rfl, .inl (SqL.of h2), ((c.trials + 1 : Nat) : Int), by rw [terms_len], by omega, by omega, fun D nD => lc_r0 (n := c.trials + 1)
    (fun i H' => Same H H' ∧ ∃ vs, H' D = some (.lst vs) ∧ Paired (FrAt K (del H' D)) vs ((List.range i).map fun n => prQ (ratF g c p n))) ⟨Same.new nD, [], upd_same, .nil⟩ ?_ ?_⟩
  · rintro i H' hi ⟨e, vs, hD, hv⟩
    refine ⟨rfl, ?_⟩
    refine ⟨_, rfl, _, rfl, _, rfl, rfl, w, c.trials, i, endsQ g c, rfl, hS.same e, hE, ht, by omega, fun u1 H1 e1 f1 => ?_⟩
    refine ⟨_, rfl, rfl, _, u1, c.trials, i, p, bestN c.trials (endsQ g c) i, rfl, hs.same (e.trans e1), f1, pr, bestN_sm ht (by omega) _ _ hE (sm01 (by decide)), ht, by omega, fun u2 H2 e2 f2 => ?_⟩
    have e12 := e1.trans e2
    refine ⟨vs, e12 _ _ hD, by rw [paired_map_len hv, List.length_range]; exact small1000 (by omega), (e.trans e12).mut nD, vs ++ [u2], upd_same, ?_⟩
    rw [del_upd, List.range_succ, List.map_append]
    exact paired_app (paired_imp (fun v q z => z.same (Same_del e12)) hv) (.cons (f2.off (e12 _ _ hD)) .nil)
  rintro Hc ⟨ec, vs, hD, hv⟩
  have hv : Paired (FrAt K Hc) vs ((List.range (c.trials + 1)).map fun n => prQ (ratF g c p n)) := paired_imp (fun v q z => z.same same_del) hv
  have lv : vs.length = c.trials + 1 := by rw [paired_map_len hv, List.length_range]
  have ra : ∀ n, n ≤ c.trials → ∃ u, vs[n]? = some u ∧ FrAt K Hc u (prQ (ratF g c p n)) := fun n hn => paired_at hv (by rw [List.getElem?_map, List.getElem?_range (by omega)]; rfl)
  -- found
  refine ⟨by show 0 ≤ sizeLine; decide, fun f nf => ?_⟩
  have Df : D ≠ f := ne_of_none hD nf
  refine ⟨_, rfl, D, _, rfl, .inl (SqL.of ((Same.new nf) _ _ hD)), ((c.trials + 1 : Nat) : Int), by rw [lv], by omega, by omega, for_r0 (n := c.trials + 1)
    (fun i σ H' => ∃ v2 v5, σ = [some (.ref sa), some w, v2, some (.ref D), some (.ref f), v5] ∧ Same Hc H' ∧ H' f = some (.lst ((nI (allF (gtR (ratF g c p)) i)).map V.int))) ⟨none, none, rfl, Same.new nf, upd_same⟩ ?_ ?_⟩
  · rintro i σ H' hi ⟨v2, v5, rfl, e, hf⟩
    have li : (allF (gtR (ratF g c p)) i).length = i := allF_len i
    have W := gtR_worth g c p
    refine ⟨_, rfl, f, _, rfl, .inl (SqL.of hf), ?_⟩
    rw [nI_len, li]
    have fin : ∀ k, k ≤ i → (∀ j y, k ≤ j → (allF (gtR (ratF g c p)) i)[j]? = some y → gtR (ratF g c p) i y = true) → (∀ y, 0 < k → (allF (gtR (ratF g c p)) i)[k - 1]? = some y → gtR (ratF g c p) i y = false) →
        HO.lst (((nI (allF (gtR (ratF g c p)) i)).map V.int).take ((k : Int)).toNat ++ [V.int (i : Int)] ++ ((nI (allF (gtR (ratF g c p)) i)).map V.int).drop ((k : Int)).toNat) = HO.lst ((nI (allF (gtR (ratF g c p)) (i + 1))).map V.int) := fun k hk a1 a2 => by
      rw [allF_more, ← insF_at W (allF_sorted W i) (by rw [li]; exact hk) a1 a2, Int.toNat_natCast]
      unfold nI
      rw [List.map_append, List.map_append, List.map_append, List.map_append, List.map_take, List.map_drop, List.map_take, List.map_drop]
      rfl
    refine ⟨fun m σ' H2 => m ≤ i ∧ σ' = [some (.ref sa), some w, some (.int (i : Int)), some (.ref D), some (.ref f), some (.int (m : Int))] ∧ H2 = H' ∧ (∀ j y, m ≤ j → (allF (gtR (ratF g c p)) i)[j]? = some y → gtR (ratF g c p) i y = true),
      ⟨i, Nat.le_refl _, rfl, rfl, fun j y hj hy => absurd (List.getElem?_eq_some_iff.mp hy).1 (by omega)⟩, ?_⟩
    rintro m σ' H2 ⟨hm, rfl, rfl, am⟩
    have ins : (∀ y, 0 < m → (allF (gtR (ratF g c p)) i)[m - 1]? = some y → gtR (ratF g c p) i y = false) → _ := fun a2 => fin m hm am a2
    refine ⟨_, rfl, _, _, rfl, rfl, _, rfl, ?_⟩
    refine ite2 (fun c0 => ?_) (fun c0 => ?_)
    · have m0 : 0 < m := by
        have : (0 : Int) < (m : Int) := of_decide_eq_true c0
        omega
      obtain ⟨y, hy⟩ : ∃ y, (allF (gtR (ratF g c p)) i)[m - 1]? = some y := ⟨_, List.getElem?_eq_getElem (by omega)⟩
      have yi : y < i := (allF_mem i).mp (List.mem_of_getElem? hy)
      obtain ⟨u1, hu1, f1⟩ := ra i (by omega)
      obtain ⟨u2, hu2, f2⟩ := ra y (by omega)
      refine ⟨_, rfl, _, rfl, D, _, _, _, rfl, rfl, SqL.of (e _ _ hD), atI_nat hu1, ?_⟩
      refine ⟨_, rfl, _, rfl, _, rfl, _, _, rfl, rfl, f, _, _, _, rfl, rfl, SqL.of hf, at_of (show (m : Int) - 1 = ((m - 1 : Nat) : Int) by omega) (nI_at hy), D, _, _, _, rfl, rfl, SqL.of (e _ _ hD), atI_nat hu2, ?_⟩
      refine ⟨rfl, u1, u2, ratF g c p i, ratF g c p y, rfl, f1.same e, f2.same e, rp i (by omega), rp y (by omega), _, rfl, ?_⟩
      refine ite2 (fun cg => ?_) (fun cg => ?_)
      · refine ⟨fun σ2 H3 => σ2 = [some (.ref sa), some w, some (.int (i : Int)), some (.ref D), some (.ref f), some (.int ((m - 1 : Nat) : Int))] ∧ H3 = H2, fun σ2 H3 ⟨e1, e2⟩ => ⟨m - 1, by omega, by omega, e1, e2, fun j z hj hz => ?_⟩, ?_⟩
        · by_cases ej : j = m - 1
          · subst ej
            rw [hy] at hz
            cases hz
            exact cg
          · exact am j z (by omega) hz
        · refine ⟨_, rfl, _, _, rfl, rfl, ?_, rfl⟩
          show [_, _, _, _, _, some (V.int ((m : Int) - 1))] = _
          rw [show (m : Int) - 1 = ((m - 1 : Nat) : Int) by omega]
      · refine ⟨_, rfl, Or.inl ⟨rfl, _, SqL.of hf⟩, _, rfl, _, rfl, f, _, (m : Int), _, rfl, rfl, hf, by rw [nI_len, li]; exact small1000 (by omega), by omega, by omega, ?_⟩
        refine ⟨_, _, rfl, e.mut nf, ?_⟩
        rw [upd_same]
        exact congrArg some (ins fun z _ hz => by
          rw [hy] at hz
          cases hz
          cases eg : gtR (ratF g c p) i y with
          | false => rfl
          | true => exact (cg eg).elim)
    · have m0 : m = 0 := by
        have : ¬ (0 : Int) < (m : Int) := fun z => c0 (decide_eq_true z)
        omega
      refine iteF ?_
      refine ⟨_, rfl, Or.inl ⟨rfl, _, SqL.of hf⟩, _, rfl, _, rfl, f, _, (m : Int), _, rfl, rfl, hf, by rw [nI_len, li]; exact small1000 (by omega), by omega, by omega, ?_⟩
      refine ⟨_, _, rfl, e.mut nf, ?_⟩
      rw [upd_same]
      exact congrArg some (ins fun z h0 => absurd h0 (by omega))
  · rintro σ H' ⟨v2, v5, rfl, e, hf⟩
    refine ⟨_, rfl, q _ _ (ec.trans e) ⟨f, rfl, ?_⟩⟩
    rw [ratio_law pr hE]
    exact hf
/-- the pair of whole numbers in the tuple at a -/
def prOf (H : Hp) (v : V) : Int × Int := match v with
  | .ref a => (match H a with
    | some (.tup [.int i, .int j]) => (i, j)
    | _ => (0, 0))
  | _ => (0, 0)
def PrAt (H : Hp) (v : V) (z : Int × Int) : Prop := ∃ a, v = .ref a ∧ H a = some (.tup [.int z.1, .int z.2])
theorem PrAt.of {H : Hp} {v : V} {z : Int × Int} (h : PrAt H v z) : prOf H v = z := by
  obtain ⟨a, rfl, h⟩ := h
  unfold prOf
  simp only [h]
theorem PrAt.same {H H' : Hp} {v : V} {z : Int × Int} (h : PrAt H v z) (e : Same H H') : PrAt H' v z := let ⟨a, x, y⟩ := h; ⟨a, x, e _ _ y⟩
theorem PrAt.off {H : Hp} {v : V} {z : Int × Int} {f : Addr} {xs : List V} (h : PrAt H v z) (hf : H f = some (.lst xs)) : PrAt (del H f) v z := by
  obtain ⟨a, rfl, h⟩ := h
  exact ⟨a, rfl, by rw [del_ne (ne_of h hf (by intro z; cases z))]; exact h⟩
theorem prs_map {H : Hp} : ∀ {vs : List V} {zs : List (Int × Int)}, Paired (PrAt H) vs zs → vs.map (prOf H) = zs
  | _, _, .nil => rfl
  | _, _, .cons h r => by rw [List.map_cons, h.of, prs_map r]
theorem prs_mem {H : Hp} : ∀ {vs : List V} {zs : List (Int × Int)}, Paired (PrAt H) vs zs → ∀ x ∈ vs, PrAt H x (prOf H x)
  | _, _, .nil, x, hx => by cases hx
  | _, _, .cons h r, x, hx => by
    rcases List.mem_cons.mp hx with e | hx
    · rw [e, h.of]
      exact h
    · exact prs_mem r x hx
theorem sc_by_likelihood : FnScope N_by_likelihood ["spread"] (defScope s_by_likelihood) := ⟨rfl, rfl, rfl, by decide +kernel, rfl, by decide +kernel, by decide +kernel⟩
theorem ok_by_likelihood (T : TX K mg) : FOk P w K mg base CX0 1 (He.ga K "by_likelihood") ["spread"] (sp_by_likelihood K) := by
  obtain ⟨fd, F⟩ := T.f_by_likelihood
  refine ⟨fd, F.ok sc_by_likelihood (fun _ _ _ _ h => h.1) (fun cdv A outer s H vs Q E hr h => ?_), F.binds fun _ _ _ _ _ _ us hl => match us, hl with | [_], _ => rfl⟩
  refine ⟨_, PSs.nox (pss_one (ps_ret (pe_lc (g := (gTup K 2 (gCons (gName 1) (gCons (gName 2) gNil)))) (own := [("share", 1), ("n", 2)]) (by rfl) sc_by_likelihood.nd (pi_list (pe_callB cr_sortedPO (by rfl) T.n_sorted (by decide +kernel) (pa_cons (pe_lc (g := (gTup K 2 (gCons (gName 2) (gCons (gName 1) gNil)))) (own := [("n", 2), ("share", 1)]) (by rfl) sc_by_likelihood.nd (pi_enum (by rfl) T.n_enumerate (pa_cons (pe_fld (pv 0) rfl) pa_nil)) (blkOk_by (own := [("n", 2), ("share", 1)]) (N := N_by_likelihood) (sc := defScope s_by_likelihood) (by decide +kernel)) (fun _ _ _ _ _ => by exact (pg_tup (by rfl) (pgs_cons (pg_name (i := 2) sc_by_likelihood.nd rfl (.inl rfl)) (pgs_cons (pg_name (i := 1) sc_by_likelihood.nd rfl (.inl rfl)) pgs_nil)))) (fun _ _ _ _ _ => by exact pts_nil) (fun _ _ _ _ _ => by exact (pe_tup (pa_cons (pe_un un_neg (pv 1)) (pa_cons (pv 2) pa_nil))))) pa_nil))) (blkOk_by (own := [("share", 1), ("n", 2)]) (N := N_by_likelihood) (sc := defScope s_by_likelihood) (by decide +kernel)) (fun _ _ _ _ _ => by exact (pg_tup (by rfl) (pgs_cons (pg_name (i := 1) sc_by_likelihood.nd rfl (.inl rfl)) (pgs_cons (pg_name (i := 2) sc_by_likelihood.nd rfl (.inl rfl)) pgs_nil)))) (fun _ _ _ _ _ => by exact pts_nil) (fun _ _ _ _ _ => by exact (pv 2))))), ?_⟩
  obtain ⟨_, h⟩ := h
  obtain ⟨v, t, p, rfl, hs, pr, ht, q⟩ := h
  obtain ⟨sa, dx, l, rfl, h1, h2⟩ := id hs
  refine ⟨_, rfl, sa, _, dx, _, _, rfl, h1, T.cl_Spread, T.na_Spread_shares, L_Spread_shares, l, _, rfl, SqL.of h2, fun D nD => lc_it walk_enum
    (fun i H' => Same H H' ∧ ∃ vs, H' D = some (.lst vs) ∧ Paired (PrAt (del H' D)) vs ((List.range i).map (pairT t p))) ⟨Same.new nD, [], upd_same, .nil⟩ (fun i H' _ ⟨e, _⟩ => SqL.of (e _ _ h2)) ?_ ?_⟩
  · rintro i x H1 H2 hi ⟨e, vs, hD, hv⟩ ⟨A2, x1, y1, rfl, nA, rfl, ex, ey⟩
    rw [terms_len] at hi
    have ey2 : ((terms t p).map V.int)[i]? = some y1 := ey
    rw [terms_at (show i ≤ t by omega)] at ey2
    cases ex
    cases ey2
    have e1 : Same H1 (upd H1 A2 (.tup [.int (i : Nat), .int ((Vbkdai.term t p i : Nat) : Int)])) := Same.new nA
    refine ⟨A2, _, rfl, SqT.of upd_same, rfl, _, _, rfl, _, _, rfl, rfl, rfl, ?_⟩
    refine ⟨_, rfl, _, rfl, _, rfl, by show 2 ≤ sizeLine; decide, fun B nB => ?_⟩
    have e2 := e1.trans (Same.new (o := .tup [.int (-((Vbkdai.term t p i : Nat) : Int)), .int (i : Nat)]) nB)
    refine ⟨vs, e2 _ _ hD, by rw [paired_map_len hv, List.length_range]; exact small1000 (by omega), (e.trans e2).mut nD, vs ++ [.ref B], upd_same, ?_⟩
    rw [del_upd, List.range_succ, List.map_append]
    refine paired_app (paired_imp (fun v q z => z.same (Same_del e2)) hv) (.cons ?_ .nil)
    exact PrAt.off ⟨B, rfl, upd_same⟩ (e2 _ _ hD)
  rintro Hs ⟨e, vs, hD, hv⟩
  have hv : Paired (PrAt Hs) vs ((List.range (t + 1)).map (pairT t p)) := by
    rw [terms_len] at hv
    exact paired_imp (fun v q z => z.same same_del) hv
  refine ⟨D, vs, prOf Hs, rfl, SqL.of hD, fun x hx => prs_mem hv x hx, fun ys s srt stb ns => ?_⟩
  have e2 : Same Hs (upd Hs s (.lst ys)) := Same.new ns
  have ly : ys.length = t + 1 := by rw [stb.perm.length_eq, paired_map_len hv, List.length_range]
  have pz : (ys.map (prOf Hs)).Perm ((List.range (t + 1)).map (pairT t p)) := by
    rw [← prs_map hv]
    exact stb.perm.map _
  have law := sorted_law pr pz (by
    rw [List.pairwise_map]
    exact srt.imp fun {a b} h => SrtO.lexB_no.mp h)
  refine ⟨s, rfl, ⟨ys, SqL.of upd_same⟩, fun D2 nD2 => lc_list (K := K) (a := s) (xs := ys)
    (fun i H' => Same (upd Hs s (.lst ys)) H' ∧ H' D2 = some (.lst ((ys.take i).map fun y => V.int (prOf Hs y).2))) ⟨Same.new nD2, upd_same⟩ (fun i H' _ ⟨e3, _⟩ => SqL.of (e3 _ _ upd_same)) ?_ ?_⟩
  · rintro i x H1 hx ⟨e3, hD2⟩
    obtain ⟨a, rfl, ha⟩ := prs_mem hv x (stb.perm.mem_iff.mp (List.mem_of_getElem? hx))
    refine ⟨a, _, rfl, SqT.of (e3 _ _ (e2 _ _ ha)), rfl, _, _, rfl, _, _, rfl, rfl, rfl, ?_⟩
    refine ⟨_, rfl, _, hD2, ?_, e3.mut nD2, ?_⟩
    · rw [List.length_map]
      exact small1000 (Nat.le_trans (List.length_take_le _ _) (by have := (List.getElem?_eq_some_iff.mp hx).1; omega))
    · rw [upd_same, take_succ hx, List.map_append]
      rfl
  · rintro H1 ⟨e3, hD2⟩
    refine q _ _ ((e.trans e2).trans e3) ⟨D2, rfl, ?_⟩
    rw [hD2, List.take_length, ← law, List.map_map, List.map_map]
    rfl
end
end Bc


-- end of a part
set_option Elab.async false
set_option linter.all false
set_option maxRecDepth 100000
set_option maxHeartbeats 4000000
set_option exponentiation.threshold 100000
namespace Bc
open PySem PySem.Spec PyProof.Rows L2
/-- two counts in a tuple -/
def PAt (H : Hp) (v : V) (x : Nat × Nat) : Prop := PrAt H v ((x.1 : Int), (x.2 : Int))
theorem PAt.same {H H' : Hp} {v : V} {x : Nat × Nat} (h : PAt H v x) (e : Same H H') : PAt H' v x := PrAt.same h e
theorem PAt.off {H : Hp} {v : V} {x : Nat × Nat} {f : Addr} {xs : List V} (h : PAt H v x) (hf : H f = some (.lst xs)) : PAt (del H f) v x := PrAt.off h hf
/-- a belt: a list of such -/
def BeltAt (H : Hp) (v : V) (b : List (Nat × Nat)) : Prop := ∃ a vs, v = .ref a ∧ H a = some (.lst vs) ∧ Paired (PAt H) vs b
theorem BeltAt.same {H H' : Hp} {v : V} {b : List (Nat × Nat)} (h : BeltAt H v b) (e : Same H H') : BeltAt H' v b := let ⟨a, vs, x, y, z⟩ := h; ⟨a, vs, x, e _ _ y, paired_imp (fun _ _ q => PAt.same q e) z⟩
def sp_put_in (K : PySem.W.Frag) : Sp := mkSp 3 fun vs H Q _ => ∃ (v w u : V) (t : Nat) (p s : Qd) (l : List Nat), vs = [v, w, u] ∧ SpreadAt K H v t p ∧ InAt H w (nI l) ∧ FrAt K H u s ∧ Pr p ∧ t ≤ 40 ∧ Fq 1000 s ∧ l.length ≤ 41 ∧ (∀ n ∈ l, n ≤ t) ∧
  Ret H Q fun v H' => InAt H' v (nI (Vbkdai.until_ t p s 0 l))
def sp_is_little (K : PySem.W.Frag) : Sp := mkSp 3 fun vs H Q _ => ∃ (v u : V) (t m : Nat) (p s : Qd), vs = [v, .int m, u] ∧ SpreadAt K H v t p ∧ FrAt K H u s ∧ Pr p ∧ t ≤ 40 ∧ Fq 1000 s ∧ m < 2 ^ 4000 ∧ ∀ H', Same H H' → Q (.bl (Vbkdai.lightEnough t p s m)) H'
def sp_central (K : PySem.W.Frag) : Sp := mkSp 2 fun vs H Q _ => ∃ (v u : V) (t : Nat) (p s : Qd), vs = [v, u] ∧ SpreadAt K H v t p ∧ FrAt K H u s ∧ Pr p ∧ t ≤ 40 ∧ Fq 1000 s ∧ Ret H Q fun v H' => PAt H' v (Vbkdai.centralLow t p s, Vbkdai.centralHigh t p s)
/-- what the defs that let are handed -/
structure LetIn (K : PySem.W.Frag) (H : Hp) (vc vs : V) (g : Nat) (c : Vbkdai.Chan) : Prop where
  ch : ChanAt K H vc c
  sp : SpreadsAt K H vs c.trials (endsQ g c)
  ok : ChOk c
  g12 : g ≤ 12
theorem LetIn.same {K : PySem.W.Frag} {H H' : Hp} {vc vs : V} {g : Nat} {c : Vbkdai.Chan} (h : LetIn K H vc vs g c) (e : Same H H') : LetIn K H' vc vs g c := ⟨h.ch.same e, h.sp.same e, h.ok, h.g12⟩
theorem LetIn.pr {K : PySem.W.Frag} {H : Hp} {vc vs : V} {g : Nat} {c : Vbkdai.Chan} (h : LetIn K H vc vs g c) : ∀ p ∈ endsQ g c, Pr p := endsQ_pr fun _ _ hk he => chanceAt_pr h.ok h.g12 hk he
def sp_order_of (K : PySem.W.Frag) : Sp := mkSp 3 fun vs H Q _ => ∃ (v w u : V) (g : Nat) (c : Vbkdai.Chan) (p : Qd), vs = [v, w, u] ∧ LetIn K H v u g c ∧ SpreadAt K H w c.trials p ∧ Pr p ∧ c.order ≠ 2 ∧ Ret H Q fun v H' => InAt H' v (nI (Vbkdai.orderOf g c p))
def sp_let_at (K : PySem.W.Frag) : Sp := mkSp 3 fun vs H Q _ => ∃ (v w u : V) (g : Nat) (c : Vbkdai.Chan) (p : Qd), vs = [v, w, u] ∧ LetIn K H v u g c ∧ SpreadAt K H w c.trials p ∧ Pr p ∧ Ret H Q fun v H' => PAt H' v (Vbkdai.letAt g c p)
def sp_let_in (K : PySem.W.Frag) : Sp := mkSp 3 fun vs H Q _ => ∃ (v u : V) (g k : Nat) (c : Vbkdai.Chan), vs = [v, u, .int k] ∧ LetIn K H v u g c ∧ k < g ∧ Ret H Q fun v H' => PAt H' v (Vbkdai.letIn g c k)
def sp_part_let (K : PySem.W.Frag) : Sp := mkSp 3 fun vs H Q _ => ∃ (pl : Vbkdai.Plan) (c : Vbkdai.Chan) (v1 v2 : V) (k : Nat), vs = [v1, v2, .int k] ∧ PlanAt K H v1 pl ∧ ChanAt K H v2 c ∧ ChOk c ∧ pl.parts ≤ 12 ∧ k < pl.parts ∧ Ret H Q fun v H' => PAt H' v (Vbkdai.letIn pl.parts c k)
def sp_belt_of (K : PySem.W.Frag) : Sp := mkSp 2 fun vs H Q _ => ∃ (pl : Vbkdai.Plan) (c : Vbkdai.Chan) (v1 v2 : V), vs = [v1, v2] ∧ PlanAt K H v1 pl ∧ ChanAt K H v2 c ∧ ChOk c ∧ pl.parts ≤ 12 ∧ Ret H Q fun v H' => BeltAt H' v (Vbkdai.belt pl.parts c)
def sp_parts_left (K : PySem.W.Frag) : Sp := mkSp 2 fun vs H Q _ => ∃ (v : V) (n : Nat) (b : List (Nat × Nat)), vs = [v, .int n] ∧ BeltAt H v b ∧ b.length ≤ 12 ∧ Ret H Q fun v H' => InAt H' v (nI (Vbkdai.partsOf b n))
section
variable {P : Program} {w : World} {K : PySem.W.Frag} {mg : Str → Option Value} {base : Heap}
theorem sc_put_in : FnScope N_put_in ["spread", "order", "sure"] (defScope s_put_in) := ⟨rfl, rfl, rfl, by decide +kernel, rfl, by decide +kernel, by decide +kernel⟩
theorem ok_put_in (T : TX K mg) : FOk P w K mg base CX0 2 (He.ga K "put_in") ["spread", "order", "sure"] (sp_put_in K) := by
  obtain ⟨fd, F⟩ := T.f_put_in
  obtain ⟨fd0, G0, b0⟩ := ok_Spread_is_sure (P := P) (w := w) (base := base) T
  refine ⟨fd, F.ok sc_put_in (fun _ _ _ _ h => h.1) (fun cdv A outer s H vs Q E hr h => ?_), F.binds fun _ _ _ _ _ _ us hl => match us, hl with | [_, _, _], _ => rfl⟩
  have hr0 := hr.mono (by decide : 1 ≤ 1)
  refine ⟨_, PSs.nox (pss_cons (ps_set (i := 3) sc_put_in.nd rfl (.inl rfl) (pe_lst pa_nil))
    (pss_cons (ps_set (i := 4) sc_put_in.nd rfl (.inl rfl) pe_int)
    (pss_cons (ps_for PassesOwn.never rfl (pi_list (pv 1)) (pg_name (i := 5) sc_put_in.nd rfl (.inl rfl)) (pss_cons (ps_if (pt_val (pe_meth (pv 0) T.cl_Spread T.m_Spread_is_sure G0 hr0 b0 .nil pass0 (pa_cons (pv 4) (pa_cons (pv 2) pa_nil)))) (pss_one (ps_ret (pv 3))) pss_nil)
    (pss_cons (ps_expr (pe_bm PySem.F.plainAttrs_list PySem.F.slot_list_append PySem.F.type_list_append mt_append (pv 3) (pa_cons (pv 5) pa_nil)))
    (pss_one (ps_set (i := 4) sc_put_in.nd rfl (.inl rfl) (pe_op op_add (pv 4) (pe_ix ix_list (pe_fld (pv 0) rfl) (pv 5) (fun _ _ => rfl))))))))
    (pss_one (ps_ret (pv 3)))))), ?_⟩
  obtain ⟨_, h⟩ := h
  obtain ⟨v, w, u, t, p, s, l, rfl, hs, ⟨wa, rfl, hw⟩, hu, pr, ht, fs, hl, hm, q⟩ := h
  obtain ⟨sa, dx, sl, rfl, h1, h2⟩ := id hs
  refine ⟨by show 0 ≤ sizeLine; decide, fun f nf => ?_⟩
  refine ⟨_, rfl, wa, rfl, ⟨_, SqL.of ((Same.new nf) _ _ hw)⟩, for_list (K := K) (a := wa) (xs := (nI l).map V.int)
    (fun i σ H' => ∃ v5, σ = [some (.ref sa), some (.ref wa), some u, some (.ref f), some (.int ((put t p (l.take i) : Nat) : Int)), v5] ∧ Same H H' ∧ H' f = some (.lst ((nI (l.take i)).map V.int)) ∧ Vbkdai.until_ t p s 0 l = l.take i ++ Vbkdai.until_ t p s (put t p (l.take i)) (l.drop i))
    ⟨none, rfl, Same.new nf, upd_same, rfl⟩ (fun i σ H' _ ⟨_, _, e, _⟩ => SqL.of (e _ _ hw)) ?_ ?_⟩
  · rintro i x σ H' hx ⟨v5, rfl, e, hf, hU⟩
    obtain ⟨n, hn, rfl⟩ : ∃ n, l[i]? = some n ∧ x = V.int (n : Int) := by
      unfold nI at hx
      rw [List.map_map, List.getElem?_map] at hx
      cases e2 : l[i]? with
      | none =>
        rw [e2] at hx
        cases hx
      | some n =>
        rw [e2] at hx
        exact ⟨n, rfl, (Option.some.inj hx).symm⟩
    have hnt : n ≤ t := hm n (List.mem_of_getElem? hn)
    have il := (List.getElem?_eq_some_iff.mp hn).1
    have ps := put_small pr ht (l := l.take i) (by rw [List.length_take]; omega) fun n hn => hm n (List.mem_of_mem_take hn)
    refine ⟨_, rfl, sa, dx, _, rfl, e _ _ h1, L_Spread_is_sure, _, rfl, _, rfl, rfl, _, u, t, p, s, put t p (l.take i), rfl, hs.same e, hu.same e, pr, ht, fs, ps, _, rfl, ?_⟩
    refine ite2 (fun c => ?_) (fun c => ?_)
    · refine ⟨_, rfl, q _ _ e ⟨f, rfl, ?_⟩⟩
      rw [hU, until_stop _ c, List.append_nil]
      exact hf
    · have c : Vbkdai.reaches t p s (put t p (l.take i)) = false := by simpa using c
      refine ⟨_, rfl, Or.inl ⟨rfl, _, SqL.of hf⟩, _, rfl, f, _, _, rfl, rfl, hf, by rw [nI_len, List.length_take]; exact small1000 (by omega), ?_⟩
      have sf : sa ≠ f := ne_of_none h1 nf
      have slf : sl ≠ f := ne_of_none h2 nf
      refine ⟨_, rfl, _, rfl, sa, _, dx, _, _, rfl, by rw [upd_ne sf]; exact e _ _ h1, T.cl_Spread, T.na_Spread_shares, L_Spread_shares, _, rfl, sl, _, _, _, rfl, rfl, SqL.of (by rw [upd_ne slf]; exact e _ _ h2), atI_nat (terms_at hnt), _, _, rfl, rfl, ?_⟩
      refine ⟨some (.int (n : Int)), ?_, e.mut nf, ?_, ?_⟩
      · rw [put_more hn, Int.natCast_add]
        rfl
      · rw [upd_same, take_succ hn]
        unfold nI
        rw [List.map_append, List.map_append]
        rfl
      · rw [hU, until_go hn _ c, put_more hn, take_succ hn, List.append_assoc]
        rfl
  · rintro σ H' ⟨v5, rfl, e, hf, hU⟩
    rw [nI_len, List.take_length] at hf hU
    refine ⟨_, rfl, q _ _ e ⟨f, rfl, ?_⟩⟩
    rw [hU, List.drop_length]
    show _ = some (HO.lst ((nI (l ++ [])).map V.int))
    rw [List.append_nil]
    exact hf
theorem one_fq : Fq 1000 Vbkdai.one := ⟨by decide, by decide, by decide, by decide⟩
theorem sc_is_little : FnScope N_is_little ["spread", "share", "sure"] (defScope s_is_little) := ⟨rfl, rfl, rfl, by decide +kernel, rfl, by decide +kernel, by decide +kernel⟩
theorem ok_is_little (T : TX K mg) : FOk P w K mg base CX0 4 (He.ga K "is_little") ["spread", "share", "sure"] (sp_is_little K) := by
  obtain ⟨fd, F⟩ := T.f_is_little
  obtain ⟨fd0, G0, b0⟩ := ok_minus (P := P) (w := w) (base := base) T
  refine ⟨fd, F.ok sc_is_little (fun _ _ _ _ h => h.1) (fun cdv A outer s H vs Q E hr h => ?_), F.binds fun _ _ _ _ _ _ us hl => match us, hl with | [_, _, _], _ => rfl⟩
  have hr0 := hr.mono (by decide : 3 ≤ 3)
  refine ⟨_, PSs.nox (pss_cons (ps_set (i := 3) sc_is_little.nd rfl (.inl rfl) (pe_call G0 hr0 (by rfl) T.g_minus T.k_minus b0 .nil pass0 (pa_cons (C8.pe_gc (by rfl) T.c_ONE) (pa_cons (pv 2) pa_nil))))
    (pss_one (ps_ret (pe_cmpR op_le (pe_op op_mulW (pe_op op_mulW pe_int (pv 1)) (pe_ix ix_tup (pv 3) pe_int (fun _ _ => rfl))) (pe_op op_mulW (pe_ix ix_tup (pv 3) pe_int (fun _ _ => rfl)) (pe_fld (pv 0) rfl)) (by rfl))))), ?_⟩
  obtain ⟨_, h⟩ := h
  obtain ⟨v, u, t, m, p, s, rfl, ⟨sa, dx, sl, rfl, h1, h2⟩, hu, pr, ht, fs, hm, q⟩ := h
  refine ⟨_, rfl, rfl, Vbkdai.one, s, _, _, rfl, ⟨_, rfl, T.t_ONE H⟩, hu, one_fq.sm (by decide), fs.sm (by decide), fun v H1 e1 hv => ?_⟩
  obtain ⟨la, rfl, hla⟩ := hv
  have sl : Sm 4000 (VbkdCore.sub Vbkdai.one s) := by
    rw [sub_eq]
    have a := fs.n0; have b := fs.nd; have c := fs.d0; have d := fs.dk
    refine sm_mk (Nat.mul_pos (by decide) c) ?_ ?_
    · show (1 * (s.d : Int) - s.n * 1).natAbs < _
      exact Nat.lt_of_lt_of_le (show _ < 2 ^ 12 by omega) (Nat.pow_le_pow_right (by decide) (by decide))
    · show 1 * s.d < _
      exact Nat.lt_of_lt_of_le (show _ < 2 ^ 12 by omega) (Nat.pow_le_pow_right (by decide) (by decide))
  refine ⟨_, rfl, _, _, rfl, rfl, wide_mul (a := 2) (b := 4000) (by decide) (n_abs hm) (by decide) (by decide) (by decide), ?_⟩
  have b2 : ((2 : Int) * (m : Int)).natAbs < 2 ^ (2 + 4000) := wide_lt (by decide) (n_abs hm)
  refine ⟨_, rfl, la, _, _, _, rfl, rfl, hla, at1, _, _, rfl, rfl, wide_mul b2 (sm_d sl) (by decide) (by decide) (by decide), ?_⟩
  refine ⟨_, rfl, la, _, _, _, rfl, rfl, hla, at0, _, rfl, sa, _, dx, _, _, rfl, e1 _ _ h1, T.cl_Spread, T.na_Spread_whole, L_Spread_whole, _, _, rfl, rfl, wide_mul sl.1 (sp_total pr ht) (by decide) (by decide) (by decide), ?_⟩
  refine ⟨_, _, rfl, rfl, ?_⟩
  rw [← little_law fs] at q
  exact q H1 e1
theorem many_low {t : Nat} {p : Qd} (a : Nat) : many t p 0 a = Vbkdai.massOf t p ((List.range (t + 1)).filter fun n => decide (n < a)) := by
  unfold many Vbkdai.massOf
  rw [filter_lt, List.drop_zero]
theorem many_high {t : Nat} {p : Qd} (b : Nat) : many t p (b + 1) (t + 1) = Vbkdai.massOf t p ((List.range (t + 1)).filter fun n => decide (b < n)) := by
  unfold many Vbkdai.massOf
  rw [filter_gt, List.take_of_length_le (by rw [List.length_range]; exact Nat.le_refl _)]
theorem nI_snoc (l : List Nat) (n : Nat) : (nI (l ++ [n])).map V.int = (nI l).map V.int ++ [V.int (n : Int)] := by
  unfold nI
  rw [List.map_append, List.map_append]
  rfl
theorem filter_more {f : Nat → Bool} {i : Nat} : (List.range (i + 1)).filter f = (List.range i).filter f ++ (if f i = true then [i] else []) := by
  rw [List.range_succ, List.filter_append]
  congr 1
  by_cases h : f i = true
  · rw [if_pos h]
    simp [h]
  · rw [if_neg h]
    simp [h]
theorem filter_len {f : Nat → Bool} {i : Nat} : ((List.range i).filter f).length ≤ i := by
  have := List.length_filter_le f (List.range i)
  rw [List.length_range] at this
  exact this
theorem many_small' {t : Nat} {p : Qd} (h : Pr p) (ht : t ≤ 40) (a b : Nat) : many t p a b < 2 ^ 4000 := many_small h ht a b
def lowB (t : Nat) (p s : Qd) (a : Nat) : Bool := Vbkdai.lightEnough t p s (Vbkdai.massOf t p ((List.range (t + 1)).filter fun n => decide (n < a)))
def highB (t : Nat) (p s : Qd) (b : Nat) : Bool := Vbkdai.lightEnough t p s (Vbkdai.massOf t p ((List.range (t + 1)).filter fun n => decide (b < n)))
theorem sc_central : FnScope N_central ["spread", "sure"] (defScope s_central) := ⟨rfl, rfl, rfl, by decide +kernel, rfl, by decide +kernel, by decide +kernel⟩
theorem ok_central (T : TX K mg) : FOk P w K mg base CX0 5 (He.ga K "central") ["spread", "sure"] (sp_central K) := by
  obtain ⟨fd, F⟩ := T.f_central
  obtain ⟨fd0, G0, b0⟩ := ok_Spread_many_from (P := P) (w := w) (base := base) T
  obtain ⟨fd1, G1, b1⟩ := ok_is_little (P := P) (w := w) (base := base) T
  refine ⟨fd, F.ok sc_central (fun _ _ _ _ h => h.1) (fun cdv A outer s H vs Q E hr h => ?_), F.binds fun _ _ _ _ _ _ us hl => match us, hl with | [_, _], _ => rfl⟩
  have hr0 := hr.mono (by decide : 1 ≤ 4)
  have hr1 := hr.mono (by decide : 4 ≤ 4)
  refine ⟨_, PSs.nox (pss_cons (ps_set (i := 2) sc_central.nd rfl (.inr rfl) (pe_op op_sub (pe_callB call_len_seq (by rfl) T.n_len (by decide +kernel) (pa_cons (pe_fld (pv 0) rfl) pa_nil)) pe_int))
    (pss_cons (ps_set (i := 3) sc_central.nd rfl (.inl rfl) (pe_callB (cr_max rfl) (by rfl) T.n_max (by decide +kernel) (pa_cons (pe_lc (g := (gName 5)) (own := [("a", 5)]) (by rfl) sc_central.nd (pi_range1 (by rfl) T.n_range (pa_cons (pe_op op_add (pv 2) pe_int) pa_nil)) (blkOk_by (own := [("a", 5)]) (N := N_central) (sc := defScope s_central) (by decide +kernel)) (fun _ _ _ _ _ => by exact (pg_name (i := 5) sc_central.nd rfl (.inl rfl))) (fun _ _ _ _ _ => by exact (pts_one (pt_val (pe_call G1 hr1 (by rfl) T.g_is_little T.k_is_little b1 .nil pass0 (pa_cons (pv 0) (pa_cons (pe_meth (pv 0) T.cl_Spread T.m_Spread_many_from G0 hr0 b0 .nil pass0 (pa_cons pe_int (pa_cons (pe_op op_sub (pv 5) pe_int) pa_nil))) (pa_cons (pv 1) pa_nil))))))) (fun _ _ _ _ _ => by exact (pv 5))) pa_nil)))
    (pss_cons (ps_set (i := 4) sc_central.nd rfl (.inl rfl) (pe_callB (cr_min rfl) (by rfl) T.n_min (by decide +kernel) (pa_cons (pe_lc (g := (gName 6)) (own := [("b", 6)]) (by rfl) sc_central.nd (pi_range1 (by rfl) T.n_range (pa_cons (pe_op op_add (pv 2) pe_int) pa_nil)) (blkOk_by (own := [("b", 6)]) (N := N_central) (sc := defScope s_central) (by decide +kernel)) (fun _ _ _ _ _ => by exact (pg_name (i := 6) sc_central.nd rfl (.inl rfl))) (fun _ _ _ _ _ => by exact (pts_one (pt_val (pe_call G1 hr1 (by rfl) T.g_is_little T.k_is_little b1 .nil pass0 (pa_cons (pv 0) (pa_cons (pe_meth (pv 0) T.cl_Spread T.m_Spread_many_from G0 hr0 b0 .nil pass0 (pa_cons (pe_op op_add (pv 6) pe_int) (pa_cons (pv 2) pa_nil))) (pa_cons (pv 1) pa_nil))))))) (fun _ _ _ _ _ => by exact (pv 6))) pa_nil)))
    (pss_one (ps_ret (pe_tup (pa_cons (pv 3) (pa_cons (pv 4) pa_nil)))))))), ?_⟩
  obtain ⟨_, h⟩ := h
  obtain ⟨v, u, t, p, s, rfl, hs, hu, pr, ht, fs, q⟩ := h
  obtain ⟨sa, dx, l, rfl, h1, h2⟩ := id hs
  have et : ((t + 1 : Nat) : Int) - 1 = (t : Int) := by omega
  refine ⟨_, rfl, sa, _, dx, _, _, rfl, h1, T.cl_Spread, T.na_Spread_shares, L_Spread_shares, l, _, rfl, .inl (SqL.of h2), _, _, rfl, rfl, ?_⟩
  rw [terms_len]
  have ev : (fun i j : Int => V.int (i - j)) ((t + 1 : Nat) : Int) 1 = V.int (t : Int) := by
    show V.int _ = _
    rw [et]
  rw [ev]
  -- low
  refine ⟨_, rfl, _, _, rfl, rfl, (t : Int) + 1, rfl, by omega, by omega, fun D nD => lc_r0 (n := ((t : Int) + 1).toNat)
    (fun i H' => Same H H' ∧ H' D = some (.lst ((nI ((List.range i).filter (lowB t p s))).map V.int))) ⟨Same.new nD, upd_same⟩ ?_ ?_⟩
  · rintro i H' hi ⟨e, hD⟩
    have hit : i ≤ t := by omega
    refine ⟨rfl, ?_⟩
    refine ⟨_, rfl, _, rfl, sa, dx, _, rfl, e _ _ h1, L_Spread_many_from, _, rfl, _, _, rfl, rfl, rfl, .ref sa, t, p, 0, (i : Int) - 1, rfl, hs.same e, by omega, fun H1 e1 => ?_⟩
    rw [show ((i : Int) - 1 + 1).toNat = i by omega]
    refine ⟨_, rfl, rfl, .ref sa, u, t, _, p, s, rfl, hs.same (e.trans e1), hu.same (e.trans e1), pr, ht, fs, many_small pr ht _ _, fun H2 e2 => ⟨_, rfl, ?_⟩⟩
    have e12 := e1.trans e2
    refine ite2 (fun c => ?_) (fun c => ?_)
    · refine ⟨_, rfl, _, e12 _ _ hD, ?_, (e.trans e12).mut nD, ?_⟩
      · rw [nI_len]
        exact small1000 (Nat.le_trans filter_len (by omega))
      · rw [upd_same, filter_more, if_pos (show lowB t p s i = true by unfold lowB; rw [← many_low]; exact c), nI_snoc]
    · refine ⟨e.trans e12, ?_⟩
      rw [e12 _ _ hD, filter_more, if_neg (show ¬ lowB t p s i = true by unfold lowB; rw [← many_low]; exact c), List.append_nil]
  rintro Hl ⟨el, hDl⟩
  refine ⟨D, nI (lows t p s), rfl, SqL.of hDl, by unfold nI; rw [List.length_map]; exact lows_some t p s, fun m1 hm1 hM1 => ?_⟩
  cases max_is hm1 hM1
  -- high
  refine ⟨_, rfl, _, _, rfl, rfl, (t : Int) + 1, rfl, by omega, by omega, fun D2 nD2 => lc_r0 (n := ((t : Int) + 1).toNat)
    (fun i H' => Same Hl H' ∧ H' D2 = some (.lst ((nI ((List.range i).filter (highB t p s))).map V.int))) ⟨Same.new nD2, upd_same⟩ ?_ ?_⟩
  · rintro i H' hi ⟨e0, hD⟩
    have e := el.trans e0
    have hit : i ≤ t := by omega
    refine ⟨rfl, ?_⟩
    refine ⟨_, rfl, _, rfl, sa, dx, _, rfl, e _ _ h1, L_Spread_many_from, _, rfl, _, _, rfl, rfl, _, rfl, rfl, .ref sa, t, p, i + 1, (t : Int), rfl, hs.same e, by omega, fun H1 e1 => ?_⟩
    rw [show ((t : Int) + 1).toNat = t + 1 by omega]
    refine ⟨_, rfl, rfl, .ref sa, u, t, _, p, s, rfl, hs.same (e.trans e1), hu.same (e.trans e1), pr, ht, fs, many_small pr ht _ _, fun H2 e2 => ⟨_, rfl, ?_⟩⟩
    have e12 := e1.trans e2
    refine ite2 (fun c => ?_) (fun c => ?_)
    · refine ⟨_, rfl, _, e12 _ _ hD, ?_, (e0.trans e12).mut nD2, ?_⟩
      · rw [nI_len]
        exact small1000 (Nat.le_trans filter_len (by omega))
      · rw [upd_same, filter_more, if_pos (show highB t p s i = true by unfold highB; rw [← many_high]; exact c), nI_snoc]
    · refine ⟨e0.trans e12, ?_⟩
      rw [e12 _ _ hD, filter_more, if_neg (show ¬ highB t p s i = true by unfold highB; rw [← many_high]; exact c), List.append_nil]
  rintro Hh ⟨eh, hDh⟩
  refine ⟨D2, nI (highs t p s), rfl, SqL.of hDh, by unfold nI; rw [List.length_map]; exact highs_some t p s, fun m2 hm2 hM2 => ?_⟩
  cases min_is hm2 hM2
  refine ⟨_, rfl, _, rfl, by show 2 ≤ sizeLine; decide, fun B nB => ?_⟩
  exact q _ _ ((el.trans eh).trans (Same.new nB)) ⟨B, rfl, upd_same⟩
theorem rgV_nI (n : Nat) : rgV 0 ((n : Nat) : Int) = (nI (List.range n)).map V.int := by
  unfold rgV nI
  rw [List.map_map, show ((n : Int) - 0).toNat = n by omega]
  refine List.map_congr_left fun i _ => ?_
  show V.int (0 + (i : Int)) = V.int (i : Int)
  rw [Int.zero_add]
theorem nI_rev (l : List Nat) : ((nI l).map V.int).reverse = (nI l.reverse).map V.int := by
  unfold nI
  rw [List.map_reverse, List.map_reverse]
theorem ord_ne {i j : Nat} (c : ¬ decide (V.int (i : Int) = V.int (j : Int)) = true) : ¬ i = j := fun z => c (decide_eq_true (by rw [z]))
theorem ord_eq {i j : Nat} (c : decide (V.int (i : Int) = V.int (j : Int)) = true) : i = j := by
  have := V.int.inj (of_decide_eq_true c)
  omega
theorem sc_order_of : FnScope N_order_of ["channel", "spread", "spreads"] (defScope s_order_of) := ⟨rfl, rfl, rfl, by decide +kernel, rfl, by decide +kernel, by decide +kernel⟩
theorem ok_order_of (T : TX K mg) : FOk P w K mg base CX0 3 (He.ga K "order_of") ["channel", "spread", "spreads"] (sp_order_of K) := by
  obtain ⟨fd, F⟩ := T.f_order_of
  obtain ⟨fd0, G0, b0⟩ := ok_by_likelihood (P := P) (w := w) (base := base) T
  obtain ⟨fd1, G1, b1⟩ := ok_by_ratio (P := P) (w := w) (base := base) T
  refine ⟨fd, F.ok sc_order_of (fun _ _ _ _ h => h.1) (fun cdv A outer s H vs Q E hr h => ?_), F.binds fun _ _ _ _ _ _ us hl => match us, hl with | [_, _, _], _ => rfl⟩
  have hr0 := hr.mono (by decide : 1 ≤ 2)
  have hr1 := hr.mono (by decide : 2 ≤ 2)
  refine ⟨_, PSs.nox (pss_cons (ps_set (i := 3) sc_order_of.nd rfl (.inl rfl) (pe_listRg (by rfl) (by rfl) T.n_list (prg_1 (by rfl) T.n_range (pe_op op_add (pe_fld (pv 0) rfl) pe_int))))
    (pss_cons (ps_if (pt_cmpR op_eq (pe_fld (pv 0) rfl) (C8.pe_gc (by rfl) T.c_UPPER) (by rfl)) (pss_one (ps_ret (pe_revL (pv 3)))) pss_nil)
    (pss_cons (ps_if (pt_cmpR op_eq (pe_fld (pv 0) rfl) (C8.pe_gc (by rfl) T.c_LOWER) (by rfl)) (pss_one (ps_ret (pv 3))) pss_nil)
    (pss_cons (ps_if (pt_cmpR op_eq (pe_fld (pv 0) rfl) (C8.pe_gc (by rfl) T.c_LIKELY) (by rfl)) (pss_one (ps_ret (pe_call G0 hr0 (by rfl) T.g_by_likelihood T.k_by_likelihood b0 .nil pass0 (pa_cons (pv 1) pa_nil)))) pss_nil)
    (pss_one (ps_ret (pe_call G1 hr1 (by rfl) T.g_by_ratio T.k_by_ratio b1 .nil pass0 (pa_cons (pv 1) (pa_cons (pv 2) pa_nil))))))))), ?_⟩
  obtain ⟨_, h⟩ := h
  obtain ⟨v, w, u, g, c, p, rfl, hin, hs, pr, o2, q⟩ := h
  obtain ⟨a, dx, nm, b, gg, s, rfl, ha, _⟩ := id hin.ch
  have t40 := hin.ok.t40
  refine ⟨_, rfl, a, _, dx, _, _, rfl, ha, T.cl_Channel, T.na_Channel_trials, L_Channel_trials, _, _, rfl, rfl, ((c.trials + 1 : Nat) : Int), rfl, RgOk.of_le (by omega) (by omega) (by omega) (by omega), fun D nD => ?_⟩
  have e0 : Same H (upd H D (.lst (rgV 0 ((c.trials + 1 : Nat) : Int)))) := Same.new nD
  have hD : (upd H D (.lst (rgV 0 ((c.trials + 1 : Nat) : Int)))) D = some (.lst ((nI (List.range (c.trials + 1))).map V.int)) := by rw [upd_same, rgV_nI]
  generalize upd H D (.lst (rgV 0 ((c.trials + 1 : Nat) : Int))) = H0 at e0 hD ⊢
  refine ⟨_, rfl, a, _, dx, _, _, rfl, e0 _ _ ha, T.cl_Channel, T.na_Channel_order, L_Channel_order, rfl, _, rfl, ?_⟩
  refine ite2 (fun cc => ?_) (fun cc => ?_)
  · refine ⟨_, rfl, D, _, rfl, SqL.of hD, fun B nB => q _ _ (e0.trans (Same.new nB)) ⟨B, rfl, ?_⟩⟩
    rw [upd_same, nI_rev]
    unfold Vbkdai.orderOf
    rw [if_pos (ord_eq (j := 0) cc)]
  have c0 := ord_ne (j := 0) cc
  refine ⟨_, rfl, a, _, dx, _, _, rfl, e0 _ _ ha, T.cl_Channel, T.na_Channel_order, L_Channel_order, rfl, _, rfl, ?_⟩
  refine ite2 (fun cc => ?_) (fun cc => ?_)
  · refine ⟨_, rfl, q _ _ e0 ⟨D, rfl, ?_⟩⟩
    unfold Vbkdai.orderOf
    rw [if_neg c0, if_pos (ord_eq (j := 1) cc)]
    exact hD
  have c1 := ord_ne (j := 1) cc
  refine ⟨_, rfl, a, _, dx, _, _, rfl, e0 _ _ ha, T.cl_Channel, T.na_Channel_order, L_Channel_order, rfl, _, rfl, ?_⟩
  refine ite2 (fun cc => ?_) (fun cc => ?_)
  · refine ⟨_, rfl, rfl, w, c.trials, p, rfl, hs.same e0, pr, t40, fun v H1 e1 hv => q _ _ (e0.trans e1) ?_⟩
    unfold Vbkdai.orderOf
    rw [if_neg c0, if_neg c1, if_pos (ord_eq (j := 3) cc)]
    exact hv
  have c3 := ord_ne (j := 3) cc
  refine ⟨_, rfl, _, rfl, rfl, w, u, g, c, p, rfl, hs.same e0, hin.sp.same e0, pr, hin.pr, t40, fun v H1 e1 hv => q _ _ (e0.trans e1) ?_⟩
  unfold Vbkdai.orderOf
  rw [if_neg c0, if_neg c1, if_neg c3]
  exact hv
theorem sc_let_at : FnScope N_let_at ["channel", "spread", "spreads"] (defScope s_let_at) := ⟨rfl, rfl, rfl, by decide +kernel, rfl, by decide +kernel, by decide +kernel⟩
theorem ok_let_at (T : TX K mg) : FOk P w K mg base CX0 6 (He.ga K "let_at") ["channel", "spread", "spreads"] (sp_let_at K) := by
  obtain ⟨fd, F⟩ := T.f_let_at
  obtain ⟨fd0, G0, b0⟩ := ok_central (P := P) (w := w) (base := base) T
  obtain ⟨fd1, G1, b1⟩ := ok_order_of (P := P) (w := w) (base := base) T
  obtain ⟨fd2, G2, b2⟩ := ok_put_in (P := P) (w := w) (base := base) T
  refine ⟨fd, F.ok sc_let_at (fun _ _ _ _ h => h.1) (fun cdv A outer s H vs Q E hr h => ?_), F.binds fun _ _ _ _ _ _ us hl => match us, hl with | [_, _, _], _ => rfl⟩
  have hr0 := hr.mono (by decide : 5 ≤ 5)
  have hr1 := hr.mono (by decide : 3 ≤ 5)
  have hr2 := hr.mono (by decide : 2 ≤ 5)
  refine ⟨_, PSs.nox (pss_cons (ps_if (pt_cmpR op_eq (pe_fld (pv 0) rfl) (C8.pe_gc (by rfl) T.c_CENTRAL) (by rfl)) (pss_one (ps_ret (pe_call G0 hr0 (by rfl) T.g_central T.k_central b0 .nil pass0 (pa_cons (pv 1) (pa_cons (pe_fld (pv 0) rfl) pa_nil))))) pss_nil)
    (pss_cons (ps_set (i := 3) sc_let_at.nd rfl (.inl rfl) (pe_call G2 hr2 (by rfl) T.g_put_in T.k_put_in b2 .nil pass0 (pa_cons (pv 1) (pa_cons (pe_call G1 hr1 (by rfl) T.g_order_of T.k_order_of b1 .nil pass0 (pa_cons (pv 0) (pa_cons (pv 1) (pa_cons (pv 2) pa_nil)))) (pa_cons (pe_fld (pv 0) rfl) pa_nil)))))
    (pss_one (ps_ret (pe_tup (pa_cons (pe_callB (cr_min rfl) (by rfl) T.n_min (by decide +kernel) (pa_cons (pv 3) pa_nil)) (pa_cons (pe_callB (cr_max rfl) (by rfl) T.n_max (by decide +kernel) (pa_cons (pv 3) pa_nil)) pa_nil))))))), ?_⟩
  obtain ⟨_, h⟩ := h
  obtain ⟨v, w, u, g, c, p, rfl, hin, hs, pr, q⟩ := h
  obtain ⟨a, dx, nm, b, gg, s, rfl, ha, _, _, _, hsu⟩ := id hin.ch
  refine ⟨_, rfl, a, _, dx, _, _, rfl, ha, T.cl_Channel, T.na_Channel_order, L_Channel_order, rfl, _, rfl, ?_⟩
  refine ite2 (fun cc => ?_) (fun cc => ?_)
  · refine ⟨_, rfl, _, rfl, a, _, dx, _, _, rfl, ha, T.cl_Channel, T.na_Channel_sure, L_Channel_sure, rfl, w, s, c.trials, p, c.sure, rfl, hs, hsu, pr, hin.ok.t40, hin.ok.su, fun v H1 e1 hv => q _ _ e1 ?_⟩
    unfold Vbkdai.letAt
    rw [if_pos (ord_eq (j := 2) cc)]
    exact hv
  have c2 := ord_ne (j := 2) cc
  refine ⟨_, rfl, _, rfl, _, rfl, _, rfl, rfl, .ref a, w, u, g, c, p, rfl, hin, hs, pr, c2, fun v1 H1 e1 h1 => ?_⟩
  refine ⟨_, rfl, a, _, dx, _, _, rfl, e1 _ _ ha, T.cl_Channel, T.na_Channel_sure, L_Channel_sure, rfl, w, v1, s, c.trials, p, c.sure, Vbkdai.orderOf g c p, rfl, hs.same e1, h1, hsu.same e1, pr, hin.ok.t40, hin.ok.su, ?_, fun n hn => order_mem pr hin.pr hn, fun v2 H2 e2 h2 => ?_⟩
  · rw [order_len pr hin.pr]
    have := hin.ok.t40
    omega
  have us := until_some (t := c.trials) pr hin.ok.su hin.ok.su0 (l := Vbkdai.orderOf g c p) (by rw [order_len pr hin.pr]; omega)
  obtain ⟨l, rfl, hl⟩ := h2
  refine ⟨_, rfl, l, _, rfl, SqL.of hl, by unfold nI; rw [List.length_map]; exact us, fun m1 hm1 hM1 => ?_⟩
  cases min_is hm1 hM1
  refine ⟨_, rfl, l, _, rfl, SqL.of hl, by unfold nI; rw [List.length_map]; exact us, fun m2 hm2 hM2 => ?_⟩
  cases max_is hm2 hM2
  refine ⟨by show 2 ≤ sizeLine; decide, fun B nB => q _ _ ((e1.trans e2).trans (Same.new nB)) ⟨B, rfl, ?_⟩⟩
  rw [upd_same]
  unfold Vbkdai.letAt
  rw [if_neg c2]
theorem min_if (a b : Nat) : (if (b : Int) < (a : Int) then (b : Int) else (a : Int)) = ((min a b : Nat) : Int) := by
  split <;> omega
theorem max_if (a b : Nat) : (if (b : Int) > (a : Int) then (b : Int) else (a : Int)) = ((max a b : Nat) : Int) := by
  split <;> omega
theorem sc_let_in : FnScope N_let_in ["channel", "spreads", "k"] (defScope s_let_in) := ⟨rfl, rfl, rfl, by decide +kernel, rfl, by decide +kernel, by decide +kernel⟩
theorem ok_let_in (T : TX K mg) : FOk P w K mg base CX0 7 (He.ga K "let_in") ["channel", "spreads", "k"] (sp_let_in K) := by
  obtain ⟨fd, F⟩ := T.f_let_in
  obtain ⟨fd0, G0, b0⟩ := ok_let_at (P := P) (w := w) (base := base) T
  refine ⟨fd, F.ok sc_let_in (fun _ _ _ _ h => h.1) (fun cdv A outer s H vs Q E hr h => ?_), F.binds fun _ _ _ _ _ _ us hl => match us, hl with | [_, _, _], _ => rfl⟩
  have hr0 := hr.mono (by decide : 6 ≤ 6)
  refine ⟨_, PSs.nox (pss_cons (ps_set (i := 3) sc_let_in.nd rfl (.inl rfl) (pe_call G0 hr0 (by rfl) T.g_let_at T.k_let_at b0 .nil pass0 (pa_cons (pv 0) (pa_cons (pe_ix ix_list (pv 1) (pe_op op_mulW pe_int (pv 2)) (fun _ _ => rfl)) (pa_cons (pv 1) pa_nil)))))
    (pss_cons (ps_set (i := 4) sc_let_in.nd rfl (.inl rfl) (pe_call G0 hr0 (by rfl) T.g_let_at T.k_let_at b0 .nil pass0 (pa_cons (pv 0) (pa_cons (pe_ix ix_list (pv 1) (pe_op op_add (pe_op op_mulW pe_int (pv 2)) pe_int) (fun _ _ => rfl)) (pa_cons (pv 1) pa_nil)))))
    (pss_one (ps_ret (pe_tup (pa_cons (pe_callB (call_min2 rfl) (by rfl) T.n_min (by decide +kernel) (pa_cons (pe_ix ix_tup (pv 3) pe_int (fun _ _ => rfl)) (pa_cons (pe_ix ix_tup (pv 4) pe_int (fun _ _ => rfl)) pa_nil))) (pa_cons (pe_callB (call_max2 rfl) (by rfl) T.n_max (by decide +kernel) (pa_cons (pe_ix ix_tup (pv 3) pe_int (fun _ _ => rfl)) (pa_cons (pe_ix ix_tup (pv 4) pe_int (fun _ _ => rfl)) pa_nil))) pa_nil))))))), ?_⟩
  obtain ⟨_, h⟩ := h
  obtain ⟨v, u, g, k, c, rfl, hin, hk, q⟩ := h
  obtain ⟨sa, vs, rfl, hl, hv⟩ := id hin.sp
  have g12 := hin.g12
  obtain ⟨x0, h0, s0⟩ := paired_at hv (endsQ_at g c hk).1
  obtain ⟨x1, h1, s1⟩ := paired_at hv (endsQ_at g c hk).2
  have wd : CMulW 2 (k : Int) := wide_mul (a := 3) (b := 10) (by decide) (n_abs (show k < 2 ^ 10 by omega)) (by decide) (by decide) (by decide)
  refine ⟨_, rfl, _, rfl, _, rfl, _, _, rfl, rfl, wd, sa, _, _, x0, rfl, rfl, SqL.of hl, at_of (show (2 : Int) * (k : Int) = ((2 * k : Nat) : Int) by omega) h0, _, rfl, rfl, v, x0, .ref sa, g, c, _, rfl, hin, s0, hin.pr _ (List.mem_of_getElem? (endsQ_at g c hk).1), fun v1 H1 e1 q1 => ?_⟩
  refine ⟨_, rfl, _, rfl, _, rfl, _, _, rfl, rfl, wd, _, _, rfl, rfl, sa, _, _, x1, rfl, rfl, SqL.of (e1 _ _ hl), at_of (show (2 : Int) * (k : Int) + 1 = ((2 * k + 1 : Nat) : Int) by omega) h1, _, rfl, rfl, v, x1, .ref sa, g, c, _, rfl, hin.same e1, s1.same e1, hin.pr _ (List.mem_of_getElem? (endsQ_at g c hk).2), fun v2 H2 e2 q2 => ?_⟩
  replace q1 := q1.same e2
  obtain ⟨a1, rfl, q1⟩ := q1
  obtain ⟨a2, rfl, q2⟩ := q2
  refine ⟨_, rfl, a1, _, _, _, rfl, rfl, SqT.of q1, at0, _, rfl, a2, _, _, _, rfl, rfl, SqT.of q2, at0, _, _, rfl, ?_⟩
  refine ⟨_, rfl, a1, _, _, _, rfl, rfl, SqT.of q1, at1, _, rfl, a2, _, _, _, rfl, rfl, SqT.of q2, at1, _, _, rfl, ?_⟩
  refine ⟨by show 2 ≤ sizeLine; decide, fun B nB => q _ _ ((e1.trans e2).trans (Same.new nB)) ⟨B, rfl, ?_⟩⟩
  rw [upd_same]
  show some (HO.tup [V.int (if (((Vbkdai.letAt g c (Vbkdai.chanceAt g c k 1)).1 : Nat) : Int) < (((Vbkdai.letAt g c (Vbkdai.chanceAt g c k 0)).1 : Nat) : Int) then (((Vbkdai.letAt g c (Vbkdai.chanceAt g c k 1)).1 : Nat) : Int) else (((Vbkdai.letAt g c (Vbkdai.chanceAt g c k 0)).1 : Nat) : Int)),
    V.int (if (((Vbkdai.letAt g c (Vbkdai.chanceAt g c k 1)).2 : Nat) : Int) > (((Vbkdai.letAt g c (Vbkdai.chanceAt g c k 0)).2 : Nat) : Int) then (((Vbkdai.letAt g c (Vbkdai.chanceAt g c k 1)).2 : Nat) : Int) else (((Vbkdai.letAt g c (Vbkdai.chanceAt g c k 0)).2 : Nat) : Int))]) = _
  rw [min_if, max_if]
  rfl
theorem sc_part_let : FnScope N_part_let ["plan", "channel", "k"] (defScope s_part_let) := ⟨rfl, rfl, rfl, by decide +kernel, rfl, by decide +kernel, by decide +kernel⟩
theorem ok_part_let (T : TX K mg) : FOk P w K mg base CX0 8 (He.ga K "part_let") ["plan", "channel", "k"] (sp_part_let K) := by
  obtain ⟨fd, F⟩ := T.f_part_let
  obtain ⟨fd0, G0, b0⟩ := ok_ends_of (P := P) (w := w) (base := base) T
  obtain ⟨fd1, G1, b1⟩ := ok_let_in (P := P) (w := w) (base := base) T
  refine ⟨fd, F.ok sc_part_let (fun _ _ _ _ h => h.1) (fun cdv A outer s H vs Q E hr h => ?_), F.binds fun _ _ _ _ _ _ us hl => match us, hl with | [_, _, _], _ => rfl⟩
  have hr0 := hr.mono (by decide : 7 ≤ 7)
  have hr1 := hr.mono (by decide : 7 ≤ 7)
  refine ⟨_, PSs.nox (pss_one (ps_ret (pe_call G1 hr1 (by rfl) T.g_let_in T.k_let_in b1 .nil pass0 (pa_cons (pv 1) (pa_cons (pe_call G0 hr0 (by rfl) T.g_ends_of T.k_ends_of b0 .nil pass0 (pa_cons (pv 0) (pa_cons (pv 1) pa_nil))) (pa_cons (pv 2) pa_nil)))))), ?_⟩
  obtain ⟨_, h⟩ := h
  obtain ⟨pl, c, v1, v2, k, rfl, hp, hc, ok, g12, hk, q⟩ := h
  refine ⟨_, rfl, _, rfl, _, rfl, rfl, pl, c, v1, v2, rfl, hp, hc, ok, g12, fun v H1 e1 h1 => ?_⟩
  exact ⟨_, rfl, rfl, v2, v, pl.parts, k, c, rfl, ⟨hc.same e1, h1, ok, g12⟩, hk, fun u H2 e2 h2 => q _ _ (e1.trans e2) h2⟩
theorem sc_belt_of : FnScope N_belt_of ["plan", "channel"] (defScope s_belt_of) := ⟨rfl, rfl, rfl, by decide +kernel, rfl, by decide +kernel, by decide +kernel⟩
theorem ok_belt_of (T : TX K mg) : FOk P w K mg base CX0 8 (He.ga K "belt_of") ["plan", "channel"] (sp_belt_of K) := by
  obtain ⟨fd, F⟩ := T.f_belt_of
  obtain ⟨fd0, G0, b0⟩ := ok_ends_of (P := P) (w := w) (base := base) T
  obtain ⟨fd1, G1, b1⟩ := ok_let_in (P := P) (w := w) (base := base) T
  refine ⟨fd, F.ok sc_belt_of (fun _ _ _ _ h => h.1) (fun cdv A outer s H vs Q E hr h => ?_), F.binds fun _ _ _ _ _ _ us hl => match us, hl with | [_, _], _ => rfl⟩
  have hr0 := hr.mono (by decide : 7 ≤ 7)
  have hr1 := hr.mono (by decide : 7 ≤ 7)
  refine ⟨_, PSs.nox (pss_cons (ps_set (i := 2) sc_belt_of.nd rfl (.inr rfl) (pe_call G0 hr0 (by rfl) T.g_ends_of T.k_ends_of b0 .nil pass0 (pa_cons (pv 0) (pa_cons (pv 1) pa_nil))))
    (pss_one (ps_ret (pe_lc (g := (gName 3)) (own := [("k", 3)]) (by rfl) sc_belt_of.nd (pi_range1 (by rfl) T.n_range (pa_cons (pe_fld (pv 0) rfl) pa_nil)) (blkOk_by (own := [("k", 3)]) (N := N_belt_of) (sc := defScope s_belt_of) (by decide +kernel)) (fun _ _ _ _ _ => by exact (pg_name (i := 3) sc_belt_of.nd rfl (.inl rfl))) (fun _ _ _ _ _ => by exact pts_nil) (fun _ _ _ _ _ => by exact (pe_call G1 hr1 (by rfl) T.g_let_in T.k_let_in b1 .nil pass0 (pa_cons (pv 1) (pa_cons (pv 2) (pa_cons (pv 3) pa_nil))))))))), ?_⟩
  obtain ⟨_, h⟩ := h
  obtain ⟨pl, c, v1, v2, rfl, hp, hc, ok, g12, q⟩ := h
  obtain ⟨a, dx, l, ws, rfl, ha, _⟩ := id hp
  refine ⟨_, rfl, _, rfl, rfl, pl, c, .ref a, v2, rfl, hp, hc, ok, g12, fun v H1 e1 h1 => ?_⟩
  refine ⟨_, rfl, a, _, dx, _, _, rfl, e1 _ _ ha, T.cl_Plan, T.na_Plan_parts, L_Plan_parts, (pl.parts : Int), rfl, by omega, by omega, fun D nD => lc_r0 (n := pl.parts)
    (fun i H' => Same H1 H' ∧ ∃ vs, H' D = some (.lst vs) ∧ Paired (PAt (del H' D)) vs ((List.range i).map (Vbkdai.letIn pl.parts c))) ⟨Same.new nD, [], upd_same, .nil⟩ ?_ ?_⟩
  · rintro i H' hi ⟨e, vs, hD, hv⟩
    refine ⟨rfl, ?_⟩
    refine ⟨_, rfl, _, rfl, _, rfl, rfl, v2, v, pl.parts, i, c, rfl, ⟨hc.same (e1.trans e), h1.same e, ok, g12⟩, hi, fun u H2 e2 h2 => ?_⟩
    refine ⟨vs, e2 _ _ hD, by rw [paired_map_len hv, List.length_range]; exact small1000 (by omega), (e.trans e2).mut nD, vs ++ [u], upd_same, ?_⟩
    rw [del_upd, List.range_succ, List.map_append]
    exact paired_app (paired_imp (fun v q z => z.same (Same_del e2)) hv) (.cons (h2.off (e2 _ _ hD)) .nil)
  · rintro H' ⟨e, vs, hD, hv⟩
    exact q _ _ (e1.trans e) ⟨D, vs, rfl, hD, paired_imp (fun v q z => z.same same_del) hv⟩
theorem sc_parts_left : FnScope N_parts_left ["belt", "n"] (defScope s_parts_left) := ⟨rfl, rfl, rfl, by decide +kernel, rfl, by decide +kernel, by decide +kernel⟩
theorem ok_parts_left (T : TX K mg) : FOk P w K mg base CX0 1 (He.ga K "parts_left") ["belt", "n"] (sp_parts_left K) := by
  obtain ⟨fd, F⟩ := T.f_parts_left
  refine ⟨fd, F.ok sc_parts_left (fun _ _ _ _ h => h.1) (fun cdv A outer s H vs Q E hr h => ?_), F.binds fun _ _ _ _ _ _ us hl => match us, hl with | [_, _], _ => rfl⟩
  refine ⟨_, PSs.nox (pss_one (ps_ret (pe_lc (g := (gTup K 2 (gCons (gName 2) (gCons (gTup K 2 (gCons (gName 3) (gCons (gName 4) gNil))) gNil)))) (own := [("k", 2), ("low", 3), ("high", 4)]) (by rfl) sc_parts_left.nd (pi_enum (by rfl) T.n_enumerate (pa_cons (pv 0) pa_nil)) (blkOk_by (own := [("k", 2), ("low", 3), ("high", 4)]) (N := N_parts_left) (sc := defScope s_parts_left) (by decide +kernel)) (fun _ _ _ _ _ => by exact (pg_tup (by rfl) (pgs_cons (pg_name (i := 2) sc_parts_left.nd rfl (.inl rfl)) (pgs_cons (pg_tup (by rfl) (pgs_cons (pg_name (i := 3) sc_parts_left.nd rfl (.inl rfl)) (pgs_cons (pg_name (i := 4) sc_parts_left.nd rfl (.inl rfl)) pgs_nil))) pgs_nil)))) (fun _ _ _ _ _ => by exact (pts_one (pt_chain op_le op_le (pv 3) (pv 1) (pv 4)))) (fun _ _ _ _ _ => by exact (pv 2))))), ?_⟩
  obtain ⟨_, h⟩ := h
  obtain ⟨v, n, b, rfl, ⟨a, vs, rfl, ha, hv⟩, hb, q⟩ := h
  have lb := paired_len hv
  refine ⟨_, rfl, a, vs, rfl, SqL.of ha, fun D nD => lc_it walk_enum
    (fun i H' => Same H H' ∧ H' D = some (.lst ((nI ((List.range i).filter fun k => Vbkdai.isLet (b.getD k (0, 0)) n)).map V.int))) ⟨Same.new nD, upd_same⟩ (fun i H' _ ⟨e, _⟩ => SqL.of (e _ _ ha)) ?_ ?_⟩
  · rintro i x H1 H2 hi ⟨e, hD⟩ ⟨A2, x1, y1, rfl, nA, rfl, ex, ey⟩
    cases ex
    obtain ⟨y, hy, a1, rfl, h1⟩ := paired_at' hv ey
    have e1 : Same H1 (upd H1 A2 (.tup [.int (i : Nat), .ref a1])) := Same.new nA
    refine ⟨A2, _, rfl, SqT.of upd_same, rfl, _, _, rfl, _, _, rfl, a1, _, rfl, SqT.of (e1 _ _ (e _ _ h1)), rfl, _, _, rfl, _, _, rfl, rfl, rfl, rfl, ?_⟩
    have egd : b.getD i (0, 0) = y := by rw [List.getD_eq_getElem?_getD, hy]; rfl
    have il : i < vs.length := by
      have := (List.getElem?_eq_some_iff.mp ey).1
      exact this
    refine ⟨_, rfl, _, rfl, _, _, rfl, rfl, _, rfl, ?_⟩
    have keep : Vbkdai.isLet (b.getD i (0, 0)) n = true → ∃ acc, (upd H1 A2 (.tup [.int (i : Nat), .ref a1])) D = some (.lst acc) ∧ acc.length < sizeLine ∧ (Same H (upd (upd H1 A2 (.tup [.int (i : Nat), .ref a1])) D (.lst (acc ++ [.int (i : Nat)]))) ∧
        (upd (upd H1 A2 (.tup [.int (i : Nat), .ref a1])) D (.lst (acc ++ [.int (i : Nat)]))) D = some (.lst ((nI ((List.range (i + 1)).filter fun k => Vbkdai.isLet (b.getD k (0, 0)) n)).map V.int))) := fun c => by
      refine ⟨_, e1 _ _ hD, ?_, (e.trans e1).mut nD, ?_⟩
      · rw [nI_len]
        exact small1000 (Nat.le_trans filter_len (by omega))
      · rw [upd_same, filter_more, if_pos c, nI_snoc]
    have drop : ¬ Vbkdai.isLet (b.getD i (0, 0)) n = true → (Same H (upd H1 A2 (.tup [.int (i : Nat), .ref a1])) ∧ (upd H1 A2 (.tup [.int (i : Nat), .ref a1])) D = some (.lst ((nI ((List.range (i + 1)).filter fun k => Vbkdai.isLet (b.getD k (0, 0)) n)).map V.int))) := fun c => by
      refine ⟨e.trans e1, ?_⟩
      rw [e1 _ _ hD, filter_more, if_neg c, List.append_nil]
    rw [egd] at keep drop
    refine ite2 (fun c => ?_) (fun c => ?_)
    · have c1 : y.1 ≤ n := by
        have : ((y.1 : Nat) : Int) ≤ (n : Int) := of_decide_eq_true c
        omega
      refine ⟨_, rfl, _, _, rfl, rfl, _, rfl, ?_⟩
      refine ite2 (fun c => ?_) (fun c => ?_)
      · have c2 : n ≤ y.2 := by
          have : (n : Int) ≤ ((y.2 : Nat) : Int) := of_decide_eq_true c
          omega
        exact ⟨_, rfl, keep (by unfold Vbkdai.isLet; simp [c1, c2])⟩
      · have c2 : ¬ n ≤ y.2 := fun z => c (decide_eq_true (by
          show (n : Int) ≤ ((y.2 : Nat) : Int)
          omega))
        exact drop (by unfold Vbkdai.isLet; simp [c2])
    · have c1 : ¬ y.1 ≤ n := fun z => c (decide_eq_true (by
        show ((y.1 : Nat) : Int) ≤ (n : Int)
        omega))
      exact ⟨_, rfl, drop (by unfold Vbkdai.isLet; simp [c1])⟩
  · rintro H' ⟨e, hD⟩
    refine q _ _ e ⟨D, rfl, ?_⟩
    rw [hD, lb]
    rfl
end
end Bc


-- end of a part
set_option Elab.async false
set_option linter.all false
set_option maxRecDepth 100000
set_option maxHeartbeats 4000000
set_option exponentiation.threshold 100000
/-! # words -/
namespace Bc
open PySem PySem.Spec PyProof.Rows L2
theorem SameBut.refl {a : Addr} {H : Hp} : SameBut a H H := fun _ _ _ h => h
theorem SameBut.trans {a : Addr} {H H1 H2 : Hp} (x : SameBut a H H1) (y : SameBut a H1 H2) : SameBut a H H2 := fun b o n h => y b o n (x b o n h)
theorem _root_.L2.Same.but {a : Addr} {H H' : Hp} (e : Same H H') : SameBut a H H' := fun b o _ h => e b o h
theorem SameBut.upd {a : Addr} {H : Hp} {x : HO} : SameBut a H (upd H a x) := fun b o n h => by rw [upd_ne n]; exact h
theorem SameBut.new {a : Addr} {H0 H H' : Hp} (e : SameBut a H H') (s : Same H0 H) (h : H0 a = none) : Same H0 H' := fun b o q => e b o (ne_of_none q h) (s b o q)
/-! ### faults -/
def fltF (k p : Nat) : List (Str × V) := [("place", .int (p : Int)), ("kind", .int (k : Int))]
/-- a fault raised, all but the line at a as it stood -/
def FltB (K : PySem.W.Frag) (a : Addr) (H : Hp) (E : XK) (k p : Nat) : Prop := ∀ d H', SameBut a H H' → H' d = some (.xd (fltF k p)) → E (.ref (He.ga K "Fault")) (some d) H'
/-- what a def answers that may raise a fault -/
def Ans {α : Type} (K : PySem.W.Frag) (a : Addr) (H : Hp) (Q : VK) (E : XK) (x : Except VbkdCore.Fault α) (R : α → V → Hp → Prop) : Prop :=
  (∀ f, x = .error f → FltB K a H E f.kind f.place) ∧ ∀ y, x = .ok y → ∀ v H', SameBut a H H' → R y v H' → Q v H'
theorem FltB.pre {K : PySem.W.Frag} {a : Addr} {H H' : Hp} {E : XK} {k p : Nat} (h : FltB K a H E k p) (e : SameBut a H H') : FltB K a H' E k p := fun d H2 e2 => h d H2 (e.trans e2)
def sp_Fault_init (K : PySem.W.Frag) : Sp := mkSp 3 fun vs H Q _ => ∃ (a : Addr) (k p : Nat), vs = [.ref a, .int k, .int p] ∧ H a = some (exo a (He.ga K "Fault") none) ∧
  ∀ dx H', H dx = none → dx ≠ a → (∀ b, b ≠ a → b ≠ dx → H' b = H b) → H' a = some (exo a (He.ga K "Fault") (some dx)) → H' dx = some (exd dx (fltF k p)) → Q .non H'
theorem raise_fault {K : PySem.W.Frag} {H1 : Hp} {k p : Nat} {Q : XK} (h : ∀ d H', Same H1 H' → H' d = some (.xd (fltF k p)) → Q (.ref (He.ga K "Fault")) (some d) H') :
    ([V.int (k : Int), V.int (p : Int)]).length ≤ 1000 ∧ ∀ a, H1 a = none → sp_Fault_init K (.ref a :: ([V.int (k : Int), V.int (p : Int)] ++ [])) (upd H1 a (exo a (He.ga K "Fault") none))
      (fun v H2 => v = .non ∧ ∃ (d : Addr) (fs : List (Str × V)), H2 a = some (exo a (He.ga K "Fault") (some d)) ∧ H2 d = some (exd d fs) ∧ H1 d = none ∧ Q (.ref (He.ga K "Fault")) (some d) (upd (del H2 a) d (.xd fs))) (fun _ _ _ => False) := by
  refine ⟨by show 2 ≤ 1000; decide, fun a na => ⟨rfl, a, k, p, rfl, upd_same, fun dx H' nd ne hb ha hd => ⟨rfl, dx, fltF k p, ha, hd, ?_, ?_⟩⟩⟩
  · rw [upd_ne ne] at nd
    exact nd
  · refine h dx _ (fun b o q => ?_) upd_same
    have ba : b ≠ a := ne_of_none q na
    have bd : b ≠ dx := ne_of_none q (by rw [upd_ne ne] at nd; exact nd)
    rw [upd_ne bd, del_ne ba, hb b ba bd, upd_ne ba]
    exact q
/-! ### lines -/
/-- a word: its place and its bytes -/
def WdAt (H : Hp) (v : V) (w : VbkdCore.Word) : Prop := ∃ t u, v = .ref t ∧ H t = some (.tup [.int ((w.1 : Nat) : Int), u]) ∧ InAt H u (nI w.2)
theorem WdAt.same {H H' : Hp} {v : V} {w : VbkdCore.Word} (h : WdAt H v w) (e : Same H H') : WdAt H' v w := let ⟨t, u, x, y, z⟩ := h; ⟨t, u, x, e _ _ y, z.same e⟩
theorem InAt.but {H H' : Hp} {v : V} {ns : List Int} {a C dx : Addr} {fs : List (Str × V)} (h : InAt H v ns) (e : SameBut a H H') (ha : H a = some (.ins C dx fs)) : InAt H' v ns :=
  let ⟨b, x, y⟩ := h; ⟨b, x, e _ _ (ne_of y ha (by intro z; cases z)) y⟩
theorem WdAt.but {H H' : Hp} {v : V} {w : VbkdCore.Word} {a C dx : Addr} {fs : List (Str × V)} (h : WdAt H v w) (e : SameBut a H H') (ha : H a = some (.ins C dx fs)) : WdAt H' v w :=
  let ⟨t, u, x, y, z⟩ := h; ⟨t, u, x, e _ _ (ne_of y ha (by intro z; cases z)) y, z.but e ha⟩
/-- a line at a: what words are left, where it ends -/
def LnAt (K : PySem.W.Frag) (H : Hp) (a : Addr) (r : List VbkdCore.Word) (e : Nat) : Prop := ∃ dx wl vs ws i, H a = some (.ins (He.ga K "Line") dx (F_Line (.ref wl) (.int (e : Int)) (.int ((i : Nat) : Int)))) ∧ H wl = some (.lst vs) ∧ Paired (WdAt H) vs ws ∧ i ≤ ws.length ∧ ws.length ≤ 1000 ∧ r = ws.drop i
theorem LnAt.same {K : PySem.W.Frag} {H H' : Hp} {a : Addr} {r : List VbkdCore.Word} {e : Nat} (h : LnAt K H a r e) (s : Same H H') : LnAt K H' a r e :=
  let ⟨dx, wl, vs, ws, i, x, y, z, u⟩ := h; ⟨dx, wl, vs, ws, i, s _ _ x, s _ _ y, paired_imp (fun _ _ q => q.same s) z, u⟩
def sp_Line_init (K : PySem.W.Frag) : Sp := mkSp 3 fun vs H Q _ => ∃ (a dx : Addr) (v u : V), vs = [.ref a, v, u] ∧ H a = some (.ins (He.ga K "Line") dx []) ∧ Q .non (upd H a (.ins (He.ga K "Line") dx (F_Line v u (.int 0))))
def sp_Line_is_at_end (K : PySem.W.Frag) : Sp := mkSp 1 fun vs H Q _ => ∃ (a : Addr) (r : List VbkdCore.Word) (e : Nat), vs = [.ref a] ∧ LnAt K H a r e ∧ Q (.bl r.isEmpty) H
def sp_Line_take (K : PySem.W.Frag) : Sp := mkSp 1 fun vs H Q E => ∃ (a : Addr) (r : List VbkdCore.Word) (e : Nat), vs = [.ref a] ∧ LnAt K H a r e ∧ Ans K a H Q E (Vbkdai.next e r) fun y v H' => WdAt H' v y.1 ∧ LnAt K H' a y.2 e
def isWord (x : Str) : List VbkdCore.Word → Bool
  | [] => false
  | w :: _ => decide (w.2 = x.cps.toList)
def sp_Line_is_next (K : PySem.W.Frag) : Sp := mkSp 2 fun vs H Q _ => ∃ (a : Addr) (r : List VbkdCore.Word) (e : Nat) (x : Str), vs = [.ref a, .str x] ∧ LnAt K H a r e ∧ x.cps.size ≤ 100 ∧ ∀ H', Same H H' → Q (.bl (isWord x r)) H'
def keyX (x : Str) (e : Nat) (l : List VbkdCore.Word) : Except VbkdCore.Fault (List VbkdCore.Word) := (Vbkdai.next e l).bind fun y => if y.1.2 = x.cps.toList then .ok y.2 else .error ⟨1, y.1.1⟩
def sp_Line_take_word (K : PySem.W.Frag) : Sp := mkSp 2 fun vs H Q E => ∃ (a : Addr) (r : List VbkdCore.Word) (e : Nat) (x : Str), vs = [.ref a, .str x] ∧ LnAt K H a r e ∧ x.cps.size ≤ 100 ∧ Ans K a H Q E (keyX x e r) fun y v H' => LnAt K H' a y e
def sp_Line_finish (K : PySem.W.Frag) : Sp := mkSp 1 fun vs H Q E => ∃ (a : Addr) (r : List VbkdCore.Word) (e : Nat), vs = [.ref a] ∧ LnAt K H a r e ∧ Ans K a H Q E (Vbkdai.noMore () r) fun _ _ _ => True
def sp_bytes_of (K : PySem.W.Frag) : Sp := mkSp 1 fun vs H Q _ => ∃ x : Str, vs = [.str x] ∧ x.cps.size ≤ 2000 ∧ Ret H Q fun v H' => InAt H' v (nI x.cps.toList)
theorem TX.ve_init {K : PySem.W.Frag} {mg : Str → Option Value} (T : TX K mg) : PySem.W.findCls K (.type "ValueError") (.type "type") "__init__" = some (.val (.builtin "ValueError.__init__")) := by kernel_rfl
section
variable {P : Program} {w : World} {K : PySem.W.Frag} {mg : Str → Option Value} {base : Heap}
theorem sc_Fault_init : FnScope N_Fault_init ["self", "kind", "place"] (defScope s_Fault_init) := ⟨rfl, rfl, rfl, by decide +kernel, rfl, by decide +kernel, by decide +kernel⟩
theorem ok_Fault_init (T : TX K mg) : FOk P w K mg base CX0 1 (He.ma K (He.ga K "Fault") "__init__") ["self", "kind", "place"] (sp_Fault_init K) := by
  obtain ⟨fd, F⟩ := T.f_Fault_init
  refine ⟨fd, F.ok sc_Fault_init (fun _ _ _ _ h => h.1) (fun cdv A outer s H vs Q E hr h => ?_), F.binds fun _ _ _ _ _ _ us hl => match us, hl with | [_, _, _], _ => rfl⟩
  refine ⟨_, PSs.nox (pss_cons (ps_expr (pe_veinit (by rfl) T.n_ValueError T.ve_init (pa_cons (pv 0) (pa_cons pe_str pa_nil))))
    (pss_cons (ps_ost (pv 0) (pv 1))
    (pss_one (ps_ost (pv 0) (pv 2))))), ?_⟩
  obtain ⟨_, h⟩ := h
  obtain ⟨a, k, p, rfl, ha, q⟩ := h
  refine ⟨_, rfl, a, _, _, rfl, by show 1 ≤ 1000; decide, T.ox_Fault, ha, ?_⟩
  refine ⟨_, rfl, _, rfl, a, _, rfl, T.ox_Fault, T.na_Fault_kind, .inl ⟨ha, fun dx nd ne => ?_⟩⟩
  refine ⟨_, rfl, _, rfl, a, _, rfl, T.ox_Fault, T.na_Fault_place, .inr ⟨dx, _, upd_same, by rw [upd_ne ne, upd_same], by show 1 ≤ 900; decide, ?_⟩⟩
  refine q dx _ nd ne (fun b b1 b2 => ?_) ?_ upd_same
  · rw [upd_ne b2, upd_ne b1, upd_ne b2]
  · rw [upd_ne (Ne.symm ne), upd_same]
theorem sc_Line_init : FnScope N_Line_init ["self", "words", "end"] (defScope s_Line_init) := ⟨rfl, rfl, rfl, by decide +kernel, rfl, by decide +kernel, by decide +kernel⟩
theorem ok_Line_init (T : TX K mg) : FOk P w K mg base CX0 1 (He.ma K (He.ga K "Line") "__init__") ["self", "words", "end"] (sp_Line_init K) := by
  obtain ⟨fd, F⟩ := T.f_Line_init
  refine ⟨fd, F.ok sc_Line_init (fun _ _ _ _ h => h.1) (fun cdv A outer s H vs Q E hr h => ?_), F.binds fun _ _ _ _ _ _ us hl => match us, hl with | [_, _, _], _ => rfl⟩
  refine ⟨_, PSs.nox (pss_cons (ps_fld (pv 0) (pv 1) rfl)
    (pss_cons (ps_fld (pv 0) (pv 2) rfl)
    (pss_one (ps_fld (pv 0) pe_int rfl)))), ?_⟩
  obtain ⟨_, h⟩ := h
  obtain ⟨a, dx, v, u, rfl, ha, q⟩ := h
  refine ⟨_, rfl, _, rfl, a, _, dx, _, rfl, ha, T.cl_Line, T.na_Line_words, by show 0 < 1000; decide, ?_⟩
  refine ⟨_, rfl, _, rfl, a, _, dx, _, rfl, upd_same, T.cl_Line, T.na_Line_end, by show 1 < 1000; decide, ?_⟩
  refine ⟨_, rfl, a, _, dx, _, rfl, upd_same, T.cl_Line, T.na_Line_at, by show 2 < 1000; decide, ?_⟩
  rw [upd_upd, upd_upd, M_Line]
  exact q
theorem sc_Line_is_at_end : FnScope N_Line_is_at_end ["self"] (defScope s_Line_is_at_end) := ⟨rfl, rfl, rfl, by decide +kernel, rfl, by decide +kernel, by decide +kernel⟩
theorem ok_Line_is_at_end (T : TX K mg) : FOk P w K mg base CX0 1 (He.ma K (He.ga K "Line") "is_at_end") ["self"] (sp_Line_is_at_end K) := by
  obtain ⟨fd, F⟩ := T.f_Line_is_at_end
  refine ⟨fd, F.ok sc_Line_is_at_end (fun _ _ _ _ h => h.1) (fun cdv A outer s H vs Q E hr h => ?_), F.binds fun _ _ _ _ _ _ us hl => match us, hl with | [_], _ => rfl⟩
  refine ⟨_, PSs.nox (pss_one (ps_ret (pe_cmpR op_eq (pe_fld (pv 0) rfl) (pe_callB call_len_seq (by rfl) T.n_len (by decide +kernel) (pa_cons (pe_fld (pv 0) rfl) pa_nil)) (by rfl)))), ?_⟩
  obtain ⟨_, h⟩ := h
  obtain ⟨a, r, e, rfl, ⟨dx, wl, vs, ws, i, h1, h2, h3, h4, h5, rfl⟩, q⟩ := h
  refine ⟨_, rfl, a, _, dx, _, _, rfl, h1, T.cl_Line, T.na_Line_at, L_Line_at, _, rfl, a, _, dx, _, _, rfl, h1, T.cl_Line, T.na_Line_words, L_Line_words, wl, vs, rfl, .inl (SqL.of h2), rfl, ?_⟩
  have e : (List.drop i ws).isEmpty = decide (V.int (i : Int) = V.int (vs.length : Int)) := by
    rw [paired_len h3]
    by_cases c : i = ws.length
    · rw [decide_eq_true (by rw [c]), c, List.drop_length]
      rfl
    · rw [decide_eq_false (fun z => c (by have := V.int.inj z; omega))]
      cases e2 : List.drop i ws with
      | nil => exact absurd (List.drop_eq_nil_iff.mp e2) (by omega)
      | cons _ _ => rfl
  rw [e] at q
  exact q
theorem next_none {e : Nat} : Vbkdai.next e [] = .error ⟨1, e⟩ := rfl
theorem next_some {e : Nat} {w : VbkdCore.Word} {r : List VbkdCore.Word} : Vbkdai.next e (w :: r) = .ok (w, r) := rfl
theorem sc_Line_take : FnScope N_Line_take ["self"] (defScope s_Line_take) := ⟨rfl, rfl, rfl, by decide +kernel, rfl, by decide +kernel, by decide +kernel⟩
theorem ok_Line_take (T : TX K mg) : FOk P w K mg base (L2N.CX P w) 3 (He.ma K (He.ga K "Line") "take") ["self"] (sp_Line_take K) := by
  obtain ⟨fd, F⟩ := T.f_Line_take
  obtain ⟨fd0, G0, b0⟩ := ok_Line_is_at_end (P := P) (w := w) (base := base) T
  obtain ⟨fd1, G1, b1⟩ := ok_Fault_init (P := P) (w := w) (base := base) T
  refine ⟨fd, F.okN sc_Line_take (fun _ _ _ _ h => h.1) (fun cdv A outer s H vs Q E hr h => ?_), F.binds fun _ _ _ _ _ _ us hl => match us, hl with | [_], _ => rfl⟩
  have hr0 := hr.mono (by decide : 1 ≤ 2)
  have hr1 := hr.mono (by decide : 2 ≤ 2)
  refine ⟨_, (pss_cons (ps_if (pt_val (pe_meth0 (pv 0) T.cl_Line T.m_Line_is_at_end G0 hr0 b0 .nil pass0)) (pss_one (L2N.ps_raise rfl (L2N.takes_of rfl rfl rfl rfl) (L2N.pmk_oexN T.ox_Fault T.i_Fault T.t_Fault G1 hr1 b1 .nil pass0 (by rfl) T.g_Fault (pa_cons (C8.pe_gc (by rfl) T.c_LACKS) (pa_cons (pe_fld (pv 0) rfl) pa_nil))))) pss_nil)
    (pss_cons (ps_fld (pv 0) (pe_op op_add (pe_fld (pv 0) rfl) pe_int) rfl)
    (pss_one (ps_ret (pe_ix ix_list (pe_fld (pv 0) rfl) (pe_op op_sub (pe_fld (pv 0) rfl) pe_int) (fun _ _ => rfl)))))), ?_⟩
  obtain ⟨_, h⟩ := h
  obtain ⟨a, r, e, rfl, hl, qe, q⟩ := h
  have hl0 := hl
  obtain ⟨dx, wl, vs, ws, i, h1, h2, h3, h4, h5, rfl⟩ := hl
  refine ⟨_, rfl, a, dx, _, rfl, h1, L_Line_is_at_end, rfl, a, _, e, rfl, hl0, _, rfl, ?_⟩
  by_cases c : i = ws.length
  · subst c
    rw [List.drop_length] at qe q ⊢
    refine iteT ?_
    refine ⟨_, rfl, a, _, dx, _, _, rfl, h1, T.cl_Line, T.na_Line_end, L_Line_end, ?_⟩
    exact raise_fault (k := 1) fun d H' s hd => qe _ next_none d H' s.but hd
  · have hi : i < ws.length := by omega
    have ed : ws.drop i = ws[i] :: ws.drop (i + 1) := List.drop_eq_getElem_cons hi
    rw [ed] at qe q ⊢
    refine iteF ?_
    obtain ⟨x, hx, hw⟩ := paired_at h3 (List.getElem?_eq_getElem hi)
    refine ⟨_, rfl, a, _, dx, _, _, rfl, h1, T.cl_Line, T.na_Line_at, L_Line_at, _, _, rfl, rfl, _, rfl, a, _, dx, _, rfl, h1, T.cl_Line, T.na_Line_at, by show 3 < 1000; decide, ?_⟩
    rw [P_Line_at]
    have k : SameBut a H (upd H a (.ins (He.ga K "Line") dx (F_Line (.ref wl) (.int (e : Int)) (.int ((i : Int) + 1))))) := SameBut.upd
    have wa : wl ≠ a := ne_of h2 h1 (by intro z; cases z)
    refine ⟨_, rfl, a, _, dx, _, _, rfl, upd_same, T.cl_Line, T.na_Line_words, L_Line_words, _, rfl, a, _, dx, _, _, rfl, upd_same, T.cl_Line, T.na_Line_at, L_Line_at, _, _, rfl, rfl, wl, _, _, x, rfl, rfl, SqL.of (k _ _ wa h2), at_of (show (i : Int) + 1 - 1 = (i : Int) by omega) hx, ?_⟩
    refine q _ next_some _ _ k ⟨hw.but k h1, ?_⟩
    exact ⟨dx, wl, vs, ws, i + 1, upd_same, k _ _ wa h2, paired_imp (fun _ _ z => z.but k h1) h3, by omega, h5, rfl⟩
/-! ### lists of whole numbers compared -/
theorem dp_all {K : PySem.W.Frag} {H : Hp} : ∀ ns : List Int, DpAll K H (ns.map V.int) (ns.map PyData.int)
  | [] => .nil
  | n :: r => .cons (.int n) (dp_all r)
theorem dp_ints {K : PySem.W.Frag} {H : Hp} {v : V} {ns : List Int} (h : InAt H v ns) : Dp K H v (.list (ns.map PyData.int)) := by
  obtain ⟨a, rfl, h⟩ := h
  exact .lst (SqL.of h) (dp_all ns)
theorem ints_lay : ∀ ns : List Int, PyData.canLayAll0 (ns.map PyData.int) = true
  | [] => rfl
  | n :: r => by
    rw [List.map_cons, PyData.canLayAll0, PyData.canLay0, ints_lay r]
    rfl
theorem ints_depth : ∀ ns : List Int, PyData.depthAll (ns.map PyData.int) = 0
  | [] => rfl
  | n :: r => by
    rw [List.map_cons, PyData.depthAll, PyData.depth, ints_depth r]
    rfl
theorem ints_shaped (ns : List Int) : SeqAt.shaped (.list (ns.map PyData.int)) = true := by
  unfold SeqAt.shaped
  rw [PyData.canLay0, ints_lay, PyData.depth, ints_depth]
  rfl
theorem ints_eqvAll : ∀ a b : List Int, PyData.eqvAll (a.map PyData.int) (b.map PyData.int) = decide (a = b)
  | [], [] => rfl
  | [], _ :: _ => rfl
  | _ :: _, [] => rfl
  | x :: a, y :: b => by
    rw [List.map_cons, List.map_cons, PyData.eqvAll, PyData.eqv, ints_eqvAll a b]
    by_cases h : x = y
    · subst h
      simp
    · simp [h]
theorem ints_eqv (a b : List Int) : PyData.eqv (.list (a.map PyData.int)) (.list (b.map PyData.int)) = decide (a = b) := by rw [PyData.eqv, ints_eqvAll]
theorem nI_inj {a b : List Nat} : nI a = nI b ↔ a = b := by
  refine ⟨fun h => ?_, fun h => by rw [h]⟩
  unfold nI at h
  exact (List.map_inj_right (fun x y e => by exact_mod_cast e)).mp h
theorem nats_eqv (a b : List Nat) : PyData.eqv (.list ((nI a).map PyData.int)) (.list ((nI b).map PyData.int)) = decide (a = b) := by
  rw [ints_eqv]
  exact decide_eq_decide.mpr nI_inj
theorem sc_bytes_of : FnScope N_bytes_of ["text"] (defScope s_bytes_of) := ⟨rfl, rfl, rfl, by decide +kernel, rfl, by decide +kernel, by decide +kernel⟩
theorem ok_bytes_of (T : TX K mg) : FOk P w K mg base CX0 1 (He.ga K "bytes_of") ["text"] (sp_bytes_of K) := by
  obtain ⟨fd, F⟩ := T.f_bytes_of
  refine ⟨fd, F.ok sc_bytes_of (fun _ _ _ _ h => h.1) (fun cdv A outer s H vs Q E hr h => ?_), F.binds fun _ _ _ _ _ _ us hl => match us, hl with | [_], _ => rfl⟩
  refine ⟨_, PSs.nox (pss_one (ps_ret (pe_lc (g := (gName 1)) (own := [("sign", 1)]) (by rfl) sc_bytes_of.nd (pi_str (pv 0)) (blkOk_by (own := [("sign", 1)]) (N := N_bytes_of) (sc := defScope s_bytes_of) (by decide +kernel)) (fun _ _ _ _ _ => by exact (pg_name (i := 1) sc_bytes_of.nd rfl (.inl rfl))) (fun _ _ _ _ _ => by exact pts_nil) (fun _ _ _ _ _ => by exact (pe_callB call_ord (by rfl) T.n_ord (by decide +kernel) (pa_cons (pv 1) pa_nil)))))), ?_⟩
  obtain ⟨_, h⟩ := h
  obtain ⟨x, rfl, hx, q⟩ := h
  refine ⟨_, rfl, x, rfl, fun D nD => lc_it walk_str
    (fun i H' => Same H H' ∧ H' D = some (.lst ((nI (x.cps.toList.take i)).map V.int))) ⟨Same.new nD, upd_same⟩ (fun _ _ _ _ => trivial) ?_ ?_⟩
  · rintro i v H1 H2 hi ⟨e, hD⟩ ⟨rfl, c, hc, rfl⟩
    have hc2 : x.cps.toList[i]? = some c := by rw [Array.getElem?_toList]; exact hc
    refine ⟨rfl, _, rfl, _, rfl, rfl, _, hD, ?_, e.mut nD, ?_⟩
    · rw [nI_len, List.length_take]
      exact Nat.lt_of_le_of_lt (Nat.min_le_left _ _) (Nat.lt_of_lt_of_le hi (Nat.le_trans hx (by show 2000 ≤ sizeLine; decide)))
    · rw [upd_same, take_succ hc2, nI_snoc]
      rfl
  · rintro H' ⟨e, hD⟩
    refine q _ _ e ⟨D, rfl, ?_⟩
    rw [hD, List.take_of_length_le (by rw [Array.length_toList]; exact Nat.le_refl _)]
theorem sc_Line_is_next : FnScope N_Line_is_next ["self", "word"] (defScope s_Line_is_next) := ⟨rfl, rfl, rfl, by decide +kernel, rfl, by decide +kernel, by decide +kernel⟩
theorem ok_Line_is_next (T : TX K mg) : FOk P w K mg base CX0 2 (He.ma K (He.ga K "Line") "is_next") ["self", "word"] (sp_Line_is_next K) := by
  obtain ⟨fd, F⟩ := T.f_Line_is_next
  obtain ⟨fd0, G0, b0⟩ := ok_Line_is_at_end (P := P) (w := w) (base := base) T
  obtain ⟨fd1, G1, b1⟩ := ok_bytes_of (P := P) (w := w) (base := base) T
  refine ⟨fd, F.ok sc_Line_is_next (fun _ _ _ _ h => h.1) (fun cdv A outer s H vs Q E hr h => ?_), F.binds fun _ _ _ _ _ _ us hl => match us, hl with | [_, _], _ => rfl⟩
  have hr0 := hr.mono (by decide : 1 ≤ 1)
  have hr1 := hr.mono (by decide : 1 ≤ 1)
  have hu64 := hr.units
  refine ⟨_, PSs.nox (pss_one (ps_ret (pe_and (pe_not (pe_meth0 (pv 0) T.cl_Line T.m_Line_is_at_end G0 hr0 b0 .nil pass0)) (pe_one (pe_cmpR (op_eqD hu64) (pe_ix ix_tup (pe_ix ix_list (pe_fld (pv 0) rfl) (pe_fld (pv 0) rfl) (fun _ _ => rfl)) pe_int (fun _ _ => rfl)) (pe_call G1 hr1 (by rfl) T.g_bytes_of T.k_bytes_of b1 .nil pass0 (pa_cons (pv 1) pa_nil)) (by rfl)))))), ?_⟩
  obtain ⟨_, h⟩ := h
  obtain ⟨a, r, e, x, rfl, hl, hx, q⟩ := h
  have hl0 := hl
  obtain ⟨dx, wl, vs, ws, i, h1, h2, h3, h4, h5, rfl⟩ := hl
  refine ⟨_, rfl, a, dx, _, rfl, h1, L_Line_is_at_end, rfl, a, _, e, rfl, hl0, _, rfl, _, rfl, ?_⟩
  by_cases c : i = ws.length
  · subst c
    rw [List.drop_length] at q ⊢
    exact iteF (q _ (Same.refl H))
  · have hi : i < ws.length := by omega
    have ed : ws.drop i = ws[i] :: ws.drop (i + 1) := List.drop_eq_getElem_cons hi
    rw [ed] at q ⊢
    refine iteT ?_
    obtain ⟨y, hy, t, u, rfl, ht, hu⟩ := paired_at h3 (List.getElem?_eq_getElem hi)
    refine ⟨_, rfl, a, _, dx, _, _, rfl, h1, T.cl_Line, T.na_Line_words, L_Line_words, _, rfl, a, _, dx, _, _, rfl, h1, T.cl_Line, T.na_Line_at, L_Line_at, wl, _, _, .ref t, rfl, rfl, SqL.of h2, atI_nat hy, t, _, _, u, rfl, rfl, SqT.of ht, at1, ?_⟩
    refine ⟨_, rfl, rfl, x, rfl, by omega, fun v H1 e1 hv => ⟨_, _, dp_ints (hu.same e1), dp_ints hv, ints_shaped _, ints_shaped _, ?_⟩⟩
    rw [nats_eqv]
    exact q _ e1
theorem keyX_bad {x : Str} {e : Nat} {r : List VbkdCore.Word} {f : VbkdCore.Fault} (h : Vbkdai.next e r = .error f) : keyX x e r = .error f := by
  unfold keyX
  rw [h]
  rfl
theorem keyX_ok {x : Str} {e : Nat} {r : List VbkdCore.Word} {y : VbkdCore.Word × List VbkdCore.Word} (h : Vbkdai.next e r = .ok y) : keyX x e r = if y.1.2 = x.cps.toList then .ok y.2 else .error ⟨1, y.1.1⟩ := by
  unfold keyX
  rw [h]
  rfl
theorem sc_Line_take_word : FnScope N_Line_take_word ["self", "word"] (defScope s_Line_take_word) := ⟨rfl, rfl, rfl, by decide +kernel, rfl, by decide +kernel, by decide +kernel⟩
theorem ok_Line_take_word (T : TX K mg) : FOk P w K mg base (L2N.CX P w) 4 (He.ma K (He.ga K "Line") "take_word") ["self", "word"] (sp_Line_take_word K) := by
  obtain ⟨fd, F⟩ := T.f_Line_take_word
  obtain ⟨fd0, G0, b0⟩ := ok_Line_take (P := P) (w := w) (base := base) T
  obtain ⟨fd1, G1, b1⟩ := ok_bytes_of (P := P) (w := w) (base := base) T
  obtain ⟨fd2, G2, b2⟩ := ok_Fault_init (P := P) (w := w) (base := base) T
  refine ⟨fd, F.okN sc_Line_take_word (fun _ _ _ _ h => h.1) (fun cdv A outer s H vs Q E hr h => ?_), F.binds fun _ _ _ _ _ _ us hl => match us, hl with | [_, _], _ => rfl⟩
  have hr0 := hr.mono (by decide : 3 ≤ 3)
  have hr1 := hr.mono (by decide : 1 ≤ 3)
  have hr2 := hr.mono (by decide : 2 ≤ 3)
  have hu64 := hr.units
  refine ⟨_, (pss_cons (ps_asg (pe_meth0 (pv 0) T.cl_Line T.m_Line_take G0 hr0 b0 .nil (L2N.passes_call (L2N.takes_of rfl rfl rfl rfl) (fun _ _ _ _ h => h))) (pg_tup (by rfl) (pgs_cons (pg_name (i := 2) sc_Line_take_word.nd rfl (.inl rfl)) (pgs_cons (pg_name (i := 3) sc_Line_take_word.nd rfl (.inl rfl)) pgs_nil))))
    (pss_one (ps_if (pt_cmpR (op_neD hu64) (pv 3) (pe_call G1 hr1 (by rfl) T.g_bytes_of T.k_bytes_of b1 .nil pass0 (pa_cons (pv 1) pa_nil)) (by rfl)) (pss_one (L2N.ps_raise rfl (L2N.takes_of rfl rfl rfl rfl) (L2N.pmk_oexN T.ox_Fault T.i_Fault T.t_Fault G2 hr2 b2 .nil pass0 (by rfl) T.g_Fault (pa_cons (C8.pe_gc (by rfl) T.c_LACKS) (pa_cons (pv 2) pa_nil))))) pss_nil))), ?_⟩
  obtain ⟨_, h⟩ := h
  obtain ⟨a, r, e, x, rfl, hl, hx, qe, q⟩ := h
  have hl0 := hl
  obtain ⟨dx, wl, vs, ws, i, h1, _⟩ := hl
  refine ⟨_, rfl, a, dx, _, rfl, h1, L_Line_take, rfl, a, r, e, rfl, hl0, fun f hf => qe f (keyX_bad hf), fun y hy v H1 s1 ⟨⟨t, u, ev, ht, hu⟩, hl1⟩ => ?_⟩
  subst ev
  refine ⟨t, _, rfl, SqT.of ht, rfl, _, _, rfl, _, _, rfl, rfl, ?_⟩
  refine ⟨_, rfl, _, rfl, rfl, x, rfl, by omega, fun v2 H2 e2 hv2 => ⟨_, _, dp_ints (hu.same e2), dp_ints hv2, ints_shaped _, ints_shaped _, _, rfl, ?_⟩⟩
  rw [nats_eqv]
  rw [keyX_ok hy] at qe q
  by_cases c : y.1.2 = x.cps.toList
  · rw [if_pos c] at q
    rw [decide_eq_true c]
    exact iteF (q _ rfl _ _ (s1.trans e2.but) (hl1.same e2))
  · rw [if_neg c] at qe
    rw [decide_eq_false c]
    refine iteT ?_
    exact ⟨_, rfl, raise_fault (k := 1) (p := y.1.1) fun d H' s hd => qe _ rfl d H' ((s1.trans e2.but).trans s.but) hd⟩
theorem sc_Line_finish : FnScope N_Line_finish ["self"] (defScope s_Line_finish) := ⟨rfl, rfl, rfl, by decide +kernel, rfl, by decide +kernel, by decide +kernel⟩
theorem ok_Line_finish (T : TX K mg) : FOk P w K mg base (L2N.CX P w) 3 (He.ma K (He.ga K "Line") "finish") ["self"] (sp_Line_finish K) := by
  obtain ⟨fd, F⟩ := T.f_Line_finish
  obtain ⟨fd0, G0, b0⟩ := ok_Line_is_at_end (P := P) (w := w) (base := base) T
  obtain ⟨fd1, G1, b1⟩ := ok_Fault_init (P := P) (w := w) (base := base) T
  refine ⟨fd, F.okN sc_Line_finish (fun _ _ _ _ h => h.1) (fun cdv A outer s H vs Q E hr h => ?_), F.binds fun _ _ _ _ _ _ us hl => match us, hl with | [_], _ => rfl⟩
  have hr0 := hr.mono (by decide : 1 ≤ 2)
  have hr1 := hr.mono (by decide : 2 ≤ 2)
  refine ⟨_, (pss_one (ps_if (pt_not (pt_val (pe_meth0 (pv 0) T.cl_Line T.m_Line_is_at_end G0 hr0 b0 .nil pass0))) (pss_one (L2N.ps_raise rfl (L2N.takes_of rfl rfl rfl rfl) (L2N.pmk_oexN T.ox_Fault T.i_Fault T.t_Fault G1 hr1 b1 .nil pass0 (by rfl) T.g_Fault (pa_cons (C8.pe_gc (by rfl) T.c_LACKS) (pa_cons (pe_ix ix_tup (pe_ix ix_list (pe_fld (pv 0) rfl) (pe_fld (pv 0) rfl) (fun _ _ => rfl)) pe_int (fun _ _ => rfl)) pa_nil))))) pss_nil)), ?_⟩
  obtain ⟨_, h⟩ := h
  obtain ⟨a, r, e, rfl, hl, qe, q⟩ := h
  have hl0 := hl
  obtain ⟨dx, wl, vs, ws, i, h1, h2, h3, h4, h5, rfl⟩ := hl
  refine ⟨_, rfl, a, dx, _, rfl, h1, L_Line_is_at_end, rfl, a, _, e, rfl, hl0, _, rfl, ?_⟩
  by_cases c : i = ws.length
  · subst c
    rw [List.drop_length] at qe q ⊢
    exact iteF (q _ rfl _ _ SameBut.refl trivial)
  · have hi : i < ws.length := by omega
    have ed : ws.drop i = ws[i] :: ws.drop (i + 1) := List.drop_eq_getElem_cons hi
    rw [ed] at qe q ⊢
    refine iteT ?_
    obtain ⟨y, hy, t, u, rfl, ht, hu⟩ := paired_at h3 (List.getElem?_eq_getElem hi)
    refine ⟨_, rfl, a, _, dx, _, _, rfl, h1, T.cl_Line, T.na_Line_words, L_Line_words, _, rfl, a, _, dx, _, _, rfl, h1, T.cl_Line, T.na_Line_at, L_Line_at, wl, _, _, .ref t, rfl, rfl, SqL.of h2, atI_nat hy, t, _, _, _, rfl, rfl, SqT.of ht, at0, ?_⟩
    exact raise_fault (k := 1) (p := ws[i].1) fun d H' s hd => qe _ rfl d H' s.but hd
end
end Bc


-- end of a part
set_option Elab.async false
set_option linter.all false
set_option maxRecDepth 100000
set_option maxHeartbeats 4000000
set_option exponentiation.threshold 100000
/-! # lines, numbers -/
namespace Bc
open PySem PySem.Spec PyProof.Rows L2
/-- what's new in H' -/
def newp (H H' : Hp) : Hp := fun b => match H b with
  | none => H' b
  | some _ => none
theorem newp_at {H H' : Hp} {b : Addr} (h : H b = none) : newp H H' b = H' b := by
  unfold newp
  rw [h]
theorem newp_some {H H' : Hp} {b : Addr} {o : HO} (h : newp H H' b = some o) : H b = none ∧ H' b = some o := by
  unfold newp at h
  cases e : H b with
  | none => rw [e] at h; exact ⟨rfl, h⟩
  | some x => rw [e] at h; cases h
theorem same_newp {H H' : Hp} : Same (newp H H') H' := fun b o h => (newp_some h).2
theorem newp_mono {H H' H2 : Hp} (e : Same H' H2) : Same (newp H H') (newp H H2) := fun b o h => by
  obtain ⟨h1, h2⟩ := newp_some h
  rw [newp_at h1]
  exact e _ _ h2
/-- what is new in a call is new, and isn't what stood ahead of it -/
theorem newp_del {H H1 H2 : Hp} {D : Addr} {o : HO} (e : Same H H1) (h : H1 D = some o) : Same (newp H1 H2) (del (newp H H2) D) := fun b x q => by
  obtain ⟨q1, q2⟩ := newp_some q
  have bD : b ≠ D := fun z => by rw [z, h] at q1; cases q1
  rw [del_ne bD]
  have hb : H b = none := by
    cases c : H b with
    | none => rfl
    | some y => rw [e _ _ c] at q1; cases q1
  rw [newp_at hb]
  exact q2
/-- a line of which nothing is read yet -/
def Ln0At (K : PySem.W.Frag) (H : Hp) (a : Addr) (r : List VbkdCore.Word) (e : Nat) : Prop := ∃ dx wl vs ws, H a = some (.ins (He.ga K "Line") dx (F_Line (.ref wl) (.int (e : Int)) (.int 0))) ∧ H wl = some (.lst vs) ∧ Paired (WdAt H) vs ws ∧ ws.length ≤ 1000 ∧ r = ws
theorem Ln0At.ln {K : PySem.W.Frag} {H : Hp} {a : Addr} {r : List VbkdCore.Word} {e : Nat} (h : Ln0At K H a r e) : LnAt K H a r e :=
  let ⟨dx, wl, vs, ws, x, y, z, u, e⟩ := h; ⟨dx, wl, vs, ws, 0, x, y, z, Nat.zero_le _, u, e⟩
theorem Ln0At.same {K : PySem.W.Frag} {H H' : Hp} {a : Addr} {r : List VbkdCore.Word} {e : Nat} (h : Ln0At K H a r e) (s : Same H H') : Ln0At K H' a r e :=
  let ⟨dx, wl, vs, ws, x, y, z, u⟩ := h; ⟨dx, wl, vs, ws, s _ _ x, s _ _ y, paired_imp (fun _ _ q => q.same s) z, u⟩
theorem Ln0At.but {K : PySem.W.Frag} {H H' : Hp} {a b C dx : Addr} {fs : List (Str × V)} {r : List VbkdCore.Word} {e : Nat} (h : Ln0At K H b r e) (s : SameBut a H H') (n : b ≠ a) (ha : H a = some (.ins C dx fs)) : Ln0At K H' b r e :=
  let ⟨dx, wl, vs, ws, x, y, z, u⟩ := h; ⟨dx, wl, vs, ws, s _ _ n x, s _ _ (ne_of y ha (by intro z; cases z)) y, paired_imp (fun _ _ q => q.but s ha) z, u⟩
theorem Ln0At.new {K : PySem.W.Frag} {H H' : Hp} {a : Addr} {r : List VbkdCore.Word} {e : Nat} (h : Ln0At K (newp H H') a r e) : H a = none := by
  obtain ⟨dx, wl, vs, ws, h1, _⟩ := h
  exact (newp_some h1).1
def LineV (K : PySem.W.Frag) (H0 H : Hp) (v : V) (x : Nat × List Nat) : Prop := ∃ a, v = .ref a ∧ H0 a = none ∧ Ln0At K H a (VbkdCore.wordsFrom x.1 none x.2) (x.1 + x.2.length)
def oV : Option Int → V
  | none => .non
  | some i => .int i
def sp_line_of (K : PySem.W.Frag) : Sp := mkSp 3 fun vs H Q _ => ∃ (v : V) (row : List Nat) (b e : Nat), vs = [v, .int b, .int e] ∧ InAt H v (nI row) ∧ row.length ≤ 400 ∧ b ≤ e ∧ e ≤ row.length ∧
  ∀ a H', Same H H' → Ln0At K (newp H H') a (VbkdCore.wordsFrom b none ((row.take e).drop b)) e → Q (.ref a) H'
def sp_lines_of (K : PySem.W.Frag) : Sp := mkSp 1 fun vs H Q _ => ∃ (v : V) (row : List Nat), vs = [v] ∧ InAt H v (nI row) ∧ row.length ≤ 400 ∧
  ∀ l vs H', Same H H' → H' l = some (.lst vs) → Paired (LineV K H H') vs (VbkdCore.linesFrom 0 row) → vs.Nodup → Q (.ref l) H'
def sp_are_digits (K : PySem.W.Frag) : Sp := mkSp 1 fun vs H Q _ => ∃ (v : V) (row : List Nat), vs = [v] ∧ InAt H v (nI row) ∧ row.length ≤ 1000 ∧ ∀ H', Same H H' → Q (.bl (digB row)) H'
def sp_number_of (K : PySem.W.Frag) : Sp := mkSp 1 fun vs H Q _ => ∃ (v : V) (row : List Nat), vs = [v] ∧ InAt H v (nI row) ∧ row.length ≤ 1000 ∧ ∀ H', Same H H' → Q (oV ((VbkdCore.numeral row).map fun n : Nat => (n : Int))) H'
def sp_signed (K : PySem.W.Frag) : Sp := mkSp 1 fun vs H Q _ => ∃ (v : V) (row : List Nat), vs = [v] ∧ InAt H v (nI row) ∧ row.length ≤ 1000 ∧ ∀ H', Same H H' → Q (oV (VbkdCore.signed row)) H'
def sp_fraction_of (K : PySem.W.Frag) : Sp := mkSp 1 fun vs H Q _ => ∃ (v : V) (row : List Nat), vs = [v] ∧ InAt H v (nI row) ∧ row.length ≤ 1000 ∧ Ret H Q fun v H' => match VbkdCore.readQ row with
  | none => v = .non
  | some q => FrAt K H' v q
theorem dup (p : Prop) {B N G : Prop} (main : (p → B) → (¬ p → N) → G) (body : p → B) (next : ¬ p → N) : G := main body next
theorem seg_event {row : List Nat} {a k e : Nat} (h : k = e ∨ (k < e ∧ row[k]? = some 32)) :
    VbkdCore.wordsFrom k (cur row a k) ((row.take e).drop k) = done1 row a k ++ VbkdCore.wordsFrom (k + 1) (cur row (k + 1) (k + 1)) ((row.take e).drop (k + 1)) := by
  rcases h with h | ⟨h, hr⟩
  · subst h
    rw [List.drop_of_length_le (by rw [List.length_take]; omega), List.drop_of_length_le (by rw [List.length_take]; omega), words_end, cur_none]
    show _ = _ ++ []
    rw [List.append_nil]
  · have e2 : (row.take e)[k]? = some 32 := by rw [List.getElem?_take, if_pos h]; exact hr
    obtain ⟨hk, e3⟩ := List.getElem?_eq_some_iff.mp e2
    rw [List.drop_eq_getElem_cons hk, e3, words_blank]
theorem seg_go {row : List Nat} {a k e c : Nat} (h : k < e) (hr : row[k]? = some c) (hc : c ≠ 32) (ha : a ≤ k) :
    VbkdCore.wordsFrom k (cur row a k) ((row.take e).drop k) = VbkdCore.wordsFrom (k + 1) (cur row a (k + 1)) ((row.take e).drop (k + 1)) := by
  have e2 : (row.take e)[k]? = some c := by rw [List.getElem?_take, if_pos h]; exact hr
  obtain ⟨hk, e3⟩ := List.getElem?_eq_some_iff.mp e2
  rw [List.drop_eq_getElem_cons hk, e3, words_other hr hc ha]
theorem cut_nI (l : List Nat) (a b : Nat) : cutV ((nI l).map V.int) (some (a : Int)) (some (b : Int)) = (nI ((l.take b).drop a)).map V.int := by
  rw [cut_ints]
  refine congrArg (List.map V.int) ?_
  unfold nI
  rw [List.map_drop, List.map_take]
theorem del_newp_upd {H H2 : Hp} {f : Addr} {x : HO} : del (newp H (upd H2 f x)) f = del (newp H H2) f := by
  funext b
  by_cases z : b = f
  · rw [z, del_same, del_same]
  · rw [del_ne z, del_ne z]
    unfold newp
    rw [upd_ne z]
section
variable {P : Program} {w : World} {K : PySem.W.Frag} {mg : Str → Option Value} {base : Heap}
theorem sc_line_of : FnScope N_line_of ["row", "begin", "end"] (defScope s_line_of) := ⟨rfl, rfl, rfl, by decide +kernel, rfl, by decide +kernel, by decide +kernel⟩
theorem ok_line_of (T : TX K mg) : FOk P w K mg base CX0 3 (He.ga K "line_of") ["row", "begin", "end"] (sp_line_of K) := by
  obtain ⟨fd, F⟩ := T.f_line_of
  obtain ⟨fd0, G0, b0⟩ := ok_Line_init (P := P) (w := w) (base := base) T
  refine ⟨fd, F.ok sc_line_of (fun _ _ _ _ h => h.1) (fun cdv A outer s H vs Q E hr h => ?_), F.binds fun _ _ _ _ _ _ us hl => match us, hl with | [_, _, _], _ => rfl⟩
  have hr0 := hr.mono (by decide : 2 ≤ 2)
  refine ⟨_, PSs.nox (pss_cons (ps_set (i := 3) sc_line_of.nd rfl (.inl rfl) (pe_lst pa_nil))
    (pss_cons (ps_set (i := 4) sc_line_of.nd rfl (.inl rfl) (pv 1))
    (pss_cons (ps_for PassesOwn.never rfl (pi_range2 (by rfl) T.n_range (pa_cons (pv 1) (pa_cons (pe_op op_add (pv 2) pe_int) pa_nil))) (pg_name (i := 5) sc_line_of.nd rfl (.inl rfl)) (pss_one (ps_if (PW.pt (pw_or (pt_cmpR op_eq (pv 5) (pv 2) (by rfl)) (pw_or1 (pt_cmpR op_eq (pe_ix ix_list (pv 0) (pv 5) (fun _ _ => rfl)) (C8.pe_gc (by rfl) T.c_BLANK) (by rfl))))) (pss_cons (ps_if (pt_cmpR op_gt (pv 5) (pv 4) (by rfl)) (pss_one (ps_expr (pe_bm PySem.F.plainAttrs_list PySem.F.slot_list_append PySem.F.type_list_append mt_append (pv 3) (pa_cons (pe_tup (pa_cons (pv 4) (pa_cons (pe_slice sl_list (pv 0) (po_some (pv 4)) (po_some (pv 5))) pa_nil))) pa_nil)))) pss_nil)
    (pss_one (ps_set (i := 4) sc_line_of.nd rfl (.inl rfl) (pe_op op_add (pv 5) pe_int)))) pss_nil)))
    (pss_one (ps_ret (pe_make T.mk_Line G0 hr0 (by rfl) T.g_Line b0 .nil pass0 (pa_cons (pv 3) (pa_cons (pv 2) pa_nil)))))))), ?_⟩
  obtain ⟨_, h⟩ := h
  obtain ⟨v, row, b, e, rfl, ⟨ra, rfl, hr⟩, hl, hbe, hel, q⟩ := h
  refine ⟨by show 0 ≤ sizeLine; decide, fun wl nw => ?_⟩
  refine ⟨_, rfl, ?_⟩
  have law0 : VbkdCore.wordsFrom b none ((row.take e).drop b) = [] ++ VbkdCore.wordsFrom b (cur row b b) ((row.take e).drop b) := by rw [cur_none]; rfl
  refine ⟨_, rfl, _, rfl, _, _, rfl, rfl, (b : Int), (e : Int) + 1, rfl, ⟨by omega, by omega, by omega, by omega⟩, for_range (lo := (b : Int)) (n := ((e : Int) + 1 - b).toNat)
    (fun i σ H' => ∃ (a : Nat) (v5 : Option V) (vs : List V) (ws : List VbkdCore.Word), σ = [some (.ref ra), some (.int b), some (.int e), some (.ref wl), some (.int a), v5] ∧ Same H H' ∧ H' wl = some (.lst vs) ∧ Paired (WdAt (del (newp H H') wl)) vs ws ∧ ws.length ≤ i ∧ a ≤ b + i ∧ (b + i = e + 1 → a = e + 1) ∧
      VbkdCore.wordsFrom b none ((row.take e).drop b) = ws ++ VbkdCore.wordsFrom (b + i) (cur row a (b + i)) ((row.take e).drop (b + i)))
    ⟨b, none, [], [], rfl, Same.new nw, upd_same, .nil, Nat.le_refl _, Nat.le_refl _, by omega, law0⟩ ?_ ?_⟩
  · rintro i σ H' hi ⟨a, v5, vs, ws, rfl, e1, hwl, hws, hlen, hab, hae, law⟩
    have hke : b + i ≤ e := by omega
    apply dup (b + i = e ∨ (b + i < e ∧ row[b + i]? = some 32))
    · intro hb hn
      refine ⟨_, rfl, _, rfl, rfl, _, rfl, ?_⟩
      refine ite2 (fun c => ?_) (fun c => ?_)
      · exact iteT (hb (.inl (ord_eq (i := b + i) c)))
      · have c1 := ord_ne (i := b + i) c
        obtain ⟨x, hx⟩ : ∃ x, row[b + i]? = some x := ⟨_, List.getElem?_eq_getElem (by omega)⟩
        refine ⟨_, rfl, _, rfl, ra, _, _, _, rfl, rfl, SqL.of (e1 _ _ hr), at_of (show (b : Int) + (i : Int) = ((b + i : Nat) : Int) by omega) (nI_at hx), rfl, _, rfl, ?_⟩
        refine ite2 (fun c => hb (.inr ⟨by omega, ?_⟩)) (fun c => hn ?_)
        · rw [hx, ord_eq (j := 32) c]
        · rintro (z | ⟨z1, z2⟩)
          · exact c1 z
          · rw [hx] at z2
            exact ord_ne (j := 32) c (Option.some.inj z2)
    · intro ev
      have law2 := law
      rw [seg_event ev] at law2
      refine ⟨_, rfl, _, rfl, _, _, rfl, rfl, _, rfl, ?_⟩
      refine ite2 (fun c => ?_) (fun c => ?_)
      · have c1 : a < b + i := by
          have : (a : Int) < (b : Int) + (i : Int) := of_decide_eq_true c
          omega
        unfold done1 at law2
        rw [if_pos c1] at law2
        refine ⟨_, rfl, Or.inl ⟨rfl, _, SqL.of hwl⟩, _, rfl, _, rfl, _, rfl, _, rfl, _, rfl, _, rfl, ra, _, rfl, SqL.of (e1 _ _ hr), fun p np => ?_⟩
        have k1 : Same H' (upd H' p (.lst (cutV ((nI row).map V.int) (some (a : Int)) (some ((b : Int) + (i : Int)))))) := Same.new np
        refine ⟨by show 2 ≤ sizeLine; decide, fun t nt => ?_⟩
        have k2 := k1.trans (Same.new (o := .tup [.int (a : Int), .ref p]) nt)
        refine ⟨wl, _, _, rfl, rfl, k2 _ _ hwl, by rw [paired_len hws]; exact small1000 (by omega), ?_⟩
        have hp0 : H p = none := by
          cases z : H p with
          | none => rfl
          | some o => rw [e1 _ _ z] at np; cases np
        have ht0 : H t = none := by
          cases z : H t with
          | none => rfl
          | some o => rw [k1 _ _ (e1 _ _ z)] at nt; cases nt
        have pt : p ≠ t := ne_of_none upd_same nt
        have pw : p ≠ wl := fun z => by rw [z, hwl] at np; cases np
        have tw : t ≠ wl := fun z => by rw [z, k1 _ _ hwl] at nt; cases nt
        refine ⟨_, rfl, _, _, rfl, rfl, b + i + 1, some (.int ((b : Int) + (i : Int))), _, ws ++ [(a, (row.take (b + i)).drop a)], rfl, (e1.trans k2).mut nw, upd_same, ?_, by rw [List.length_append]; show _ + 1 ≤ _; omega, by omega, by omega, ?_⟩
        · rw [del_newp_upd]
          refine paired_app (paired_imp (fun v q z => z.same (Same_del (newp_mono k2))) hws) (.cons ⟨t, .ref p, rfl, ?_, p, rfl, ?_⟩ .nil)
          · rw [del_ne tw, newp_at ht0, upd_same]
          · rw [del_ne pw, newp_at hp0, upd_ne pt, upd_same]
            exact congrArg some (congrArg HO.lst (cut_nI row a (b + i)))
        · rw [law2, List.append_assoc]
          rfl
      · have c1 : ¬ a < b + i := fun z => c (decide_eq_true (by
          show (a : Int) < (b : Int) + (i : Int)
          omega))
        unfold done1 at law2
        rw [if_neg c1] at law2
        exact ⟨_, rfl, _, _, rfl, rfl, b + i + 1, some (.int ((b : Int) + (i : Int))), vs, ws, rfl, e1, hwl, hws, by omega, by omega, by omega, law2⟩
    · intro ev
      have hk2 : b + i < e := by
        rcases Nat.lt_or_eq_of_le hke with z | z
        · exact z
        · exact absurd (.inl z) ev
      obtain ⟨x, hx⟩ : ∃ x, row[b + i]? = some x := ⟨_, List.getElem?_eq_getElem (by omega)⟩
      refine ⟨a, some (.int ((b : Int) + (i : Int))), vs, ws, rfl, e1, hwl, hws, by omega, by omega, by omega, ?_⟩
      rw [law, seg_go hk2 hx (fun z => ev (.inr ⟨hk2, by rw [hx, z]⟩)) hab]
      rfl
  · rintro σ H' ⟨a, v5, vs, ws, rfl, e1, hwl, hws, hlen, hab, hae, law⟩
    have hn : b + ((e : Int) + 1 - b).toNat = e + 1 := by omega
    rw [hn] at law
    have := hae hn
    subst this
    have dz : (row.take e).drop (e + 1) = [] := List.drop_of_length_le (by rw [List.length_take]; omega)
    rw [cur_none, dz] at law
    have law : VbkdCore.wordsFrom b none ((row.take e).drop b) = ws ++ [] := law
    rw [List.append_nil] at law
    refine ⟨_, rfl, _, rfl, ?_⟩
    intro x dx nx nd ne
    refine ⟨rfl, x, dx, _, _, rfl, upd_same, rfl, ?_⟩
    have k0 : Same H' (upd (upd H' dx (.own x)) x (.ins (He.ga K "Line") dx [])) := (Same.new nd).trans (Same.new (by rw [upd_ne (Ne.symm ne)]; exact nx))
    have hx0 : H x = none := by
      cases z : H x with
      | none => rfl
      | some o => rw [e1 _ _ z] at nx; cases nx
    have hw0 : H wl = none := nw
    have k3 : Same H' (upd (upd (upd H' dx (.own x)) x (.ins (He.ga K "Line") dx [])) x (.ins (He.ga K "Line") dx (F_Line (.ref wl) (.int e) (.int 0)))) := fun c o hc => by
      rw [upd_ne (ne_of_none hc nx)]
      exact k0 _ _ hc
    refine q x _ (e1.trans k3) ⟨dx, wl, vs, ws, ?_, ?_, paired_imp (fun v q z => (z.same same_del).same (newp_mono k3)) hws, by omega, law⟩
    · rw [newp_at hx0, upd_same]
    · rw [newp_at hw0]
      exact k3 _ _ hwl
theorem LineV.ne {K : PySem.W.Frag} {H H' : Hp} {D a : Addr} : ∀ {vs : List V} {ls : List (Nat × List Nat)}, Paired (LineV K H (del (newp H H') D)) vs ls → H' a = none → V.ref a ∉ vs
  | _, _, .nil, _ => fun z => by cases z
  | _, _, .cons h r, n => fun z => by
    rcases List.mem_cons.mp z with e | z
    · obtain ⟨b, eb, h0, dx, wl, vs, ws, h1, _⟩ := h
      have : a = b := by rw [eb] at e; exact V.ref.inj e
      subst this
      have h2 := same_del _ _ h1
      have h3 := (newp_some h2).2
      rw [h3] at n
      cases n
    · exact LineV.ne r n z
theorem LineV.same {K : PySem.W.Frag} {H0 H H' : Hp} {v : V} {x : Nat × List Nat} (h : LineV K H0 H v x) (s : Same H H') : LineV K H0 H' v x := let ⟨a, e, n, l⟩ := h; ⟨a, e, n, l.same s⟩
theorem sc_lines_of : FnScope N_lines_of ["row"] (defScope s_lines_of) := ⟨rfl, rfl, rfl, by decide +kernel, rfl, by decide +kernel, by decide +kernel⟩
theorem ok_lines_of (T : TX K mg) : FOk P w K mg base CX0 4 (He.ga K "lines_of") ["row"] (sp_lines_of K) := by
  obtain ⟨fd, F⟩ := T.f_lines_of
  obtain ⟨fd0, G0, b0⟩ := ok_line_of (P := P) (w := w) (base := base) T
  refine ⟨fd, F.ok sc_lines_of (fun _ _ _ _ h => h.1) (fun cdv A outer s H vs Q E hr h => ?_), F.binds fun _ _ _ _ _ _ us hl => match us, hl with | [_], _ => rfl⟩
  have hr0 := hr.mono (by decide : 3 ≤ 3)
  refine ⟨_, PSs.nox (pss_cons (ps_set (i := 1) sc_lines_of.nd rfl (.inl rfl) (pe_lst pa_nil))
    (pss_cons (ps_set (i := 2) sc_lines_of.nd rfl (.inl rfl) pe_int)
    (pss_cons (ps_for PassesOwn.never rfl (pi_range1 (by rfl) T.n_range (pa_cons (pe_op op_add (pe_callB call_len_seq (by rfl) T.n_len (by decide +kernel) (pa_cons (pv 0) pa_nil)) pe_int) pa_nil)) (pg_name (i := 3) sc_lines_of.nd rfl (.inl rfl)) (pss_one (ps_if (PW.pt (pw_or (pt_cmpR op_eq (pv 3) (pe_callB call_len_seq (by rfl) T.n_len (by decide +kernel) (pa_cons (pv 0) pa_nil)) (by rfl)) (pw_or1 (pt_cmpR op_eq (pe_ix ix_list (pv 0) (pv 3) (fun _ _ => rfl)) (C8.pe_gc (by rfl) T.c_LINE_END) (by rfl))))) (pss_cons (ps_expr (pe_bm PySem.F.plainAttrs_list PySem.F.slot_list_append PySem.F.type_list_append mt_append (pv 1) (pa_cons (pe_call G0 hr0 (by rfl) T.g_line_of T.k_line_of b0 .nil pass0 (pa_cons (pv 0) (pa_cons (pv 2) (pa_cons (pv 3) pa_nil)))) pa_nil)))
    (pss_one (ps_set (i := 2) sc_lines_of.nd rfl (.inl rfl) (pe_op op_add (pv 3) pe_int)))) pss_nil)))
    (pss_one (ps_ret (pv 1)))))), ?_⟩
  obtain ⟨_, h⟩ := h
  obtain ⟨v, row, rfl, ⟨ra, rfl, hr⟩, hl, q⟩ := h
  refine ⟨by show 0 ≤ sizeLine; decide, fun D nD => ?_⟩
  refine ⟨_, rfl, ra, _, rfl, .inl (SqL.of ((Same.new nD) _ _ hr)), _, _, rfl, rfl, (row.length : Int) + 1, by rw [nI_len], by omega, by omega, for_r0 (n := ((row.length : Int) + 1).toNat)
    (fun i σ H' => ∃ (b : Nat) (v3 : Option V) (vs : List V) (ls : List (Nat × List Nat)), σ = [some (.ref ra), some (.ref D), some (.int b), v3] ∧ Same H H' ∧ H' D = some (.lst vs) ∧ Paired (LineV K H (del (newp H H') D)) vs ls ∧ ls.length ≤ i ∧ vs.Nodup ∧ b ≤ i ∧ (∀ x ∈ (row.take i).drop b, x ≠ 10) ∧
      VbkdCore.linesFrom 0 row = ls ++ (if i ≤ row.length then VbkdCore.linesFrom b (row.drop b) else []))
    ⟨0, none, [], [], rfl, Same.new nD, upd_same, .nil, Nat.le_refl _, List.nodup_nil, Nat.le_refl _, fun x hx => (by cases hx), by rw [if_pos (Nat.zero_le _)]; rfl⟩ ?_ ?_⟩
  · rintro i σ H' hi ⟨b, v3, vs, ls, rfl, e1, hD, hv, hlen, nd, hb, h10, law⟩
    have hi2 : i ≤ row.length := by omega
    rw [if_pos hi2] at law
    apply dup (i = row.length ∨ row[i]? = some 10)
    · intro hB hN
      refine ⟨_, rfl, _, rfl, ra, _, rfl, .inl (SqL.of (e1 _ _ hr)), rfl, _, rfl, ?_⟩
      rw [nI_len]
      refine ite2 (fun c => ?_) (fun c => ?_)
      · exact iteT (hB (.inl (ord_eq c)))
      · have c1 := ord_ne c
        obtain ⟨x, hx⟩ : ∃ x, row[i]? = some x := ⟨_, List.getElem?_eq_getElem (by omega)⟩
        refine ⟨_, rfl, _, rfl, ra, _, _, _, rfl, rfl, SqL.of (e1 _ _ hr), atI_nat (nI_at hx), rfl, _, rfl, ?_⟩
        refine ite2 (fun c => hB (.inr ?_)) (fun c => hN ?_)
        · rw [hx, ord_eq (j := 10) c]
        · rintro (z | z)
          · exact c1 z
          · rw [hx] at z
            exact ord_ne (j := 10) c (Option.some.inj z)
    · intro ev
      refine ⟨_, rfl, Or.inl ⟨rfl, _, SqL.of hD⟩, _, rfl, _, rfl, _, rfl, rfl, .ref ra, row, b, i, rfl, ⟨ra, rfl, e1 _ _ hr⟩, hl, hb, hi2, fun a H2 k2 hLn => ?_⟩
      refine ⟨D, _, _, rfl, rfl, k2 _ _ hD, by rw [paired_len hv]; exact small1000 (by omega), ?_⟩
      have na := hLn.new
      have na0 : H a = none := by
        cases z : H a with
        | none => rfl
        | some o => rw [e1 _ _ z] at na; cases na
      have lb : ((row.take i).drop b).length = i - b := by
        rw [List.length_drop, List.length_take]
        omega
      refine ⟨_, rfl, _, _, rfl, rfl, i + 1, some (.int (i : Int)), _, ls ++ [(b, (row.take i).drop b)], rfl, (e1.trans k2).mut nD, upd_same, ?_, by rw [List.length_append]; show _ + 1 ≤ _; omega, ?_, Nat.le_refl _, ?_, ?_⟩
      · rw [del_newp_upd]
        refine paired_app (paired_imp (fun v q z => z.same (Same_del (newp_mono k2))) hv) (.cons ⟨a, rfl, na0, ?_⟩ .nil)
        have := hLn.same (newp_del e1 hD)
        show Ln0At K _ a (VbkdCore.wordsFrom b none ((row.take i).drop b)) (b + ((row.take i).drop b).length)
        rw [lb, show b + (i - b) = i by omega]
        exact this
      · refine List.nodup_append.mpr ⟨nd, by simp, fun x hx y hy => ?_⟩
        rw [List.mem_singleton.mp hy]
        exact fun z => LineV.ne hv na (by rw [← z]; exact hx)
      · rw [List.drop_of_length_le (by rw [List.length_take]; omega)]
        intro x hx
        cases hx
      · rw [law, List.append_assoc]
        congr 1
        rcases ev with z | z
        · rw [if_neg (by omega)]
          have e3 : row.drop b = (row.take i).drop b := by rw [z, List.take_length]
          rw [e3, lines_last h10]
          rfl
        · have hi3 := (List.getElem?_eq_some_iff.mp z).1
          rw [if_pos (by omega)]
          have e3 : row.drop b = (row.take i).drop b ++ 10 :: row.drop (i + 1) := by
            have e4 : row = row.take i ++ 10 :: row.drop (i + 1) := by
              obtain ⟨hk, e5⟩ := List.getElem?_eq_some_iff.mp z
              rw [← e5, ← List.drop_eq_getElem_cons hk, List.take_append_drop]
            conv => lhs; rw [e4]
            rw [List.drop_append_of_le_length (by rw [List.length_take]; omega)]
          rw [e3, lines_more _ h10, lb, show b + (i - b) + 1 = i + 1 by omega]
          rfl
    · intro ev
      have i3 : i < row.length := by
        rcases Nat.lt_or_eq_of_le hi2 with z | z
        · exact z
        · exact absurd (.inl z) ev
      obtain ⟨x, hx⟩ : ∃ x, row[i]? = some x := ⟨_, List.getElem?_eq_getElem i3⟩
      refine ⟨b, some (.int (i : Int)), vs, ls, rfl, e1, hD, hv, by omega, nd, by omega, fun y hy => ?_, by rw [if_pos (by omega)]; exact law⟩
      rw [take_succ hx, List.drop_append_of_le_length (by rw [List.length_take]; omega)] at hy
      rcases List.mem_append.mp hy with z | z
      · exact h10 y z
      · rw [List.mem_singleton.mp z]
        exact fun z2 => ev (.inr (by rw [hx, z2]))
  · rintro σ H' ⟨b, v3, vs, ls, rfl, e1, hD, hv, hlen, nd, hb, h10, law⟩
    rw [if_neg (by omega), List.append_nil] at law
    refine ⟨_, rfl, q D vs H' e1 hD ?_ nd⟩
    rw [law]
    exact paired_imp (fun v q z => z.same (same_del.trans same_newp)) hv
theorem cut_to (l : List Nat) (b : Nat) : cutV ((nI l).map V.int) none (some (b : Int)) = (nI (l.take b)).map V.int := by
  have e : cutV ((nI l).map V.int) none (some (b : Int)) = cutV ((nI l).map V.int) (some ((0 : Nat) : Int)) (some (b : Int)) := by
    unfold cutV
    rw [HT.sIx_nat, HT.sIx_nat, Nat.zero_min]
    rfl
  rw [e, cut_nI, List.drop_zero]
theorem cut_from (l : List Nat) (a : Nat) : cutV ((nI l).map V.int) (some (a : Int)) none = (nI (l.drop a)).map V.int := by
  have e : cutV ((nI l).map V.int) (some (a : Int)) none = cutV ((nI l).map V.int) (some (a : Int)) (some ((l.length : Nat) : Int)) := by
    unfold cutV
    rw [HT.sIx_nat, HT.sIx_nat, nI_len, Nat.min_self]
    rfl
  rw [e, cut_nI, List.take_length]
theorem sc_are_digits : FnScope N_are_digits ["row"] (defScope s_are_digits) := ⟨rfl, rfl, rfl, by decide +kernel, rfl, by decide +kernel, by decide +kernel⟩
theorem ok_are_digits (T : TX K mg) : FOk P w K mg base CX0 1 (He.ga K "are_digits") ["row"] (sp_are_digits K) := by
  obtain ⟨fd, F⟩ := T.f_are_digits
  refine ⟨fd, F.ok sc_are_digits (fun _ _ _ _ h => h.1) (fun cdv A outer s H vs Q E hr h => ?_), F.binds fun _ _ _ _ _ _ us hl => match us, hl with | [_], _ => rfl⟩
  have hu64 := hr.units
  refine ⟨_, PSs.nox (pss_one (ps_ret (pe_and (pe_cmpR (op_neD hu64) (pv 0) (pe_lst pa_nil) (by rfl)) (pe_one (pe_callB (cr_all rfl) (by rfl) T.n_all (by decide +kernel) (pa_cons (pe_lc (g := (gName 1)) (own := [("one", 1)]) (by rfl) sc_are_digits.nd (pi_list (pv 0)) (blkOk_by (own := [("one", 1)]) (N := N_are_digits) (sc := defScope s_are_digits) (by decide +kernel)) (fun _ _ _ _ _ => by exact (pg_name (i := 1) sc_are_digits.nd rfl (.inl rfl))) (fun _ _ _ _ _ => by exact pts_nil) (fun _ _ _ _ _ => by exact (pe_chain op_le op_le (C8.pe_gc (by rfl) T.c_NOUGHT_words) (pv 1) (pe_op op_add (C8.pe_gc (by rfl) T.c_NOUGHT_words) pe_int)))) pa_nil)))))), ?_⟩
  obtain ⟨_, h⟩ := h
  obtain ⟨v, row, rfl, ⟨ra, rfl, hr⟩, hl, q⟩ := h
  refine ⟨_, rfl, by show 0 ≤ sizeLine; decide, fun f nf => ⟨_, _, dp_ints ⟨ra, rfl, (Same.new nf) _ _ hr⟩, dp_ints (ns := []) ⟨f, rfl, upd_same⟩, ints_shaped _, ints_shaped _, _, rfl, ?_⟩⟩
  have kf : Same H (upd H f (.lst [])) := Same.new nf
  rw [ints_eqv]
  cases row with
  | nil => exact iteF (q _ kf)
  | cons c0 r0 =>
    generalize hrow : c0 :: r0 = row at *
    have hne : row ≠ [] := by rw [← hrow]; simp
    rw [decide_eq_false (fun z : nI row = [] => hne ((nI_inj (b := [])).mp z))]
    refine iteT ?_
    refine ⟨_, rfl, ra, rfl, ⟨_, SqL.of (kf _ _ hr)⟩, fun D nD => lc_list (K := K) (a := ra) (xs := (nI row).map V.int)
      (fun i H' => Same (upd H f (.lst [])) H' ∧ H' D = some (.lst (((row.take i).map VbkdCore.isDigit).map V.bl))) ⟨Same.new nD, upd_same⟩ (fun i H' _ ⟨e, _⟩ => SqL.of (e _ _ (kf _ _ hr))) ?_ ?_⟩
    · rintro i x H' hx ⟨e, hD⟩
      obtain ⟨c, hc, rfl⟩ : ∃ c, row[i]? = some c ∧ x = V.int (c : Int) := by
        unfold nI at hx
        rw [List.map_map, List.getElem?_map] at hx
        cases e2 : row[i]? with
        | none =>
          rw [e2] at hx
          cases hx
        | some n =>
          rw [e2] at hx
          exact ⟨n, rfl, (Option.some.inj hx).symm⟩
      have il := (List.getElem?_eq_some_iff.mp hc).1
      refine ⟨rfl, ?_⟩
      have fin : ∀ b, b = VbkdCore.isDigit c → ∃ acc, H' D = some (.lst acc) ∧ acc.length < sizeLine ∧ (Same (upd H f (.lst [])) (upd H' D (.lst (acc ++ [.bl b]))) ∧ (upd H' D (.lst (acc ++ [.bl b]))) D = some (.lst (((row.take (i + 1)).map VbkdCore.isDigit).map V.bl))) := fun b hb => by
        refine ⟨_, hD, ?_, e.mut nD, ?_⟩
        · rw [List.length_map, List.length_map, List.length_take]
          exact small1000 (by omega)
        · rw [upd_same, take_succ hc, List.map_append, List.map_append, hb]
          rfl
      refine ⟨_, rfl, _, _, rfl, rfl, _, rfl, ?_⟩
      refine ite2 (fun z => ?_) (fun z => ?_)
      · have z1 : 48 ≤ c := by
          have : (48 : Int) ≤ (c : Int) := of_decide_eq_true z
          omega
        refine ⟨_, _, rfl, rfl, _, _, rfl, rfl, fin _ ?_⟩
        unfold VbkdCore.isDigit
        rw [decide_eq_true z1, Bool.true_and]
        exact decide_eq_decide.mpr ⟨fun z => by
          have z : (c : Int) ≤ 57 := z
          omega, fun z => by
          show (c : Int) ≤ 57
          omega⟩
      · have z1 : ¬ 48 ≤ c := fun z2 => z (decide_eq_true (by
          show (48 : Int) ≤ (c : Int)
          omega))
        refine fin _ ?_
        unfold VbkdCore.isDigit
        rw [decide_eq_false z1, Bool.false_and]
    · rintro H' ⟨e, hD⟩
      refine ⟨D, _, rfl, SqL.of hD, ?_⟩
      have e2 : ((row.take ((nI row).map V.int).length).map VbkdCore.isDigit).all id = digB row := by
        unfold digB
        rw [nI_len, List.take_length, decide_eq_true hne, Bool.true_and, List.all_map]
        rfl
      rw [e2]
      exact q _ (kf.trans e)
theorem sc_number_of : FnScope N_number_of ["row"] (defScope s_number_of) := ⟨rfl, rfl, rfl, by decide +kernel, rfl, by decide +kernel, by decide +kernel⟩
theorem ok_number_of (T : TX K mg) : FOk P w K mg base CX0 2 (He.ga K "number_of") ["row"] (sp_number_of K) := by
  obtain ⟨fd, F⟩ := T.f_number_of
  obtain ⟨fd0, G0, b0⟩ := ok_are_digits (P := P) (w := w) (base := base) T
  refine ⟨fd, F.ok sc_number_of (fun _ _ _ _ h => h.1) (fun cdv A outer s H vs Q E hr h => ?_), F.binds fun _ _ _ _ _ _ us hl => match us, hl with | [_], _ => rfl⟩
  have hr0 := hr.mono (by decide : 1 ≤ 1)
  refine ⟨_, PSs.nox (pss_cons (ps_if (PW.pt (pw_or (pt_not (pt_val (pe_call G0 hr0 (by rfl) T.g_are_digits T.k_are_digits b0 .nil pass0 (pa_cons (pv 0) pa_nil)))) (pw_or (pt_cmpR op_gt (pe_callB call_len_seq (by rfl) T.n_len (by decide +kernel) (pa_cons (pv 0) pa_nil)) (C8.pe_gc (by rfl) T.c_MOST_FIGURES) (by rfl)) (pw_or1 (PW.pt (pw_and (pt_cmpR op_gt (pe_callB call_len_seq (by rfl) T.n_len (by decide +kernel) (pa_cons (pv 0) pa_nil)) pe_int (by rfl)) (pw_and1 (pt_cmpR op_eq (pe_ix ix_list (pv 0) pe_int (fun _ _ => rfl)) (C8.pe_gc (by rfl) T.c_NOUGHT_words) (by rfl))))))))) (pss_one (ps_ret pe_non)) pss_nil)
    (pss_cons (ps_set (i := 1) sc_number_of.nd rfl (.inl rfl) pe_int)
    (pss_cons (ps_for PassesOwn.never rfl (pi_list (pv 0)) (pg_name (i := 2) sc_number_of.nd rfl (.inl rfl)) (pss_one (ps_set (i := 1) sc_number_of.nd rfl (.inl rfl) (pe_op op_sub (pe_op op_add (pe_op op_mulW pe_int (pv 1)) (pv 2)) (C8.pe_gc (by rfl) T.c_NOUGHT_words)))))
    (pss_one (ps_ret (pv 1)))))), ?_⟩
  obtain ⟨_, h⟩ := h
  obtain ⟨v, row, rfl, ⟨ra, rfl, hr⟩, hl, q⟩ := h
  refine ⟨_, rfl, rfl, .ref ra, row, rfl, ⟨ra, rfl, hr⟩, hl, fun H1 e1 => ⟨_, rfl, ?_⟩⟩
  have hr1 := e1 _ _ hr
  apply dup (digB row = false ∨ 7 < row.length ∨ (1 < row.length ∧ row.head? = some 48))
  · intro hB hN
    refine ite2 (fun c => iteT (hB (.inl (by simpa using c)))) (fun c => ?_)
    have d1 : digB row = true := by simpa using c
    refine ⟨_, rfl, ra, _, rfl, .inl (SqL.of hr1), _, _, rfl, rfl, _, rfl, ?_⟩
    rw [nI_len]
    refine ite2 (fun c => iteT (hB (.inr (.inl ?_)))) (fun c => ?_)
    · have : (7 : Int) < (row.length : Int) := of_decide_eq_true c
      omega
    have l7 : ¬ 7 < row.length := fun z => c (decide_eq_true (by
      show (7 : Int) < (row.length : Int)
      omega))
    refine ⟨_, rfl, ra, _, rfl, .inl (SqL.of hr1), _, _, rfl, rfl, _, rfl, ?_⟩
    rw [nI_len]
    refine ite2 (fun c => ?_) (fun c => ?_)
    · have l1 : 1 < row.length := by
        have : (1 : Int) < (row.length : Int) := of_decide_eq_true c
        omega
      obtain ⟨x, hx⟩ : ∃ x, row[0]? = some x := ⟨_, List.getElem?_eq_getElem (by omega)⟩
      refine ⟨_, rfl, ra, _, _, _, rfl, rfl, SqL.of hr1, atI_nat (j := 0) (nI_at hx), rfl, _, rfl, ?_⟩
      have hd : row.head? = some x := by rw [List.head?_eq_getElem?]; exact hx
      refine ite2 (fun c => hB (.inr (.inr ⟨l1, ?_⟩))) (fun c => hN ?_)
      · rw [hd, ord_eq (j := 48) c]
      · rintro (z | z | ⟨z, z2⟩)
        · rw [d1] at z
          cases z
        · exact l7 z
        · rw [hd] at z2
          exact ord_ne (j := 48) c (Option.some.inj z2)
    · refine iteF (hN ?_)
      rintro (z | z | ⟨z, z2⟩)
      · rw [d1] at z
        cases z
      · exact l7 z
      · exact c (decide_eq_true (by
          show (1 : Int) < (row.length : Int)
          omega))
  · intro ev
    rw [numeral_no ev] at q
    exact q _ e1
  · intro ev
    have d1 : digB row = true := by
      cases z : digB row with
      | true => rfl
      | false => exact absurd (.inl z) ev
    have l7 : ¬ 7 < row.length := fun z => ev (.inr (.inl z))
    have dg : ∀ c ∈ row, 48 ≤ c ∧ c ≤ 57 := by
      unfold digB at d1
      rw [Bool.and_eq_true] at d1
      exact digits_iff.mp d1.2
    rw [numeral_yes d1 l7 (fun z => ev (.inr (.inr z)))] at q
    refine ⟨_, rfl, ra, rfl, ⟨_, SqL.of hr1⟩, for_list (K := K) (a := ra) (xs := (nI row).map V.int)
      (fun i σ H' => ∃ v2, σ = [some (.ref ra), some (.int ((VbkdCore.valueOf (row.take i) : Nat) : Int)), v2] ∧ H' = H1) ⟨none, rfl, rfl⟩ (fun i σ H' _ ⟨_, _, e⟩ => by rw [e]; exact SqL.of hr1) ?_ ?_⟩
    · rintro i x σ H' hx ⟨v2, rfl, rfl⟩
      obtain ⟨c, hc, rfl⟩ : ∃ c, row[i]? = some c ∧ x = V.int (c : Int) := by
        unfold nI at hx
        rw [List.map_map, List.getElem?_map] at hx
        cases e2 : row[i]? with
        | none =>
          rw [e2] at hx
          cases hx
        | some n =>
          rw [e2] at hx
          exact ⟨n, rfl, (Option.some.inj hx).symm⟩
      have il := (List.getElem?_eq_some_iff.mp hc).1
      have sm : VbkdCore.valueOf (row.take i) < 2 ^ 30 := by
        have := value_more (row.take i) 0 0 (by decide) fun c hc => dg c (List.mem_of_mem_take hc)
        refine Nat.lt_of_lt_of_le this ?_
        have l : (row.take i).length ≤ 7 := by rw [List.length_take]; omega
        exact Nat.le_trans (Nat.pow_le_pow_right (by decide) (show 0 + (row.take i).length ≤ 7 by omega)) (by decide)
      have dc := dg c (List.mem_of_getElem? hc)
      refine ⟨_, rfl, _, _, rfl, rfl, wide_mul (a := 4) (b := 30) (by decide) (n_abs sm) (by decide) (by decide) (by decide), _, rfl, _, _, rfl, rfl, _, _, rfl, rfl, some (.int (c : Int)), ?_, rfl⟩
      have ev : (10 : Int) * ((VbkdCore.valueOf (row.take i) : Nat) : Int) + (c : Int) - 48 = ((VbkdCore.valueOf (row.take (i + 1)) : Nat) : Int) := by
        have e3 : VbkdCore.valueOf (row.take (i + 1)) = 10 * VbkdCore.valueOf (row.take i) + (c - 48) := by
          unfold VbkdCore.valueOf
          rw [take_succ hc, List.foldl_append]
          rfl
        rw [e3]
        omega
      show [some (V.ref ra), some (V.int ((10 : Int) * ((VbkdCore.valueOf (row.take i) : Nat) : Int) + (c : Int) - 48)), some (V.int (c : Int))] = _
      rw [ev]
    · rintro σ H' ⟨v2, rfl, rfl⟩
      rw [nI_len, List.take_length]
      exact ⟨_, rfl, q _ e1⟩
theorem sc_signed : FnScope N_signed ["row"] (defScope s_signed) := ⟨rfl, rfl, rfl, by decide +kernel, rfl, by decide +kernel, by decide +kernel⟩
theorem ok_signed (T : TX K mg) : FOk P w K mg base CX0 3 (He.ga K "signed") ["row"] (sp_signed K) := by
  obtain ⟨fd, F⟩ := T.f_signed
  obtain ⟨fd0, G0, b0⟩ := ok_number_of (P := P) (w := w) (base := base) T
  refine ⟨fd, F.ok sc_signed (fun _ _ _ _ h => h.1) (fun cdv A outer s H vs Q E hr h => ?_), F.binds fun _ _ _ _ _ _ us hl => match us, hl with | [_], _ => rfl⟩
  have hr0 := hr.mono (by decide : 2 ≤ 2)
  have hu64 := hr.units
  refine ⟨_, PSs.nox (pss_cons (ps_if (pt_cmpR (op_neD hu64) (pe_slice sl_list (pv 0) po_none (po_some pe_int)) (pe_lst (pa_cons (C8.pe_gc (by rfl) T.c_MINUS) pa_nil)) (by rfl)) (pss_one (ps_ret (pe_call G0 hr0 (by rfl) T.g_number_of T.k_number_of b0 .nil pass0 (pa_cons (pv 0) pa_nil)))) pss_nil)
    (pss_cons (ps_set (i := 1) sc_signed.nd rfl (.inl rfl) (pe_call G0 hr0 (by rfl) T.g_number_of T.k_number_of b0 .nil pass0 (pa_cons (pe_slice sl_list (pv 0) (po_some pe_int) po_none) pa_nil)))
    (pss_cons (ps_if (PW.pt (pw_or (pt_cmpR op_isN (pv 1) pe_non (by rfl)) (pw_or1 (pt_cmpR op_eq (pv 1) pe_int (by rfl))))) (pss_one (ps_ret pe_non)) pss_nil)
    (pss_one (ps_ret (pe_un un_neg (pv 1))))))), ?_⟩
  obtain ⟨_, h⟩ := h
  obtain ⟨v, row, rfl, ⟨ra, rfl, hr⟩, hl, q⟩ := h
  refine ⟨_, rfl, _, rfl, ra, _, rfl, SqL.of hr, fun p np => ?_⟩
  have k1 : Same H (upd H p (.lst (cutV ((nI row).map V.int) none (some 1)))) := Same.new np
  have hp : (upd H p (.lst (cutV ((nI row).map V.int) none (some 1)))) p = some (.lst ((nI (row.take 1)).map V.int)) := by
    rw [upd_same]
    exact congrArg some (congrArg HO.lst (cut_to row 1))
  generalize upd H p (.lst (cutV ((nI row).map V.int) none (some 1))) = H1 at k1 hp ⊢
  refine ⟨by show 1 ≤ sizeLine; decide, fun f nf => ⟨_, _, dp_ints (ns := nI (row.take 1)) ⟨p, rfl, (Same.new nf) _ _ hp⟩, dp_ints (ns := nI [45]) ⟨f, rfl, upd_same⟩, ints_shaped _, ints_shaped _, _, rfl, ?_⟩⟩
  have k2 : Same H (upd H1 f (.lst [.int 45])) := k1.trans (Same.new nf)
  rw [nats_eqv]
  by_cases c : row.take 1 = [45]
  · rw [decide_eq_true c]
    refine iteF ?_
    obtain ⟨r, rfl⟩ : ∃ r, row = 45 :: r := by
      cases row with
      | nil => cases c
      | cons x r =>
        have : x = 45 := (List.cons.inj c).1
        exact ⟨r, by rw [this]⟩
    refine ⟨_, rfl, _, rfl, ra, _, rfl, SqL.of (k2 _ _ hr), fun p2 np2 => ⟨rfl, .ref p2, r, rfl, ⟨p2, rfl, ?_⟩, by simp at hl; omega, fun H2 e2 => ?_⟩⟩
    · rw [upd_same]
      exact congrArg some (congrArg HO.lst (cut_from (45 :: r) 1))
    have k3 : Same H H2 := (k2.trans (Same.new np2)).trans e2
    rw [signed_minus rfl] at q
    refine ⟨_, rfl, rfl, _, rfl, ?_⟩
    cases hn : VbkdCore.numeral r with
    | none =>
      rw [hn] at q
      exact ite2 (fun _ => iteT (q _ k3)) (fun z => absurd (decide_eq_true rfl) z)
    | some n =>
      rw [hn] at q
      refine ite2 (fun z => by cases of_decide_eq_true z) (fun _ => ?_)
      refine ⟨_, rfl, rfl, _, rfl, ?_⟩
      refine ite2 (fun z => ?_) (fun z => ?_)
      · have n0 : n = 0 := ord_eq (j := 0) z
        rw [n0] at q
        exact q _ k3
      · have n0 : ¬ n = 0 := ord_ne (j := 0) z
        refine ⟨_, rfl, _, rfl, ?_⟩
        have := q _ k3
        rw [Option.bind_some, if_neg n0] at this
        exact this
  · rw [decide_eq_false c]
    refine iteT ?_
    rw [signed_other c] at q
    exact ⟨_, rfl, rfl, .ref ra, row, rfl, ⟨ra, rfl, k2 _ _ hr⟩, hl, fun H2 e2 => q _ (k2.trans e2)⟩
theorem ints_flat : ∀ l : List Nat, ((nI l).map V.int).all flatV = true
  | [] => rfl
  | n :: r => by
    show (flatV (V.int (n : Int)) && ((nI r).map V.int).all flatV) = true
    rw [ints_flat r]
    rfl
theorem inV_nat (c : Nat) : ∀ l : List Nat, inV (V.int (c : Int)) ((nI l).map V.int) = decide (c ∈ l)
  | [] => by simp [inV, nI]
  | n :: r => by
    have e : inV (V.int (c : Int)) ((nI (n :: r)).map V.int) = (eqV (V.int (n : Int)) (V.int (c : Int)) || inV (V.int (c : Int)) ((nI r).map V.int)) := rfl
    rw [e, inV_nat c r]
    have e2 : eqV (V.int (n : Int)) (V.int (c : Int)) = decide (n = c) := by
      show ((n : Int) == (c : Int)) = decide (n = c)
      by_cases h : n = c
      · simp [h]
      · rw [decide_eq_false h]
        exact beq_eq_false_iff_ne.mpr (by omega)
    rw [e2]
    by_cases h : n = c
    · simp [h]
    · by_cases h2 : c ∈ r
      · simp [h2]
      · simp [h, h2, Ne.symm h]
theorem slash_split : ∀ {w : List Nat}, 47 ∈ w → ∃ a b, w = a ++ 47 :: b ∧ 47 ∉ a
  | [], h => by cases h
  | x :: r, h => by
    by_cases e : x = 47
    · exact ⟨[], r, by rw [e]; rfl, by simp⟩
    · rcases List.mem_cons.mp h with e2 | e2
      · exact absurd e2.symm e
      · obtain ⟨a1, b1, e3, e4⟩ := slash_split e2
        refine ⟨x :: a1, b1, by rw [e3]; rfl, fun z => ?_⟩
        rcases List.mem_cons.mp z with e5 | e5
        · exact e e5.symm
        · exact e4 e5
theorem eqV_nat (n c : Nat) : eqV (V.int (n : Int)) (V.int (c : Int)) = decide (n = c) := by
  show ((n : Int) == (c : Int)) = decide (n = c)
  by_cases h : n = c
  · simp [h]
  · rw [decide_eq_false h]
    exact beq_eq_false_iff_ne.mpr (by omega)
theorem nI_get {l : List Nat} {i : Nat} {x : V} (hx : ((nI l).map V.int)[i]? = some x) : ∃ n, l[i]? = some n ∧ x = V.int (n : Int) := by
  unfold nI at hx
  rw [List.map_map, List.getElem?_map] at hx
  cases e2 : l[i]? with
  | none =>
    rw [e2] at hx
    cases hx
  | some n =>
    rw [e2] at hx
    exact ⟨n, rfl, (Option.some.inj hx).symm⟩
theorem sc_fraction_of : FnScope N_fraction_of ["row"] (defScope s_fraction_of) := ⟨rfl, rfl, rfl, by decide +kernel, rfl, by decide +kernel, by decide +kernel⟩
theorem ok_fraction_of (T : TX K mg) : FOk P w K mg base CX0 4 (He.ga K "fraction_of") ["row"] (sp_fraction_of K) := by
  obtain ⟨fd, F⟩ := T.f_fraction_of
  obtain ⟨fd0, G0, b0⟩ := ok_signed (P := P) (w := w) (base := base) T
  obtain ⟨fd1, G1, b1⟩ := ok_number_of (P := P) (w := w) (base := base) T
  obtain ⟨fd2, G2, b2⟩ := ok_divisor (P := P) (w := w) (base := base) T
  refine ⟨fd, F.ok sc_fraction_of (fun _ _ _ _ h => h.1) (fun cdv A outer s H vs Q E hr h => ?_), F.binds fun _ _ _ _ _ _ us hl => match us, hl with | [_], _ => rfl⟩
  have hr0 := hr.mono (by decide : 3 ≤ 3)
  have hr1 := hr.mono (by decide : 2 ≤ 3)
  have hr2 := hr.mono (by decide : 1 ≤ 3)
  refine ⟨_, PSs.nox (pss_cons (ps_if (pt_cmpR op_notIn_seq (C8.pe_gc (by rfl) T.c_SLASH) (pv 0) (by rfl)) (pss_cons (ps_set (i := 1) sc_fraction_of.nd rfl (.inl rfl) (pe_call G0 hr0 (by rfl) T.g_signed T.k_signed b0 .nil pass0 (pa_cons (pv 0) pa_nil)))
    (pss_one (ps_ret (pe_ifExp (pt_cmpR op_isN (pv 1) pe_non (by rfl)) pe_non (pe_tup (pa_cons (pv 1) (pa_cons pe_int pa_nil))))))) pss_nil)
    (pss_cons (ps_set (i := 2) sc_fraction_of.nd rfl (.inl rfl) (pe_bm PySem.F.plainAttrs_list PySem.F.slot_list_index PySem.F.type_list_index mt_index (pv 0) (pa_cons (C8.pe_gc (by rfl) T.c_SLASH) pa_nil)))
    (pss_cons (ps_par (i := 1) (j := 3) (by rfl) sc_fraction_of.nd rfl rfl (by decide) rfl rfl (pa_cons (pe_call G0 hr0 (by rfl) T.g_signed T.k_signed b0 .nil pass0 (pa_cons (pe_slice sl_list (pv 0) po_none (po_some (pv 2))) pa_nil)) (pa_cons (pe_call G1 hr1 (by rfl) T.g_number_of T.k_number_of b1 .nil pass0 (pa_cons (pe_slice sl_list (pv 0) (po_some (pe_op op_add (pv 2) pe_int)) po_none) pa_nil)) pa_nil)) (by rfl))
    (pss_cons (ps_if (PW.pt (pw_or (pt_cmpR op_isN (pv 1) pe_non (by rfl)) (pw_or (pt_cmpR op_isN (pv 3) pe_non (by rfl)) (pw_or (pt_cmpR op_lt (pv 3) (C8.pe_gc (by rfl) T.c_LEAST_LOWER) (by rfl)) (pw_or1 (pt_cmpR op_ne (pe_call G2 hr2 (by rfl) T.g_divisor T.k_divisor b2 .nil pass0 (pa_cons (pe_callB call_abs (by rfl) T.n_abs (by decide +kernel) (pa_cons (pv 1) pa_nil)) (pa_cons (pv 3) pa_nil))) pe_int (by rfl))))))) (pss_one (ps_ret pe_non)) pss_nil)
    (pss_one (ps_ret (pe_tup (pa_cons (pv 1) (pa_cons (pv 3) pa_nil))))))))), ?_⟩
  obtain ⟨_, h⟩ := h
  obtain ⟨v, row, rfl, ⟨ra, rfl, hr⟩, hl, q⟩ := h
  refine ⟨_, rfl, ra, _, rfl, .inl (SqL.of hr), rfl, ints_flat row, _, rfl, ?_⟩
  rw [show (V.int 47) = V.int ((47 : Nat) : Int) from rfl, inV_nat]
  by_cases c : 47 ∈ row
  · rw [decide_eq_true c]
    refine iteF ?_
    obtain ⟨a, b, rfl, ha⟩ := slash_split c
    rw [readQ_two ha] at q
    have la : a.length ≤ 1000 := by rw [List.length_append] at hl; omega
    have lb : b.length ≤ 1000 := by rw [List.length_append, List.length_cons] at hl; omega
    refine ⟨_, rfl, Or.inl ⟨rfl, _, SqL.of hr⟩, ra, _, _, a.length, V.int ((47 : Nat) : Int), rfl, rfl, SqL.of hr, rfl, ints_flat _, nI_at (by rw [List.getElem?_append_right (Nat.le_refl _), Nat.sub_self]; rfl), rfl, fun m z' hm hz => ?_, ?_⟩
    · obtain ⟨n, hn, rfl⟩ := nI_get hz
      rw [eqV_nat]
      rw [List.getElem?_append_left hm] at hn
      exact decide_eq_false fun z => ha (by rw [← z]; exact List.mem_of_getElem? hn)
    -- upper, lower
    refine ⟨_, rfl, _, rfl, _, rfl, ra, _, rfl, SqL.of hr, fun p np => ⟨rfl, .ref p, a, rfl, ⟨p, rfl, ?_⟩, la, fun H1 e1 => ?_⟩⟩
    · rw [upd_same]
      refine congrArg some (congrArg HO.lst ((cut_to (a ++ 47 :: b) a.length).trans ?_))
      rw [List.take_left]
    have k1 : Same H H1 := (Same.new np).trans e1
    refine ⟨_, rfl, _, rfl, _, _, rfl, rfl, _, rfl, ra, _, rfl, SqL.of (k1 _ _ hr), fun p2 np2 => ⟨rfl, .ref p2, b, rfl, ⟨p2, rfl, ?_⟩, lb, fun H2 e2 => ?_⟩⟩
    · rw [upd_same]
      refine congrArg some (congrArg HO.lst ((cut_from (a ++ 47 :: b) (a.length + 1)).trans ?_))
      have ed : (a ++ 47 :: b).drop (a.length + 1) = b := by
        rw [show a.length + 1 = (a ++ [47]).length by simp, show a ++ 47 :: b = (a ++ [47]) ++ b by simp, List.drop_left]
      rw [ed]
    have k2 : Same H H2 := (k1.trans (Same.new np2)).trans e2
    refine ⟨_, _, rfl, _, rfl, rfl, _, rfl, ?_⟩
    cases hs : VbkdCore.signed a with
    | none =>
      rw [hs] at q
      exact ite2 (fun _ => iteT (q _ _ k2 rfl)) (fun z => absurd (decide_eq_true rfl) z)
    | some n =>
      rw [hs] at q
      refine ite2 (fun z => by cases of_decide_eq_true z) (fun _ => ?_)
      refine ⟨_, rfl, rfl, _, rfl, ?_⟩
      cases hn : VbkdCore.numeral b with
      | none =>
        rw [hn] at q
        exact ite2 (fun _ => iteT (q _ _ k2 rfl)) (fun z => absurd (decide_eq_true rfl) z)
      | some d =>
        rw [hn] at q
        rw [Option.bind_some, Option.bind_some] at q
        refine ite2 (fun z => by cases of_decide_eq_true z) (fun _ => ?_)
        refine ⟨_, rfl, _, _, rfl, rfl, _, rfl, ?_⟩
        refine ite2 (fun z => ?_) (fun z => ?_)
        · have z : (d : Int) < 2 := of_decide_eq_true z
          refine iteT (q _ _ k2 ?_)
          rw [if_pos (.inl (by omega))]
        · have d2 : 1 < d := by
            have : ¬ (d : Int) < 2 := fun y => z (decide_eq_true y)
            omega
          refine ⟨_, rfl, _, rfl, _, rfl, rfl, n.natAbs, d, ?_, rfl, _, rfl, ?_⟩
          · rw [show (if n < 0 then -n else n) = ((n.natAbs : Nat) : Int) by split <;> omega]
            rfl
          rw [Nat.gcd_comm]
          have ms := mk_same (n := n) d2
          by_cases g : Nat.gcd n.natAbs d = 1
          · rw [g]
            refine iteF ?_
            refine ⟨_, rfl, _, rfl, by show 2 ≤ sizeLine; decide, fun f nf => q _ _ (k2.trans (Same.new nf)) ?_⟩
            rw [if_neg (fun z => by
              rcases z with z | z
              · omega
              · exact z (ms.mpr g))]
            exact ⟨f, rfl, SqT.of upd_same⟩
          · refine ite2 (fun _ => ?_) (fun z => ?_)
            · refine q _ _ k2 ?_
              rw [if_pos (.inr fun z => g (ms.mp z))]
            · refine absurd ?_ z
              have : ¬ V.int ((Nat.gcd n.natAbs d : Nat) : Int) = V.int 1 := fun e => g (by have := V.int.inj e; omega)
              rw [decide_eq_false this]
              rfl
  · rw [decide_eq_false c]
    refine iteT ?_
    rw [readQ_one c] at q
    refine ⟨_, rfl, rfl, .ref ra, row, rfl, ⟨ra, rfl, hr⟩, hl, fun H1 e1 => ?_⟩
    refine ⟨_, rfl, rfl, _, rfl, ?_⟩
    cases hs : VbkdCore.signed row with
    | none =>
      rw [hs] at q
      exact ite2 (fun _ => q _ _ e1 rfl) (fun z => absurd (decide_eq_true rfl) z)
    | some n =>
      rw [hs] at q
      refine ite2 (fun z => by cases of_decide_eq_true z) (fun _ => ?_)
      exact ⟨_, rfl, by show 2 ≤ sizeLine; decide, fun f nf => q _ _ (e1.trans (Same.new nf)) ⟨f, rfl, SqT.of upd_same⟩⟩
end
end Bc


-- end of a part
set_option Elab.async false
set_option linter.all false
set_option maxRecDepth 100000
set_option maxHeartbeats 4000000
set_option exponentiation.threshold 100000
/-! # plans read -/
namespace Bc
open PySem PySem.Spec PyProof.Rows L2
/-- an object newly made, its fields put -/
theorem made_same {H : Hp} {x dx C : Addr} {fs fs' : List (Str × V)} (nx : H x = none) (nd : H dx = none) (ne : dx ≠ x) : Same H (upd (upd (upd H dx (.own x)) x (.ins C dx fs)) x (.ins C dx fs')) := fun c o hc => by
  rw [upd_ne (ne_of_none hc nx), upd_ne (ne_of_none hc nx), upd_ne (ne_of_none hc nd)]
  exact hc
theorem SqT.but {K : PySem.W.Frag} {H H' : Hp} {p : Addr} {xs : List V} {a C dx : Addr} {fs : List (Str × V)} (h : SqT K H p xs) (e : SameBut a H H') (ha : H a = some (.ins C dx fs)) : SqT K H' p xs := by
  rcases h with (h | ⟨o, h⟩) | h
  · exact .inl (.inl (e _ _ (ne_of h ha (by intro z; cases z)) h))
  · exact .inl (.inr ⟨o, e _ _ (ne_of h ha (by intro z; cases z)) h⟩)
  · exact .inr h
theorem FrAt.but {K : PySem.W.Frag} {H H' : Hp} {v : V} {q : Qd} {a C dx : Addr} {fs : List (Str × V)} (h : FrAt K H v q) (e : SameBut a H H') (ha : H a = some (.ins C dx fs)) : FrAt K H' v q :=
  let ⟨p, x, y⟩ := h; ⟨p, x, SqT.but y e ha⟩
theorem Fr2At.but {K : PySem.W.Frag} {H H' : Hp} {v : V} {x y : Qd} {a C dx : Addr} {fs : List (Str × V)} (h : Fr2At K H v x y) (e : SameBut a H H') (ha : H a = some (.ins C dx fs)) : Fr2At K H' v x y :=
  let ⟨p, u, w, r, s, t, z⟩ := h; ⟨p, u, w, r, SqT.but s e ha, t.but e ha, z.but e ha⟩
theorem LnAt.obj {K : PySem.W.Frag} {H : Hp} {a : Addr} {r : List VbkdCore.Word} {e : Nat} (h : LnAt K H a r e) : ∃ dx fs, H a = some (.ins (He.ga K "Line") dx fs) := let ⟨dx, _, _, _, _, x, _⟩ := h; ⟨dx, _, x⟩
theorem LnAt.objL {K : PySem.W.Frag} {H : Hp} {a : Addr} {r : List VbkdCore.Word} {e : Nat} (h : LnAt K H a r e) : ∃ dx wl i, H a = some (.ins (He.ga K "Line") dx (F_Line (.ref wl) (.int (e : Int)) (.int ((i : Nat) : Int)))) := let ⟨dx, wl, _, _, i, x, _⟩ := h; ⟨dx, wl, i, x⟩
def sp_Channel_init (K : PySem.W.Frag) : Sp := mkSp 7 fun vs H Q _ => ∃ (a dx : Addr) (v1 v2 v3 v4 v5 v6 : V), vs = [.ref a, v1, v2, v3, v4, v5, v6] ∧ H a = some (.ins (He.ga K "Channel") dx []) ∧ Q .non (upd H a (.ins (He.ga K "Channel") dx (F_Channel v1 v2 v3 v4 v5 v6)))
def sp_Plan_init (K : PySem.W.Frag) : Sp := mkSp 3 fun vs H Q _ => ∃ (a dx : Addr) (v1 v2 : V), vs = [.ref a, v1, v2] ∧ H a = some (.ins (He.ga K "Plan") dx []) ∧ Q .non (upd H a (.ins (He.ga K "Plan") dx (F_Plan v1 v2)))
def sp_Channel_with_trials (K : PySem.W.Frag) : Sp := mkSp 2 fun vs H Q _ => ∃ (v : V) (t : Nat) (c : Vbkdai.Chan), vs = [v, .int t] ∧ ChanAt K H v c ∧ Ret H Q fun v H' => ChanAt K H' v { c with trials := t }
def sp_Channel_with_order (K : PySem.W.Frag) : Sp := mkSp 2 fun vs H Q _ => ∃ (v : V) (o : Nat) (c : Vbkdai.Chan), vs = [v, .int o] ∧ ChanAt K H v c ∧ Ret H Q fun v H' => ChanAt K H' v { c with order := o }
def sp_Channel_with_sure (K : PySem.W.Frag) : Sp := mkSp 2 fun vs H Q _ => ∃ (v u : V) (s : Qd) (c : Vbkdai.Chan), vs = [v, u] ∧ ChanAt K H v c ∧ FrAt K H u s ∧ Ret H Q fun v H' => ChanAt K H' v { c with sure := s }
def sp_Plan_with_channel (K : PySem.W.Frag) : Sp := mkSp 3 fun vs H Q _ => ∃ (v u : V) (i : Nat) (p : Vbkdai.Plan) (c : Vbkdai.Chan), vs = [v, .int i, u] ∧ PlanAt K H v p ∧ ChanAt K H u c ∧ i < p.chans.length ∧ p.chans.length ≤ 4 ∧ Ret H Q fun v H' => PlanAt K H' v { p with chans := p.chans.set i c }
def sp_read_number (K : PySem.W.Frag) : Sp := mkSp 2 fun vs H Q E => ∃ (a : Addr) (r : List VbkdCore.Word) (e m : Nat), vs = [.ref a, .int m] ∧ LnAt K H a r e ∧ (∀ w ∈ r, w.2.length ≤ 1000) ∧ Ans K a H Q E (Vbkdai.numberIn 1 m e r) fun y v H' => v = .int (y.1 : Int) ∧ LnAt K H' a y.2 e
/-- a fraction that's told in a text -/
theorem next_mem {e : Nat} {r : List VbkdCore.Word} {y : VbkdCore.Word × List VbkdCore.Word} (h : Vbkdai.next e r = .ok y) : r = y.1 :: y.2 := by
  cases r with
  | nil => cases h
  | cons w l => cases h; rfl
theorem numberIn_bad {lo hi e : Nat} {r : List VbkdCore.Word} {f : VbkdCore.Fault} (h : Vbkdai.next e r = .error f) : Vbkdai.numberIn lo hi e r = .error f := by
  unfold Vbkdai.numberIn
  rw [h]
  rfl
theorem numberIn_ok {lo hi e : Nat} {r : List VbkdCore.Word} {y : VbkdCore.Word × List VbkdCore.Word} (h : Vbkdai.next e r = .ok y) : Vbkdai.numberIn lo hi e r = match VbkdCore.numeral y.1.2 with
    | none => .error ⟨1, y.1.1⟩
    | some n => if n < lo ∨ hi < n then .error ⟨2, y.1.1⟩ else .ok (n, y.2) := by
  unfold Vbkdai.numberIn
  rw [h]
  rfl
theorem cast_some (n : Nat) : oV (Option.map (fun n : Nat => (n : Int)) (some n)) = V.int (n : Int) := rfl
section
variable {P : Program} {w : World} {K : PySem.W.Frag} {mg : Str → Option Value} {base : Heap}
theorem sc_Channel_init : FnScope N_Channel_init ["self", "name", "trials", "base", "gain", "sure", "order"] (defScope s_Channel_init) := ⟨rfl, rfl, rfl, by decide +kernel, rfl, by decide +kernel, by decide +kernel⟩
theorem ok_Channel_init (T : TX K mg) : FOk P w K mg base CX0 1 (He.ma K (He.ga K "Channel") "__init__") ["self", "name", "trials", "base", "gain", "sure", "order"] (sp_Channel_init K) := by
  obtain ⟨fd, F⟩ := T.f_Channel_init
  refine ⟨fd, F.ok sc_Channel_init (fun _ _ _ _ h => h.1) (fun cdv A outer s H vs Q E hr h => ?_), F.binds fun _ _ _ _ _ _ us hl => match us, hl with | [_, _, _, _, _, _, _], _ => rfl⟩
  refine ⟨_, PSs.nox (pss_cons (ps_fld (pv 0) (pv 1) rfl)
    (pss_cons (ps_fld (pv 0) (pv 2) rfl)
    (pss_cons (ps_fld (pv 0) (pv 3) rfl)
    (pss_cons (ps_fld (pv 0) (pv 4) rfl)
    (pss_cons (ps_fld (pv 0) (pv 5) rfl)
    (pss_one (ps_fld (pv 0) (pv 6) rfl))))))), ?_⟩
  obtain ⟨_, h⟩ := h
  obtain ⟨a, dx, v1, v2, v3, v4, v5, v6, rfl, ha, q⟩ := h
  refine ⟨_, rfl, _, rfl, a, _, dx, _, rfl, ha, T.cl_Channel, T.na_Channel_name, by show 0 < 1000; decide, ?_⟩
  refine ⟨_, rfl, _, rfl, a, _, dx, _, rfl, upd_same, T.cl_Channel, T.na_Channel_trials, by show 1 < 1000; decide, ?_⟩
  refine ⟨_, rfl, _, rfl, a, _, dx, _, rfl, upd_same, T.cl_Channel, T.na_Channel_base, by show 2 < 1000; decide, ?_⟩
  refine ⟨_, rfl, _, rfl, a, _, dx, _, rfl, upd_same, T.cl_Channel, T.na_Channel_gain, by show 3 < 1000; decide, ?_⟩
  refine ⟨_, rfl, _, rfl, a, _, dx, _, rfl, upd_same, T.cl_Channel, T.na_Channel_sure, by show 4 < 1000; decide, ?_⟩
  refine ⟨_, rfl, _, rfl, a, _, dx, _, rfl, upd_same, T.cl_Channel, T.na_Channel_order, by show 5 < 1000; decide, ?_⟩
  rw [upd_upd, upd_upd, upd_upd, upd_upd, upd_upd, M_Channel]
  exact q
theorem sc_Channel_with_trials : FnScope N_Channel_with_trials ["self", "trials"] (defScope s_Channel_with_trials) := ⟨rfl, rfl, rfl, by decide +kernel, rfl, by decide +kernel, by decide +kernel⟩
theorem ok_Channel_with_trials (T : TX K mg) : FOk P w K mg base CX0 3 (He.ma K (He.ga K "Channel") "with_trials") ["self", "trials"] (sp_Channel_with_trials K) := by
  obtain ⟨fd, F⟩ := T.f_Channel_with_trials
  obtain ⟨fd0, G0, b0⟩ := ok_Channel_init (P := P) (w := w) (base := base) T
  refine ⟨fd, F.ok sc_Channel_with_trials (fun _ _ _ _ h => h.1) (fun cdv A outer s H vs Q E hr h => ?_), F.binds fun _ _ _ _ _ _ us hl => match us, hl with | [_, _], _ => rfl⟩
  have hr0 := hr.mono (by decide : 2 ≤ 2)
  refine ⟨_, PSs.nox (pss_one (ps_ret (pe_make T.mk_Channel G0 hr0 (by rfl) T.g_Channel b0 .nil pass0 (pa_cons (pe_fld (pv 0) rfl) (pa_cons (pv 1) (pa_cons (pe_fld (pv 0) rfl) (pa_cons (pe_fld (pv 0) rfl) (pa_cons (pe_fld (pv 0) rfl) (pa_cons (pe_fld (pv 0) rfl) pa_nil))))))))), ?_⟩
  obtain ⟨_, h⟩ := h
  obtain ⟨v, t, c, rfl, ⟨a, dx, nm, b, g, s, rfl, ha, c1, c2, c3, c4⟩, q⟩ := h
  refine ⟨_, rfl, a, _, dx, _, _, rfl, ha, T.cl_Channel, T.na_Channel_name, L_Channel_name, ?_⟩
  refine ⟨_, rfl, ?_⟩
  refine ⟨_, rfl, a, _, dx, _, _, rfl, ha, T.cl_Channel, T.na_Channel_base, L_Channel_base, ?_⟩
  refine ⟨_, rfl, a, _, dx, _, _, rfl, ha, T.cl_Channel, T.na_Channel_gain, L_Channel_gain, ?_⟩
  refine ⟨_, rfl, a, _, dx, _, _, rfl, ha, T.cl_Channel, T.na_Channel_sure, L_Channel_sure, ?_⟩
  refine ⟨_, rfl, a, _, dx, _, _, rfl, ha, T.cl_Channel, T.na_Channel_order, L_Channel_order, ?_⟩
  intro x dx nx nd ne
  refine ⟨rfl, x, dx, _, _, _, _, _, _, rfl, upd_same, rfl, ?_⟩
  have k := made_same (C := He.ga K "Channel") (fs := []) (fs' := F_Channel nm (.int (t : Int)) b g s (.int (c.order : Int))) nx nd ne
  exact q _ _ k ⟨x, dx, nm, b, g, s, rfl, upd_same, c1.same k, c2.same k, c3.same k, c4.same k⟩
theorem sc_Channel_with_order : FnScope N_Channel_with_order ["self", "order"] (defScope s_Channel_with_order) := ⟨rfl, rfl, rfl, by decide +kernel, rfl, by decide +kernel, by decide +kernel⟩
theorem ok_Channel_with_order (T : TX K mg) : FOk P w K mg base CX0 3 (He.ma K (He.ga K "Channel") "with_order") ["self", "order"] (sp_Channel_with_order K) := by
  obtain ⟨fd, F⟩ := T.f_Channel_with_order
  obtain ⟨fd0, G0, b0⟩ := ok_Channel_init (P := P) (w := w) (base := base) T
  refine ⟨fd, F.ok sc_Channel_with_order (fun _ _ _ _ h => h.1) (fun cdv A outer s H vs Q E hr h => ?_), F.binds fun _ _ _ _ _ _ us hl => match us, hl with | [_, _], _ => rfl⟩
  have hr0 := hr.mono (by decide : 2 ≤ 2)
  refine ⟨_, PSs.nox (pss_one (ps_ret (pe_make T.mk_Channel G0 hr0 (by rfl) T.g_Channel b0 .nil pass0 (pa_cons (pe_fld (pv 0) rfl) (pa_cons (pe_fld (pv 0) rfl) (pa_cons (pe_fld (pv 0) rfl) (pa_cons (pe_fld (pv 0) rfl) (pa_cons (pe_fld (pv 0) rfl) (pa_cons (pv 1) pa_nil))))))))), ?_⟩
  obtain ⟨_, h⟩ := h
  obtain ⟨v, o, c, rfl, ⟨a, dx, nm, b, g, s, rfl, ha, c1, c2, c3, c4⟩, q⟩ := h
  refine ⟨_, rfl, a, _, dx, _, _, rfl, ha, T.cl_Channel, T.na_Channel_name, L_Channel_name, ?_⟩
  refine ⟨_, rfl, a, _, dx, _, _, rfl, ha, T.cl_Channel, T.na_Channel_trials, L_Channel_trials, ?_⟩
  refine ⟨_, rfl, a, _, dx, _, _, rfl, ha, T.cl_Channel, T.na_Channel_base, L_Channel_base, ?_⟩
  refine ⟨_, rfl, a, _, dx, _, _, rfl, ha, T.cl_Channel, T.na_Channel_gain, L_Channel_gain, ?_⟩
  refine ⟨_, rfl, a, _, dx, _, _, rfl, ha, T.cl_Channel, T.na_Channel_sure, L_Channel_sure, ?_⟩
  refine ⟨_, rfl, ?_⟩
  intro x dx nx nd ne
  refine ⟨rfl, x, dx, _, _, _, _, _, _, rfl, upd_same, rfl, ?_⟩
  have k := made_same (C := He.ga K "Channel") (fs := []) (fs' := F_Channel nm (.int (c.trials : Int)) b g s (.int (o : Int))) nx nd ne
  exact q _ _ k ⟨x, dx, nm, b, g, s, rfl, upd_same, c1.same k, c2.same k, c3.same k, c4.same k⟩
theorem sc_Channel_with_sure : FnScope N_Channel_with_sure ["self", "sure"] (defScope s_Channel_with_sure) := ⟨rfl, rfl, rfl, by decide +kernel, rfl, by decide +kernel, by decide +kernel⟩
theorem ok_Channel_with_sure (T : TX K mg) : FOk P w K mg base CX0 3 (He.ma K (He.ga K "Channel") "with_sure") ["self", "sure"] (sp_Channel_with_sure K) := by
  obtain ⟨fd, F⟩ := T.f_Channel_with_sure
  obtain ⟨fd0, G0, b0⟩ := ok_Channel_init (P := P) (w := w) (base := base) T
  refine ⟨fd, F.ok sc_Channel_with_sure (fun _ _ _ _ h => h.1) (fun cdv A outer s H vs Q E hr h => ?_), F.binds fun _ _ _ _ _ _ us hl => match us, hl with | [_, _], _ => rfl⟩
  have hr0 := hr.mono (by decide : 2 ≤ 2)
  refine ⟨_, PSs.nox (pss_one (ps_ret (pe_make T.mk_Channel G0 hr0 (by rfl) T.g_Channel b0 .nil pass0 (pa_cons (pe_fld (pv 0) rfl) (pa_cons (pe_fld (pv 0) rfl) (pa_cons (pe_fld (pv 0) rfl) (pa_cons (pe_fld (pv 0) rfl) (pa_cons (pv 1) (pa_cons (pe_fld (pv 0) rfl) pa_nil))))))))), ?_⟩
  obtain ⟨_, h⟩ := h
  obtain ⟨v, u, s2, c, rfl, ⟨a, dx, nm, b, g, s, rfl, ha, c1, c2, c3, c4⟩, hu, q⟩ := h
  refine ⟨_, rfl, a, _, dx, _, _, rfl, ha, T.cl_Channel, T.na_Channel_name, L_Channel_name, ?_⟩
  refine ⟨_, rfl, a, _, dx, _, _, rfl, ha, T.cl_Channel, T.na_Channel_trials, L_Channel_trials, ?_⟩
  refine ⟨_, rfl, a, _, dx, _, _, rfl, ha, T.cl_Channel, T.na_Channel_base, L_Channel_base, ?_⟩
  refine ⟨_, rfl, a, _, dx, _, _, rfl, ha, T.cl_Channel, T.na_Channel_gain, L_Channel_gain, ?_⟩
  refine ⟨_, rfl, ?_⟩
  refine ⟨_, rfl, a, _, dx, _, _, rfl, ha, T.cl_Channel, T.na_Channel_order, L_Channel_order, ?_⟩
  intro x dx nx nd ne
  refine ⟨rfl, x, dx, _, _, _, _, _, _, rfl, upd_same, rfl, ?_⟩
  have k := made_same (C := He.ga K "Channel") (fs := []) (fs' := F_Channel nm (.int (c.trials : Int)) b g u (.int (c.order : Int))) nx nd ne
  exact q _ _ k ⟨x, dx, nm, b, g, u, rfl, upd_same, c1.same k, c2.same k, c3.same k, hu.same k⟩
theorem sc_Plan_init : FnScope N_Plan_init ["self", "parts", "channels"] (defScope s_Plan_init) := ⟨rfl, rfl, rfl, by decide +kernel, rfl, by decide +kernel, by decide +kernel⟩
theorem ok_Plan_init (T : TX K mg) : FOk P w K mg base CX0 1 (He.ma K (He.ga K "Plan") "__init__") ["self", "parts", "channels"] (sp_Plan_init K) := by
  obtain ⟨fd, F⟩ := T.f_Plan_init
  refine ⟨fd, F.ok sc_Plan_init (fun _ _ _ _ h => h.1) (fun cdv A outer s H vs Q E hr h => ?_), F.binds fun _ _ _ _ _ _ us hl => match us, hl with | [_, _, _], _ => rfl⟩
  refine ⟨_, PSs.nox (pss_cons (ps_fld (pv 0) (pv 1) rfl)
    (pss_one (ps_fld (pv 0) (pv 2) rfl))), ?_⟩
  obtain ⟨_, h⟩ := h
  obtain ⟨a, dx, v1, v2, rfl, ha, q⟩ := h
  refine ⟨_, rfl, _, rfl, a, _, dx, _, rfl, ha, T.cl_Plan, T.na_Plan_parts, by show 0 < 1000; decide, ?_⟩
  refine ⟨_, rfl, _, rfl, a, _, dx, _, rfl, upd_same, T.cl_Plan, T.na_Plan_channels, by show 1 < 1000; decide, ?_⟩
  rw [upd_upd, M_Plan]
  exact q
theorem cut_vto (l : List V) (b : Nat) : cutV l none (some (b : Int)) = l.take b := by
  unfold cutV
  rw [HT.sIx_nat]
  show (l.drop 0).take (min b l.length - 0) = l.take b
  rw [List.drop_zero, Nat.sub_zero]
  by_cases h : b ≤ l.length
  · rw [Nat.min_eq_left h]
  · rw [Nat.min_eq_right (by omega), List.take_length, List.take_of_length_le (by omega)]
theorem cut_vfrom (l : List V) (a : Nat) : cutV l (some (a : Int)) none = l.drop a := by
  unfold cutV
  rw [HT.sIx_nat]
  show (l.drop (min a l.length)).take (l.length - min a l.length) = l.drop a
  by_cases h : a ≤ l.length
  · rw [Nat.min_eq_left h, List.take_of_length_le (by rw [List.length_drop]; omega)]
  · rw [Nat.min_eq_right (by omega), List.drop_of_length_le (Nat.le_refl _), List.drop_of_length_le (by omega)]
    simp
theorem paired_take {α β : Type} {F : α → β → Prop} : ∀ {l : List α} {m : List β} (i : Nat), Paired F l m → Paired F (l.take i) (m.take i)
  | _, _, 0, _ => .nil
  | _, _, _ + 1, .nil => .nil
  | _, _, i + 1, .cons h t => .cons h (paired_take i t)
theorem paired_drop {α β : Type} {F : α → β → Prop} : ∀ {l : List α} {m : List β} (i : Nat), Paired F l m → Paired F (l.drop i) (m.drop i)
  | _, _, 0, h => h
  | _, _, _ + 1, .nil => .nil
  | _, _, i + 1, .cons _ t => paired_drop i t
theorem set_parts {α : Type} : ∀ {l : List α} {i : Nat} (x : α), i < l.length → l.set i x = l.take i ++ [x] ++ l.drop (i + 1)
  | [], i, x, h => by cases h
  | y :: l, 0, x, h => rfl
  | y :: l, i + 1, x, h => by
    show y :: l.set i x = y :: (l.take i ++ [x] ++ l.drop (i + 1))
    rw [set_parts x (Nat.lt_of_succ_lt_succ h)]
theorem sc_Plan_with_channel : FnScope N_Plan_with_channel ["self", "c", "channel"] (defScope s_Plan_with_channel) := ⟨rfl, rfl, rfl, by decide +kernel, rfl, by decide +kernel, by decide +kernel⟩
theorem ok_Plan_with_channel (T : TX K mg) : FOk P w K mg base CX0 3 (He.ma K (He.ga K "Plan") "with_channel") ["self", "c", "channel"] (sp_Plan_with_channel K) := by
  obtain ⟨fd, F⟩ := T.f_Plan_with_channel
  obtain ⟨fd0, G0, b0⟩ := ok_Plan_init (P := P) (w := w) (base := base) T
  refine ⟨fd, F.ok sc_Plan_with_channel (fun _ _ _ _ h => h.1) (fun cdv A outer s H vs Q E hr h => ?_), F.binds fun _ _ _ _ _ _ us hl => match us, hl with | [_, _, _], _ => rfl⟩
  have hr0 := hr.mono (by decide : 2 ≤ 2)
  refine ⟨_, PSs.nox (pss_one (ps_ret (pe_make T.mk_Plan G0 hr0 (by rfl) T.g_Plan b0 .nil pass0 (pa_cons (pe_fld (pv 0) rfl) (pa_cons (pe_op op_cat (pe_op op_cat (pe_slice sl_list (pe_fld (pv 0) rfl) po_none (po_some (pv 1))) (pe_lst (pa_cons (pv 2) pa_nil))) (pe_slice sl_list (pe_fld (pv 0) rfl) (po_some (pe_op op_add (pv 1) pe_int)) po_none)) pa_nil))))), ?_⟩
  obtain ⟨_, h⟩ := h
  obtain ⟨v, u, i, p, c, rfl, ⟨a, dx, l, vs, rfl, ha, hl, hv⟩, hu, hi, h4, q⟩ := h
  have lv := paired_len hv
  refine ⟨_, rfl, a, _, dx, _, _, rfl, ha, T.cl_Plan, T.na_Plan_parts, L_Plan_parts, ?_⟩
  refine ⟨_, rfl, a, _, dx, _, _, rfl, ha, T.cl_Plan, T.na_Plan_channels, L_Plan_channels, _, rfl, _, rfl, l, _, rfl, SqL.of hl, fun p1 n1 => ?_⟩
  have k1 : Same H (upd H p1 (.lst (cutV vs none (some (i : Int))))) := Same.new n1
  have h1 : (upd H p1 (.lst (cutV vs none (some (i : Int))))) p1 = some (.lst (vs.take i)) := by rw [upd_same, cut_vto]
  generalize upd H p1 (.lst (cutV vs none (some (i : Int)))) = H1 at k1 h1 ⊢
  refine ⟨_, rfl, by show 1 ≤ sizeLine; decide, fun p2 n2 => ?_⟩
  have k2 : Same H1 (upd H1 p2 (.lst [u])) := Same.new n2
  refine ⟨p1, p2, _, _, rfl, rfl, k2 _ _ h1, upd_same, ?_, fun p3 n3 => ?_⟩
  · rw [List.length_take]
    exact Nat.le_of_lt (small1000 (show min i vs.length + 1 ≤ 1000 by omega))
  have k3 : Same H1 (upd (upd H1 p2 (.lst [u])) p3 (.lst (vs.take i ++ [u]))) := k2.trans (Same.new n3)
  have h3 : (upd (upd H1 p2 (.lst [u])) p3 (.lst (vs.take i ++ [u]))) p3 = some (.lst (vs.take i ++ [u])) := upd_same
  generalize upd (upd H1 p2 (.lst [u])) p3 (.lst (vs.take i ++ [u])) = H3 at k3 h3 ⊢
  have k13 := k1.trans k3
  refine ⟨_, rfl, a, _, dx, _, _, rfl, k13 _ _ ha, T.cl_Plan, T.na_Plan_channels, L_Plan_channels, _, rfl, _, _, rfl, rfl, _, rfl, l, _, rfl, SqL.of (k13 _ _ hl), fun p4 n4 => ?_⟩
  have k4 : Same H3 (upd H3 p4 (.lst (cutV vs (some ((i : Int) + 1)) none))) := Same.new n4
  have h4 : (upd H3 p4 (.lst (cutV vs (some ((i : Int) + 1)) none))) p4 = some (.lst (vs.drop (i + 1))) := by
    rw [upd_same]
    exact congrArg some (congrArg HO.lst (cut_vfrom vs (i + 1)))
  generalize upd H3 p4 (.lst (cutV vs (some ((i : Int) + 1)) none)) = H4 at k4 h4 ⊢
  refine ⟨p3, p4, _, _, rfl, rfl, k4 _ _ h3, h4, ?_, fun p5 n5 => ?_⟩
  · rw [List.length_append, List.length_take, List.length_drop]
    exact Nat.le_of_lt (small1000 (show min i vs.length + 1 + (vs.length - (i + 1)) ≤ 1000 by omega))
  have k5 : Same H (upd H4 p5 (.lst (vs.take i ++ [u] ++ vs.drop (i + 1)))) := (k13.trans k4).trans (Same.new n5)
  have h5 : (upd H4 p5 (.lst (vs.take i ++ [u] ++ vs.drop (i + 1)))) p5 = some (.lst (vs.take i ++ [u] ++ vs.drop (i + 1))) := upd_same
  generalize upd H4 p5 (.lst (vs.take i ++ [u] ++ vs.drop (i + 1))) = H5 at k5 h5 ⊢
  intro x dx nx nd ne
  refine ⟨rfl, x, dx, _, _, rfl, upd_same, rfl, ?_⟩
  have k := made_same (C := He.ga K "Plan") (fs := []) (fs' := F_Plan (.int (p.parts : Int)) (.ref p5)) nx nd ne
  refine q _ _ (k5.trans k) ⟨x, dx, p5, _, rfl, upd_same, k _ _ h5, ?_⟩
  show Paired _ _ (p.chans.set i c)
  rw [set_parts c hi]
  have hv2 : Paired (ChanAt K _) vs p.chans := paired_imp (fun _ _ z => z.same (k5.trans k)) hv
  exact paired_app (paired_app (paired_take i hv2) (.cons (hu.same (k5.trans k)) .nil)) (paired_drop (i + 1) hv2)
theorem sc_read_number : FnScope N_read_number ["line", "most"] (defScope s_read_number) := ⟨rfl, rfl, rfl, by decide +kernel, rfl, by decide +kernel, by decide +kernel⟩
theorem ok_read_number (T : TX K mg) : FOk P w K mg base (L2N.CX P w) 4 (He.ga K "read_number") ["line", "most"] (sp_read_number K) := by
  obtain ⟨fd, F⟩ := T.f_read_number
  obtain ⟨fd0, G0, b0⟩ := ok_Line_take (P := P) (w := w) (base := base) T
  obtain ⟨fd1, G1, b1⟩ := ok_number_of (P := P) (w := w) (base := base) T
  obtain ⟨fd2, G2, b2⟩ := ok_Fault_init (P := P) (w := w) (base := base) T
  refine ⟨fd, F.okN sc_read_number (fun _ _ _ _ h => h.1) (fun cdv A outer s H vs Q E hr h => ?_), F.binds fun _ _ _ _ _ _ us hl => match us, hl with | [_, _], _ => rfl⟩
  have hr0 := hr.mono (by decide : 3 ≤ 3)
  have hr1 := hr.mono (by decide : 2 ≤ 3)
  have hr2 := hr.mono (by decide : 2 ≤ 3)
  refine ⟨_, (pss_cons (ps_asg (pe_meth0 (pv 0) T.cl_Line T.m_Line_take G0 hr0 b0 .nil (L2N.passes_call (L2N.takes_of rfl rfl rfl rfl) (fun _ _ _ _ h => h))) (pg_tup (by rfl) (pgs_cons (pg_name (i := 2) sc_read_number.nd rfl (.inl rfl)) (pgs_cons (pg_name (i := 3) sc_read_number.nd rfl (.inl rfl)) pgs_nil))))
    (pss_cons (ps_set (i := 4) sc_read_number.nd rfl (.inl rfl) (pe_call G1 hr1 (by rfl) T.g_number_of T.k_number_of b1 .nil pass0 (pa_cons (pv 3) pa_nil)))
    (pss_cons (ps_if (pt_cmpR op_isN (pv 4) pe_non (by rfl)) (pss_one (L2N.ps_raise rfl (L2N.takes_of rfl rfl rfl rfl) (L2N.pmk_oexN T.ox_Fault T.i_Fault T.t_Fault G2 hr2 b2 .nil pass0 (by rfl) T.g_Fault (pa_cons (C8.pe_gc (by rfl) T.c_MISPLACED) (pa_cons (pv 2) pa_nil))))) pss_nil)
    (pss_cons (ps_if (pt_not (pt_chain op_le op_le pe_int (pv 4) (pv 1))) (pss_one (L2N.ps_raise rfl (L2N.takes_of rfl rfl rfl rfl) (L2N.pmk_oexN T.ox_Fault T.i_Fault T.t_Fault G2 hr2 b2 .nil pass0 (by rfl) T.g_Fault (pa_cons (C8.pe_gc (by rfl) T.c_OUT_OF_RANGE) (pa_cons (pv 2) pa_nil))))) pss_nil)
    (pss_one (ps_ret (pv 4))))))), ?_⟩
  obtain ⟨_, h⟩ := h
  obtain ⟨a, r, e, m, rfl, hl, hw, qe, q⟩ := h
  obtain ⟨dx, fs, ha⟩ := hl.obj
  have hl0 := hl
  obtain ⟨dx, wl, vs, ws, i, h1, _⟩ := hl
  refine ⟨_, rfl, a, dx, _, rfl, h1, L_Line_take, rfl, a, r, e, rfl, hl0, fun f hf => qe f (numberIn_bad hf), fun y hy v H1 s1 ⟨⟨t, u, ev, ht, hu⟩, hl1⟩ => ?_⟩
  subst ev
  rw [numberIn_ok hy] at qe q
  refine ⟨t, _, rfl, SqT.of ht, rfl, _, _, rfl, _, _, rfl, rfl, ?_⟩
  refine ⟨_, rfl, rfl, u, y.1.2, rfl, hu, hw _ (by rw [next_mem hy]; exact List.mem_cons_self), fun H2 e2 => ?_⟩
  have k2 := s1.trans e2.but
  refine ⟨_, rfl, rfl, _, rfl, ?_⟩
  cases hn : VbkdCore.numeral y.1.2 with
  | none =>
    rw [hn] at qe q
    refine ite2 (fun _ => ?_) (fun z => absurd (decide_eq_true rfl) z)
    exact ⟨_, rfl, raise_fault (k := 1) (p := y.1.1) fun d H' s hd => qe _ rfl d H' (k2.trans s.but) hd⟩
  | some n =>
    rw [hn] at qe q
    refine ite2 (fun z => by cases of_decide_eq_true z) (fun _ => ?_)
    apply dup (n < 1 ∨ m < n)
    · intro hB hN
      refine ⟨_, rfl, _, _, rfl, rfl, _, rfl, ?_⟩
      refine ite2 (fun c1 => ?_) (fun c1 => ?_)
      · have c1 : (1 : Int) ≤ (n : Int) := of_decide_eq_true c1
        refine ⟨_, rfl, _, _, rfl, rfl, _, rfl, ?_⟩
        by_cases c3 : (n : Int) ≤ (m : Int)
        · rw [decide_eq_true c3]
          exact iteF (hN (by clear hB hN; omega))
        · rw [decide_eq_false c3]
          exact iteT (hB (by clear hB hN; omega))
      · have c1 : ¬ (1 : Int) ≤ (n : Int) := fun z => c1 (decide_eq_true z)
        exact ⟨_, rfl, iteT (hB (by clear hB hN; omega))⟩
    · intro c
      exact ⟨_, rfl, raise_fault (k := 2) (p := y.1.1) fun d H' s hd => qe ⟨2, y.1.1⟩ (if_pos c) d H' (k2.trans s.but) hd⟩
    · intro c
      exact ⟨_, rfl, q (n, y.2) (if_neg c) _ _ k2 ⟨rfl, hl1.same e2⟩⟩
end
end Bc


-- end of a part
set_option Elab.async false
set_option linter.all false
set_option maxRecDepth 100000
set_option maxHeartbeats 4000000
set_option exponentiation.threshold 100000
/-! # plans read: fractions, names, orders -/
namespace Bc
open PySem PySem.Spec PyProof.Rows L2
def Wl (r : List VbkdCore.Word) : Prop := ∀ w ∈ r, w.2.length ≤ 1000
theorem Wl.tl {e : Nat} {r : List VbkdCore.Word} {y : VbkdCore.Word × List VbkdCore.Word} (h : Wl r) (hy : Vbkdai.next e r = .ok y) : Wl y.2 := fun w hw => h w (by rw [next_mem hy]; exact List.mem_cons_of_mem _ hw)
theorem Wl.hd {e : Nat} {r : List VbkdCore.Word} {y : VbkdCore.Word × List VbkdCore.Word} (h : Wl r) (hy : Vbkdai.next e r = .ok y) : y.1.2.length ≤ 1000 := h _ (by rw [next_mem hy]; exact List.mem_cons_self)
theorem str_txt (s : String) : (Str.ofString s).cps.toList = VbkdCore.txt s := by
  rw [Str.ofString_eq_toList]
  rfl
theorem readQ_sm {w : List Nat} {q : Qd} (h : VbkdCore.readQ w = some q) : Sm 30 q := by
  have p7 : (10 : Nat) ^ 7 < 2 ^ 30 := by decide
  by_cases c : 47 ∈ w
  · obtain ⟨a, b, rfl, ha⟩ := slash_split c
    rw [readQ_two ha] at h
    obtain ⟨n, hn, h⟩ := Option.bind_eq_some_iff.mp h
    obtain ⟨d, hd, h⟩ := Option.bind_eq_some_iff.mp h
    have h1 := signed_small hn
    have h2 := numeral_small hd
    split at h
    · cases h
    · rename_i z
      cases h
      refine ⟨?_, ?_, ?_⟩
      · show n.natAbs < _
        omega
      · show 0 < d
        omega
      · show d < _
        omega
  · rw [readQ_one c] at h
    obtain ⟨n, hn, h⟩ := Option.map_eq_some_iff.mp h
    have h1 := signed_small hn
    subst h
    refine ⟨?_, Nat.one_pos, ?_⟩
    · show n.natAbs < _
      omega
    · show 1 < 2 ^ 30
      omega
theorem fracIn_bad {lo hi : Qd} {e : Nat} {r : List VbkdCore.Word} {f : VbkdCore.Fault} (h : Vbkdai.next e r = .error f) : Vbkdai.fracIn lo hi e r = .error f := by
  unfold Vbkdai.fracIn
  rw [h]
  rfl
theorem fracIn_ok {lo hi : Qd} {e : Nat} {r : List VbkdCore.Word} {y : VbkdCore.Word × List VbkdCore.Word} (h : Vbkdai.next e r = .ok y) : Vbkdai.fracIn lo hi e r = match VbkdCore.readQ y.1.2 with
    | none => .error ⟨1, y.1.1⟩
    | some q => if (VbkdCore.le lo q && (VbkdCore.le q hi && decide (q.d ≤ Vbkdai.LOW))) = false then .error ⟨2, y.1.1⟩ else .ok (q, y.2) := by
  unfold Vbkdai.fracIn
  rw [h]
  rfl
/-- what is known of a fraction that's read -/
theorem fracIn_is {lo hi : Qd} {e : Nat} {r : List VbkdCore.Word} {y : Qd × List VbkdCore.Word} (h : Vbkdai.fracIn lo hi e r = .ok y) : Sm 30 y.1 ∧ y.1.d ≤ 1000 ∧ VbkdCore.le lo y.1 = true ∧ VbkdCore.le y.1 hi = true ∧ ∃ w, r = w :: y.2 := by
  cases hn : Vbkdai.next e r with
  | error f => rw [fracIn_bad hn] at h; cases h
  | ok x =>
    rw [fracIn_ok hn] at h
    cases hq : VbkdCore.readQ x.1.2 with
    | none => rw [hq] at h; cases h
    | some q =>
      rw [hq] at h
      have h : (if (VbkdCore.le lo q && (VbkdCore.le q hi && decide (q.d ≤ Vbkdai.LOW))) = false then Except.error (⟨2, x.1.1⟩ : VbkdCore.Fault) else .ok (q, x.2)) = .ok y := h
      split at h
      · cases h
      · rename_i z
        cases h
        have z : (VbkdCore.le lo q && (VbkdCore.le q hi && decide (q.d ≤ Vbkdai.LOW))) = true := by simpa using z
        rw [Bool.and_eq_true, Bool.and_eq_true, decide_eq_true_eq] at z
        exact ⟨readQ_sm hq, z.2.2, z.1, z.2.1, x.1, next_mem hn⟩
theorem fracIn_wl {lo hi : Qd} {e : Nat} {r : List VbkdCore.Word} {y : Qd × List VbkdCore.Word} (h : Vbkdai.fracIn lo hi e r = .ok y) (w : Wl r) : Wl y.2 := by
  obtain ⟨_, _, _, _, x, rfl⟩ := fracIn_is h
  exact fun z hz => w z (List.mem_cons_of_mem _ hz)
/-- a fraction from 0 to 1 -/
theorem fq_of {q : Qd} (s : Sm 30 q) (d : q.d ≤ 1000) (h0 : VbkdCore.le Vbkdai.zero q = true) (h1 : VbkdCore.le q Vbkdai.one = true) : Fq 1000 q := by
  have a0 : ¬ q.n * ((1 : Nat) : Int) < 0 * (q.d : Int) := by
    intro z
    have z2 : VbkdCore.le Vbkdai.zero q = !decide (q.n * ((1 : Nat) : Int) < 0 * (q.d : Int)) := rfl
    rw [z2, decide_eq_true z] at h0
    cases h0
  have a1 : ¬ 1 * (q.d : Int) < q.n * ((1 : Nat) : Int) := by
    intro z
    have z2 : VbkdCore.le q Vbkdai.one = !decide (1 * (q.d : Int) < q.n * ((1 : Nat) : Int)) := rfl
    rw [z2, decide_eq_true z] at h1
    cases h1
  exact ⟨by omega, by omega, s.2.1, d⟩
def sp_read_fraction_plans (K : PySem.W.Frag) : Sp := mkSp 3 fun vs H Q E => ∃ (a : Addr) (r : List VbkdCore.Word) (e : Nat) (lo hi : Qd) (v1 v2 : V), vs = [.ref a, v1, v2] ∧ LnAt K H a r e ∧ Wl r ∧ FrAt K H v1 lo ∧ FrAt K H v2 hi ∧ Sm 3000 lo ∧ Sm 3000 hi ∧
  Ans K a H Q E (Vbkdai.fracIn lo hi e r) fun y v H' => FrAt K H' v y.1 ∧ LnAt K H' a y.2 e
def sp_read_range (K : PySem.W.Frag) : Sp := mkSp 2 fun vs H Q E => ∃ (a : Addr) (r : List VbkdCore.Word) (e : Nat) (hi : Qd) (v : V), vs = [.ref a, v] ∧ LnAt K H a r e ∧ Wl r ∧ FrAt K H v hi ∧ Sm 3000 hi ∧
  Ans K a H Q E (Vbkdai.rangeIn Vbkdai.zero hi e r) fun y v H' => Fr2At K H' v y.1.1 y.1.2 ∧ LnAt K H' a y.2 e
def sureIn (e : Nat) (r : List VbkdCore.Word) : Except VbkdCore.Fault (Qd × List VbkdCore.Word) := (Vbkdai.fracIn Vbkdai.zero Vbkdai.one e r).bind fun s => if s.1.n = 0 then .error ⟨2, (r.head?.map fun w => w.1).getD e⟩ else .ok s
def sp_read_sure (K : PySem.W.Frag) : Sp := mkSp 1 fun vs H Q E => ∃ (a : Addr) (r : List VbkdCore.Word) (e : Nat), vs = [.ref a] ∧ LnAt K H a r e ∧ Wl r ∧ Ans K a H Q E (sureIn e r) fun y v H' => FrAt K H' v y.1 ∧ LnAt K H' a y.2 e
def sp_is_name (K : PySem.W.Frag) : Sp := mkSp 1 fun vs H Q _ => ∃ (v : V) (row : List Nat), vs = [v] ∧ InAt H v (nI row) ∧ row.length ≤ 1000 ∧ ∀ H', Same H H' → Q (.bl (VbkdCore.isName row)) H'
section
variable {P : Program} {w : World} {K : PySem.W.Frag} {mg : Str → Option Value} {base : Heap}
theorem sc_read_fraction_plans : FnScope N_read_fraction_plans ["line", "low", "high"] (defScope s_read_fraction_plans) := ⟨rfl, rfl, rfl, by decide +kernel, rfl, by decide +kernel, by decide +kernel⟩
theorem ok_read_fraction_plans (T : TX K mg) : FOk P w K mg base (L2N.CX P w) 5 (He.ga K "read_fraction_plans") ["line", "low", "high"] (sp_read_fraction_plans K) := by
  obtain ⟨fd, F⟩ := T.f_read_fraction_plans
  obtain ⟨fd0, G0, b0⟩ := ok_Line_take (P := P) (w := w) (base := base) T
  obtain ⟨fd1, G1, b1⟩ := ok_fraction_of (P := P) (w := w) (base := base) T
  obtain ⟨fd2, G2, b2⟩ := ok_Fault_init (P := P) (w := w) (base := base) T
  obtain ⟨fd3, G3, b3⟩ := ok_is_between (P := P) (w := w) (base := base) T
  refine ⟨fd, F.okN sc_read_fraction_plans (fun _ _ _ _ h => h.1) (fun cdv A outer s H vs Q E hr h => ?_), F.binds fun _ _ _ _ _ _ us hl => match us, hl with | [_, _, _], _ => rfl⟩
  have hr0 := hr.mono (by decide : 3 ≤ 4)
  have hr1 := hr.mono (by decide : 4 ≤ 4)
  have hr2 := hr.mono (by decide : 2 ≤ 4)
  have hr3 := hr.mono (by decide : 2 ≤ 4)
  refine ⟨_, (pss_cons (ps_asg (pe_meth0 (pv 0) T.cl_Line T.m_Line_take G0 hr0 b0 .nil (L2N.passes_call (L2N.takes_of rfl rfl rfl rfl) (fun _ _ _ _ h => h))) (pg_tup (by rfl) (pgs_cons (pg_name (i := 3) sc_read_fraction_plans.nd rfl (.inl rfl)) (pgs_cons (pg_name (i := 4) sc_read_fraction_plans.nd rfl (.inl rfl)) pgs_nil))))
    (pss_cons (ps_set (i := 5) sc_read_fraction_plans.nd rfl (.inl rfl) (pe_call G1 hr1 (by rfl) T.g_fraction_of T.k_fraction_of b1 .nil pass0 (pa_cons (pv 4) pa_nil)))
    (pss_cons (ps_if (pt_cmpR op_isN (pv 5) pe_non (by rfl)) (pss_one (L2N.ps_raise rfl (L2N.takes_of rfl rfl rfl rfl) (L2N.pmk_oexN T.ox_Fault T.i_Fault T.t_Fault G2 hr2 b2 .nil pass0 (by rfl) T.g_Fault (pa_cons (C8.pe_gc (by rfl) T.c_MISPLACED) (pa_cons (pv 3) pa_nil))))) pss_nil)
    (pss_cons (ps_if (PW.pt (pw_or (pt_cmpR op_gt (pe_ix ix_tup (pv 5) pe_int (fun _ _ => rfl)) (C8.pe_gc (by rfl) T.c_MOST_LOWER) (by rfl)) (pw_or1 (pt_not (pt_val (pe_call G3 hr3 (by rfl) T.g_is_between T.k_is_between b3 .nil pass0 (pa_cons (pv 5) (pa_cons (pv 1) (pa_cons (pv 2) pa_nil))))))))) (pss_one (L2N.ps_raise rfl (L2N.takes_of rfl rfl rfl rfl) (L2N.pmk_oexN T.ox_Fault T.i_Fault T.t_Fault G2 hr2 b2 .nil pass0 (by rfl) T.g_Fault (pa_cons (C8.pe_gc (by rfl) T.c_OUT_OF_RANGE) (pa_cons (pv 3) pa_nil))))) pss_nil)
    (pss_one (ps_ret (pv 5))))))), ?_⟩
  obtain ⟨_, h⟩ := h
  obtain ⟨a, r, e, lo, hi, v1, v2, rfl, hl, hw, f1, f2, s1, s2, qe, q⟩ := h
  have hl0 := hl
  obtain ⟨dx, wl, vs, ws, i, h1, _⟩ := hl
  refine ⟨_, rfl, a, dx, _, rfl, h1, L_Line_take, rfl, a, r, e, rfl, hl0, fun f hf => qe f (fracIn_bad hf), fun y hy v H1 k1 ⟨⟨t, u, ev, ht, hu⟩, hl1⟩ => ?_⟩
  subst ev
  rw [fracIn_ok hy] at qe q
  refine ⟨t, _, rfl, SqT.of ht, rfl, _, _, rfl, _, _, rfl, rfl, ?_⟩
  refine ⟨_, rfl, rfl, u, y.1.2, rfl, hu, hw.hd hy, fun vf H2 e2 hv => ?_⟩
  have k2 := k1.trans e2.but
  refine ⟨_, rfl, rfl, _, rfl, ?_⟩
  cases hn : VbkdCore.readQ y.1.2 with
  | none =>
    rw [hn] at qe q hv
    subst hv
    refine ite2 (fun _ => ?_) (fun z => absurd (decide_eq_true rfl) z)
    exact ⟨_, rfl, raise_fault (k := 1) (p := y.1.1) fun d H' s hd => qe _ rfl d H' (k2.trans s.but) hd⟩
  | some x =>
    rw [hn] at qe q hv
    have sx := readQ_sm hn
    have hx : FrAt K H2 vf x := hv
    have hx0 := hx
    obtain ⟨fa, rfl, hf⟩ := hx
    refine ite2 (fun z => by cases of_decide_eq_true z) (fun _ => ?_)
    apply dup ((VbkdCore.le lo x && (VbkdCore.le x hi && decide (x.d ≤ Vbkdai.LOW))) = false)
    · intro hB hN
      refine ⟨_, rfl, fa, _, _, _, rfl, rfl, hf, at1, _, _, rfl, rfl, _, rfl, ?_⟩
      refine ite2 (fun c => ?_) (fun c => ?_)
      · have c1 : ¬ x.d ≤ Vbkdai.LOW := by
          have : (1000 : Int) < (x.d : Int) := of_decide_eq_true c
          clear hB hN
          show ¬ x.d ≤ 1000
          omega
        refine iteT (hB ?_)
        rw [decide_eq_false c1, Bool.and_false, Bool.and_false]
      · have c1 : x.d ≤ Vbkdai.LOW := by
          have : ¬ (1000 : Int) < (x.d : Int) := fun z => c (decide_eq_true z)
          clear hB hN
          show x.d ≤ 1000
          omega
        refine ⟨_, rfl, _, rfl, _, rfl, rfl, x, lo, hi, _, _, _, rfl, hx0, (f1.but k1 h1).same e2, (f2.but k1 h1).same e2, sx.mono (by decide), s1.mono (by decide), s2.mono (by decide), _, rfl, ?_⟩
        cases z : (VbkdCore.le lo x && VbkdCore.le x hi) with
        | true =>
          refine iteF (hN ?_)
          rw [Bool.and_eq_true] at z
          rw [z.1, z.2, decide_eq_true c1]
          decide
        | false =>
          refine iteT (hB ?_)
          rw [← Bool.and_assoc, z, Bool.false_and]
    · intro c
      exact ⟨_, rfl, raise_fault (k := 2) (p := y.1.1) fun d H' s hd => qe ⟨2, y.1.1⟩ (if_pos c) d H' (k2.trans s.but) hd⟩
    · intro c
      exact ⟨_, rfl, q (x, y.2) (if_neg c) _ _ k2 ⟨hx0, hl1.same e2⟩⟩
theorem zero_sm : Sm 3000 Vbkdai.zero := ⟨Nat.pow_pos (by decide), by decide, Nat.one_lt_pow (by decide) (by decide)⟩
theorem one_sm : Sm 3000 Vbkdai.one := ⟨Nat.one_lt_pow (by decide) (by decide), by decide, Nat.one_lt_pow (by decide) (by decide)⟩
theorem rangeIn_bad {lo hi : Qd} {e : Nat} {r : List VbkdCore.Word} {f : VbkdCore.Fault} (h : Vbkdai.fracIn lo hi e r = .error f) : Vbkdai.rangeIn lo hi e r = .error f := by
  unfold Vbkdai.rangeIn
  rw [h]
  rfl
theorem rangeIn_one {lo hi : Qd} {e : Nat} {r : List VbkdCore.Word} {x : Qd × List VbkdCore.Word} (h : Vbkdai.fracIn lo hi e r = .ok x) (n : isWord (Str.ofString "to") x.2 = false) : Vbkdai.rangeIn lo hi e r = .ok ((x.1, x.1), x.2) := by
  unfold Vbkdai.rangeIn
  rw [h]
  obtain ⟨q, l⟩ := x
  cases l with
  | nil => rfl
  | cons w l =>
    have n : decide (w.2 = (Str.ofString "to").cps.toList) = false := n
    rw [str_txt] at n
    show (if w.2 = VbkdCore.txt "to" then _ else _) = _
    rw [if_neg (of_decide_eq_false n)]
theorem rangeIn_two {lo hi : Qd} {e : Nat} {r : List VbkdCore.Word} {x : Qd × List VbkdCore.Word} (h : Vbkdai.fracIn lo hi e r = .ok x) (n : isWord (Str.ofString "to") x.2 = true) : ∃ w l, x.2 = w :: l ∧ Vbkdai.rangeIn lo hi e r = (Vbkdai.fracIn x.1 hi e l).map fun y => ((x.1, y.1), y.2) := by
  unfold Vbkdai.rangeIn
  rw [h]
  obtain ⟨q, l⟩ := x
  cases l with
  | nil => cases n
  | cons w l =>
    have n : decide (w.2 = (Str.ofString "to").cps.toList) = true := n
    rw [str_txt] at n
    refine ⟨w, l, rfl, ?_⟩
    show (if w.2 = VbkdCore.txt "to" then _ else _) = _
    rw [if_pos (of_decide_eq_true n)]
theorem sc_read_range : FnScope N_read_range ["line", "high"] (defScope s_read_range) := ⟨rfl, rfl, rfl, by decide +kernel, rfl, by decide +kernel, by decide +kernel⟩
theorem ok_read_range (T : TX K mg) : FOk P w K mg base (L2N.CX P w) 6 (He.ga K "read_range") ["line", "high"] (sp_read_range K) := by
  obtain ⟨fd, F⟩ := T.f_read_range
  obtain ⟨fd0, G0, b0⟩ := ok_read_fraction_plans (P := P) (w := w) (base := base) T
  obtain ⟨fd1, G1, b1⟩ := ok_Line_is_next (P := P) (w := w) (base := base) T
  obtain ⟨fd2, G2, b2⟩ := ok_Line_take (P := P) (w := w) (base := base) T
  refine ⟨fd, F.okN sc_read_range (fun _ _ _ _ h => h.1) (fun cdv A outer s H vs Q E hr h => ?_), F.binds fun _ _ _ _ _ _ us hl => match us, hl with | [_, _], _ => rfl⟩
  have hr0 := hr.mono (by decide : 5 ≤ 5)
  have hr1 := hr.mono (by decide : 2 ≤ 5)
  have hr2 := hr.mono (by decide : 3 ≤ 5)
  refine ⟨_, (pss_cons (ps_set (i := 2) sc_read_range.nd rfl (.inl rfl) (pe_call G0 hr0 (by rfl) T.g_read_fraction_plans T.k_read_fraction_plans b0 .nil (L2N.passes_call (L2N.takes_of rfl rfl rfl rfl) (fun _ _ _ _ h => h)) (pa_cons (pv 0) (pa_cons (C8.pe_gc (by rfl) T.c_NOUGHT_fractions) (pa_cons (pv 1) pa_nil)))))
    (pss_cons (ps_if (pt_not (pt_val (pe_meth (pv 0) T.cl_Line T.m_Line_is_next G1 hr1 b1 .nil pass0 (pa_cons pe_str pa_nil)))) (pss_one (ps_ret (pe_tup (pa_cons (pv 2) (pa_cons (pv 2) pa_nil))))) pss_nil)
    (pss_cons (ps_expr (pe_meth0 (pv 0) T.cl_Line T.m_Line_take G2 hr2 b2 .nil (L2N.passes_call (L2N.takes_of rfl rfl rfl rfl) (fun _ _ _ _ h => h))))
    (pss_one (ps_ret (pe_tup (pa_cons (pv 2) (pa_cons (pe_call G0 hr0 (by rfl) T.g_read_fraction_plans T.k_read_fraction_plans b0 .nil (L2N.passes_call (L2N.takes_of rfl rfl rfl rfl) (fun _ _ _ _ h => h)) (pa_cons (pv 0) (pa_cons (pv 2) (pa_cons (pv 1) pa_nil)))) pa_nil)))))))), ?_⟩
  obtain ⟨_, h⟩ := h
  obtain ⟨a, r, e, hi, v, rfl, hl, hw, fh, sh, qe, q⟩ := h
  obtain ⟨dx0, wl0, i0, ha0⟩ := hl.objL
  refine ⟨_, rfl, _, rfl, rfl, a, r, e, Vbkdai.zero, hi, _, v, rfl, hl, hw, ⟨_, rfl, T.t_NOUGHT_fractions H⟩, fh, zero_sm, sh, fun f hf => qe f (rangeIn_bad hf), fun x hx v1 H1 k1 ⟨hv1, hl1⟩ => ?_⟩
  have fi := fracIn_is hx
  obtain ⟨dx1, wl1, i1, ha1⟩ := hl1.objL
  refine ⟨_, rfl, a, dx1, _, rfl, ha1, L_Line_is_next, rfl, a, x.2, e, Str.ofString "to", rfl, hl1, by rw [← Array.length_toList, str_txt]; decide, fun H2 e2 => ⟨_, rfl, ?_⟩⟩
  have k2 := k1.trans e2.but
  cases hn : isWord (Str.ofString "to") x.2 with
  | false =>
    refine iteT ?_
    have := q _ (rangeIn_one hx hn)
    refine ⟨_, rfl, _, rfl, by show 2 ≤ sizeLine; decide, fun f nf => this _ _ (k2.trans (Same.new nf).but) ⟨⟨f, v1, v1, rfl, SqT.of upd_same, hv1.same (e2.trans (Same.new nf)), hv1.same (e2.trans (Same.new nf))⟩, hl1.same (e2.trans (Same.new nf))⟩⟩
  | true =>
    refine iteF ?_
    obtain ⟨w1, l1, el, er⟩ := rangeIn_two hx hn
    rw [er] at qe q
    have hl2 := hl1.same e2
    rw [el] at hl2
    have wl := fracIn_wl hx hw
    rw [el] at wl
    refine ⟨_, rfl, a, dx1, _, rfl, e2 _ _ ha1, L_Line_take, rfl, a, _, e, rfl, hl2, (fun f hf => by cases hf), fun y hy v2 H3 k3 ⟨_, hl3⟩ => ?_⟩
    cases hy
    have ha3 := e2 _ _ ha1
    have hv3 := (hv1.same e2).but k3 ha3
    have fh3 := ((fh.but k1 ha0).same e2).but k3 ha3
    have k13 := k2.trans k3
    obtain ⟨dx3, wl3, i3, ha3'⟩ := hl3.objL
    refine ⟨_, rfl, _, rfl, _, rfl, _, rfl, rfl, a, l1, e, x.1, hi, v1, v, rfl, hl3, fun z hz => wl z (List.mem_cons_of_mem _ hz), hv3, fh3, fi.1.mono (by decide), sh, fun f hf => ?_, fun y hy v4 H4 k4 ⟨hv4, hl4⟩ => ?_⟩
    · exact (qe f (by rw [hf]; rfl)).pre k13
    · have := q ((x.1, y.1), y.2) (by rw [hy]; rfl)
      refine ⟨by show 2 ≤ sizeLine; decide, fun f nf => this _ _ ((k13.trans k4).trans (Same.new nf).but) ⟨⟨f, v1, v4, rfl, SqT.of upd_same, (hv3.but k4 ha3').same (Same.new nf), hv4.same (Same.new nf)⟩, hl4.same (Same.new nf)⟩⟩
theorem sureIn_bad {e : Nat} {r : List VbkdCore.Word} {f : VbkdCore.Fault} (h : Vbkdai.fracIn Vbkdai.zero Vbkdai.one e r = .error f) : sureIn e r = .error f := by
  unfold sureIn
  rw [h]
  rfl
theorem sureIn_ok {e : Nat} {r : List VbkdCore.Word} {x : Qd × List VbkdCore.Word} (h : Vbkdai.fracIn Vbkdai.zero Vbkdai.one e r = .ok x) : sureIn e r = if x.1.n = 0 then .error ⟨2, (r.head?.map fun w => w.1).getD e⟩ else .ok x := by
  unfold sureIn
  rw [h]
  rfl
theorem less_zero {q : Qd} {k : Nat} (f : Fq k q) : VbkdCore.less Vbkdai.zero q = !decide (q.n = 0) := by
  have z2 : VbkdCore.less Vbkdai.zero q = decide (0 * (q.d : Int) < q.n * ((1 : Nat) : Int)) := rfl
  have n0 := f.n0
  rw [z2]
  by_cases h : q.n = 0
  · rw [decide_eq_true h, decide_eq_false (by omega)]
    rfl
  · rw [decide_eq_false h, decide_eq_true (by omega)]
    rfl
theorem sc_read_sure : FnScope N_read_sure ["line"] (defScope s_read_sure) := ⟨rfl, rfl, rfl, by decide +kernel, rfl, by decide +kernel, by decide +kernel⟩
theorem ok_read_sure (T : TX K mg) : FOk P w K mg base (L2N.CX P w) 6 (He.ga K "read_sure") ["line"] (sp_read_sure K) := by
  obtain ⟨fd, F⟩ := T.f_read_sure
  obtain ⟨fd0, G0, b0⟩ := ok_Line_is_at_end (P := P) (w := w) (base := base) T
  obtain ⟨fd1, G1, b1⟩ := ok_read_fraction_plans (P := P) (w := w) (base := base) T
  obtain ⟨fd2, G2, b2⟩ := ok_is_less (P := P) (w := w) (base := base) T
  obtain ⟨fd3, G3, b3⟩ := ok_Fault_init (P := P) (w := w) (base := base) T
  refine ⟨fd, F.okN sc_read_sure (fun _ _ _ _ h => h.1) (fun cdv A outer s H vs Q E hr h => ?_), F.binds fun _ _ _ _ _ _ us hl => match us, hl with | [_], _ => rfl⟩
  have hr0 := hr.mono (by decide : 1 ≤ 5)
  have hr1 := hr.mono (by decide : 5 ≤ 5)
  have hr2 := hr.mono (by decide : 1 ≤ 5)
  have hr3 := hr.mono (by decide : 2 ≤ 5)
  refine ⟨_, (pss_cons (ps_set (i := 1) sc_read_sure.nd rfl (.inl rfl) (pe_fld (pv 0) rfl))
    (pss_cons (ps_if (pt_not (pt_val (pe_meth0 (pv 0) T.cl_Line T.m_Line_is_at_end G0 hr0 b0 .nil pass0))) (pss_one (ps_set (i := 1) sc_read_sure.nd rfl (.inl rfl) (pe_ix ix_tup (pe_ix ix_list (pe_fld (pv 0) rfl) (pe_fld (pv 0) rfl) (fun _ _ => rfl)) pe_int (fun _ _ => rfl)))) pss_nil)
    (pss_cons (ps_set (i := 2) sc_read_sure.nd rfl (.inl rfl) (pe_call G1 hr1 (by rfl) T.g_read_fraction_plans T.k_read_fraction_plans b1 .nil (L2N.passes_call (L2N.takes_of rfl rfl rfl rfl) (fun _ _ _ _ h => h)) (pa_cons (pv 0) (pa_cons (C8.pe_gc (by rfl) T.c_NOUGHT_fractions) (pa_cons (C8.pe_gc (by rfl) T.c_ONE) pa_nil)))))
    (pss_cons (ps_if (pt_not (pt_val (pe_call G2 hr2 (by rfl) T.g_is_less T.k_is_less b2 .nil pass0 (pa_cons (C8.pe_gc (by rfl) T.c_NOUGHT_fractions) (pa_cons (pv 2) pa_nil))))) (pss_one (L2N.ps_raise rfl (L2N.takes_of rfl rfl rfl rfl) (L2N.pmk_oexN T.ox_Fault T.i_Fault T.t_Fault G3 hr3 b3 .nil pass0 (by rfl) T.g_Fault (pa_cons (C8.pe_gc (by rfl) T.c_OUT_OF_RANGE) (pa_cons (pv 1) pa_nil))))) pss_nil)
    (pss_one (ps_ret (pv 2))))))), ?_⟩
  obtain ⟨_, h⟩ := h
  obtain ⟨a, r, e, rfl, hl, hw, qe, q⟩ := h
  have hl0 := hl
  obtain ⟨dx, wl, vs, ws, i, h1, h2, h3, h4, h5, hr⟩ := hl
  refine ⟨_, rfl, a, _, dx, _, _, rfl, h1, T.cl_Line, T.na_Line_end, L_Line_end, ?_⟩
  refine ⟨_, rfl, a, dx, _, rfl, h1, L_Line_is_at_end, rfl, a, _, e, rfl, hl0, _, rfl, ?_⟩
  by_cases c : i = ws.length
  · have r0 : r = [] := by rw [hr, c, List.drop_length]
    subst r0
    refine iteF ?_
    refine ⟨_, rfl, rfl, a, _, e, Vbkdai.zero, Vbkdai.one, _, _, rfl, hl0, hw, ⟨_, rfl, T.t_NOUGHT_fractions H⟩, ⟨_, rfl, T.t_ONE H⟩, zero_sm, one_sm, fun f hf => qe f (sureIn_bad hf), fun x hx v1 H1 k1 ⟨hv1, hl1⟩ => ?_⟩
    have fi := fracIn_is hx
    have fq := fq_of fi.1 fi.2.1 fi.2.2.1 fi.2.2.2.1
    rw [sureIn_ok hx] at qe q
    refine ⟨_, rfl, rfl, Vbkdai.zero, x.1, _, _, rfl, ⟨_, rfl, T.t_NOUGHT_fractions H1⟩, hv1, zero_sm.mono (by decide), fi.1.mono (by decide), _, rfl, ?_⟩
    rw [less_zero fq]
    by_cases z : x.1.n = 0
    · rw [if_pos z] at qe
      rw [decide_eq_true z]
      refine iteT ?_
      exact ⟨_, rfl, raise_fault (k := 2) fun d H' s hd => qe _ rfl d H' (k1.trans s.but) hd⟩
    · rw [if_neg z] at q
      rw [decide_eq_false z]
      refine iteF ?_
      exact ⟨_, rfl, q _ rfl _ _ k1 ⟨hv1, hl1⟩⟩
  · have il : i < ws.length := by omega
    have ed : r = ws[i] :: ws.drop (i + 1) := by rw [hr]; exact List.drop_eq_getElem_cons il
    subst ed
    refine iteT ?_
    obtain ⟨y, hy, t, u, rfl, ht, hu⟩ := paired_at h3 (List.getElem?_eq_getElem il)
    refine ⟨_, rfl, a, _, dx, _, _, rfl, h1, T.cl_Line, T.na_Line_words, L_Line_words, _, rfl, a, _, dx, _, _, rfl, h1, T.cl_Line, T.na_Line_at, L_Line_at, wl, _, _, .ref t, rfl, rfl, SqL.of h2, atI_nat hy, t, _, _, _, rfl, rfl, SqT.of ht, at0, ?_⟩
    refine ⟨_, rfl, rfl, a, _, e, Vbkdai.zero, Vbkdai.one, _, _, rfl, hl0, hw, ⟨_, rfl, T.t_NOUGHT_fractions H⟩, ⟨_, rfl, T.t_ONE H⟩, zero_sm, one_sm, fun f hf => qe f (sureIn_bad hf), fun x hx v1 H1 k1 ⟨hv1, hl1⟩ => ?_⟩
    have fi := fracIn_is hx
    have fq := fq_of fi.1 fi.2.1 fi.2.2.1 fi.2.2.2.1
    rw [sureIn_ok hx] at qe q
    refine ⟨_, rfl, rfl, Vbkdai.zero, x.1, _, _, rfl, ⟨_, rfl, T.t_NOUGHT_fractions H1⟩, hv1, zero_sm.mono (by decide), fi.1.mono (by decide), _, rfl, ?_⟩
    rw [less_zero fq]
    by_cases z : x.1.n = 0
    · rw [if_pos z] at qe
      rw [decide_eq_true z]
      refine iteT ?_
      exact ⟨_, rfl, raise_fault (k := 2) fun d H' s hd => qe _ rfl d H' (k1.trans s.but) hd⟩
    · rw [if_neg z] at q
      rw [decide_eq_false z]
      refine iteF ?_
      exact ⟨_, rfl, q _ rfl _ _ k1 ⟨hv1, hl1⟩⟩
theorem small_iff {l : List Nat} : l.all VbkdCore.isSmall = true ↔ ∀ c ∈ l, 97 ≤ c ∧ c ≤ 122 := by
  rw [List.all_eq_true]
  refine ⟨fun h c hc => ?_, fun h c hc => ?_⟩
  · have := h c hc
    unfold VbkdCore.isSmall at this
    rw [Bool.and_eq_true, decide_eq_true_eq, decide_eq_true_eq] at this
    exact this
  · unfold VbkdCore.isSmall
    rw [Bool.and_eq_true, decide_eq_true_eq, decide_eq_true_eq]
    exact h c hc
def noNames : List String := ["column", "sealed", "constant", "box", "good", "plus", "minus", "times", "always", "less", "same", "not", "both", "either", "count", "sum", "if", "objects", "most", "least", "pairs"]
theorem noNames_keys (w : List Nat) : (noNames.all fun s => decide (w ≠ (Str.ofString s).cps.toList)) = !VbkdCore.KEYS.contains w := by
  have h1 : ∀ s ∈ noNames, VbkdCore.txt s ∈ VbkdCore.KEYS := by decide
  have h2 : ∀ k ∈ VbkdCore.KEYS, k ∈ noNames.map VbkdCore.txt := by decide
  cases e : VbkdCore.KEYS.contains w with
  | true =>
    have hm : w ∈ VbkdCore.KEYS := by simpa using e
    obtain ⟨s, hs, es⟩ := List.mem_map.mp (h2 w hm)
    refine Bool.eq_false_iff.mpr fun z => ?_
    have := of_decide_eq_true (List.all_eq_true.mp z s hs)
    rw [str_txt] at this
    exact this es.symm
  | false =>
    refine List.all_eq_true.mpr fun s hs => decide_eq_true fun z => ?_
    rw [str_txt] at z
    have hm : w ∈ VbkdCore.KEYS := by rw [z]; exact h1 s hs
    have : VbkdCore.KEYS.contains w = true := by simpa using hm
    rw [this] at e
    cases e
theorem sc_is_name : FnScope N_is_name ["row"] (defScope s_is_name) := ⟨rfl, rfl, rfl, by decide +kernel, rfl, by decide +kernel, by decide +kernel⟩
theorem ok_is_name (T : TX K mg) : FOk P w K mg base CX0 2 (He.ga K "is_name") ["row"] (sp_is_name K) := by
  obtain ⟨fd, F⟩ := T.f_is_name
  obtain ⟨fd0, G0, b0⟩ := ok_bytes_of (P := P) (w := w) (base := base) T
  refine ⟨fd, F.ok sc_is_name (fun _ _ _ _ h => h.1) (fun cdv A outer s H vs Q E hr h => ?_), F.binds fun _ _ _ _ _ _ us hl => match us, hl with | [_], _ => rfl⟩
  have hr0 := hr.mono (by decide : 1 ≤ 1)
  have hu64 := hr.units
  refine ⟨_, PSs.nox (pss_cons (ps_if (PW.pt (pw_or (pt_not (pt_chain op_le op_le pe_int (pe_callB call_len_seq (by rfl) T.n_len (by decide +kernel) (pa_cons (pv 0) pa_nil)) (C8.pe_gc (by rfl) T.c_MOST_LETTERS))) (pw_or1 (pt_not (pt_val (pe_callB (cr_all rfl) (by rfl) T.n_all (by decide +kernel) (pa_cons (pe_lc (g := (gName 1)) (own := [("one", 1)]) (by rfl) sc_is_name.nd (pi_list (pv 0)) (blkOk_by (own := [("one", 1)]) (N := N_is_name) (sc := defScope s_is_name) (by decide +kernel)) (fun _ _ _ _ _ => by exact (pg_name (i := 1) sc_is_name.nd rfl (.inl rfl))) (fun _ _ _ _ _ => by exact pts_nil) (fun _ _ _ _ _ => by exact (pe_chain op_le op_le (C8.pe_gc (by rfl) T.c_FIRST_LETTER) (pv 1) (C8.pe_gc (by rfl) T.c_LAST_LETTER)))) pa_nil))))))) (pss_one (ps_ret pe_bl)) pss_nil)
    (pss_one (ps_ret (pe_callB (cr_all rfl) (by rfl) T.n_all (by decide +kernel) (pa_cons (pe_lc (g := (gName 2)) (te := (tOp (rNeD K) (tVar 0) (tCall (sp_bytes_of K) [] E0 (tCons (tVar 2) tNil)))) (own := [("word", 2)]) (by rfl) sc_is_name.nd (pi_tup (C8.pe_gc (by rfl) T.c_NO_NAMES)) (blkOk_by (own := [("word", 2)]) (N := N_is_name) (sc := defScope s_is_name) (by decide +kernel)) (fun _ _ _ _ _ => by exact (pg_name (i := 2) sc_is_name.nd rfl (.inl rfl))) (fun _ _ _ _ _ => by exact pts_nil) (fun _ _ _ _ _ => by exact (pe_cmpR (op_neD hu64) (pv 0) (pe_call G0 hr0 (by rfl) T.g_bytes_of T.k_bytes_of b0 .nil pass0 (pa_cons (pv 2) pa_nil)) (by rfl)))) pa_nil))))), ?_⟩
  obtain ⟨_, h⟩ := h
  obtain ⟨v, row, rfl, ⟨ra, rfl, hr⟩, hl, q⟩ := h
  have next : ∀ H1, Same H H1 → (∀ c, c = (decide (1 ≤ row.length) && (decide (row.length ≤ 8) && row.all VbkdCore.isSmall)) → c = true → VbkdCore.isName row = !VbkdCore.KEYS.contains row) := fun H1 e1 c hc ht => by
    rw [hc, Bool.and_eq_true, Bool.and_eq_true] at ht
    unfold VbkdCore.isName
    rw [ht.1, ht.2.1, ht.2.2, Bool.true_and, Bool.true_and, Bool.true_and]
  have bad : (decide (1 ≤ row.length) && (decide (row.length ≤ 8) && row.all VbkdCore.isSmall)) = false → VbkdCore.isName row = false := fun z => by
    unfold VbkdCore.isName
    rw [← Bool.and_assoc (decide (row.length ≤ 8)), ← Bool.and_assoc, z, Bool.false_and]
  -- the letters
  have len : ∀ (B N : Prop), ((decide (1 ≤ row.length) && decide (row.length ≤ 8)) = false → B) → ((decide (1 ≤ row.length) && decide (row.length ≤ 8)) = true → N) → True := fun _ _ _ _ => trivial
  by_cases c1 : 1 ≤ row.length ∧ row.length ≤ 8
  · refine ⟨_, rfl, ra, _, rfl, .inl (SqL.of hr), _, _, rfl, rfl, _, rfl, ?_⟩
    rw [nI_len]
    refine ite2 (fun _ => ?_) (fun z => absurd (decide_eq_true (show (1 : Int) ≤ (row.length : Int) by omega)) z)
    refine ⟨_, _, rfl, rfl, _, rfl, ?_⟩
    refine ite2 (fun z => ?_) (fun _ => ?_)
    · rw [decide_eq_true (show (row.length : Int) ≤ 8 by omega)] at z
      cases z
    refine ⟨_, rfl, ra, rfl, ⟨_, SqL.of hr⟩, fun D nD => lc_list (K := K) (a := ra) (xs := (nI row).map V.int)
      (fun i H' => Same H H' ∧ H' D = some (.lst (((row.take i).map VbkdCore.isSmall).map V.bl))) ⟨Same.new nD, upd_same⟩ (fun i H' _ ⟨e, _⟩ => SqL.of (e _ _ hr)) ?_ ?_⟩
    · rintro i x H' hx ⟨e, hD⟩
      obtain ⟨c, hc, rfl⟩ := nI_get hx
      have il := (List.getElem?_eq_some_iff.mp hc).1
      refine ⟨rfl, ?_⟩
      have fin : ∀ b, b = VbkdCore.isSmall c → ∃ acc, H' D = some (.lst acc) ∧ acc.length < sizeLine ∧ (Same H (upd H' D (.lst (acc ++ [.bl b]))) ∧ (upd H' D (.lst (acc ++ [.bl b]))) D = some (.lst (((row.take (i + 1)).map VbkdCore.isSmall).map V.bl))) := fun b hb => by
        refine ⟨_, hD, ?_, e.mut nD, ?_⟩
        · rw [List.length_map, List.length_map, List.length_take]
          exact small1000 (by omega)
        · rw [upd_same, take_succ hc, List.map_append, List.map_append, hb]
          rfl
      refine ⟨_, rfl, _, _, rfl, rfl, _, rfl, ?_⟩
      refine ite2 (fun z => ?_) (fun z => ?_)
      · have z1 : 97 ≤ c := by
          have : (97 : Int) ≤ (c : Int) := of_decide_eq_true z
          omega
        refine ⟨_, _, rfl, rfl, fin _ ?_⟩
        unfold VbkdCore.isSmall
        rw [decide_eq_true z1, Bool.true_and]
        exact decide_eq_decide.mpr ⟨fun z => by
          have z : (c : Int) ≤ 122 := z
          omega, fun z => by
          show (c : Int) ≤ 122
          omega⟩
      · have z1 : ¬ 97 ≤ c := fun z2 => z (decide_eq_true (by
          show (97 : Int) ≤ (c : Int)
          omega))
        refine fin _ ?_
        unfold VbkdCore.isSmall
        rw [decide_eq_false z1, Bool.false_and]
    · rintro H' ⟨e, hD⟩
      refine ⟨D, _, rfl, SqL.of hD, _, rfl, ?_⟩
      rw [nI_len, List.take_length, List.all_map]
      cases hs : row.all VbkdCore.isSmall with
      | false =>
        have hs2 : row.all (id ∘ VbkdCore.isSmall) = false := hs
        rw [hs2]
        refine iteT ?_
        have := q _ e
        rw [bad (by rw [hs, Bool.and_false, Bool.and_false])] at this
        exact this
      | true =>
        have hs2 : row.all (id ∘ VbkdCore.isSmall) = true := hs
        rw [hs2]
        refine iteF ?_
        have nx := next H' e _ rfl (by rw [hs, decide_eq_true c1.1, decide_eq_true c1.2]; rfl)
        rw [nx, ← noNames_keys] at q
        refine ⟨_, rfl, ⟨_, T.t_NO_NAMES H'⟩, fun D2 nD2 => lc_tup (K := K) (a := He.ga K "NO_NAMES") (xs := (noNames.map Str.ofString).map V.str)
          (fun i H2 => Same H' H2 ∧ H2 D2 = some (.lst (((noNames.take i).map fun s => decide (row ≠ (Str.ofString s).cps.toList)).map V.bl))) ⟨Same.new nD2, upd_same⟩ (fun i H2 _ ⟨e2, _⟩ => T.t_NO_NAMES H2) ?_ ?_⟩
        · rintro i x H2 hx ⟨e2, hD2⟩
          obtain ⟨s, hs, rfl⟩ : ∃ s, noNames[i]? = some s ∧ x = V.str (Str.ofString s) := by
            rw [List.map_map, List.getElem?_map] at hx
            cases z : noNames[i]? with
            | none => rw [z] at hx; cases hx
            | some s => rw [z] at hx; exact ⟨s, rfl, (Option.some.inj hx).symm⟩
          have il : i < 21 := (List.getElem?_eq_some_iff.mp hs).1
          have sz : ∀ s ∈ noNames, (VbkdCore.txt s).length ≤ 100 := by decide
          refine ⟨rfl, ?_⟩
          refine ⟨_, rfl, _, rfl, rfl, Str.ofString s, rfl, by rw [← Array.length_toList, str_txt]; exact Nat.le_trans (sz s (List.mem_of_getElem? hs)) (by decide), fun vb H3 e3 hb => ?_⟩
          refine ⟨_, _, dp_ints ⟨ra, rfl, e3 _ _ (e2 _ _ (e _ _ hr))⟩, dp_ints hb, ints_shaped _, ints_shaped _, ?_⟩
          rw [nats_eqv]
          refine ⟨_, e3 _ _ hD2, ?_, (e2.trans e3).mut nD2, ?_⟩
          · rw [List.length_map, List.length_map, List.length_take]
            exact small1000 (by omega)
          · rw [upd_same, take_succ hs, List.map_append, List.map_append]
            refine congrArg some (congrArg HO.lst (congrArg _ ?_))
            show [V.bl (!decide (row = (Str.ofString s).cps.toList))] = [V.bl (decide (row ≠ (Str.ofString s).cps.toList))]
            rw [decide_not]
        · rintro H2 ⟨e2, hD2⟩
          refine ⟨D2, _, rfl, SqL.of hD2, ?_⟩
          have := q _ (e.trans e2)
          rw [show (((noNames.map Str.ofString).map V.str).length) = noNames.length from rfl, List.take_length, List.all_map]
          exact this
  · have := q _ (Same.refl H)
    rw [bad (by
      by_cases a : 1 ≤ row.length
      · rw [decide_eq_true a, decide_eq_false (fun b => c1 ⟨a, b⟩)]
        rfl
      · rw [decide_eq_false a]
        rfl)] at this
    refine ⟨_, rfl, ra, _, rfl, .inl (SqL.of hr), _, _, rfl, rfl, _, rfl, ?_⟩
    rw [nI_len]
    by_cases a : 1 ≤ row.length
    · refine ite2 (fun _ => ?_) (fun z => absurd (decide_eq_true (show (1 : Int) ≤ (row.length : Int) by omega)) z)
      refine ⟨_, _, rfl, rfl, _, rfl, ?_⟩
      rw [decide_eq_false (show ¬ (row.length : Int) ≤ 8 by omega)]
      exact iteT (iteT this)
    · refine ite2 (fun z => ?_) (fun _ => ⟨_, rfl, iteT (iteT this)⟩)
      have : (1 : Int) ≤ (row.length : Int) := of_decide_eq_true z
      omega
end
end Bc


-- end of a part
set_option Elab.async false
set_option linter.all false
set_option maxRecDepth 100000
set_option maxHeartbeats 4000000
set_option exponentiation.threshold 100000
/-! # plans read: channels -/
namespace Bc
open PySem PySem.Spec PyProof.Rows L2
/-- names that are known -/
def KnownAt (H : Hp) (v : V) (had : List Vbkdai.Chan) : Prop := ∃ a vs, v = .ref a ∧ H a = some (.lst vs) ∧ Paired (fun v (c : Vbkdai.Chan) => InAt H v (nI c.name)) vs had
theorem KnownAt.same {H H' : Hp} {v : V} {had : List Vbkdai.Chan} (h : KnownAt H v had) (e : Same H H') : KnownAt H' v had := let ⟨a, vs, x, y, z⟩ := h; ⟨a, vs, x, e _ _ y, paired_imp (fun _ _ q => q.same e) z⟩
theorem KnownAt.but {H H' : Hp} {v : V} {had : List Vbkdai.Chan} {a C dx : Addr} {fs : List (Str × V)} (h : KnownAt H v had) (e : SameBut a H H') (ha : H a = some (.ins C dx fs)) : KnownAt H' v had :=
  let ⟨b, vs, x, y, z⟩ := h; ⟨b, vs, x, e _ _ (ne_of y ha (by intro z; cases z)) y, paired_imp (fun _ _ q => q.but e ha) z⟩
def knD (had : List Vbkdai.Chan) : List PyData := had.map fun c => .list ((nI c.name).map PyData.int)
theorem known_dp {K : PySem.W.Frag} {H : Hp} : ∀ {vs : List V} {had : List Vbkdai.Chan}, Paired (fun v (c : Vbkdai.Chan) => InAt H v (nI c.name)) vs had → DpAll K H vs (knD had)
  | _, _, .nil => .nil
  | _, _, .cons h r => .cons (dp_ints h) (known_dp r)
theorem known_lay : ∀ had : List Vbkdai.Chan, PyData.canLayAll0 (knD had) = true ∧ PyData.depthAll (knD had) ≤ 1
  | [] => ⟨rfl, Nat.zero_le _⟩
  | c :: r => by
    obtain ⟨h1, h2⟩ := known_lay r
    have e : knD (c :: r) = .list ((nI c.name).map PyData.int) :: knD r := rfl
    rw [e, PyData.canLayAll0, PyData.canLay0, ints_lay, h1, PyData.depthAll, PyData.depth, ints_depth]
    exact ⟨rfl, by omega⟩
theorem known_shaped (had : List Vbkdai.Chan) : SeqAt.shaped (.list (knD had)) = true := by
  obtain ⟨h1, h2⟩ := known_lay had
  unfold SeqAt.shaped
  rw [PyData.canLay0, h1, PyData.depth, Bool.true_and]
  exact decide_eq_true (by omega)
theorem known_any (row : List Nat) : ∀ had : List Vbkdai.Chan, ((knD had).any fun z => PyData.eqv z (.list ((nI row).map PyData.int))) = had.any fun c => c.name == row
  | [] => rfl
  | c :: r => by
    have e : ((knD (c :: r)).any fun z => PyData.eqv z (.list ((nI row).map PyData.int))) = (PyData.eqv (.list ((nI c.name).map PyData.int)) (.list ((nI row).map PyData.int)) || (knD r).any fun z => PyData.eqv z (.list ((nI row).map PyData.int))) := rfl
    rw [e, known_any row r, nats_eqv, List.any_cons]
    congr 1
    by_cases h : c.name = row
    · rw [decide_eq_true h, h]
      exact (beq_self_eq_true row).symm
    · rw [decide_eq_false h]
      exact (beq_eq_false_iff_ne.mpr h).symm
def nameIn (had : List Vbkdai.Chan) (e : Nat) (r : List VbkdCore.Word) : Except VbkdCore.Fault (List Nat × List VbkdCore.Word) := (Vbkdai.next e r).bind fun n => if VbkdCore.isName n.1.2 = false then .error ⟨1, n.1.1⟩ else if had.any (fun c => c.name == n.1.2) = true then .error ⟨3, n.1.1⟩ else .ok (n.1.2, n.2)
def orderIn (e : Nat) (r : List VbkdCore.Word) : Except VbkdCore.Fault (Nat × List VbkdCore.Word) := (Vbkdai.next e r).bind fun o => match Vbkdai.ORDERS.findIdx? fun w => w == o.1.2 with
  | none => .error ⟨1, o.1.1⟩
  | some i => .ok (i, o.2)
def sp_read_name (K : PySem.W.Frag) : Sp := mkSp 2 fun vs H Q E => ∃ (a : Addr) (r : List VbkdCore.Word) (e : Nat) (v : V) (had : List Vbkdai.Chan), vs = [.ref a, v] ∧ LnAt K H a r e ∧ Wl r ∧ KnownAt H v had ∧ Ans K a H Q E (nameIn had e r) fun y v H' => InAt H' v (nI y.1) ∧ LnAt K H' a y.2 e
def sp_read_order (K : PySem.W.Frag) : Sp := mkSp 1 fun vs H Q E => ∃ (a : Addr) (r : List VbkdCore.Word) (e : Nat), vs = [.ref a] ∧ LnAt K H a r e ∧ Wl r ∧ Ans K a H Q E (orderIn e r) fun y v H' => v = .int (y.1 : Int) ∧ LnAt K H' a y.2 e
theorem nameIn_bad {had : List Vbkdai.Chan} {e : Nat} {r : List VbkdCore.Word} {f : VbkdCore.Fault} (h : Vbkdai.next e r = .error f) : nameIn had e r = .error f := by
  unfold nameIn
  rw [h]
  rfl
theorem nameIn_ok {had : List Vbkdai.Chan} {e : Nat} {r : List VbkdCore.Word} {n : VbkdCore.Word × List VbkdCore.Word} (h : Vbkdai.next e r = .ok n) : nameIn had e r = if VbkdCore.isName n.1.2 = false then .error ⟨1, n.1.1⟩ else if had.any (fun c => c.name == n.1.2) = true then .error ⟨3, n.1.1⟩ else .ok (n.1.2, n.2) := by
  unfold nameIn
  rw [h]
  rfl
theorem orderIn_bad {e : Nat} {r : List VbkdCore.Word} {f : VbkdCore.Fault} (h : Vbkdai.next e r = .error f) : orderIn e r = .error f := by
  unfold orderIn
  rw [h]
  rfl
theorem orderIn_none {e : Nat} {r : List VbkdCore.Word} {n : VbkdCore.Word × List VbkdCore.Word} (h : Vbkdai.next e r = .ok n) (z : ∀ w ∈ Vbkdai.ORDERS, w ≠ n.1.2) : orderIn e r = .error ⟨1, n.1.1⟩ := by
  unfold orderIn
  rw [h]
  have : (Vbkdai.ORDERS.findIdx? fun w => w == n.1.2) = none := List.findIdx?_eq_none_iff.mpr fun w hw => beq_eq_false_iff_ne.mpr (z w hw)
  show (match Vbkdai.ORDERS.findIdx? fun w => w == n.1.2 with
    | none => (Except.error (⟨1, n.1.1⟩ : VbkdCore.Fault) : Except VbkdCore.Fault (Nat × List VbkdCore.Word))
    | some i => .ok (i, n.2)) = _
  rw [this]
theorem orderIn_some {e i : Nat} {r : List VbkdCore.Word} {n : VbkdCore.Word × List VbkdCore.Word} (h : Vbkdai.next e r = .ok n) (hi : Vbkdai.ORDERS[i]? = some n.1.2) (z : ∀ (j : Nat) (w : List Nat), j < i → Vbkdai.ORDERS[j]? = some w → w ≠ n.1.2) : orderIn e r = .ok (i, n.2) := by
  unfold orderIn
  rw [h]
  have : (Vbkdai.ORDERS.findIdx? fun w => w == n.1.2) = some i := by
    obtain ⟨hl, he⟩ := List.getElem?_eq_some_iff.mp hi
    refine List.findIdx?_eq_some_iff_getElem.mpr ⟨hl, by rw [he]; exact beq_self_eq_true _, fun j hj => ?_⟩
    have := z j Vbkdai.ORDERS[j] hj (List.getElem?_eq_getElem (by omega))
    simpa using this
  show (match Vbkdai.ORDERS.findIdx? fun w => w == n.1.2 with
    | none => (Except.error (⟨1, n.1.1⟩ : VbkdCore.Fault) : Except VbkdCore.Fault (Nat × List VbkdCore.Word))
    | some i => .ok (i, n.2)) = _
  rw [this]
def orders : List String := ["upper", "lower", "central", "likely", "ratio"]
theorem order_at {i : Nat} {s : String} (h : orders[i]? = some s) : Vbkdai.ORDERS[i]? = some (VbkdCore.txt s) := by
  have e : Vbkdai.ORDERS = orders.map VbkdCore.txt := rfl
  rw [e, List.getElem?_map, h]
  rfl
section
variable {P : Program} {w : World} {K : PySem.W.Frag} {mg : Str → Option Value} {base : Heap}
theorem sc_read_name : FnScope N_read_name ["line", "known"] (defScope s_read_name) := ⟨rfl, rfl, rfl, by decide +kernel, rfl, by decide +kernel, by decide +kernel⟩
theorem ok_read_name (T : TX K mg) : FOk P w K mg base (L2N.CX P w) 4 (He.ga K "read_name") ["line", "known"] (sp_read_name K) := by
  obtain ⟨fd, F⟩ := T.f_read_name
  obtain ⟨fd0, G0, b0⟩ := ok_Line_take (P := P) (w := w) (base := base) T
  obtain ⟨fd1, G1, b1⟩ := ok_is_name (P := P) (w := w) (base := base) T
  obtain ⟨fd2, G2, b2⟩ := ok_Fault_init (P := P) (w := w) (base := base) T
  refine ⟨fd, F.okN sc_read_name (fun _ _ _ _ h => h.1) (fun cdv A outer s H vs Q E hr h => ?_), F.binds fun _ _ _ _ _ _ us hl => match us, hl with | [_, _], _ => rfl⟩
  have hr0 := hr.mono (by decide : 3 ≤ 3)
  have hr1 := hr.mono (by decide : 2 ≤ 3)
  have hr2 := hr.mono (by decide : 2 ≤ 3)
  have hu65 := room65 hr
  refine ⟨_, (pss_cons (ps_asg (pe_meth0 (pv 0) T.cl_Line T.m_Line_take G0 hr0 b0 .nil (L2N.passes_call (L2N.takes_of rfl rfl rfl rfl) (fun _ _ _ _ h => h))) (pg_tup (by rfl) (pgs_cons (pg_name (i := 2) sc_read_name.nd rfl (.inl rfl)) (pgs_cons (pg_name (i := 3) sc_read_name.nd rfl (.inl rfl)) pgs_nil))))
    (pss_cons (ps_if (pt_not (pt_val (pe_call G1 hr1 (by rfl) T.g_is_name T.k_is_name b1 .nil pass0 (pa_cons (pv 3) pa_nil)))) (pss_one (L2N.ps_raise rfl (L2N.takes_of rfl rfl rfl rfl) (L2N.pmk_oexN T.ox_Fault T.i_Fault T.t_Fault G2 hr2 b2 .nil pass0 (by rfl) T.g_Fault (pa_cons (C8.pe_gc (by rfl) T.c_MISPLACED) (pa_cons (pv 2) pa_nil))))) pss_nil)
    (pss_cons (ps_if (pt_cmpR (op_inD hu65) (pv 3) (pv 1) (by rfl)) (pss_one (L2N.ps_raise rfl (L2N.takes_of rfl rfl rfl rfl) (L2N.pmk_oexN T.ox_Fault T.i_Fault T.t_Fault G2 hr2 b2 .nil pass0 (by rfl) T.g_Fault (pa_cons (C8.pe_gc (by rfl) T.c_TOLD_ALREADY) (pa_cons (pv 2) pa_nil))))) pss_nil)
    (pss_one (ps_ret (pv 3)))))), ?_⟩
  obtain ⟨_, h⟩ := h
  obtain ⟨a, r, e, v, had, rfl, hl, hw, hk, qe, q⟩ := h
  obtain ⟨dx, wl, i, h1⟩ := hl.objL
  refine ⟨_, rfl, a, dx, _, rfl, h1, L_Line_take, rfl, a, r, e, rfl, hl, fun f hf => qe f (nameIn_bad hf), fun y hy v1 H1 k1 ⟨⟨t, u, ev, ht, hu⟩, hl1⟩ => ?_⟩
  subst ev
  rw [nameIn_ok hy] at qe q
  have hk1 := hk.but k1 h1
  refine ⟨t, _, rfl, SqT.of ht, rfl, _, _, rfl, _, _, rfl, rfl, ?_⟩
  refine ⟨_, rfl, rfl, u, y.1.2, rfl, hu, hw.hd hy, fun H2 e2 => ⟨_, rfl, ?_⟩⟩
  have k2 := k1.trans e2.but
  cases hn : VbkdCore.isName y.1.2 with
  | false =>
    rw [hn] at qe
    exact iteT ⟨_, rfl, raise_fault (k := 1) (p := y.1.1) fun d H' s hd => qe _ rfl d H' (k2.trans s.but) hd⟩
  | true =>
    rw [hn] at qe q
    refine iteF ?_
    obtain ⟨ka, kvs, rfl, hka, hkv⟩ := hk1.same e2
    refine ⟨_, rfl, _, rfl, _, knD had, dp_ints (hu.same e2), .lst (SqL.of hka) (known_dp hkv), ints_shaped _, known_shaped _, _, rfl, ?_⟩
    rw [known_any]
    cases hh : had.any fun c => c.name == y.1.2 with
    | true =>
      rw [hh] at qe
      exact iteT ⟨_, rfl, raise_fault (k := 3) (p := y.1.1) fun d H' s hd => qe _ rfl d H' (k2.trans s.but) hd⟩
    | false =>
      rw [hh] at q
      exact iteF ⟨_, rfl, q _ rfl _ _ k2 ⟨hu.same e2, hl1.same e2⟩⟩
theorem sc_read_order : FnScope N_read_order ["line"] (defScope s_read_order) := ⟨rfl, rfl, rfl, by decide +kernel, rfl, by decide +kernel, by decide +kernel⟩
theorem ok_read_order (T : TX K mg) : FOk P w K mg base (L2N.CX P w) 4 (He.ga K "read_order") ["line"] (sp_read_order K) := by
  obtain ⟨fd, F⟩ := T.f_read_order
  obtain ⟨fd0, G0, b0⟩ := ok_Line_take (P := P) (w := w) (base := base) T
  obtain ⟨fd1, G1, b1⟩ := ok_bytes_of (P := P) (w := w) (base := base) T
  obtain ⟨fd2, G2, b2⟩ := ok_Fault_init (P := P) (w := w) (base := base) T
  refine ⟨fd, F.okN sc_read_order (fun _ _ _ _ h => h.1) (fun cdv A outer s H vs Q E hr h => ?_), F.binds fun _ _ _ _ _ _ us hl => match us, hl with | [_], _ => rfl⟩
  have hr0 := hr.mono (by decide : 3 ≤ 3)
  have hr1 := hr.mono (by decide : 1 ≤ 3)
  have hr2 := hr.mono (by decide : 2 ≤ 3)
  have hu64 := hr.units
  refine ⟨_, (pss_cons (ps_asg (pe_meth0 (pv 0) T.cl_Line T.m_Line_take G0 hr0 b0 .nil (L2N.passes_call (L2N.takes_of rfl rfl rfl rfl) (fun _ _ _ _ h => h))) (pg_tup (by rfl) (pgs_cons (pg_name (i := 1) sc_read_order.nd rfl (.inl rfl)) (pgs_cons (pg_name (i := 2) sc_read_order.nd rfl (.inl rfl)) pgs_nil))))
    (pss_cons (ps_for (passes_of rfl) rfl (pi_enumT (by rfl) T.n_enumerate (pa_cons (C8.pe_gc (by rfl) T.c_ORDERS) pa_nil)) (pg_tup (by rfl) (pgs_cons (pg_name (i := 3) sc_read_order.nd rfl (.inl rfl)) (pgs_cons (pg_name (i := 4) sc_read_order.nd rfl (.inl rfl)) pgs_nil))) (pss_one (ps_if (pt_cmpR (op_eqD hu64) (pv 2) (pe_call G1 hr1 (by rfl) T.g_bytes_of T.k_bytes_of b1 .nil pass0 (pa_cons (pv 4) pa_nil)) (by rfl)) (pss_one (ps_ret (pv 3))) pss_nil)))
    (pss_one (L2N.ps_raise rfl (L2N.takes_of rfl rfl rfl rfl) (L2N.pmk_oexN T.ox_Fault T.i_Fault T.t_Fault G2 hr2 b2 .nil pass0 (by rfl) T.g_Fault (pa_cons (C8.pe_gc (by rfl) T.c_MISPLACED) (pa_cons (pv 1) pa_nil))))))), ?_⟩
  obtain ⟨_, h⟩ := h
  obtain ⟨a, r, e, rfl, hl, hw, qe, q⟩ := h
  obtain ⟨dx, wl, i, h1⟩ := hl.objL
  refine ⟨_, rfl, a, dx, _, rfl, h1, L_Line_take, rfl, a, r, e, rfl, hl, fun f hf => qe f (orderIn_bad hf), fun y hy v1 H1 k1 ⟨⟨t, u, ev, ht, hu⟩, hl1⟩ => ?_⟩
  subst ev
  refine ⟨t, _, rfl, SqT.of ht, rfl, _, _, rfl, _, _, rfl, rfl, ?_⟩
  refine ⟨_, _, rfl, T.t_ORDERS H1, for_it (walk_enumT (xs := (orders.map Str.ofString).map V.str))
    (fun i σ H' => ∃ v3 v4, σ = [some (.ref a), some (.int ((y.1.1 : Nat) : Int)), some u, v3, v4] ∧ Same H1 H' ∧ ∀ (j : Nat) (s : String), j < i → orders[j]? = some s → VbkdCore.txt s ≠ y.1.2)
    ⟨none, none, rfl, Same.refl H1, fun j s hj => absurd hj (Nat.not_lt_zero _)⟩ (fun i σ H' _ _ => T.t_ORDERS H') ?_ ?_⟩
  · rintro i x σ H2 H3 hi ⟨v3, v4, rfl, e2, ne⟩ ⟨A2, x1, y1, rfl, nA, rfl, ex, ey⟩
    cases ex
    obtain ⟨s, hs, rfl⟩ : ∃ s, orders[i]? = some s ∧ y1 = V.str (Str.ofString s) := by
      have ey : ((orders.map Str.ofString).map V.str)[i]? = some y1 := ey
      rw [List.map_map, List.getElem?_map] at ey
      cases z : orders[i]? with
      | none => rw [z] at ey; cases ey
      | some s => rw [z] at ey; exact ⟨s, rfl, (Option.some.inj ey).symm⟩
    have e3 : Same H1 (upd H2 A2 (.tup [.int (i : Nat), .str (Str.ofString s)])) := e2.trans (Same.new nA)
    have sz : ∀ s ∈ orders, (VbkdCore.txt s).length ≤ 100 := by decide
    refine ⟨A2, _, rfl, SqT.of upd_same, rfl, _, _, rfl, _, _, rfl, rfl, ?_⟩
    refine ⟨_, rfl, _, rfl, rfl, Str.ofString s, rfl, by rw [← Array.length_toList, str_txt]; exact Nat.le_trans (sz s (List.mem_of_getElem? hs)) (by decide), fun vb H4 e4 hb => ?_⟩
    refine ⟨_, _, dp_ints ((hu.same e3).same e4), dp_ints hb, ints_shaped _, ints_shaped _, _, rfl, ?_⟩
    rw [nats_eqv, str_txt]
    by_cases c : y.1.2 = VbkdCore.txt s
    · rw [decide_eq_true c]
      refine iteT ?_
      refine ⟨_, rfl, q (i, y.2) (orderIn_some hy (by rw [order_at hs, c]) fun j w hj hw => ?_) _ _ (k1.trans (e3.trans e4).but) ⟨rfl, hl1.same (e3.trans e4)⟩⟩
      have il : i < orders.length := (List.getElem?_eq_some_iff.mp hs).1
      have hj2 : orders[j]? = some orders[j] := List.getElem?_eq_getElem (by omega)
      rw [order_at hj2] at hw
      cases Option.some.inj hw
      exact ne j _ hj hj2
    · rw [decide_eq_false c]
      refine iteF ⟨_, _, rfl, e3.trans e4, fun j s2 hj hs2 => ?_⟩
      by_cases ji : j = i
      · subst ji
        rw [hs] at hs2
        cases Option.some.inj hs2
        exact fun z => c z.symm
      · exact ne j s2 (by omega) hs2
  · rintro σ H2 ⟨v3, v4, rfl, e2, ne⟩
    refine ⟨_, rfl, raise_fault (k := 1) (p := y.1.1) fun d H' s hd => qe ⟨1, y.1.1⟩ (orderIn_none hy fun w hw => ?_) d H' (k1.trans (e2.trans s).but) hd⟩
    have e5 : Vbkdai.ORDERS = orders.map VbkdCore.txt := rfl
    rw [e5] at hw
    obtain ⟨s, hs, rfl⟩ := List.mem_map.mp hw
    obtain ⟨j, hj, es⟩ := List.getElem_of_mem hs
    exact ne j s hj (by rw [List.getElem?_eq_getElem hj, es])
end
end Bc


-- end of a part
set_option Elab.async false
set_option linter.all false
set_option maxRecDepth 100000
set_option maxHeartbeats 4000000
set_option exponentiation.threshold 100000
/-! # a channel read -/
namespace Bc
open PySem PySem.Spec PyProof.Rows L2
theorem le_iff {x y : Qd} : VbkdCore.le x y = true ↔ x.n * (y.d : Int) ≤ y.n * (x.d : Int) := by
  have e : VbkdCore.le x y = !decide (y.n * (x.d : Int) < x.n * (y.d : Int)) := rfl
  rw [e, Bool.not_eq_true', decide_eq_false_iff_not]
  omega
theorem le_self (x : Qd) : VbkdCore.le x x = true := le_iff.mpr (Int.le_refl _)
theorem key_X (s : String) (e : Nat) (l : List VbkdCore.Word) : Vbkdai.key s e l = keyX (Str.ofString s) e l := by
  unfold Vbkdai.key keyX
  rw [str_txt]
theorem keyX_wl {x : Str} {e : Nat} {r y : List VbkdCore.Word} (h : keyX x e r = .ok y) (w : Wl r) : Wl y := by
  cases hn : Vbkdai.next e r with
  | error f => rw [keyX_bad hn] at h; cases h
  | ok z =>
    rw [keyX_ok hn] at h
    split at h
    · cases h
      exact w.tl hn
    · cases h
theorem numberIn_is {lo hi e : Nat} {r : List VbkdCore.Word} {y : Nat × List VbkdCore.Word} (h : Vbkdai.numberIn lo hi e r = .ok y) : lo ≤ y.1 ∧ y.1 ≤ hi ∧ (Wl r → Wl y.2) := by
  cases hn : Vbkdai.next e r with
  | error f => rw [numberIn_bad hn] at h; cases h
  | ok z =>
    rw [numberIn_ok hn] at h
    split at h
    · cases h
    · split at h
      · cases h
      · cases h
        exact ⟨by omega, by omega, fun w => w.tl hn⟩
theorem nameIn_is {had : List Vbkdai.Chan} {e : Nat} {r : List VbkdCore.Word} {y : List Nat × List VbkdCore.Word} (h : nameIn had e r = .ok y) : VbkdCore.isName y.1 = true ∧ (Wl r → Wl y.2) := by
  cases hn : Vbkdai.next e r with
  | error f => rw [nameIn_bad hn] at h; cases h
  | ok z =>
    rw [nameIn_ok hn] at h
    split at h
    · cases h
    · rename_i c
      split at h
      · cases h
      · cases h
        exact ⟨by simpa using c, fun w => w.tl hn⟩
theorem rangeIn_is {hi : Qd} {e : Nat} {r : List VbkdCore.Word} {y : (Qd × Qd) × List VbkdCore.Word} (h : Vbkdai.rangeIn Vbkdai.zero hi e r = .ok y) :
    Sm 30 y.1.1 ∧ y.1.1.d ≤ 1000 ∧ VbkdCore.le Vbkdai.zero y.1.1 = true ∧ Sm 30 y.1.2 ∧ y.1.2.d ≤ 1000 ∧ VbkdCore.le y.1.1 y.1.2 = true ∧ VbkdCore.le y.1.2 hi = true ∧ (Wl r → Wl y.2) := by
  cases hn : Vbkdai.fracIn Vbkdai.zero hi e r with
  | error f => rw [rangeIn_bad hn] at h; cases h
  | ok x =>
    have fi := fracIn_is hn
    cases ht : isWord (Str.ofString "to") x.2 with
    | false =>
      rw [rangeIn_one hn ht] at h
      cases h
      exact ⟨fi.1, fi.2.1, fi.2.2.1, fi.1, fi.2.1, le_self _, fi.2.2.2.1, fracIn_wl hn⟩
    | true =>
      obtain ⟨w1, l1, el, er⟩ := rangeIn_two hn ht
      rw [er] at h
      cases h2 : Vbkdai.fracIn x.1 hi e l1 with
      | error f => rw [h2] at h; cases h
      | ok z =>
        rw [h2] at h
        cases h
        have fj := fracIn_is h2
        refine ⟨fi.1, fi.2.1, fi.2.2.1, fj.1, fj.2.1, fj.2.2.1, fj.2.2.2.1, fun w => fracIn_wl h2 ?_⟩
        have := fracIn_wl hn w
        rw [el] at this
        exact fun q hq => this q (List.mem_cons_of_mem _ hq)
theorem sureIn_is {e : Nat} {r : List VbkdCore.Word} {y : Qd × List VbkdCore.Word} (h : sureIn e r = .ok y) : Fq 1000 y.1 ∧ 0 < y.1.n ∧ (Wl r → Wl y.2) := by
  cases hn : Vbkdai.fracIn Vbkdai.zero Vbkdai.one e r with
  | error f => rw [sureIn_bad hn] at h; cases h
  | ok x =>
    have fi := fracIn_is hn
    rw [sureIn_ok hn] at h
    split at h
    · cases h
    · cases h
      have f := fq_of fi.1 fi.2.1 fi.2.2.1 fi.2.2.2.1
      have := f.n0
      exact ⟨f, by omega, fracIn_wl hn⟩
theorem orderIn_is {e : Nat} {r : List VbkdCore.Word} {y : Nat × List VbkdCore.Word} (h : orderIn e r = .ok y) : y.1 ≤ 4 := by
  unfold orderIn at h
  cases hn : Vbkdai.next e r with
  | error f => rw [hn] at h; cases h
  | ok z =>
    rw [hn] at h
    have h : (match Vbkdai.ORDERS.findIdx? fun w => w == z.1.2 with
      | none => (Except.error (⟨1, z.1.1⟩ : VbkdCore.Fault) : Except VbkdCore.Fault (Nat × List VbkdCore.Word))
      | some i => .ok (i, z.2)) = .ok y := h
    split at h
    · cases h
    · rename_i i hi
      cases h
      obtain ⟨hl, _⟩ := List.findIdx?_eq_some_iff_getElem.mp hi
      have : Vbkdai.ORDERS.length = 5 := by decide
      show i ≤ 4
      omega
/-! ### what's read, one behind another -/
section
variable (had : List Vbkdai.Chan) (nm : List Nat) (t : Nat) (b g : Qd × Qd) (s : Qd) (e : Nat)
def T12 (o : Nat) (r : List VbkdCore.Word) : Except VbkdCore.Fault Vbkdai.Chan := (Vbkdai.noMore () r).bind fun _ => .ok ⟨nm, t, b.1, b.2, g.1, g.2, s, o⟩
def T11 (r : List VbkdCore.Word) := (orderIn e r).bind fun o => T12 nm t b g s o.1 o.2
def T10 (r : List VbkdCore.Word) := (keyX (Str.ofString "order") e r).bind (T11 nm t b g s e)
def T9 (r : List VbkdCore.Word) := (sureIn e r).bind fun s => T10 nm t b g s.1 e s.2
def T8 (r : List VbkdCore.Word) := (keyX (Str.ofString "sure") e r).bind (T9 nm t b g e)
def T7 (r : List VbkdCore.Word) := (Vbkdai.rangeIn Vbkdai.zero (VbkdCore.sub Vbkdai.one b.2) e r).bind fun g => T8 nm t b g.1 e g.2
def T6 (r : List VbkdCore.Word) := (keyX (Str.ofString "gain") e r).bind (T7 nm t b e)
def T5 (r : List VbkdCore.Word) := (Vbkdai.rangeIn Vbkdai.zero Vbkdai.one e r).bind fun b => T6 nm t b.1 e b.2
def T4 (r : List VbkdCore.Word) := (keyX (Str.ofString "base") e r).bind (T5 nm t e)
def T3 (r : List VbkdCore.Word) := (Vbkdai.numberIn 1 40 e r).bind fun t => T4 nm t.1 e t.2
def T2 (r : List VbkdCore.Word) := (keyX (Str.ofString "trials") e r).bind (T3 nm e)
def T1 (r : List VbkdCore.Word) := (nameIn had e r).bind fun n => T2 n.1 e n.2
def T0 (r : List VbkdCore.Word) := (keyX (Str.ofString "channel") e r).bind (T1 had e)
end
theorem bind_cong {ε α β : Type} {x : Except ε α} {f g : α → Except ε β} (h : ∀ a, x = .ok a → f a = g a) : x.bind f = x.bind g := by
  cases x with
  | error e => rfl
  | ok a => exact h a rfl
theorem chanIn_T (had : List Vbkdai.Chan) (e : Nat) (r : List VbkdCore.Word) : Vbkdai.chanIn had e r = T1 had e r := by
  have s10 : ∀ (nm : List Nat) (t : Nat) (b g : Qd × Qd) (s : Qd) (r : List VbkdCore.Word), ((Vbkdai.key "order" e r).bind fun r => (Vbkdai.next e r).bind fun o => match Vbkdai.ORDERS.findIdx? fun w => w == o.1.2 with
      | none => .error ⟨1, o.1.1⟩
      | some i => Vbkdai.noMore (⟨nm, t, b.1, b.2, g.1, g.2, s, i⟩ : Vbkdai.Chan) o.2) = T10 nm t b g s e r := by
    intro nm t b g s r
    unfold T10
    rw [key_X]
    refine bind_cong fun r _ => ?_
    unfold T11 orderIn
    cases Vbkdai.next e r with
    | error f => rfl
    | ok o =>
      show (match Vbkdai.ORDERS.findIdx? fun w => w == o.1.2 with
        | none => .error ⟨1, o.1.1⟩
        | some i => Vbkdai.noMore (⟨nm, t, b.1, b.2, g.1, g.2, s, i⟩ : Vbkdai.Chan) o.2) = Except.bind (match Vbkdai.ORDERS.findIdx? fun w => w == o.1.2 with
        | none => .error ⟨1, o.1.1⟩
        | some i => .ok (i, o.2)) fun o => T12 nm t b g s o.1 o.2
      cases Vbkdai.ORDERS.findIdx? fun w => w == o.1.2 with
      | none => rfl
      | some i =>
        show Vbkdai.noMore _ o.2 = T12 nm t b g s i o.2
        unfold T12
        cases o.2 <;> rfl
  unfold Vbkdai.chanIn T1 nameIn
  cases Vbkdai.next e r with
  | error f => rfl
  | ok n =>
    show (if VbkdCore.isName n.1.2 = false then _ else if had.any (fun c => c.name == n.1.2) = true then _ else _) = Except.bind (if VbkdCore.isName n.1.2 = false then _ else if had.any (fun c => c.name == n.1.2) = true then _ else _) _
    split
    · rfl
    · split
      · rfl
      · show _ = T2 n.1.2 e n.2
        unfold T2
        rw [key_X]
        refine bind_cong fun r _ => bind_cong fun t _ => ?_
        unfold T4
        rw [key_X]
        refine bind_cong fun r _ => bind_cong fun b _ => ?_
        unfold T6
        rw [key_X]
        refine bind_cong fun r _ => bind_cong fun g _ => ?_
        unfold T8
        rw [key_X]
        refine bind_cong fun r _ => ?_
        unfold T9 sureIn
        cases Vbkdai.fracIn Vbkdai.zero Vbkdai.one e r with
        | error f => rfl
        | ok s =>
          show (if s.1.n = 0 then _ else _) = Except.bind (if s.1.n = 0 then _ else _) _
          split
          · rfl
          · exact s10 n.1.2 t.1 b.1 g.1 s.1 s.2
/-- all of a channel is as asked -/
theorem chan_ok {nm : List Nat} {t o : Nat} {b g : Qd × Qd} {s : Qd} (h1 : VbkdCore.isName nm = true) (h2 : 1 ≤ t) (h3 : t ≤ 40) (h4 : o ≤ 4)
    (hb : Sm 30 b.1 ∧ b.1.d ≤ 1000 ∧ VbkdCore.le Vbkdai.zero b.1 = true ∧ Sm 30 b.2 ∧ b.2.d ≤ 1000 ∧ VbkdCore.le b.1 b.2 = true ∧ VbkdCore.le b.2 Vbkdai.one = true)
    (hg : Sm 30 g.1 ∧ g.1.d ≤ 1000 ∧ VbkdCore.le Vbkdai.zero g.1 = true ∧ Sm 30 g.2 ∧ g.2.d ≤ 1000 ∧ VbkdCore.le g.1 g.2 = true ∧ VbkdCore.le g.2 (VbkdCore.sub Vbkdai.one b.2) = true)
    (hs : Fq 1000 s) (h0 : 0 < s.n) : ChOk ⟨nm, t, b.1, b.2, g.1, g.2, s, o⟩ := by
  obtain ⟨b1, b2, b3, b4, b5, b6, b7⟩ := hb
  obtain ⟨g1, g2, g3, g4, g5, g6, g7⟩ := hg
  have bb := le_iff.mp b6
  have gg := le_iff.mp g6
  have zb : VbkdCore.le Vbkdai.zero b.2 = true := le_iff.mpr (cross_trans (by decide) b1.2.1 b4.2.1 (le_iff.mp b3) bb)
  have b1o : VbkdCore.le b.1 Vbkdai.one = true := le_iff.mpr (cross_trans b1.2.1 b4.2.1 (by decide) bb (le_iff.mp b7))
  have fb2 := fq_of b4 b5 zb b7
  have zg : VbkdCore.le Vbkdai.zero g.2 = true := le_iff.mpr (cross_trans (by decide) g1.2.1 g4.2.1 (le_iff.mp g3) gg)
  have bg : g.2.n * (b.2.d : Int) ≤ ((b.2.d : Int) - b.2.n) * (g.2.d : Int) := by
    have e : VbkdCore.le g.2 (VbkdCore.sub Vbkdai.one b.2) = !VbkdCore.less (VbkdCore.mk (Vbkdai.one.n * (b.2.d : Int) - b.2.n * (Vbkdai.one.d : Int)) (Vbkdai.one.d * b.2.d)) g.2 := by rw [← sub_eq]; rfl
    rw [e, less_mk_left (Nat.mul_pos (by decide) b4.2.1), Bool.not_eq_true', decide_eq_false_iff_not] at g7
    have e1 : Vbkdai.one.n * (b.2.d : Int) - b.2.n * (Vbkdai.one.d : Int) = (b.2.d : Int) - b.2.n := by
      show 1 * (b.2.d : Int) - b.2.n * ((1 : Nat) : Int) = _
      omega
    have e2 : Vbkdai.one.d * b.2.d = b.2.d := Nat.one_mul _
    rw [e1, e2] at g7
    omega
  have g2o : VbkdCore.le g.2 Vbkdai.one = true := by
    refine le_iff.mpr ?_
    show g.2.n * ((1 : Nat) : Int) ≤ 1 * (g.2.d : Int)
    have n0 := fb2.n0
    have d0 : (0 : Int) < (b.2.d : Int) := by have := b4.2.1; omega
    have dg : (0 : Int) < (g.2.d : Int) := by have := g4.2.1; omega
    have : g.2.n * (b.2.d : Int) ≤ (g.2.d : Int) * (b.2.d : Int) := by
      have h5 : ((b.2.d : Int) - b.2.n) * (g.2.d : Int) ≤ (b.2.d : Int) * (g.2.d : Int) := Int.mul_le_mul_of_nonneg_right (by omega) (by omega)
      rw [Int.mul_comm (g.2.d : Int)]
      omega
    have := Int.le_of_mul_le_mul_right this d0
    omega
  have g1o : VbkdCore.le g.1 Vbkdai.one = true := le_iff.mpr (cross_trans g1.2.1 g4.2.1 (by decide) gg (le_iff.mp g2o))
  refine ⟨h2, h3, h4, ?_, fq_of b1 b2 b3 b1o, fb2, fq_of g1 g2 g3 g1o, fq_of g4 g5 zg g2o, hs, h0, bb, gg, bg⟩
  unfold VbkdCore.isName at h1
  rw [Bool.and_eq_true, Bool.and_eq_true, decide_eq_true_eq, decide_eq_true_eq] at h1
  exact h1.2.1
theorem name_some {w : List Nat} (h : VbkdCore.isName w = true) : 0 < w.length := by
  unfold VbkdCore.isName at h
  rw [Bool.and_eq_true, decide_eq_true_eq] at h
  exact h.1
theorem sub_sm {q : Qd} (h : Sm 30 q) : Sm 3000 (VbkdCore.sub Vbkdai.one q) := by
  rw [sub_eq]
  have p : (2 : Nat) ^ 40 ≤ 2 ^ 3000 := Nat.pow_le_pow_right (by decide) (by decide)
  refine sm_mk (Nat.mul_pos (by decide) h.2.1) (Nat.lt_of_lt_of_le ?_ p) (Nat.lt_of_lt_of_le ?_ p)
  · have := h.1
    have := h.2.2
    show (1 * (q.d : Int) - q.n * ((1 : Nat) : Int)).natAbs < 2 ^ 40
    omega
  · have := h.2.2
    show 1 * q.d < 2 ^ 40
    omega
def sp_read_channel (K : PySem.W.Frag) : Sp := mkSp 2 fun vs H Q E => ∃ (a : Addr) (r : List VbkdCore.Word) (e : Nat) (v : V) (had : List Vbkdai.Chan), vs = [.ref a, v] ∧ LnAt K H a r e ∧ Wl r ∧ KnownAt H v had ∧ Ans K a H Q E (T0 had e r) fun y v H' => ChanAt K H' v y ∧ ChOk y ∧ 0 < y.name.length
section
variable {P : Program} {w : World} {K : PySem.W.Frag} {mg : Str → Option Value} {base : Heap}
theorem sc_read_channel : FnScope N_read_channel ["line", "known"] (defScope s_read_channel) := ⟨rfl, rfl, rfl, by decide +kernel, rfl, by decide +kernel, by decide +kernel⟩
theorem ok_read_channel (T : TX K mg) : FOk P w K mg base (L2N.CX P w) 7 (He.ga K "read_channel") ["line", "known"] (sp_read_channel K) := by
  obtain ⟨fd, F⟩ := T.f_read_channel
  obtain ⟨fd0, G0, b0⟩ := ok_Line_take_word (P := P) (w := w) (base := base) T
  obtain ⟨fd1, G1, b1⟩ := ok_read_name (P := P) (w := w) (base := base) T
  obtain ⟨fd2, G2, b2⟩ := ok_read_number (P := P) (w := w) (base := base) T
  obtain ⟨fd3, G3, b3⟩ := ok_read_range (P := P) (w := w) (base := base) T
  obtain ⟨fd4, G4, b4⟩ := ok_minus (P := P) (w := w) (base := base) T
  obtain ⟨fd5, G5, b5⟩ := ok_read_sure (P := P) (w := w) (base := base) T
  obtain ⟨fd6, G6, b6⟩ := ok_read_order (P := P) (w := w) (base := base) T
  obtain ⟨fd7, G7, b7⟩ := ok_Line_finish (P := P) (w := w) (base := base) T
  obtain ⟨fd8, G8, b8⟩ := ok_Channel_init (P := P) (w := w) (base := base) T
  refine ⟨fd, F.okN sc_read_channel (fun _ _ _ _ h => h.1) (fun cdv A outer s H vs Q E hr h => ?_), F.binds fun _ _ _ _ _ _ us hl => match us, hl with | [_, _], _ => rfl⟩
  have hr0 := hr.mono (by decide : 4 ≤ 6)
  have hr1 := hr.mono (by decide : 4 ≤ 6)
  have hr2 := hr.mono (by decide : 4 ≤ 6)
  have hr3 := hr.mono (by decide : 6 ≤ 6)
  have hr4 := hr.mono (by decide : 3 ≤ 6)
  have hr5 := hr.mono (by decide : 6 ≤ 6)
  have hr6 := hr.mono (by decide : 4 ≤ 6)
  have hr7 := hr.mono (by decide : 3 ≤ 6)
  have hr8 := hr.mono (by decide : 2 ≤ 6)
  refine ⟨_, (pss_cons (ps_expr (pe_meth (pv 0) T.cl_Line T.m_Line_take_word G0 hr0 b0 .nil (L2N.passes_call (L2N.takes_of rfl rfl rfl rfl) (fun _ _ _ _ h => h)) (pa_cons pe_str pa_nil)))
    (pss_cons (ps_set (i := 2) sc_read_channel.nd rfl (.inl rfl) (pe_call G1 hr1 (by rfl) T.g_read_name T.k_read_name b1 .nil (L2N.passes_call (L2N.takes_of rfl rfl rfl rfl) (fun _ _ _ _ h => h)) (pa_cons (pv 0) (pa_cons (pv 1) pa_nil))))
    (pss_cons (ps_expr (pe_meth (pv 0) T.cl_Line T.m_Line_take_word G0 hr0 b0 .nil (L2N.passes_call (L2N.takes_of rfl rfl rfl rfl) (fun _ _ _ _ h => h)) (pa_cons pe_str pa_nil)))
    (pss_cons (ps_set (i := 3) sc_read_channel.nd rfl (.inl rfl) (pe_call G2 hr2 (by rfl) T.g_read_number T.k_read_number b2 .nil (L2N.passes_call (L2N.takes_of rfl rfl rfl rfl) (fun _ _ _ _ h => h)) (pa_cons (pv 0) (pa_cons (C8.pe_gc (by rfl) T.c_MOST_TRIALS) pa_nil))))
    (pss_cons (ps_expr (pe_meth (pv 0) T.cl_Line T.m_Line_take_word G0 hr0 b0 .nil (L2N.passes_call (L2N.takes_of rfl rfl rfl rfl) (fun _ _ _ _ h => h)) (pa_cons pe_str pa_nil)))
    (pss_cons (ps_set (i := 4) sc_read_channel.nd rfl (.inl rfl) (pe_call G3 hr3 (by rfl) T.g_read_range T.k_read_range b3 .nil (L2N.passes_call (L2N.takes_of rfl rfl rfl rfl) (fun _ _ _ _ h => h)) (pa_cons (pv 0) (pa_cons (C8.pe_gc (by rfl) T.c_ONE) pa_nil))))
    (pss_cons (ps_expr (pe_meth (pv 0) T.cl_Line T.m_Line_take_word G0 hr0 b0 .nil (L2N.passes_call (L2N.takes_of rfl rfl rfl rfl) (fun _ _ _ _ h => h)) (pa_cons pe_str pa_nil)))
    (pss_cons (ps_set (i := 5) sc_read_channel.nd rfl (.inl rfl) (pe_call G3 hr3 (by rfl) T.g_read_range T.k_read_range b3 .nil (L2N.passes_call (L2N.takes_of rfl rfl rfl rfl) (fun _ _ _ _ h => h)) (pa_cons (pv 0) (pa_cons (pe_call G4 hr4 (by rfl) T.g_minus T.k_minus b4 .nil pass0 (pa_cons (C8.pe_gc (by rfl) T.c_ONE) (pa_cons (pe_ix ix_tup (pv 4) pe_int (fun _ _ => rfl)) pa_nil))) pa_nil))))
    (pss_cons (ps_expr (pe_meth (pv 0) T.cl_Line T.m_Line_take_word G0 hr0 b0 .nil (L2N.passes_call (L2N.takes_of rfl rfl rfl rfl) (fun _ _ _ _ h => h)) (pa_cons pe_str pa_nil)))
    (pss_cons (ps_set (i := 6) sc_read_channel.nd rfl (.inl rfl) (pe_call G5 hr5 (by rfl) T.g_read_sure T.k_read_sure b5 .nil (L2N.passes_call (L2N.takes_of rfl rfl rfl rfl) (fun _ _ _ _ h => h)) (pa_cons (pv 0) pa_nil)))
    (pss_cons (ps_expr (pe_meth (pv 0) T.cl_Line T.m_Line_take_word G0 hr0 b0 .nil (L2N.passes_call (L2N.takes_of rfl rfl rfl rfl) (fun _ _ _ _ h => h)) (pa_cons pe_str pa_nil)))
    (pss_cons (ps_set (i := 7) sc_read_channel.nd rfl (.inl rfl) (pe_call G6 hr6 (by rfl) T.g_read_order T.k_read_order b6 .nil (L2N.passes_call (L2N.takes_of rfl rfl rfl rfl) (fun _ _ _ _ h => h)) (pa_cons (pv 0) pa_nil)))
    (pss_cons (ps_expr (pe_meth0 (pv 0) T.cl_Line T.m_Line_finish G7 hr7 b7 .nil (L2N.passes_call (L2N.takes_of rfl rfl rfl rfl) (fun _ _ _ _ h => h))))
    (pss_one (ps_ret (pe_make T.mk_Channel G8 hr8 (by rfl) T.g_Channel b8 .nil pass0 (pa_cons (pv 2) (pa_cons (pv 3) (pa_cons (pv 4) (pa_cons (pv 5) (pa_cons (pv 6) (pa_cons (pv 7) pa_nil)))))))))))))))))))))), ?_⟩
  obtain ⟨_, h⟩ := h
  obtain ⟨a, r0, e, v, had, rfl, hl0, hw0, hk, qe, q⟩ := h
  have E0 : T0 had e r0 = T0 had e r0 := rfl
  have k0 : SameBut a H H := SameBut.refl
  obtain ⟨dx0, wl0, i0, ha0⟩ := hl0.objL
  refine ⟨_, rfl, a, dx0, _, rfl, ha0, L_Line_take_word, rfl, a, r0, e, Str.ofString "channel", rfl, hl0, by rw [← Array.length_toList, str_txt]; decide, fun f hf => (qe f (by rw [E0]; show (keyX _ _ _).bind _ = _; rw [hf]; rfl)).pre k0, fun r1 hy1 _ H1 s1 hl1 => ?_⟩
  have E1 : T0 had e r0 = T1 had e r1 := by rw [E0]; show (keyX _ _ _).bind _ = _; rw [hy1]; rfl
  have k1 := k0.trans s1
  have hw1 := keyX_wl hy1 hw0
  have hk := hk.but s1 ha0
  obtain ⟨dx1, wl1, i1, ha1⟩ := hl1.objL
  refine ⟨_, rfl, _, rfl, rfl, a, r1, e, v, had, rfl, hl1, hw1, hk, fun f hf => (qe f (by rw [E1]; show (nameIn _ _ _).bind _ = _; rw [hf]; rfl)).pre k1, fun y2 hy2 vn H2 s2 ⟨hn, hl2⟩ => ?_⟩
  obtain ⟨nm, r2⟩ := y2
  have E2 : T0 had e r0 = T2 nm e r2 := by rw [E1]; show (nameIn _ _ _).bind _ = _; rw [hy2]; rfl
  have k2 := k1.trans s2
  have fn := nameIn_is hy2
  have hw2 : Wl r2 := fn.2 hw1
  obtain ⟨dx2, wl2, i2, ha2⟩ := hl2.objL
  refine ⟨_, rfl, a, dx2, _, rfl, ha2, L_Line_take_word, rfl, a, r2, e, Str.ofString "trials", rfl, hl2, by rw [← Array.length_toList, str_txt]; decide, fun f hf => (qe f (by rw [E2]; show (keyX _ _ _).bind _ = _; rw [hf]; rfl)).pre k2, fun r3 hy3 _ H3 s3 hl3 => ?_⟩
  have E3 : T0 had e r0 = T3 nm e r3 := by rw [E2]; show (keyX _ _ _).bind _ = _; rw [hy3]; rfl
  have k3 := k2.trans s3
  have hw3 := keyX_wl hy3 hw2
  have hn := hn.but s3 ha2
  obtain ⟨dx3, wl3, i3, ha3⟩ := hl3.objL
  refine ⟨_, rfl, rfl, a, r3, e, 40, rfl, hl3, hw3, fun f hf => (qe f (by rw [E3]; show (Vbkdai.numberIn _ _ _ _).bind _ = _; rw [hf]; rfl)).pre k3, fun y4 hy4 vt H4 s4 ⟨ev, hl4⟩ => ?_⟩
  subst ev
  obtain ⟨t, r4⟩ := y4
  have E4 : T0 had e r0 = T4 nm t e r4 := by rw [E3]; show (Vbkdai.numberIn _ _ _ _).bind _ = _; rw [hy4]; rfl
  have k4 := k3.trans s4
  have ft := numberIn_is hy4
  have hw4 : Wl r4 := ft.2.2 hw3
  have hn := hn.but s4 ha3
  obtain ⟨dx4, wl4, i4, ha4⟩ := hl4.objL
  refine ⟨_, rfl, a, dx4, _, rfl, ha4, L_Line_take_word, rfl, a, r4, e, Str.ofString "base", rfl, hl4, by rw [← Array.length_toList, str_txt]; decide, fun f hf => (qe f (by rw [E4]; show (keyX _ _ _).bind _ = _; rw [hf]; rfl)).pre k4, fun r5 hy5 _ H5 s5 hl5 => ?_⟩
  have E5 : T0 had e r0 = T5 nm t e r5 := by rw [E4]; show (keyX _ _ _).bind _ = _; rw [hy5]; rfl
  have k5 := k4.trans s5
  have hw5 := keyX_wl hy5 hw4
  have hn := hn.but s5 ha4
  obtain ⟨dx5, wl5, i5, ha5⟩ := hl5.objL
  refine ⟨_, rfl, rfl, a, r5, e, Vbkdai.one, _, rfl, hl5, hw5, ⟨_, rfl, T.t_ONE _⟩, one_sm, fun f hf => (qe f (by rw [E5]; show (Vbkdai.rangeIn _ _ _ _).bind _ = _; rw [hf]; rfl)).pre k5, fun y6 hy6 vb H6 s6 ⟨hb, hl6⟩ => ?_⟩
  obtain ⟨b, r6⟩ := y6
  have E6 : T0 had e r0 = T6 nm t b e r6 := by rw [E5]; show (Vbkdai.rangeIn _ _ _ _).bind _ = _; rw [hy6]; rfl
  have k6 := k5.trans s6
  have fb := rangeIn_is hy6
  have hw6 : Wl r6 := fb.2.2.2.2.2.2.2 hw5
  have hn := hn.but s6 ha5
  obtain ⟨dx6, wl6, i6, ha6⟩ := hl6.objL
  refine ⟨_, rfl, a, dx6, _, rfl, ha6, L_Line_take_word, rfl, a, r6, e, Str.ofString "gain", rfl, hl6, by rw [← Array.length_toList, str_txt]; decide, fun f hf => (qe f (by rw [E6]; show (keyX _ _ _).bind _ = _; rw [hf]; rfl)).pre k6, fun r7 hy7 _ H7 s7 hl7 => ?_⟩
  have E7 : T0 had e r0 = T7 nm t b e r7 := by rw [E6]; show (keyX _ _ _).bind _ = _; rw [hy7]; rfl
  have k7 := k6.trans s7
  have hw7 := keyX_wl hy7 hw6
  have hn := hn.but s7 ha6
  have hb := hb.but s7 ha6
  obtain ⟨dx7, wl7, i7, ha7⟩ := hl7.objL
  obtain ⟨ba, bv1, bv2, rfl, hba, hbv1, hbv2⟩ := id hb
  have sb2 : Sm 3000 (VbkdCore.sub Vbkdai.one b.2) := sub_sm fb.2.2.2.1
  refine ⟨_, rfl, _, rfl, ba, _, _, bv2, rfl, rfl, hba, at1, rfl, Vbkdai.one, b.2, _, _, rfl, ⟨_, rfl, T.t_ONE _⟩, hbv2, one_sm.mono (by decide), fb.2.2.2.1.mono (by decide), fun vm Hm em hm => ?_⟩
  refine ⟨rfl, a, r7, e, _, vm, rfl, hl7.same em, hw7, hm, sb2, fun f hf => (qe f (by rw [E7]; show (Vbkdai.rangeIn _ _ _ _).bind _ = _; rw [hf]; rfl)).pre (k7.trans em.but), fun y8 hy8 vg H8 s8 ⟨hg, hl8⟩ => ?_⟩
  obtain ⟨g, r8⟩ := y8
  have E8 : T0 had e r0 = T8 nm t b g e r8 := by rw [E7]; show (Vbkdai.rangeIn _ _ _ _).bind _ = _; rw [hy8]; rfl
  have k8 := (k7.trans em.but).trans s8
  have fg := rangeIn_is hy8
  have hw8 : Wl r8 := fg.2.2.2.2.2.2.2 hw7
  have hn := (hn.same em).but s8 (em _ _ ha7)
  have hb := (hb.same em).but s8 (em _ _ ha7)
  obtain ⟨dx8, wl8, i8, ha8⟩ := hl8.objL
  refine ⟨_, rfl, a, dx8, _, rfl, ha8, L_Line_take_word, rfl, a, r8, e, Str.ofString "sure", rfl, hl8, by rw [← Array.length_toList, str_txt]; decide, fun f hf => (qe f (by rw [E8]; show (keyX _ _ _).bind _ = _; rw [hf]; rfl)).pre k8, fun r9 hy9 _ H9 s9 hl9 => ?_⟩
  have E9 : T0 had e r0 = T9 nm t b g e r9 := by rw [E8]; show (keyX _ _ _).bind _ = _; rw [hy9]; rfl
  have k9 := k8.trans s9
  have hw9 := keyX_wl hy9 hw8
  have hn := hn.but s9 ha8
  have hb := hb.but s9 ha8
  have hg := hg.but s9 ha8
  obtain ⟨dx9, wl9, i9, ha9⟩ := hl9.objL
  refine ⟨_, rfl, rfl, a, r9, e, rfl, hl9, hw9, fun f hf => (qe f (by rw [E9]; show (sureIn _ _).bind _ = _; rw [hf]; rfl)).pre k9, fun y10 hy10 vs H10 s10 ⟨hs, hl10⟩ => ?_⟩
  obtain ⟨s, r10⟩ := y10
  have E10 : T0 had e r0 = T10 nm t b g s e r10 := by rw [E9]; show (sureIn _ _).bind _ = _; rw [hy10]; rfl
  have k10 := k9.trans s10
  have fs := sureIn_is hy10
  have hw10 : Wl r10 := fs.2.2 hw9
  have hn := hn.but s10 ha9
  have hb := hb.but s10 ha9
  have hg := hg.but s10 ha9
  obtain ⟨dx10, wl10, i10, ha10⟩ := hl10.objL
  refine ⟨_, rfl, a, dx10, _, rfl, ha10, L_Line_take_word, rfl, a, r10, e, Str.ofString "order", rfl, hl10, by rw [← Array.length_toList, str_txt]; decide, fun f hf => (qe f (by rw [E10]; show (keyX _ _ _).bind _ = _; rw [hf]; rfl)).pre k10, fun r11 hy11 _ H11 s11 hl11 => ?_⟩
  have E11 : T0 had e r0 = T11 nm t b g s e r11 := by rw [E10]; show (keyX _ _ _).bind _ = _; rw [hy11]; rfl
  have k11 := k10.trans s11
  have hw11 := keyX_wl hy11 hw10
  have hn := hn.but s11 ha10
  have hb := hb.but s11 ha10
  have hg := hg.but s11 ha10
  have hs := hs.but s11 ha10
  obtain ⟨dx11, wl11, i11, ha11⟩ := hl11.objL
  refine ⟨_, rfl, rfl, a, r11, e, rfl, hl11, hw11, fun f hf => (qe f (by rw [E11]; show (orderIn _ _).bind _ = _; rw [hf]; rfl)).pre k11, fun y12 hy12 vo H12 s12 ⟨eo, hl12⟩ => ?_⟩
  subst eo
  obtain ⟨o, r12⟩ := y12
  have E12 : T0 had e r0 = T12 nm t b g s o r12 := by rw [E11]; show (orderIn _ _).bind _ = _; rw [hy12]; rfl
  have k12 := k11.trans s12
  have fo := orderIn_is hy12
  have hn := hn.but s12 ha11
  have hb := hb.but s12 ha11
  have hg := hg.but s12 ha11
  have hs := hs.but s12 ha11
  obtain ⟨dx12, wl12, i12, ha12⟩ := hl12.objL
  refine ⟨_, rfl, a, dx12, _, rfl, ha12, L_Line_finish, rfl, a, r12, e, rfl, hl12, fun f hf => (qe f (by rw [E12]; show (Vbkdai.noMore _ _).bind _ = _; rw [hf]; rfl)).pre k12, fun y13 hy13 _ H13 s13 _ => ?_⟩
  have E13 : T0 had e r0 = .ok ⟨nm, t, b.1, b.2, g.1, g.2, s, o⟩ := by rw [E12]; show (Vbkdai.noMore _ _).bind _ = _; rw [hy13]; rfl
  have k13 := k12.trans s13
  have hn := hn.but s13 ha12
  have hb := hb.but s13 ha12
  have hg := hg.but s13 ha12
  have hs := hs.but s13 ha12
  refine ⟨_, rfl, _, rfl, _, rfl, _, rfl, _, rfl, _, rfl, ?_⟩
  intro x dx nx nd ne
  refine ⟨rfl, x, dx, _, _, _, _, _, _, rfl, upd_same, rfl, ?_⟩
  have k := made_same (C := He.ga K "Channel") (fs := []) (fs' := F_Channel vn (.int (t : Int)) (.ref ba) vg vs (.int (o : Int))) nx nd ne
  exact q _ E13 _ _ (k13.trans k.but) ⟨⟨x, dx, vn, .ref ba, vg, vs, rfl, upd_same, hn.same k, hb.same k, hg.same k, hs.same k⟩, chan_ok fn.1 ft.1 ft.2.1 fo ⟨fb.1, fb.2.1, fb.2.2.1, fb.2.2.2.1, fb.2.2.2.2.1, fb.2.2.2.2.2.1, fb.2.2.2.2.2.2.1⟩ ⟨fg.1, fg.2.1, fg.2.2.1, fg.2.2.2.1, fg.2.2.2.2.1, fg.2.2.2.2.2.1, fg.2.2.2.2.2.2.1⟩ fs.1 fs.2.1, name_some fn.1⟩
end
end Bc


-- end of a part
set_option Elab.async false
set_option linter.all false
set_option maxRecDepth 100000
set_option maxHeartbeats 4000000
set_option exponentiation.threshold 100000
/-! # a plan read -/
namespace Bc
open PySem PySem.Spec PyProof.Rows L2
theorem words_len : ∀ (l : List Nat) (p : Nat) (o : Option VbkdCore.Word) (w : VbkdCore.Word), w ∈ VbkdCore.wordsFrom p o l → w.2.length ≤ l.length + (match o with | none => 0 | some x => x.2.length)
  | [], p, none, w, h => by cases h
  | [], p, some x, w, h => by
    have h : w ∈ [x] := h
    rw [List.mem_singleton.mp h]
    exact Nat.le_add_left _ _
  | c :: r, p, o, w, h => by
    by_cases hc : c = 32
    · cases o with
      | none =>
        have h : w ∈ (if c = 32 then VbkdCore.wordsFrom (p + 1) none r else VbkdCore.wordsFrom (p + 1) (some (p, [c])) r) := h
        rw [if_pos hc] at h
        have := words_len r _ _ w h
        simp only [List.length_cons] at this ⊢
        omega
      | some x =>
        have h : w ∈ (if c = 32 then x :: VbkdCore.wordsFrom (p + 1) none r else VbkdCore.wordsFrom (p + 1) (some (x.1, x.2 ++ [c])) r) := h
        rw [if_pos hc] at h
        rcases List.mem_cons.mp h with e | h
        · rw [e]
          exact Nat.le_add_left _ _
        · have := words_len r _ _ w h
          simp only [List.length_cons] at this ⊢
          omega
    · cases o with
      | none =>
        have h : w ∈ (if c = 32 then VbkdCore.wordsFrom (p + 1) none r else VbkdCore.wordsFrom (p + 1) (some (p, [c])) r) := h
        rw [if_neg hc] at h
        have := words_len r _ _ w h
        simp only [List.length_cons, List.length_nil] at this ⊢
        omega
      | some x =>
        have h : w ∈ (if c = 32 then x :: VbkdCore.wordsFrom (p + 1) none r else VbkdCore.wordsFrom (p + 1) (some (x.1, x.2 ++ [c])) r) := h
        rw [if_neg hc] at h
        have := words_len r _ _ w h
        simp only [List.length_cons, List.length_append, List.length_nil] at this ⊢
        omega
theorem lines_ne : ∀ (p : Nat) (l : List Nat), ∃ x t, VbkdCore.linesFrom p l = x :: t
  | p, [] => ⟨_, _, rfl⟩
  | p, c :: r => by
    rw [VbkdCore.linesFrom]
    obtain ⟨x, t, e⟩ := lines_ne (p + 1) r
    by_cases h : c = 10
    · rw [if_pos h]
      exact ⟨_, _, rfl⟩
    · rw [if_neg h, e]
      exact ⟨_, _, rfl⟩
theorem lines_len : ∀ (l : List Nat) (p : Nat) (x : Nat × List Nat), x ∈ VbkdCore.linesFrom p l → x.2.length ≤ l.length
  | [], p, x, h => by
    have h : x ∈ [(p, ([] : List Nat))] := h
    rw [List.mem_singleton.mp h]
    exact Nat.le_refl _
  | c :: r, p, x, h => by
    rw [VbkdCore.linesFrom] at h
    obtain ⟨y, t, e⟩ := lines_ne (p + 1) r
    by_cases hc : c = 10
    · rw [if_pos hc] at h
      rcases List.mem_cons.mp h with z | h
      · rw [z]
        exact Nat.zero_le _
      · have := lines_len r _ x h
        rw [List.length_cons]
        omega
    · rw [if_neg hc, e] at h
      have ih := lines_len r (p + 1)
      rw [e] at ih
      rcases List.mem_cons.mp h with z | h
      · rw [z]
        have := ih y List.mem_cons_self
        show y.2.length + 1 ≤ r.length + 1
        omega
      · have := ih x (List.mem_cons_of_mem _ h)
        rw [List.length_cons]
        omega
theorem line_wl {row : List Nat} {x : Nat × List Nat} (h : x ∈ VbkdCore.linesFrom 0 row) (l : row.length ≤ 400) : Wl (VbkdCore.wordsFrom x.1 none x.2) := fun w hw => by
  have h1 := words_len _ _ _ w hw
  have h2 := lines_len _ _ _ h
  simp only at h1
  omega
/-- the words of a line, and where it ends -/
def wds (x : Nat × List Nat) : List VbkdCore.Word := VbkdCore.wordsFrom x.1 none x.2
theorem planLine_none (x : Nat × List Nat) : Vbkdai.planLine none x = (keyX (Str.ofString "parts") (x.1 + x.2.length) (wds x)).bind fun r => (Vbkdai.numberIn 1 12 (x.1 + x.2.length) r).bind fun n => (Vbkdai.noMore () n.2).bind fun _ => .ok (some ⟨n.1, []⟩) := by
  unfold Vbkdai.planLine
  show (match wds x with
    | [] => _
    | w :: r => _) = _
  cases hw : wds x with
  | nil => rfl
  | cons w r =>
    rw [keyX_ok next_some, str_txt]
    show (if w.2 = VbkdCore.txt "parts" then (Vbkdai.numberIn 1 12 (x.1 + x.2.length) r).bind fun n => Vbkdai.noMore (some (⟨n.1, []⟩ : Vbkdai.Plan)) n.2 else .error ⟨1, w.1⟩) = _
    by_cases c : w.2 = VbkdCore.txt "parts"
    · rw [if_pos c, if_pos c]
      refine bind_cong fun n _ => ?_
      cases n.2 <;> rfl
    · rw [if_neg c, if_neg c]
      rfl
def fifth (p : Vbkdai.Plan) (x : Nat × List Nat) : Bool := decide (p.chans.length = 4) && isWord (Str.ofString "channel") (wds x)
theorem planLine_fifth {p : Vbkdai.Plan} {x : Nat × List Nat} (h : fifth p x = true) : ∃ w r, wds x = w :: r ∧ Vbkdai.planLine (some p) x = .error ⟨4, w.1⟩ := by
  unfold fifth at h
  rw [Bool.and_eq_true, decide_eq_true_eq] at h
  cases hw : wds x with
  | nil => rw [hw] at h; cases h.2
  | cons w r =>
    rw [hw] at h
    have h2 : decide (w.2 = (Str.ofString "channel").cps.toList) = true := h.2
    rw [str_txt] at h2
    refine ⟨w, r, rfl, ?_⟩
    unfold Vbkdai.planLine
    show (match wds x with
      | [] => _
      | w :: r => _) = _
    rw [hw]
    show (if w.2 = VbkdCore.txt "channel" then (if 4 ≤ p.chans.length then _ else _) else _) = _
    rw [if_pos (of_decide_eq_true h2), if_pos (by omega)]
theorem planLine_some {p : Vbkdai.Plan} {x : Nat × List Nat} (h : fifth p x = false) (h4 : p.chans.length ≤ 4) : Vbkdai.planLine (some p) x = (T0 p.chans (x.1 + x.2.length) (wds x)).map fun c => some { p with chans := p.chans ++ [c] } := by
  unfold fifth at h
  unfold Vbkdai.planLine T0
  show (match wds x with
    | [] => _
    | w :: r => _) = _
  cases hw : wds x with
  | nil => rfl
  | cons w r =>
    rw [hw] at h
    have h : (decide (p.chans.length = 4) && decide (w.2 = (Str.ofString "channel").cps.toList)) = false := h
    rw [keyX_ok next_some]
    rw [str_txt] at h ⊢
    show (if w.2 = VbkdCore.txt "channel" then (if 4 ≤ p.chans.length then Except.error (⟨4, w.1⟩ : VbkdCore.Fault) else (Vbkdai.chanIn p.chans (x.1 + x.2.length) r).map fun c => some { p with chans := p.chans ++ [c] }) else .error ⟨1, w.1⟩) = Except.map _ (Except.bind (if w.2 = VbkdCore.txt "channel" then Except.ok r else .error ⟨1, w.1⟩) _)
    by_cases c : w.2 = VbkdCore.txt "channel"
    · rw [decide_eq_true c, Bool.and_true, decide_eq_false_iff_not] at h
      rw [if_pos c, if_pos c, if_neg (by omega), chanIn_T]
      rfl
    · rw [if_neg c, if_neg c]
      rfl
def Flt (K : PySem.W.Frag) (H : Hp) (E : XK) (k p : Nat) : Prop := ∀ d H', Same H H' → H' d = some (.xd (fltF k p)) → E (.ref (He.ga K "Fault")) (some d) H'
def sp_plan_of (K : PySem.W.Frag) : Sp := mkSp 1 fun vs H Q E => ∃ (v : V) (row : List Nat), vs = [v] ∧ InAt H v (nI row) ∧ row.length ≤ 400 ∧ (∀ f, Vbkdai.readPlan row = .error f → Flt K H E f.kind f.place) ∧ ∀ p, Vbkdai.readPlan row = .ok p → ∀ v H', Same H H' → PlanAt K H' v p → PlOk p → Q v H'
/-- a channel stands beside a list of objects -/
theorem ChanAt.off {K : PySem.W.Frag} {H : Hp} {v : V} {c : Vbkdai.Chan} {f : Addr} {vs : List V} (h : ChanAt K H v c) (hf : H f = some (.lst vs)) (r : refs vs) (n : 0 < c.name.length) : ChanAt K (del H f) v c := by
  obtain ⟨a, dx, nm, b, g, s, rfl, ha, ⟨na, rfl, hna⟩, ⟨ba, b1, b2, rfl, hb, hb1, hb2⟩, ⟨ga, g1, g2, rfl, hg, hg1, hg2⟩, hs⟩ := h
  have tup : ∀ {p : Addr} {xs : List V}, SqT K H p xs → SqT K (del H f) p xs := fun {p xs} h => by
    rcases h with (h | ⟨o, h⟩) | h
    · exact .inl (.inl (by rw [del_ne (ne_of h hf (by intro z; cases z))]; exact h))
    · exact .inl (.inr ⟨o, by rw [del_ne (ne_of h hf (by intro z; cases z))]; exact h⟩)
    · exact .inr h
  refine ⟨a, dx, _, _, _, s, rfl, ?_, ⟨na, rfl, ?_⟩, ⟨ba, b1, b2, rfl, tup hb, hb1.off hf, hb2.off hf⟩, ⟨ga, g1, g2, rfl, tup hg, hg1.off hf, hg2.off hf⟩, hs.off hf⟩
  · rw [del_ne (ne_of ha hf (by intro z; cases z))]
    exact ha
  · rw [del_ne (ne_of hna hf (ints_ne_refs (by unfold nI; rw [List.length_map]; exact n) r))]
    exact hna
theorem chan_ref {K : PySem.W.Frag} {H : Hp} {v : V} {c : Vbkdai.Chan} (h : ChanAt K H v c) : ∃ a, v = .ref a := let ⟨a, _, _, _, _, _, e, _⟩ := h; ⟨a, e⟩
theorem chans_refs {K : PySem.W.Frag} {H : Hp} : ∀ {vs : List V} {cs : List Vbkdai.Chan}, Paired (ChanAt K H) vs cs → refs vs
  | _, _, .nil => fun x hx => by cases hx
  | _, _, .cons h r => fun x hx => by
    rcases List.mem_cons.mp hx with e | hx
    · rw [e]
      exact chan_ref h
    · exact chans_refs r x hx
theorem dupH (H0 : Hp) (p : Prop) {B N : Hp → Prop} {G : Prop} (main : (p → ∀ H', Same H0 H' → B H') → (¬ p → ∀ H', Same H0 H' → N H') → G) (body : p → ∀ H', Same H0 H' → B H') (next : ¬ p → ∀ H', Same H0 H' → N H') : G := main body next
theorem ChanAt.but {K : PySem.W.Frag} {H H' : Hp} {v : V} {c : Vbkdai.Chan} {a C dx : Addr} {x y z : V} (h : ChanAt K H v c) (e : SameBut a H H') (hl : H a = some (.ins C dx (F_Line x y z))) : ChanAt K H' v c := by
  obtain ⟨b, dx2, nm, bb, g, s, rfl, hb, c1, c2, c3, c4⟩ := h
  refine ⟨b, dx2, nm, bb, g, s, rfl, e _ _ (ne_of hb hl ?_) hb, c1.but e hl, c2.but e hl, c3.but e hl, c4.but e hl⟩
  intro q
  have := (HO.ins.inj q).2.2
  have l := congrArg List.length this
  exact absurd l (by show ¬ 6 = 3; decide)
theorem del_but {H H' : Hp} {a D : Addr} (e : SameBut a H H') : SameBut a (del H D) (del H' D) := fun b o n h => by
  by_cases z : b = D
  · rw [z, del_same] at h
    cases h
  · rw [del_ne z] at h ⊢
    exact e b o n h
theorem lines_but {K : PySem.W.Frag} {H0 H H' : Hp} {a C dx : Addr} {fs : List (Str × V)} (s : SameBut a H H') (ha : H a = some (.ins C dx fs)) : ∀ {vs : List V} {ls : List (Nat × List Nat)}, Paired (LineV K H0 H) vs ls → V.ref a ∉ vs → Paired (LineV K H0 H') vs ls
  | _, _, .nil, _ => .nil
  | _, _, .cons ⟨b, e, n, l⟩ r, h => .cons ⟨b, e, n, l.but s (fun z => h (by rw [e, z]; exact List.mem_cons_self)) ha⟩ (lines_but s ha r fun z => h (List.mem_cons_of_mem _ z))
def fin1 (row : List Nat) (o : Option Vbkdai.Plan) : Except VbkdCore.Fault Vbkdai.Plan := match o with
  | some p => if p.chans = [] then .error ⟨1, row.length⟩ else .ok p
  | none => .error ⟨1, row.length⟩
def U3 (row : List Nat) (xs : List (Nat × List Nat)) (p : Vbkdai.Plan) := (Vbkdai.linesIn (some p) xs).bind (fin1 row)
def U2 (row : List Nat) (xs : List (Nat × List Nat)) (n : Nat) (r : List VbkdCore.Word) := (Vbkdai.noMore () r).bind fun _ => U3 row xs ⟨n, []⟩
def U1 (row : List Nat) (x0 : Nat × List Nat) (xs : List (Nat × List Nat)) (r : List VbkdCore.Word) := (Vbkdai.numberIn 1 12 (x0.1 + x0.2.length) r).bind fun n => U2 row xs n.1 n.2
theorem readPlan_U {row : List Nat} {x0 : Nat × List Nat} {xs : List (Nat × List Nat)} (h : VbkdCore.linesFrom 0 row = x0 :: xs) : Vbkdai.readPlan row = (keyX (Str.ofString "parts") (x0.1 + x0.2.length) (wds x0)).bind (U1 row x0 xs) := by
  have e : Vbkdai.readPlan row = (Vbkdai.linesIn none (VbkdCore.linesFrom 0 row)).bind (fin1 row) := rfl
  rw [e, h, Vbkdai.linesIn, planLine_none]
  cases keyX (Str.ofString "parts") (x0.1 + x0.2.length) (wds x0) with
  | error f => rfl
  | ok r =>
    show ((((Vbkdai.numberIn 1 12 (x0.1 + x0.2.length) r).bind _).bind _).bind _ : Except _ _) = U1 row x0 xs r
    unfold U1
    cases Vbkdai.numberIn 1 12 (x0.1 + x0.2.length) r with
    | error f => rfl
    | ok n =>
      show ((((Vbkdai.noMore () n.2).bind _).bind _).bind _ : Except _ _) = U2 row xs n.1 n.2
      unfold U2
      cases Vbkdai.noMore () n.2 with
      | error f => rfl
      | ok _ => rfl
theorem U3_step {row : List Nat} {y : Nat × List Nat} {xs : List (Nat × List Nat)} {p : Vbkdai.Plan} : U3 row (y :: xs) p = (Vbkdai.planLine (some p) y).bind fun z => (Vbkdai.linesIn z xs).bind (fin1 row) := by
  unfold U3
  rw [Vbkdai.linesIn]
  cases Vbkdai.planLine (some p) y <;> rfl
theorem T0_word {had : List Vbkdai.Chan} {e : Nat} {r : List VbkdCore.Word} {c : Vbkdai.Chan} (h : T0 had e r = .ok c) : isWord (Str.ofString "channel") r = true := by
  cases r with
  | nil => cases h
  | cons w r =>
    by_cases z : w.2 = (Str.ofString "channel").cps.toList
    · exact decide_eq_true z
    · unfold T0 at h
      rw [keyX_ok next_some, if_neg z] at h
      cases h
section
variable {P : Program} {w : World} {K : PySem.W.Frag} {mg : Str → Option Value} {base : Heap}
theorem sc_plan_of : FnScope N_plan_of ["row"] (defScope s_plan_of) := ⟨rfl, rfl, rfl, by decide +kernel, rfl, by decide +kernel, by decide +kernel⟩
theorem ok_plan_of (T : TX K mg) : FOk P w K mg base (L2N.CX P w) 8 (He.ga K "plan_of") ["row"] (sp_plan_of K) := by
  obtain ⟨fd, F⟩ := T.f_plan_of
  obtain ⟨fd0, G0, b0⟩ := ok_lines_of (P := P) (w := w) (base := base) T
  obtain ⟨fd1, G1, b1⟩ := ok_Line_take_word (P := P) (w := w) (base := base) T
  obtain ⟨fd2, G2, b2⟩ := ok_read_number (P := P) (w := w) (base := base) T
  obtain ⟨fd3, G3, b3⟩ := ok_Line_finish (P := P) (w := w) (base := base) T
  obtain ⟨fd4, G4, b4⟩ := ok_Line_is_next (P := P) (w := w) (base := base) T
  obtain ⟨fd5, G5, b5⟩ := ok_Fault_init (P := P) (w := w) (base := base) T
  obtain ⟨fd6, G6, b6⟩ := ok_read_channel (P := P) (w := w) (base := base) T
  obtain ⟨fd7, G7, b7⟩ := ok_Plan_init (P := P) (w := w) (base := base) T
  refine ⟨fd, F.okN sc_plan_of (fun _ _ _ _ h => h.1) (fun cdv A outer s H vs Q E hr h => ?_), F.binds fun _ _ _ _ _ _ us hl => match us, hl with | [_], _ => rfl⟩
  have hr0 := hr.mono (by decide : 4 ≤ 7)
  have hr1 := hr.mono (by decide : 4 ≤ 7)
  have hr2 := hr.mono (by decide : 4 ≤ 7)
  have hr3 := hr.mono (by decide : 3 ≤ 7)
  have hr4 := hr.mono (by decide : 2 ≤ 7)
  have hr5 := hr.mono (by decide : 2 ≤ 7)
  have hr6 := hr.mono (by decide : 7 ≤ 7)
  have hr7 := hr.mono (by decide : 2 ≤ 7)
  have hu64 := hr.units
  refine ⟨_, (pss_cons (ps_set (i := 1) sc_plan_of.nd rfl (.inl rfl) (pe_call G0 hr0 (by rfl) T.g_lines_of T.k_lines_of b0 .nil pass0 (pa_cons (pv 0) pa_nil)))
    (pss_cons (ps_expr (pe_meth (pe_ix ix_list (pv 1) pe_int (fun _ _ => rfl)) T.cl_Line T.m_Line_take_word G1 hr1 b1 .nil (L2N.passes_call (L2N.takes_of rfl rfl rfl rfl) (fun _ _ _ _ h => h)) (pa_cons pe_str pa_nil)))
    (pss_cons (ps_set (i := 2) sc_plan_of.nd rfl (.inl rfl) (pe_call G2 hr2 (by rfl) T.g_read_number T.k_read_number b2 .nil (L2N.passes_call (L2N.takes_of rfl rfl rfl rfl) (fun _ _ _ _ h => h)) (pa_cons (pe_ix ix_list (pv 1) pe_int (fun _ _ => rfl)) (pa_cons (C8.pe_gc (by rfl) T.c_MOST_PARTS) pa_nil))))
    (pss_cons (ps_expr (pe_meth0 (pe_ix ix_list (pv 1) pe_int (fun _ _ => rfl)) T.cl_Line T.m_Line_finish G3 hr3 b3 .nil (L2N.passes_call (L2N.takes_of rfl rfl rfl rfl) (fun _ _ _ _ h => h))))
    (pss_cons (ps_set (i := 3) sc_plan_of.nd rfl (.inl rfl) (pe_lst pa_nil))
    (pss_cons (ps_for (passes_of rfl) rfl (pi_list (pe_slice sl_list (pv 1) (po_some pe_int) po_none)) (pg_name (i := 4) sc_plan_of.nd rfl (.inl rfl)) (pss_cons (ps_if (PW.pt (pw_and (pt_cmpR op_eq (pe_callB call_len_seq (by rfl) T.n_len (by decide +kernel) (pa_cons (pv 3) pa_nil)) (C8.pe_gc (by rfl) T.c_MOST_CHANNELS) (by rfl)) (pw_and1 (pt_val (pe_meth (pv 4) T.cl_Line T.m_Line_is_next G4 hr4 b4 .nil pass0 (pa_cons pe_str pa_nil)))))) (pss_one (L2N.ps_raise rfl (L2N.takes_of rfl rfl rfl rfl) (L2N.pmk_oexN T.ox_Fault T.i_Fault T.t_Fault G5 hr5 b5 .nil pass0 (by rfl) T.g_Fault (pa_cons (C8.pe_gc (by rfl) T.c_FIFTH) (pa_cons (pe_ix ix_tup (pe_ix ix_list (pe_fld (pv 4) rfl) pe_int (fun _ _ => rfl)) pe_int (fun _ _ => rfl)) pa_nil))))) pss_nil)
    (pss_one (ps_expr (pe_bm PySem.F.plainAttrs_list PySem.F.slot_list_append PySem.F.type_list_append mt_append (pv 3) (pa_cons (pe_call G6 hr6 (by rfl) T.g_read_channel T.k_read_channel b6 .nil (L2N.passes_call (L2N.takes_of rfl rfl rfl rfl) (fun _ _ _ _ h => h)) (pa_cons (pv 4) (pa_cons (pe_lc (g := (gName 5)) (te := (tFld K (tVar 5) "name")) (own := [("channel", 5)]) (by rfl) sc_plan_of.nd (pi_list (pv 3)) (blkOk_by (own := [("channel", 5)]) (N := N_plan_of) (sc := defScope s_plan_of) (by decide +kernel)) (fun _ _ _ _ _ => by exact (pg_name (i := 5) sc_plan_of.nd rfl (.inl rfl))) (fun _ _ _ _ _ => by exact pts_nil) (fun _ _ _ _ _ => by exact (pe_fld (pv 5) rfl))) pa_nil))) pa_nil))))))
    (pss_cons (ps_if (pt_cmpR (op_eqNil hu64) (pv 3) (pe_lst pa_nil) (by rfl)) (pss_one (L2N.ps_raise rfl (L2N.takes_of rfl rfl rfl rfl) (L2N.pmk_oexN T.ox_Fault T.i_Fault T.t_Fault G5 hr5 b5 .nil pass0 (by rfl) T.g_Fault (pa_cons (C8.pe_gc (by rfl) T.c_MISPLACED) (pa_cons (pe_callB call_len_seq (by rfl) T.n_len (by decide +kernel) (pa_cons (pv 0) pa_nil)) pa_nil))))) pss_nil)
    (pss_one (ps_ret (pe_make T.mk_Plan G7 hr7 (by rfl) T.g_Plan b7 .nil pass0 (pa_cons (pv 2) (pa_cons (pv 3) pa_nil)))))))))))), ?_⟩
  obtain ⟨_, h⟩ := h
  obtain ⟨v, row, rfl, hr, hl, qe, q⟩ := h
  refine ⟨_, rfl, rfl, v, row, rfl, hr, hl, fun l vs H1 e1 hL hP nd => ?_⟩
  obtain ⟨x0, xs, eL⟩ := lines_ne 0 row
  have mem0 : ∀ x ∈ x0 :: xs, Wl (wds x) := fun x hx => line_wl (by rw [eL]; exact hx) hl
  have R0 := readPlan_U eL
  rw [eL] at hP
  cases hP with
  | @cons v0 _ vs' _ hv0 hP =>
  obtain ⟨a0, rfl, n0, hl0⟩ := hv0
  have nin := (List.nodup_cons.mp nd).1
  have nd' := (List.nodup_cons.mp nd).2
  -- parts
  obtain ⟨dx1, wl1, i1, ha1⟩ := hl0.ln.objL
  refine ⟨_, rfl, l, _, _, .ref a0, rfl, rfl, SqL.of hL, atI_nat (j := 0) rfl, a0, dx1, _, rfl, ha1, L_Line_take_word, rfl, a0, wds x0, _, Str.ofString "parts", rfl, hl0.ln, by rw [← Array.length_toList, str_txt]; decide, fun f hf d H' s hd => ?_, fun r1 hr1 _ H2 s2 hl2 => ?_⟩
  · exact qe f (by rw [R0, hf]; rfl) d H' (s.new e1 n0) hd
  have e2 : Same H H2 := s2.new e1 n0
  have hL2 : H2 l = _ := s2 _ _ (ne_of hL ha1 (by intro z; cases z)) hL
  have hP := lines_but s2 ha1 hP nin
  have R1 : Vbkdai.readPlan row = U1 row x0 xs r1 := by rw [R0, hr1]; rfl
  have w1 := keyX_wl hr1 (mem0 x0 List.mem_cons_self)
  obtain ⟨dx2, wl2, i2, ha2⟩ := hl2.objL
  refine ⟨_, rfl, l, _, _, .ref a0, rfl, rfl, SqL.of hL2, atI_nat (j := 0) rfl, rfl, a0, r1, _, 12, rfl, hl2, w1, fun f hf d H' s hd => ?_, fun y hy v3 H3 s3 ⟨ev, hl3⟩ => ?_⟩
  · exact qe f (by rw [R1]; unfold U1; rw [hf]; rfl) d H' (s.new e2 n0) hd
  subst ev
  obtain ⟨n, r2⟩ := y
  have e3 : Same H H3 := s3.new e2 n0
  have hL3 : H3 l = _ := s3 _ _ (ne_of hL2 ha2 (by intro z; cases z)) hL2
  have hP := lines_but s3 ha2 hP nin
  have R2 : Vbkdai.readPlan row = U2 row xs n r2 := by rw [R1]; unfold U1; rw [hy]; rfl
  have fnn := numberIn_is hy
  obtain ⟨dx3, wl3, i3, ha3⟩ := hl3.objL
  refine ⟨_, rfl, l, _, _, .ref a0, rfl, rfl, SqL.of hL3, atI_nat (j := 0) rfl, a0, dx3, _, rfl, ha3, L_Line_finish, rfl, a0, r2, _, rfl, hl3, fun f hf d H' s hd => ?_, fun y4 hy4 _ H4 s4 _ => ?_⟩
  · exact qe f (by rw [R2]; unfold U2; rw [hf]; rfl) d H' (s.new e3 n0) hd
  have e4 : Same H H4 := s4.new e3 n0
  have hL4 : H4 l = _ := s4 _ _ (ne_of hL3 ha3 (by intro z; cases z)) hL3
  have hP := lines_but s4 ha3 hP nin
  have R3 : Vbkdai.readPlan row = U3 row xs ⟨n, []⟩ := by rw [R2]; unfold U2; rw [hy4]; rfl
  clear R0 R1 R2
  -- channels
  refine ⟨by show 0 ≤ sizeLine; decide, fun D nD => ?_⟩
  have k5 : Same H4 (upd H4 D (.lst [])) := Same.new nD
  have hD5 : (upd H4 D (.lst [])) D = some (.lst []) := upd_same
  have hP5 : Paired (LineV K H (del (upd H4 D (.lst [])) D)) vs' xs := by
    rw [del_upd]
    refine paired_imp (fun v x z => z.same fun b o hb => ?_) hP
    rw [del_ne (ne_of_none hb nD)]
    exact hb
  have nD0 : H D = none := by
    cases z : H D with
    | none => rfl
    | some o => rw [e4 _ _ z] at nD; cases nD
  generalize upd H4 D (.lst []) = H5 at k5 hD5 hP5
  refine ⟨_, rfl, _, rfl, l, _, rfl, SqL.of (k5 _ _ hL4), fun S nS => ?_⟩
  have k6 : Same H5 (upd H5 S (.lst (cutV (.ref a0 :: vs') (some 1) none))) := Same.new nS
  have hS6 : (upd H5 S (.lst (cutV (.ref a0 :: vs') (some 1) none))) S = some (.lst vs') := by
    rw [upd_same]
    exact congrArg some (congrArg HO.lst (cut_vfrom (.ref a0 :: vs') 1))
  generalize upd H5 S (.lst (cutV (.ref a0 :: vs') (some 1) none)) = H6 at k6 hS6 ⊢
  have hD6 := k6 _ _ hD5
  have DS : S ≠ D := fun z => by rw [z, hD5] at nS; cases nS
  have lvs : vs'.length = xs.length := paired_len hP
  refine ⟨S, rfl, ⟨_, SqL.of hS6⟩, for_list (K := K) (a := S) (xs := vs')
    (fun i σ H' => ∃ (v4 v5 : Option V) (chs : List V) (cs : List Vbkdai.Chan), σ = [some v, some (.ref l), some (.int (n : Int)), some (.ref D), v4, v5] ∧ Same H H' ∧ H' S = some (.lst vs') ∧ H' D = some (.lst chs) ∧ Paired (ChanAt K (del H' D)) chs cs ∧ (∀ c ∈ cs, ChOk c ∧ 0 < c.name.length) ∧ cs.length ≤ 4 ∧
      Paired (LineV K H (del H' D)) (vs'.drop i) (xs.drop i) ∧ Vbkdai.readPlan row = U3 row (xs.drop i) ⟨n, cs⟩)
    ⟨none, none, [], [], rfl, (e4.trans k5).trans k6, hS6, hD6, .nil, (fun c hc => by cases hc), Nat.zero_le _, paired_imp (fun v x z => z.same (Same_del k6)) hP5, R3⟩ (fun i σ H' _ ⟨_, _, _, _, _, _, hS, _⟩ => SqL.of hS) ?_ ?_⟩
  · rintro i x σ H' hx ⟨v4, v5, chs, cs, rfl, e7, hS, hD, hC, hok, h4, hLn, R⟩
    obtain ⟨il, ei⟩ := List.getElem?_eq_some_iff.mp hx
    have il2 : i < xs.length := by omega
    have d1 : vs'.drop i = x :: vs'.drop (i + 1) := by rw [List.drop_eq_getElem_cons il, ei]
    have d2 : xs.drop i = xs[i] :: xs.drop (i + 1) := List.drop_eq_getElem_cons il2
    have wly : Wl (wds xs[i]) := mem0 _ (List.mem_cons_of_mem _ (List.getElem_mem il2))
    have ndd : (x :: vs'.drop (i + 1)).Nodup := by rw [← d1]; exact nd'.sublist (List.drop_sublist _ _)
    rw [d1, d2] at hLn
    rw [d2] at R
    generalize xs[i] = y at hLn R wly
    cases hLn with
    | cons hv hLr =>
    obtain ⟨a, rfl, na, hla⟩ := hv
    have nia := (List.nodup_cons.mp ndd).1
    have lch := paired_len hC
    have hlaH := hla.same same_del
    apply dupH H' (fifth ⟨n, cs⟩ y = true)
    · intro hB hN
      refine ⟨_, rfl, D, _, rfl, .inl (SqL.of hD), rfl, _, rfl, ?_⟩
      refine ite2 (fun c => ?_) (fun c => ?_)
      · have c4 : cs.length = 4 := by rw [← lch]; exact ord_eq (j := 4) c
        obtain ⟨dxa, wla, ia, haa⟩ := hlaH.ln.objL
        refine ⟨_, rfl, a, dxa, _, rfl, haa, L_Line_is_next, rfl, a, wds y, _, Str.ofString "channel", rfl, hlaH.ln, by rw [← Array.length_toList, str_txt]; decide, fun H7 e8 => ⟨_, rfl, ?_⟩⟩
        cases z : isWord (Str.ofString "channel") (wds y) with
        | true => exact iteT (hB (by unfold fifth; rw [z, decide_eq_true c4]; rfl) H7 e8)
        | false => exact iteF (hN (by unfold fifth; rw [z, Bool.and_false]; decide) H7 e8)
      · have c4 : ¬ cs.length = 4 := by rw [← lch]; exact ord_ne (j := 4) c
        exact iteF (hN (by unfold fifth; rw [decide_eq_false c4, Bool.false_and]; decide) H' (Same.refl H'))
    · intro ev H7 e8
      obtain ⟨w0, r0, ew, ep⟩ := planLine_fifth ev
      obtain ⟨dxa, wla, vsa, wsa, haa, hwa, hpa, _, ea⟩ := hlaH.same e8
      have ea2 : wsa = w0 :: r0 := by rw [← ea]; exact ew
      subst ea2
      cases hpa with
      | cons hw0 hpr =>
      obtain ⟨t, u, rfl, ht, hu⟩ := hw0
      refine ⟨_, rfl, a, _, dxa, _, _, rfl, haa, T.cl_Line, T.na_Line_words, L_Line_words, wla, _, _, .ref t, rfl, rfl, SqL.of hwa, atI_nat (j := 0) rfl, t, _, _, _, rfl, rfl, SqT.of ht, at0, ?_⟩
      exact raise_fault (k := 4) (p := w0.1) fun d H'' s hd => qe ⟨4, w0.1⟩ (by rw [R, U3_step, ep]; rfl) d H'' ((e7.trans e8).trans s) hd
    · intro ev H7 e8
      have e9 := e7.trans e8
      have hD7 := e8 _ _ hD
      have ev : fifth ⟨n, cs⟩ y = false := by simpa using ev
      have R2 := R
      rw [U3_step, planLine_some ev h4] at R2
      refine ⟨_, rfl, Or.inl ⟨rfl, _, SqL.of hD7⟩, _, rfl, _, rfl, D, rfl, ⟨_, SqL.of hD7⟩, fun L nL => lc_list (K := K) (a := D) (xs := chs)
        (fun j H'' => Same H7 H'' ∧ ∃ nms, H'' L = some (.lst nms) ∧ Paired (fun v (c : Vbkdai.Chan) => InAt H7 v (nI c.name)) nms (cs.take j)) ⟨Same.new nL, [], upd_same, .nil⟩ (fun j H'' _ ⟨e10, _⟩ => SqL.of (e10 _ _ hD7)) ?_ ?_⟩
      · rintro j x H'' hx ⟨e10, nms, hL, hnm⟩
        obtain ⟨c, hc, cb⟩ := paired_at' hC hx
        obtain ⟨ca, cdx, cnm, cbb, cg, csu, rfl, hca, hcn, _⟩ := cb.same ((Same_del e8).trans same_del)
        have jl := (List.getElem?_eq_some_iff.mp hc).1
        refine ⟨rfl, ?_⟩
        refine ⟨_, rfl, ca, _, cdx, _, _, rfl, e10 _ _ hca, T.cl_Channel, T.na_Channel_name, L_Channel_name, nms, hL, ?_, e10.mut nL, nms ++ [cnm], upd_same, ?_⟩
        · rw [paired_len hnm, List.length_take]
          exact small1000 (by omega)
        · rw [take_succ hc]
          exact paired_app hnm (.cons hcn .nil)
      · rintro H8 ⟨e10, nms, hL8, hnm⟩
        rw [lch, List.take_length] at hnm
        have e11 := e9.trans e10
        have hla8 := (hlaH.same e8).same e10
        obtain ⟨dxa, wla, ia, haa⟩ := hla8.ln.objL
        refine ⟨rfl, a, wds y, _, .ref L, cs, rfl, hla8.ln, wly, ⟨L, nms, rfl, hL8, paired_imp (fun _ _ z => z.same e10) hnm⟩, fun f hf d H'' s hd => ?_, fun c hc vc H9 s9 ⟨hcA, hcOk, hcN⟩ => ?_⟩
        · exact qe f (by rw [R2]; show (Except.map _ (T0 cs _ _)).bind _ = _; rw [hf]; rfl) d H'' (s.new e11 na) hd
        have hD8 := e10 _ _ hD7
        have aD : a ≠ D := ne_of haa hD8 (by intro z; cases z)
        have hD9 : H9 D = some (.lst chs) := s9 _ _ (Ne.symm aD) hD8
        have c3 : cs.length ≠ 4 := fun z => by
          unfold fifth at ev
          rw [T0_word hc, decide_eq_true z] at ev
          cases ev
        have kd : Same (del H' D) (del H8 D) := Same_del (e8.trans e10)
        have hC8 : Paired (ChanAt K (del H8 D)) chs cs := paired_imp (fun _ _ z => z.same kd) hC
        have had : (del H8 D) a = some (.ins (He.ga K "Line") dxa (F_Line (.ref wla) (.int ((y.1 + y.2.length : Nat) : Int)) (.int ((ia : Nat) : Int)))) := by rw [del_ne aD]; exact haa
        refine ⟨D, _, _, rfl, rfl, hD9, by rw [lch]; exact small1000 (by omega), ?_⟩
        refine ⟨some (.ref a), v5, chs ++ [vc], cs ++ [c], rfl, (s9.new e11 na).mut nD0, ?_, upd_same, ?_, ?_, ?_, ?_, ?_⟩
        · rw [upd_ne DS]
          have hS8 := (e8.trans e10) _ _ hS
          exact s9 _ _ (ne_of hS8 haa (by intro z; cases z)) hS8
        · rw [del_upd]
          refine paired_app (paired_imp (fun _ _ z => z.but (del_but s9) had) hC8) (.cons (hcA.off hD9 (chans_refs hC) hcN) .nil)
        · intro c' hc'
          rcases List.mem_append.mp hc' with z | z
          · exact hok _ z
          · rw [List.mem_singleton.mp z]
            exact ⟨hcOk, hcN⟩
        · rw [List.length_append]
          show cs.length + 1 ≤ 4
          omega
        · rw [del_upd]
          exact lines_but (del_but s9) had (paired_imp (fun _ _ z => z.same kd) hLr) nia
        · rw [R2]
          show (Except.map _ (T0 cs _ _)).bind _ = _
          rw [hc]
          rfl
  · rintro σ H' ⟨v4, v5, chs, cs, rfl, e7, hS, hD, hC, hok, h4, hLn, R⟩
    rw [lvs, List.drop_length] at R
    have lch := paired_len hC
    refine ⟨_, rfl, by show 0 ≤ sizeLine; decide, fun f nf => ?_⟩
    have k8 : Same H' (upd H' f (.lst [])) := Same.new nf
    have hf8 : (upd H' f (.lst [])) f = some (.lst []) := upd_same
    generalize upd H' f (.lst []) = H8 at k8 hf8 ⊢
    refine ⟨D, f, chs, rfl, rfl, SqL.of (k8 _ _ hD), SqL.of hf8, _, rfl, ?_⟩
    cases chs with
    | nil =>
      have c0 : cs = [] := List.length_eq_zero_iff.mp (by rw [← lch]; rfl)
      subst c0
      obtain ⟨ra, rfl, hra⟩ := hr
      refine iteT ⟨_, rfl, ra, _, rfl, .inl (SqL.of (k8 _ _ (e7 _ _ hra))), ?_⟩
      rw [nI_len]
      exact raise_fault (k := 1) (p := row.length) fun d H'' s hd => qe ⟨1, row.length⟩ (by rw [R]; rfl) d H'' ((e7.trans k8).trans s) hd
    | cons z0 zs =>
      have c1 : cs ≠ [] := fun z => by rw [z] at lch; cases lch
      refine iteF ⟨_, rfl, _, rfl, ?_⟩
      intro x dx nx nd ne
      refine ⟨rfl, x, dx, _, _, rfl, upd_same, rfl, ?_⟩
      have k := made_same (C := He.ga K "Plan") (fs := []) (fs' := F_Plan (.int (n : Int)) (.ref D)) nx nd ne
      have k9 := k8.trans k
      refine q ⟨n, cs⟩ ?_ _ _ (e7.trans k9) ⟨x, dx, D, _, rfl, upd_same, k9 _ _ hD, paired_imp (fun _ _ z => (z.same same_del).same k9) hC⟩ ⟨fnn.1, fnn.2.1, h4, fun c hc => (hok c hc).1⟩
      rw [R]
      show (if cs = [] then _ else _) = _
      rw [if_neg c1]
end
end Bc


-- end of a part
set_option Elab.async false
set_option linter.all false
set_option maxRecDepth 100000
set_option maxHeartbeats 4000000
set_option exponentiation.threshold 100000
/-! # plans written -/
namespace Bc
open PySem PySem.Spec PyProof.Rows L2
theorem str_app (x y : Str) : (x ++ y).cps.toList = x.cps.toList ++ y.cps.toList := Array.toList_append
theorem str_len (x : Str) : x.length = x.cps.toList.length := (Array.length_toList).symm
theorem dec_str (n : Nat) : (Str.ofString (toString (n : Int))).cps.toList = VbkdCore.decimal n := by
  rw [str_txt]
  have e : toString (n : Int) = String.ofList (Nat.toDigits 10 n) := rfl
  rw [e]
  unfold VbkdCore.txt VbkdCore.decimal
  rw [String.toList_ofList]
theorem dec_len {n : Nat} (h : n ≤ 1000) : (VbkdCore.decimal n).length ≤ 4 := by
  have : ∀ n, n < 1001 → (VbkdCore.decimal n).length ≤ 4 := by decide +kernel
  exact this n (by omega)
theorem qText_one {q : Qd} {k : Nat} (f : Fq k q) (h : q.d = 1) : VbkdCore.qText q = VbkdCore.decimal q.n.toNat := by
  have := f.n0
  unfold VbkdCore.qText VbkdCore.intText
  rw [if_pos h, if_neg (by omega), show q.n.natAbs = q.n.toNat by omega]
theorem qText_two {q : Qd} {k : Nat} (f : Fq k q) (h : ¬ q.d = 1) : VbkdCore.qText q = VbkdCore.decimal q.n.toNat ++ 47 :: VbkdCore.decimal q.d := by
  have := f.n0
  unfold VbkdCore.qText VbkdCore.intText
  rw [if_neg h, if_neg (by omega), show q.n.natAbs = q.n.toNat by omega]
theorem qText_len {q : Qd} (f : Fq 1000 q) : (VbkdCore.qText q).length ≤ 9 := by
  have a := f.n0; have b := f.nd; have c := f.dk
  have l1 := dec_len (show q.n.toNat ≤ 1000 by omega)
  have l2 := dec_len c
  by_cases h : q.d = 1
  · rw [qText_one f h]
    omega
  · rw [qText_two f h, List.length_append, List.length_cons]
    omega
def rngText (a b : Qd) : List Nat := VbkdCore.between 32 (Vbkdai.rangeWords a b)
theorem rng_one (a : Qd) : rngText a a = VbkdCore.qText a := by
  unfold rngText Vbkdai.rangeWords
  rw [if_pos rfl]
  rfl
theorem rng_two {a b : Qd} (h : ¬ a = b) : rngText a b = VbkdCore.qText a ++ VbkdCore.txt " to " ++ VbkdCore.qText b := by
  unfold rngText Vbkdai.rangeWords
  rw [if_neg h]
  show VbkdCore.qText a ++ 32 :: (VbkdCore.txt "to" ++ 32 :: VbkdCore.qText b) = _
  rw [List.append_assoc]
  rfl
theorem rng_len {a b : Qd} (fa : Fq 1000 a) (fb : Fq 1000 b) : (rngText a b).length ≤ 22 := by
  have l1 := qText_len fa
  have l2 := qText_len fb
  by_cases h : a = b
  · subst h
    rw [rng_one]
    omega
  · rw [rng_two h, List.length_append, List.length_append]
    have : (VbkdCore.txt " to ").length = 4 := by decide
    omega
theorem between_cons {c : Nat} {w : List Nat} {r : List (List Nat)} (h : r ≠ []) : VbkdCore.between c (w :: r) = w ++ (c :: VbkdCore.between c r) := by
  cases r with
  | nil => exact absurd rfl h
  | cons a b => rfl
theorem between_app {c : Nat} : ∀ {l m : List (List Nat)}, l ≠ [] → m ≠ [] → VbkdCore.between c (l ++ m) = VbkdCore.between c l ++ c :: VbkdCore.between c m
  | [], m, h, _ => absurd rfl h
  | [w], m, _, hm => between_cons hm
  | w :: a :: b, m, _, hm => by
    have ih := between_app (c := c) (l := a :: b) (m := m) (by simp) hm
    rw [List.cons_append, between_cons (r := (a :: b) ++ m) (by simp), ih, between_cons (w := w) (r := a :: b) (by simp)]
    simp
theorem rw_ne (a b : Qd) : Vbkdai.rangeWords a b ≠ [] := by
  unfold Vbkdai.rangeWords
  split <;> simp
theorem chanText_is (c : Vbkdai.Chan) : Vbkdai.chanText c = VbkdCore.txt "channel " ++ c.name ++ (VbkdCore.txt " trials " ++ VbkdCore.decimal c.trials ++ VbkdCore.txt " base " ++ rngText c.base1 c.base2 ++ VbkdCore.txt " gain " ++ rngText c.gain1 c.gain2 ++ VbkdCore.txt " sure " ++ VbkdCore.qText c.sure ++ VbkdCore.txt " order " ++ Vbkdai.ORDERS.getD c.order []) := by
  unfold Vbkdai.chanText
  rw [between_app (by simp) (by simp), between_app (rw_ne _ _) (by simp), between_cons (w := VbkdCore.txt "gain") (by simp), between_app (rw_ne _ _) (by simp)]
  show VbkdCore.txt "channel" ++ 32 :: (c.name ++ 32 :: (VbkdCore.txt "trials" ++ 32 :: (VbkdCore.decimal c.trials ++ 32 :: VbkdCore.txt "base"))) ++ 32 :: (rngText c.base1 c.base2 ++ 32 :: (VbkdCore.txt "gain" ++ 32 :: (rngText c.gain1 c.gain2 ++ 32 :: (VbkdCore.txt "sure" ++ 32 :: (VbkdCore.qText c.sure ++ 32 :: (VbkdCore.txt "order" ++ 32 :: Vbkdai.ORDERS.getD c.order [])))))) = _
  have t1 : VbkdCore.txt "channel " = VbkdCore.txt "channel" ++ [32] := by decide
  have t2 : VbkdCore.txt " trials " = 32 :: (VbkdCore.txt "trials" ++ [32]) := by decide
  have t3 : VbkdCore.txt " base " = 32 :: (VbkdCore.txt "base" ++ [32]) := by decide
  have t4 : VbkdCore.txt " gain " = 32 :: (VbkdCore.txt "gain" ++ [32]) := by decide
  have t5 : VbkdCore.txt " sure " = 32 :: (VbkdCore.txt "sure" ++ [32]) := by decide
  have t6 : VbkdCore.txt " order " = 32 :: (VbkdCore.txt "order" ++ [32]) := by decide
  rw [t1, t2, t3, t4, t5, t6]
  simp only [List.append_assoc, List.cons_append, List.nil_append]
theorem ordT_len (o : Nat) : (Vbkdai.ORDERS.getD o []).length ≤ 7 := by
  by_cases h : o < 5
  · have : ∀ o, o < 5 → (Vbkdai.ORDERS.getD o []).length ≤ 7 := by decide
    exact this o h
  · rw [List.getD_eq_getElem?_getD, List.getElem?_eq_none (by show 5 ≤ o; omega)]
    exact Nat.zero_le _
theorem chanText_len {c : Vbkdai.Chan} (h : ChOk c) : (Vbkdai.chanText c).length ≤ 200 := by
  rw [chanText_is]
  have l1 := h.nm
  have l2 := dec_len (show c.trials ≤ 1000 by have := h.t40; omega)
  have l3 := rng_len h.b1 h.b2
  have l4 := rng_len h.g1 h.g2
  have l5 := qText_len h.su
  have l6 := ordT_len c.order
  have a1 : (VbkdCore.txt "channel ").length = 8 := by decide
  have a2 : (VbkdCore.txt " trials ").length = 8 := by decide
  have a3 : (VbkdCore.txt " base ").length = 6 := by decide
  have a4 : (VbkdCore.txt " gain ").length = 6 := by decide
  have a5 : (VbkdCore.txt " sure ").length = 6 := by decide
  have a6 : (VbkdCore.txt " order ").length = 7 := by decide
  simp only [List.length_append]
  omega
def ptx (g : Nat) (l : List (List Nat)) : List Nat := (VbkdCore.txt "parts " ++ VbkdCore.decimal g) ++ l.flatMap fun x => 10 :: x
theorem between_ten (w : List Nat) : ∀ l : List (List Nat), VbkdCore.between 10 (w :: l) = w ++ l.flatMap fun x => 10 :: x
  | [] => by simp [VbkdCore.between]
  | x :: r => by
    rw [between_cons (by simp), between_ten x r, List.flatMap_cons]
    simp
theorem planText_is (p : Vbkdai.Plan) : Vbkdai.planText p = ptx p.parts (p.chans.map Vbkdai.chanText) := by
  unfold Vbkdai.planText ptx
  rw [between_ten]
  have t1 : VbkdCore.txt "parts " = VbkdCore.txt "parts" ++ [32] := by decide
  rw [t1]
  simp only [List.append_assoc, List.cons_append, List.nil_append]
theorem ptx_len {g : Nat} (hg : g ≤ 1000) : ∀ {l : List (List Nat)}, (∀ x ∈ l, x.length ≤ 200) → (ptx g l).length ≤ 10 + 201 * l.length
  | [], _ => by
    have := dec_len hg
    have a1 : (VbkdCore.txt "parts ").length = 6 := by decide
    unfold ptx
    simp only [List.flatMap_nil, List.append_nil, List.length_append, List.length_nil]
    omega
  | x :: r, h => by
    have ih := ptx_len hg fun y hy => h y (List.mem_cons_of_mem _ hy)
    have hx := h x List.mem_cons_self
    unfold ptx at ih ⊢
    simp only [List.flatMap_cons, List.length_append, List.length_cons] at ih ⊢
    omega
theorem planText_len {p : Vbkdai.Plan} (h : PlOk p) : (Vbkdai.planText p).length ≤ 1000 := by
  rw [planText_is]
  have g := h.g12
  have := ptx_len (g := p.parts) (by omega) (l := p.chans.map Vbkdai.chanText) fun x hx => by
    obtain ⟨c, hc, rfl⟩ := List.mem_map.mp hx
    exact chanText_len (h.ch c hc)
  have c4 := h.c4
  rw [List.length_map] at this
  omega
def sp_fraction_text (K : PySem.W.Frag) : Sp := mkSp 1 fun vs H Q _ => ∃ (v : V) (q : Qd), vs = [v] ∧ FrAt K H v q ∧ Fq 1000 q ∧ ∀ x : Str, x.cps.toList = VbkdCore.qText q → Q (.str x) H
def sp_range_text (K : PySem.W.Frag) : Sp := mkSp 1 fun vs H Q _ => ∃ (v : V) (a b : Qd), vs = [v] ∧ Fr2At K H v a b ∧ Fq 1000 a ∧ Fq 1000 b ∧ ∀ x : Str, x.cps.toList = rngText a b → Q (.str x) H
def sp_channel_bytes (K : PySem.W.Frag) : Sp := mkSp 1 fun vs H Q _ => ∃ (v : V) (c : Vbkdai.Chan), vs = [v] ∧ ChanAt K H v c ∧ ChOk c ∧ Ret H Q fun v H' => InAt H' v (nI (Vbkdai.chanText c))
def sp_plan_bytes (K : PySem.W.Frag) : Sp := mkSp 1 fun vs H Q _ => ∃ (v : V) (p : Vbkdai.Plan), vs = [v] ∧ PlanAt K H v p ∧ PlOk p ∧ Ret H Q fun v H' => InAt H' v (nI (Vbkdai.planText p))
theorem log_small {i : Int} (h : i.natAbs < 2 ^ 1000) : i.natAbs.log2 < 1920 := by
  by_cases z : i.natAbs = 0
  · rw [z]
    decide
  · have := (Nat.log2_lt z).mpr h
    omega
theorem small_nat {n : Nat} (h : n ≤ 1000) : ((n : Int)).natAbs < 2 ^ 1000 := by
  rw [Int.natAbs_natCast]
  exact Nat.lt_of_lt_of_le (show n < 2 ^ 10 by omega) (Nat.pow_le_pow_right (by decide) (by decide))
theorem fr_dp {K : PySem.W.Frag} {H : Hp} {v : V} {q : Qd} (h : FrAt K H v q) : Dp K H v (.tuple [.int q.n, .int (q.d : Int)]) := by
  obtain ⟨a, rfl, h⟩ := h
  exact .tup h (.cons (.int _) (.cons (.int _) .nil))
theorem fr_eqv (a b : Qd) : PyData.eqv (.tuple [.int a.n, .int (a.d : Int)]) (.tuple [.int b.n, .int (b.d : Int)]) = decide (a = b) := by
  have e : PyData.eqv (.tuple [.int a.n, .int (a.d : Int)]) (.tuple [.int b.n, .int (b.d : Int)]) = (a.n == b.n && ((a.d : Int) == (b.d : Int) && true)) := by
    rw [PyData.eqv, PyData.eqvAll, PyData.eqvAll, PyData.eqvAll, PyData.eqv, PyData.eqv]
  rw [e]
  obtain ⟨an, ad⟩ := a
  obtain ⟨bn, bd⟩ := b
  by_cases h : an = bn
  · by_cases h2 : ad = bd
    · subst h h2
      simp
    · have : ¬ (ad : Int) = (bd : Int) := by omega
      simp [h, h2, this]
  · simp [h]
theorem fr_shaped (i j : Int) : SeqAt.shaped (.tuple [.int i, .int j]) = true := by
  unfold SeqAt.shaped
  rw [PyData.canLay0, PyData.canLayAll0, PyData.canLayAll0, PyData.canLayAll0, PyData.canLay0, PyData.canLay0, PyData.depth, PyData.depthAll, PyData.depthAll, PyData.depthAll, PyData.depth, PyData.depth]
  rfl
theorem int_str {i : Int} (h : 0 ≤ i) : (Str.ofString (toString i)).cps.toList = VbkdCore.decimal i.toNat := by
  obtain ⟨n, rfl⟩ : ∃ n : Nat, i = (n : Int) := ⟨i.toNat, by omega⟩
  rw [dec_str, Int.toNat_natCast]
theorem int_log {i : Int} (h : 0 ≤ i) (l : i ≤ 1000) : i.natAbs.log2 < 1920 := by
  obtain ⟨n, rfl⟩ : ∃ n : Nat, i = (n : Int) := ⟨i.toNat, by omega⟩
  exact log_small (small_nat (by omega))
theorem cat_size {x y : Str} {l m : List Nat} (hx : x.cps.toList = l) (hy : y.cps.toList = m) (h : l.length + m.length ≤ 1000) : x.length + y.length ≤ sizeLine := by
  rw [str_len, str_len, hx, hy]
  exact Nat.le_of_lt (small1000 h)
theorem cat_is {x y : Str} {l m : List Nat} (hx : x.cps.toList = l) (hy : y.cps.toList = m) : (x ++ y).cps.toList = l ++ m := by rw [str_app, hx, hy]
section
variable {P : Program} {w : World} {K : PySem.W.Frag} {mg : Str → Option Value} {base : Heap}
theorem sc_fraction_text : FnScope N_fraction_text ["one"] (defScope s_fraction_text) := ⟨rfl, rfl, rfl, by decide +kernel, rfl, by decide +kernel, by decide +kernel⟩
theorem ok_fraction_text (T : TX K mg) : FOk P w K mg base CX0 1 (He.ga K "fraction_text") ["one"] (sp_fraction_text K) := by
  obtain ⟨fd, F⟩ := T.f_fraction_text
  refine ⟨fd, F.ok sc_fraction_text (fun _ _ _ _ h => h.1) (fun cdv A outer s H vs Q E hr h => ?_), F.binds fun _ _ _ _ _ _ us hl => match us, hl with | [_], _ => rfl⟩
  refine ⟨_, PSs.nox (pss_cons (ps_if (pt_cmpR op_eq (pe_ix ix_tup (pv 0) pe_int (fun _ _ => rfl)) pe_int (by rfl)) (pss_one (ps_ret (pe_callTy call_str_int (by rfl) T.n_str (by decide +kernel) (pa_cons (pe_ix ix_tup (pv 0) pe_int (fun _ _ => rfl)) pa_nil)))) pss_nil)
    (pss_one (ps_ret (pe_op op_add_str (pe_op op_add_str (pe_callTy call_str_int (by rfl) T.n_str (by decide +kernel) (pa_cons (pe_ix ix_tup (pv 0) pe_int (fun _ _ => rfl)) pa_nil)) pe_str) (pe_callTy call_str_int (by rfl) T.n_str (by decide +kernel) (pa_cons (pe_ix ix_tup (pv 0) pe_int (fun _ _ => rfl)) pa_nil)))))), ?_⟩
  obtain ⟨_, h⟩ := h
  obtain ⟨v, x, rfl, ⟨fa, rfl, hf⟩, fx, q⟩ := h
  have a := fx.n0; have b := fx.nd; have c := fx.dk
  have l1 := dec_len (show x.n.toNat ≤ 1000 by omega)
  have l2 := dec_len c
  have h1 := int_str a
  have h2 := dec_str x.d
  have h3 := str_txt "/"
  have l3 : (VbkdCore.txt "/").length = 1 := by decide
  refine ⟨_, rfl, fa, _, _, _, rfl, rfl, hf, at1, rfl, _, rfl, ?_⟩
  refine ite2 (fun z => ?_) (fun z => ?_)
  · have d1 : x.d = 1 := ord_eq (j := 1) z
    refine ⟨_, rfl, fa, _, _, _, rfl, rfl, hf, at0, _, rfl, int_log a (by omega), q _ ?_⟩
    rw [qText_one fx d1]
    exact h1
  · have d1 : ¬ x.d = 1 := ord_ne (j := 1) z
    refine ⟨_, rfl, fa, _, _, _, rfl, rfl, hf, at0, _, rfl, int_log a (by omega), _, _, rfl, rfl, cat_size h1 h3 (by omega), _, rfl, fa, _, _, _, rfl, rfl, hf, at1, _, rfl, int_log (by omega) (by omega), _, _, rfl, rfl, cat_size (cat_is h1 h3) h2 ?_, q _ ?_⟩
    · rw [List.length_append]
      omega
    · rw [qText_two fx d1]
      refine (cat_is (cat_is h1 h3) h2).trans ?_
      rw [List.append_assoc]
      rfl
theorem sc_range_text : FnScope N_range_text ["two"] (defScope s_range_text) := ⟨rfl, rfl, rfl, by decide +kernel, rfl, by decide +kernel, by decide +kernel⟩
theorem ok_range_text (T : TX K mg) : FOk P w K mg base CX0 2 (He.ga K "range_text") ["two"] (sp_range_text K) := by
  obtain ⟨fd, F⟩ := T.f_range_text
  obtain ⟨fd0, G0, b0⟩ := ok_fraction_text (P := P) (w := w) (base := base) T
  refine ⟨fd, F.ok sc_range_text (fun _ _ _ _ h => h.1) (fun cdv A outer s H vs Q E hr h => ?_), F.binds fun _ _ _ _ _ _ us hl => match us, hl with | [_], _ => rfl⟩
  have hr0 := hr.mono (by decide : 1 ≤ 1)
  have hu64 := hr.units
  refine ⟨_, PSs.nox (pss_cons (ps_if (pt_cmpR (op_eqD hu64) (pe_ix ix_tup (pv 0) pe_int (fun _ _ => rfl)) (pe_ix ix_tup (pv 0) pe_int (fun _ _ => rfl)) (by rfl)) (pss_one (ps_ret (pe_call G0 hr0 (by rfl) T.g_fraction_text T.k_fraction_text b0 .nil pass0 (pa_cons (pe_ix ix_tup (pv 0) pe_int (fun _ _ => rfl)) pa_nil)))) pss_nil)
    (pss_one (ps_ret (pe_op op_add_str (pe_op op_add_str (pe_call G0 hr0 (by rfl) T.g_fraction_text T.k_fraction_text b0 .nil pass0 (pa_cons (pe_ix ix_tup (pv 0) pe_int (fun _ _ => rfl)) pa_nil)) pe_str) (pe_call G0 hr0 (by rfl) T.g_fraction_text T.k_fraction_text b0 .nil pass0 (pa_cons (pe_ix ix_tup (pv 0) pe_int (fun _ _ => rfl)) pa_nil)))))), ?_⟩
  obtain ⟨_, h⟩ := h
  obtain ⟨v, x, y, rfl, ⟨a, u1, u2, rfl, ha, h1, h2⟩, fx, fy, q⟩ := h
  have l1 := qText_len fx
  have l2 := qText_len fy
  have l3 : (VbkdCore.txt " to ").length = 4 := by decide
  have h3 := str_txt " to "
  refine ⟨_, rfl, a, _, _, u1, rfl, rfl, ha, at0, _, rfl, a, _, _, u2, rfl, rfl, ha, at1, _, _, fr_dp h1, fr_dp h2, fr_shaped _ _, fr_shaped _ _, _, rfl, ?_⟩
  rw [fr_eqv]
  refine ite2 (fun z => ?_) (fun z => ?_)
  · have z := of_decide_eq_true z
    refine ⟨_, rfl, a, _, _, u1, rfl, rfl, ha, at0, rfl, u1, x, rfl, h1, fx, fun s hs => q _ ?_⟩
    rw [hs, ← z, rng_one]
  · have z : ¬ x = y := fun e => z (decide_eq_true e)
    refine ⟨_, rfl, a, _, _, u1, rfl, rfl, ha, at0, rfl, u1, x, rfl, h1, fx, fun s1 hs1 => ⟨_, _, rfl, rfl, cat_size hs1 h3 (by omega), _, rfl, a, _, _, u2, rfl, rfl, ha, at1, rfl, u2, y, rfl, h2, fy, fun s2 hs2 => ⟨_, _, rfl, rfl, cat_size (cat_is hs1 h3) hs2 ?_, q _ ?_⟩⟩⟩
    · rw [List.length_append]
      omega
    · rw [rng_two z]
      exact cat_is (cat_is hs1 h3) hs2
theorem sc_channel_bytes : FnScope N_channel_bytes ["channel"] (defScope s_channel_bytes) := ⟨rfl, rfl, rfl, by decide +kernel, rfl, by decide +kernel, by decide +kernel⟩
theorem ok_channel_bytes (T : TX K mg) : FOk P w K mg base CX0 3 (He.ga K "channel_bytes") ["channel"] (sp_channel_bytes K) := by
  obtain ⟨fd, F⟩ := T.f_channel_bytes
  obtain ⟨fd0, G0, b0⟩ := ok_range_text (P := P) (w := w) (base := base) T
  obtain ⟨fd1, G1, b1⟩ := ok_fraction_text (P := P) (w := w) (base := base) T
  obtain ⟨fd2, G2, b2⟩ := ok_bytes_of (P := P) (w := w) (base := base) T
  refine ⟨fd, F.ok sc_channel_bytes (fun _ _ _ _ h => h.1) (fun cdv A outer s H vs Q E hr h => ?_), F.binds fun _ _ _ _ _ _ us hl => match us, hl with | [_], _ => rfl⟩
  have hr0 := hr.mono (by decide : 2 ≤ 2)
  have hr1 := hr.mono (by decide : 1 ≤ 2)
  have hr2 := hr.mono (by decide : 1 ≤ 2)
  refine ⟨_, PSs.nox (pss_cons (ps_set (i := 1) sc_channel_bytes.nd rfl (.inl rfl) (pe_op op_add_str (pe_op op_add_str (pe_op op_add_str (pe_op op_add_str pe_str (pe_callTy call_str_int (by rfl) T.n_str (by decide +kernel) (pa_cons (pe_fld (pv 0) rfl) pa_nil))) pe_str) (pe_call G0 hr0 (by rfl) T.g_range_text T.k_range_text b0 .nil pass0 (pa_cons (pe_fld (pv 0) rfl) pa_nil))) pe_str))
    (pss_cons (ps_set (i := 1) sc_channel_bytes.nd rfl (.inl rfl) (pe_op op_add_str (pe_op op_add_str (pe_op op_add_str (pe_op op_add_str (pv 1) (pe_call G0 hr0 (by rfl) T.g_range_text T.k_range_text b0 .nil pass0 (pa_cons (pe_fld (pv 0) rfl) pa_nil))) pe_str) (pe_call G1 hr1 (by rfl) T.g_fraction_text T.k_fraction_text b1 .nil pass0 (pa_cons (pe_fld (pv 0) rfl) pa_nil))) pe_str))
    (pss_one (ps_ret (pe_op op_cat (pe_op op_cat (pe_call G2 hr2 (by rfl) T.g_bytes_of T.k_bytes_of b2 .nil pass0 (pa_cons pe_str pa_nil)) (pe_fld (pv 0) rfl)) (pe_call G2 hr2 (by rfl) T.g_bytes_of T.k_bytes_of b2 .nil pass0 (pa_cons (pe_op op_add_str (pv 1) (pe_ix ix_tup (C8.pe_gc (by rfl) T.c_ORDERS) (pe_fld (pv 0) rfl) (fun _ _ => rfl))) pa_nil))))))), ?_⟩
  obtain ⟨_, h⟩ := h
  obtain ⟨v, c, rfl, ⟨a, dx, nm, b, g, s, rfl, ha, ⟨na, rfl, hna⟩, hb, hg, hs⟩, ok, q⟩ := h
  have o4 := ok.o4
  have t40 := ok.t40
  have l1 := ok.nm
  have l2 := dec_len (show c.trials ≤ 1000 by omega)
  have l3 := rng_len ok.b1 ok.b2
  have l4 := rng_len ok.g1 ok.g2
  have l5 := qText_len ok.su
  have l6 := ordT_len c.order
  have a1 : (VbkdCore.txt "channel ").length = 8 := by decide
  have a2 : (VbkdCore.txt " trials ").length = 8 := by decide
  have a3 : (VbkdCore.txt " base ").length = 6 := by decide
  have a4 : (VbkdCore.txt " gain ").length = 6 := by decide
  have a5 : (VbkdCore.txt " sure ").length = 6 := by decide
  have a6 : (VbkdCore.txt " order ").length = 7 := by decide
  have ht := dec_str c.trials
  have i1 := cat_is (str_txt " trials ") ht
  have i2 := cat_is i1 (str_txt " base ")
  refine ⟨_, rfl, a, _, dx, _, _, rfl, ha, T.cl_Channel, T.na_Channel_trials, L_Channel_trials, _, rfl, int_log (by omega) (by omega), _, _, rfl, rfl, cat_size (str_txt " trials ") ht (by omega), _, _, rfl, rfl, cat_size i1 (str_txt " base ") (by rw [List.length_append]; omega), ?_⟩
  refine ⟨_, rfl, a, _, dx, _, _, rfl, ha, T.cl_Channel, T.na_Channel_base, L_Channel_base, rfl, b, c.base1, c.base2, rfl, hb, ok.b1, ok.b2, fun s1 hs1 => ?_⟩
  have i3 := cat_is i2 hs1
  have i4 := cat_is i3 (str_txt " gain ")
  refine ⟨_, _, rfl, rfl, cat_size i2 hs1 (by simp only [List.length_append]; omega), _, _, rfl, rfl, cat_size i3 (str_txt " gain ") (by simp only [List.length_append]; omega), ?_⟩
  refine ⟨_, rfl, _, rfl, a, _, dx, _, _, rfl, ha, T.cl_Channel, T.na_Channel_gain, L_Channel_gain, rfl, g, c.gain1, c.gain2, rfl, hg, ok.g1, ok.g2, fun s2 hs2 => ?_⟩
  have i5 := cat_is i4 hs2
  have i6 := cat_is i5 (str_txt " sure ")
  refine ⟨_, _, rfl, rfl, cat_size i4 hs2 (by simp only [List.length_append]; omega), _, _, rfl, rfl, cat_size i5 (str_txt " sure ") (by simp only [List.length_append]; omega), ?_⟩
  refine ⟨_, rfl, a, _, dx, _, _, rfl, ha, T.cl_Channel, T.na_Channel_sure, L_Channel_sure, rfl, s, c.sure, rfl, hs, ok.su, fun s3 hs3 => ?_⟩
  have i7 := cat_is i6 hs3
  have i8 := cat_is i7 (str_txt " order ")
  refine ⟨_, _, rfl, rfl, cat_size i6 hs3 (by simp only [List.length_append]; omega), _, _, rfl, rfl, cat_size i7 (str_txt " order ") (by simp only [List.length_append]; omega), ?_⟩
  -- the bytes
  refine ⟨rfl, Str.ofString "channel ", rfl, by rw [← Array.length_toList, str_txt]; decide, fun v1 H1 e1 ⟨p1, ev1, hp1⟩ => ?_⟩
  subst ev1
  rw [str_txt] at hp1
  refine ⟨_, rfl, a, _, dx, _, _, rfl, e1 _ _ ha, T.cl_Channel, T.na_Channel_name, L_Channel_name, p1, na, _, _, rfl, rfl, hp1, e1 _ _ hna, ?_, fun p2 n2 => ?_⟩
  · rw [nI_len, nI_len]
    exact Nat.le_of_lt (small1000 (by omega))
  have e2 : Same H1 (upd H1 p2 (.lst ((nI (VbkdCore.txt "channel ")).map V.int ++ (nI c.name).map V.int))) := Same.new n2
  have hp2 : (upd H1 p2 (.lst ((nI (VbkdCore.txt "channel ")).map V.int ++ (nI c.name).map V.int))) p2 = some (.lst ((nI (VbkdCore.txt "channel ")).map V.int ++ (nI c.name).map V.int)) := upd_same
  generalize upd H1 p2 (.lst ((nI (VbkdCore.txt "channel ")).map V.int ++ (nI c.name).map V.int)) = H2 at e2 hp2 ⊢
  have e12 := e1.trans e2
  obtain ⟨so, hso⟩ : ∃ so, orders[c.order]? = some so := ⟨orders[c.order]'(by show c.order < 5; omega), List.getElem?_eq_getElem _⟩
  have eo : Vbkdai.ORDERS.getD c.order [] = VbkdCore.txt so := by rw [List.getD_eq_getElem?_getD, order_at hso]; rfl
  rw [eo] at l6
  have i9 := cat_is i8 (str_txt so)
  refine ⟨_, rfl, _, rfl, a, _, dx, _, _, rfl, e12 _ _ ha, T.cl_Channel, T.na_Channel_order, L_Channel_order, He.ga K "ORDERS", _, _, .str (Str.ofString so), rfl, rfl, T.t_ORDERS H2, atI_nat ?_, _, _, rfl, rfl, cat_size i8 (str_txt so) (by simp only [List.length_append]; omega), ?_⟩
  · show ((orders.map Str.ofString).map V.str)[c.order]? = _
    rw [List.map_map, List.getElem?_map, hso]
    rfl
  refine ⟨rfl, _, rfl, ?_, fun v3 H3 e3 ⟨p3, ev3, hp3⟩ => ?_⟩
  · rw [← Array.length_toList, i9]
    simp only [List.length_append]
    omega
  subst ev3
  rw [i9] at hp3
  refine ⟨p2, p3, _, _, rfl, rfl, e3 _ _ hp2, hp3, ?_, fun p4 n4 => q _ _ ((e12.trans e3).trans (Same.new n4)) ⟨p4, rfl, ?_⟩⟩
  · rw [List.length_append, nI_len, nI_len, nI_len]
    simp only [List.length_append]
    exact Nat.le_of_lt (small1000 (by omega))
  · rw [upd_same, chanText_is, eo]
    unfold nI
    simp only [List.map_append, List.append_assoc]
theorem nI_app (a b : List Nat) : (nI a).map V.int ++ (nI b).map V.int = (nI (a ++ b)).map V.int := by
  unfold nI
  rw [List.map_append, List.map_append]
theorem sc_plan_bytes : FnScope N_plan_bytes ["plan"] (defScope s_plan_bytes) := ⟨rfl, rfl, rfl, by decide +kernel, rfl, by decide +kernel, by decide +kernel⟩
theorem ok_plan_bytes (T : TX K mg) : FOk P w K mg base CX0 4 (He.ga K "plan_bytes") ["plan"] (sp_plan_bytes K) := by
  obtain ⟨fd, F⟩ := T.f_plan_bytes
  obtain ⟨fd0, G0, b0⟩ := ok_bytes_of (P := P) (w := w) (base := base) T
  obtain ⟨fd1, G1, b1⟩ := ok_channel_bytes (P := P) (w := w) (base := base) T
  refine ⟨fd, F.ok sc_plan_bytes (fun _ _ _ _ h => h.1) (fun cdv A outer s H vs Q E hr h => ?_), F.binds fun _ _ _ _ _ _ us hl => match us, hl with | [_], _ => rfl⟩
  have hr0 := hr.mono (by decide : 1 ≤ 3)
  have hr1 := hr.mono (by decide : 3 ≤ 3)
  refine ⟨_, PSs.nox (pss_cons (ps_set (i := 1) sc_plan_bytes.nd rfl (.inl rfl) (pe_call G0 hr0 (by rfl) T.g_bytes_of T.k_bytes_of b0 .nil pass0 (pa_cons (pe_op op_add_str pe_str (pe_callTy call_str_int (by rfl) T.n_str (by decide +kernel) (pa_cons (pe_fld (pv 0) rfl) pa_nil))) pa_nil)))
    (pss_cons (ps_for PassesOwn.never rfl (pi_list (pe_fld (pv 0) rfl)) (pg_name (i := 2) sc_plan_bytes.nd rfl (.inl rfl)) (pss_one (ps_set (i := 1) sc_plan_bytes.nd rfl (.inl rfl) (pe_op op_cat (pe_op op_cat (pv 1) (pe_call G0 hr0 (by rfl) T.g_bytes_of T.k_bytes_of b0 .nil pass0 (pa_cons pe_str pa_nil))) (pe_call G1 hr1 (by rfl) T.g_channel_bytes T.k_channel_bytes b1 .nil pass0 (pa_cons (pv 2) pa_nil))))))
    (pss_one (ps_ret (pv 1))))), ?_⟩
  obtain ⟨_, h⟩ := h
  obtain ⟨v, p, rfl, ⟨a, dx, l, vs, rfl, ha, hl, hv⟩, ok, q⟩ := h
  have g12 := ok.g12
  have c4 := ok.c4
  have lv := paired_len hv
  have i1 := cat_is (str_txt "parts ") (dec_str p.parts)
  have l1 := dec_len (show p.parts ≤ 1000 by omega)
  have a1 : (VbkdCore.txt "parts ").length = 6 := by decide
  have tl : ∀ x ∈ p.chans.map Vbkdai.chanText, x.length ≤ 200 := fun x hx => by
    obtain ⟨c, hc, rfl⟩ := List.mem_map.mp hx
    exact chanText_len (ok.ch c hc)
  refine ⟨_, rfl, a, _, dx, _, _, rfl, ha, T.cl_Plan, T.na_Plan_parts, L_Plan_parts, _, rfl, int_log (by omega) (by omega), _, _, rfl, rfl, cat_size (str_txt "parts ") (dec_str p.parts) (by omega), ?_⟩
  refine ⟨rfl, _, rfl, ?_, fun v1 H1 e1 ⟨p1, ev1, hp1⟩ => ?_⟩
  · rw [← Array.length_toList, i1, List.length_append]
    omega
  subst ev1
  rw [i1] at hp1
  refine ⟨_, rfl, a, _, dx, _, _, rfl, e1 _ _ ha, T.cl_Plan, T.na_Plan_channels, L_Plan_channels, l, rfl, ⟨_, SqL.of (e1 _ _ hl)⟩, for_list (K := K) (a := l) (xs := vs)
    (fun i σ H' => ∃ (f : Addr) (v2 : Option V), σ = [some (.ref a), some (.ref f), v2] ∧ Same H H' ∧ H' f = some (.lst ((nI (ptx p.parts ((p.chans.take i).map Vbkdai.chanText))).map V.int)))
    ⟨p1, none, rfl, e1, ?_⟩ (fun i σ H' _ ⟨_, _, _, e, _⟩ => SqL.of (e _ _ hl)) ?_ ?_⟩
  · rw [hp1]
    unfold ptx
    simp
  · rintro i x σ H' hx ⟨f, v2, rfl, e, hf⟩
    obtain ⟨c, hc, cb⟩ := paired_at' hv hx
    have il := (List.getElem?_eq_some_iff.mp hc).1
    have okc := ok.ch c (List.mem_of_getElem? hc)
    have lc := chanText_len okc
    have lp := ptx_len (g := p.parts) (by omega) (l := (p.chans.take i).map Vbkdai.chanText) fun x hx => tl x (by
      obtain ⟨c, hc, rfl⟩ := List.mem_map.mp hx
      exact List.mem_map.mpr ⟨c, List.mem_of_mem_take hc, rfl⟩)
    rw [List.length_map, List.length_take] at lp
    refine ⟨_, rfl, rfl, Str.ofString "\n", rfl, by rw [← Array.length_toList, str_txt]; decide, fun v3 H3 e3 ⟨p3, ev3, hp3⟩ => ?_⟩
    subst ev3
    rw [str_txt] at hp3
    have a2 : (VbkdCore.txt "\n") = [10] := by decide
    rw [a2] at hp3
    refine ⟨f, p3, _, _, rfl, rfl, e3 _ _ hf, hp3, ?_, fun p4 n4 => ?_⟩
    · rw [nI_len, nI_len]
      exact Nat.le_of_lt (small1000 (show _ + 1 ≤ 1000 by omega))
    have e4 : Same H3 (upd H3 p4 (.lst ((nI (ptx p.parts ((p.chans.take i).map Vbkdai.chanText))).map V.int ++ (nI [10]).map V.int))) := Same.new n4
    have hp4 : (upd H3 p4 (.lst ((nI (ptx p.parts ((p.chans.take i).map Vbkdai.chanText))).map V.int ++ (nI [10]).map V.int))) p4 = some (.lst ((nI (ptx p.parts ((p.chans.take i).map Vbkdai.chanText) ++ [10])).map V.int)) := by rw [upd_same, nI_app]
    generalize upd H3 p4 (.lst ((nI (ptx p.parts ((p.chans.take i).map Vbkdai.chanText))).map V.int ++ (nI [10]).map V.int)) = H4 at e4 hp4 ⊢
    have e5 := (e.trans e3).trans e4
    refine ⟨_, rfl, rfl, x, c, rfl, cb.same e5, okc, fun v6 H6 e6 ⟨p6, ev6, hp6⟩ => ?_⟩
    subst ev6
    refine ⟨p4, p6, _, _, rfl, rfl, e6 _ _ hp4, hp6, ?_, fun p7 n7 => ?_⟩
    · rw [nI_len, nI_len, List.length_append]
      exact Nat.le_of_lt (small1000 (show _ + 1 + _ ≤ 1000 by omega))
    refine ⟨p7, some x, rfl, (e5.trans e6).trans (Same.new n7), ?_⟩
    rw [upd_same, nI_app, take_succ hc, List.map_append]
    refine congrArg some (congrArg HO.lst (congrArg (List.map V.int) (congrArg nI ?_)))
    unfold ptx
    rw [List.flatMap_append]
    simp
  · rintro σ H' ⟨f, v2, rfl, e, hf⟩
    rw [lv, List.take_length, ← planText_is] at hf
    exact ⟨_, rfl, q _ _ e ⟨f, rfl, hf⟩⟩
end
end Bc


-- end of a part
set_option Elab.async false
set_option linter.all false
set_option maxRecDepth 100000
set_option maxHeartbeats 4000000
set_option exponentiation.threshold 100000
/-! # keeping: refusals -/
namespace Bc
open PySem PySem.Spec PyProof.Rows L2
def rfF (n : Int) : List (Str × V) := [("number", .int n)]
/-- refused, all as it stood -/
def Rf (K : PySem.W.Frag) (H : Hp) (E : XK) (n : Int) : Prop := ∀ d H', Same H H' → H' d = some (.xd (rfF n)) → E (.ref (He.ga K "Refused")) (some d) H'
theorem Rf.pre {K : PySem.W.Frag} {H H' : Hp} {E : XK} {n : Int} (h : Rf K H E n) (e : Same H H') : Rf K H' E n := fun d H2 e2 => h d H2 (e.trans e2)
def ROut {α : Type} (K : PySem.W.Frag) (H : Hp) (Q : VK) (E : XK) (m : Except Int α) (R : α → V → Hp → Prop) : Prop := (∀ n, m = .error n → Rf K H E n) ∧ ∀ x, m = .ok x → ∀ v H', Same H H' → R x v H' → Q v H'
def sp_Refused_init (K : PySem.W.Frag) : Sp := mkSp 2 fun vs H Q _ => ∃ (a : Addr) (n : Int), vs = [.ref a, .int n] ∧ H a = some (exo a (He.ga K "Refused") none) ∧
  ∀ dx H', H dx = none → dx ≠ a → (∀ b, b ≠ a → b ≠ dx → H' b = H b) → H' a = some (exo a (He.ga K "Refused") (some dx)) → H' dx = some (exd dx (rfF n)) → Q .non H'
theorem raise_refused {K : PySem.W.Frag} {H1 : Hp} {n : Int} {Q : XK} (h : ∀ d H', Same H1 H' → H' d = some (.xd (rfF n)) → Q (.ref (He.ga K "Refused")) (some d) H') :
    ([V.int n]).length ≤ 1000 ∧ ∀ a, H1 a = none → sp_Refused_init K (.ref a :: ([V.int n] ++ [])) (upd H1 a (exo a (He.ga K "Refused") none))
      (fun v H2 => v = .non ∧ ∃ (d : Addr) (fs : List (Str × V)), H2 a = some (exo a (He.ga K "Refused") (some d)) ∧ H2 d = some (exd d fs) ∧ H1 d = none ∧ Q (.ref (He.ga K "Refused")) (some d) (upd (del H2 a) d (.xd fs))) (fun _ _ _ => False) := by
  refine ⟨by show 1 ≤ 1000; decide, fun a na => ⟨rfl, a, n, rfl, upd_same, fun dx H' nd ne hb ha hd => ⟨rfl, dx, rfF n, ha, hd, ?_, ?_⟩⟩⟩
  · rw [upd_ne ne] at nd
    exact nd
  · refine h dx _ (fun b o q => ?_) upd_same
    have ba : b ≠ a := ne_of_none q na
    have bd : b ≠ dx := ne_of_none q (by rw [upd_ne ne] at nd; exact nd)
    rw [upd_ne bd, del_ne ba, hb b ba bd, upd_ne ba]
    exact q
def optV : Option Nat → V
  | none => .non
  | some n => .int (n : Int)
/-- the keeping at k: a plan and its counts -/
def KpAt (K : PySem.W.Frag) (H : Hp) (k : Addr) (p : Vbkdai.Plan) (cs : List (Option Nat)) : Prop := ∃ dx pv cl, H k = some (.ins (He.ga K "Keeping") dx (F_Keeping pv (.ref cl))) ∧ PlanAt K H pv p ∧ H cl = some (.lst (cs.map optV)) ∧ PlOk p ∧ cs.length = p.chans.length
theorem KpAt.same {K : PySem.W.Frag} {H H' : Hp} {k : Addr} {p : Vbkdai.Plan} {cs : List (Option Nat)} (h : KpAt K H k p cs) (e : Same H H') : KpAt K H' k p cs := let ⟨dx, pv, cl, a, b, c, d⟩ := h; ⟨dx, pv, cl, e _ _ a, b.same e, e _ _ c, d⟩
def sp_want (K : PySem.W.Frag) : Sp := mkSp 2 fun vs H Q E => ∃ (b : Bool) (n : Int), vs = [.bl b, .int n] ∧ ROut K H Q E (wantB b n) fun _ v _ => v = .non
def sp_want_up_to (K : PySem.W.Frag) : Sp := mkSp 2 fun vs H Q E => ∃ (v : V) (l : List Int) (m : Int), vs = [v, .int m] ∧ InAt H v l ∧ l.length ≤ 1000 ∧ ROut K H Q E (upTo l m) fun _ v _ => v = .non
def sp_read_fraction_keeping (K : PySem.W.Frag) : Sp := mkSp 2 fun vs H Q E => ∃ (a d : Int), vs = [.int a, .int d] ∧ ROut K H Q E (fracR a d) fun q v H' => FrAt K H' v q
def sp_parts_told (K : PySem.W.Frag) : Sp := mkSp 2 fun vs H Q _ => ∃ (v w : V) (p : Vbkdai.Plan) (l : List Nat), vs = [v, w] ∧ PlanAt K H v p ∧ InAt H w (nI l) ∧ 1 ≤ p.parts ∧ p.parts ≤ 12 ∧ l.length ≤ 12 ∧ Ret H Q fun v H' => InAt H' v (Vbkdai.partsRow p.parts l)
def sp_how_often_apart (K : PySem.W.Frag) : Sp := mkSp 5 fun vs H Q _ => ∃ (v w : V) (p : Vbkdai.Plan) (c : Vbkdai.Chan) (k j e : Nat), vs = [v, w, .int k, .int j, .int e] ∧ PlanAt K H v p ∧ ChanAt K H w c ∧ ChOk c ∧ p.parts ≤ 12 ∧ k < p.parts ∧ j < p.parts ∧ e ≤ 1 ∧ Ret H Q fun v H' => FrAt K H' v (Vbkdai.apart p.parts c k j e)
def sp_Keeping_init (K : PySem.W.Frag) : Sp := mkSp 1 fun vs H Q _ => ∃ (a dx : Addr), vs = [.ref a] ∧ H a = some (.ins (He.ga K "Keeping") dx []) ∧ ∀ cl, H cl = none → Q .non (upd (upd H cl (.lst [])) a (.ins (He.ga K "Keeping") dx (F_Keeping .non (.ref cl))))
def sp_Keeping_want_channel (K : PySem.W.Frag) : Sp := mkSp 2 fun vs H Q E => ∃ (k : Addr) (p : Vbkdai.Plan) (cs : List (Option Nat)) (c : Int), vs = [.ref k, .int c] ∧ KpAt K H k p cs ∧ 0 ≤ c ∧ ROut K H Q E (wantC p c) fun x v H' => ChanAt K H' v x
def sp_Keeping_want_parts (K : PySem.W.Frag) : Sp := mkSp 2 fun vs H Q E => ∃ (k : Addr) (p : Vbkdai.Plan) (cs : List (Option Nat)) (v : V) (ps : List Int), vs = [.ref k, v] ∧ KpAt K H k p cs ∧ InAt H v ps ∧ ps.length ≤ 1000 ∧ ROut K H Q E (wantP p ps) fun _ v _ => v = .non
def sp_Keeping_channel_at (K : PySem.W.Frag) : Sp := mkSp 3 fun vs H Q E => ∃ (k : Addr) (p : Vbkdai.Plan) (cs : List (Option Nat)) (c : Int) (v : V) (ps : List Int), vs = [.ref k, .int c, v] ∧ KpAt K H k p cs ∧ InAt H v ps ∧ ps.length ≤ 1000 ∧ ROut K H Q E (chanR p c ps) fun x v H' => ChanAt K H' v x
theorem int_get {l : List Int} {i : Nat} {x : V} (hx : (l.map V.int)[i]? = some x) : ∃ n, l[i]? = some n ∧ x = V.int n := by
  rw [List.getElem?_map] at hx
  cases e2 : l[i]? with
  | none => rw [e2] at hx; cases hx
  | some n => rw [e2] at hx; exact ⟨n, rfl, (Option.some.inj hx).symm⟩
section
variable {P : Program} {w : World} {K : PySem.W.Frag} {mg : Str → Option Value} {base : Heap}
theorem sc_Refused_init : FnScope N_Refused_init ["self", "number"] (defScope s_Refused_init) := ⟨rfl, rfl, rfl, by decide +kernel, rfl, by decide +kernel, by decide +kernel⟩
theorem ok_Refused_init (T : TX K mg) : FOk P w K mg base CX0 1 (He.ma K (He.ga K "Refused") "__init__") ["self", "number"] (sp_Refused_init K) := by
  obtain ⟨fd, F⟩ := T.f_Refused_init
  refine ⟨fd, F.ok sc_Refused_init (fun _ _ _ _ h => h.1) (fun cdv A outer s H vs Q E hr h => ?_), F.binds fun _ _ _ _ _ _ us hl => match us, hl with | [_, _], _ => rfl⟩
  refine ⟨_, PSs.nox (pss_cons (ps_expr (pe_veinit (by rfl) T.n_ValueError T.ve_init (pa_cons (pv 0) (pa_cons pe_str pa_nil))))
    (pss_one (ps_ost (pv 0) (pv 1)))), ?_⟩
  obtain ⟨_, h⟩ := h
  obtain ⟨a, n, rfl, ha, q⟩ := h
  refine ⟨_, rfl, a, _, _, rfl, by show 1 ≤ 1000; decide, T.ox_Refused, ha, ?_⟩
  refine ⟨_, rfl, _, rfl, a, _, rfl, T.ox_Refused, T.na_Refused_number, .inl ⟨ha, fun dx nd ne => ?_⟩⟩
  refine q dx _ nd ne (fun b b1 b2 => ?_) upd_same ?_
  · rw [upd_ne b1, upd_ne b2]
  · rw [upd_ne ne, upd_same]
    rfl
theorem sc_want : FnScope N_want ["truth", "number"] (defScope s_want) := ⟨rfl, rfl, rfl, by decide +kernel, rfl, by decide +kernel, by decide +kernel⟩
theorem ok_want (T : TX K mg) : FOk P w K mg base (L2.CX P w) 3 (He.ga K "want") ["truth", "number"] (sp_want K) := by
  obtain ⟨fd, F⟩ := T.f_want
  obtain ⟨fd0, G0, b0⟩ := ok_Refused_init (P := P) (w := w) (base := base) T
  refine ⟨fd, F.okX sc_want (fun _ _ _ _ h => h.1) (fun cdv A outer s H vs Q E hr h => ?_), F.binds fun _ _ _ _ _ _ us hl => match us, hl with | [_, _], _ => rfl⟩
  have hr0 := hr.mono (by decide : 2 ≤ 2)
  refine ⟨_, (pss_one (ps_if (pt_not (pt_val (pv 0))) (pss_one (ps_raise rfl (takes_of rfl rfl rfl rfl) (pmk_oex T.ox_Refused T.i_Refused T.t_Refused G0 hr0 b0 .nil pass0 (by rfl) T.g_Refused (pa_cons (pv 1) pa_nil)))) pss_nil)), ?_⟩
  obtain ⟨_, h⟩ := h
  obtain ⟨b, n, rfl, qe, q⟩ := h
  refine ⟨_, rfl, _, rfl, ?_⟩
  cases b with
  | true => exact iteF (q () rfl _ _ (Same.refl H) rfl)
  | false => exact iteT ⟨_, rfl, raise_refused fun d H' s hd => qe n rfl d H' s hd⟩
theorem sc_want_up_to : FnScope N_want_up_to ["numbers", "most"] (defScope s_want_up_to) := ⟨rfl, rfl, rfl, by decide +kernel, rfl, by decide +kernel, by decide +kernel⟩
theorem ok_want_up_to (T : TX K mg) : FOk P w K mg base (L2.CX P w) 4 (He.ga K "want_up_to") ["numbers", "most"] (sp_want_up_to K) := by
  obtain ⟨fd, F⟩ := T.f_want_up_to
  obtain ⟨fd0, G0, b0⟩ := ok_want (P := P) (w := w) (base := base) T
  refine ⟨fd, F.okX sc_want_up_to (fun _ _ _ _ h => h.1) (fun cdv A outer s H vs Q E hr h => ?_), F.binds fun _ _ _ _ _ _ us hl => match us, hl with | [_, _], _ => rfl⟩
  have hr0 := hr.mono (by decide : 3 ≤ 3)
  refine ⟨_, (pss_one (ps_expr (pe_call G0 hr0 (by rfl) T.g_want T.k_want b0 .nil (passes_call (takes_of rfl rfl rfl rfl) (fun _ _ _ _ h => h)) (pa_cons (pe_callB (cr_all rfl) (by rfl) T.n_all (by decide +kernel) (pa_cons (pe_lc (g := (gName 2)) (own := [("number", 2)]) (by rfl) sc_want_up_to.nd (pi_list (pv 0)) (blkOk_by (own := [("number", 2)]) (N := N_want_up_to) (sc := defScope s_want_up_to) (by decide +kernel)) (fun _ _ _ _ _ => by exact (pg_name (i := 2) sc_want_up_to.nd rfl (.inl rfl))) (fun _ _ _ _ _ => by exact pts_nil) (fun _ _ _ _ _ => by exact (pe_chain op_le op_le pe_int (pv 2) (pv 1)))) pa_nil)) (pa_cons (C8.pe_gc (by rfl) T.c_NOT_AS_TOLD) pa_nil))))), ?_⟩
  obtain ⟨_, h⟩ := h
  obtain ⟨v, l, m, rfl, ⟨a, rfl, ha⟩, hl, qe, q⟩ := h
  refine ⟨_, rfl, a, rfl, ⟨_, SqL.of ha⟩, fun D nD => lc_list (K := K) (a := a) (xs := l.map V.int)
    (fun i H' => Same H H' ∧ H' D = some (.lst (((l.take i).map fun z => Vbkdai.within z 0 m).map V.bl))) ⟨Same.new nD, upd_same⟩ (fun i H' _ ⟨e, _⟩ => SqL.of (e _ _ ha)) ?_ ?_⟩
  · rintro i x H' hx ⟨e, hD⟩
    obtain ⟨z, hz, rfl⟩ := int_get hx
    have il := (List.getElem?_eq_some_iff.mp hz).1
    refine ⟨rfl, ?_⟩
    have fin : ∀ b, b = Vbkdai.within z 0 m → ∃ acc, H' D = some (.lst acc) ∧ acc.length < sizeLine ∧ (Same H (upd H' D (.lst (acc ++ [.bl b]))) ∧ (upd H' D (.lst (acc ++ [.bl b]))) D = some (.lst (((l.take (i + 1)).map fun z => Vbkdai.within z 0 m).map V.bl))) := fun b hb => by
      refine ⟨_, hD, ?_, e.mut nD, ?_⟩
      · rw [List.length_map, List.length_map, List.length_take]
        exact small1000 (by omega)
      · rw [upd_same, take_succ hz, List.map_append, List.map_append, hb]
        rfl
    refine ⟨_, rfl, _, _, rfl, rfl, _, rfl, ?_⟩
    refine ite2 (fun c => ?_) (fun c => ?_)
    · refine ⟨_, rfl, _, _, rfl, rfl, fin _ ?_⟩
      unfold Vbkdai.within
      rw [c, Bool.true_and]
    · refine fin _ ?_
      unfold Vbkdai.within
      have c : decide (0 ≤ z) = false := by simpa using c
      rw [c, Bool.false_and]
  · rintro H' ⟨e, hD⟩
    rw [List.length_map, List.take_length] at hD
    refine ⟨D, _, rfl, SqL.of hD, ?_⟩
    rw [List.all_map]
    have eb : l.all (id ∘ fun z => Vbkdai.within z 0 m) = l.all fun z => Vbkdai.within z 0 m := rfl
    rw [eb]
    exact ⟨rfl, _, -1, rfl, fun n hn => (qe n hn).pre e, fun x hx v H2 e2 hv => q x hx _ _ (e.trans e2) rfl⟩
theorem want_call {K : PySem.W.Frag} {E : XK} {te : TE} {B : Bool} {n : Int} {D : Ends} {σ : L2.St} {H : Hp} (h : ∀ Qa : VK, (∀ H1, Same H H1 → Qa (.bl B) H1) → te σ H Qa) (bad : B = false → Rf K H E n) (ok : B = true → ∀ H1, Same H H1 → D.nx σ H1) :
    tDrop (tCall (sp_want K) [] E (tCons te (tCons (tC (.int n)) tNil))) D σ H :=
  h _ fun H1 e1 => ⟨rfl, B, n, rfl, fun m hm => by
    unfold wantB at hm
    split at hm
    · cases hm
    · rename_i c
      cases hm
      exact (bad (by simpa using c)).pre e1, fun x hx v H2 e2 _ => ok (wantB_ok hx) _ (e1.trans e2)⟩
theorem sc_read_fraction_keeping : FnScope N_read_fraction_keeping ["upper", "lower"] (defScope s_read_fraction_keeping) := ⟨rfl, rfl, rfl, by decide +kernel, rfl, by decide +kernel, by decide +kernel⟩
theorem ok_read_fraction_keeping (T : TX K mg) : FOk P w K mg base (L2.CX P w) 4 (He.ga K "read_fraction_keeping") ["upper", "lower"] (sp_read_fraction_keeping K) := by
  obtain ⟨fd, F⟩ := T.f_read_fraction_keeping
  obtain ⟨fd0, G0, b0⟩ := ok_want (P := P) (w := w) (base := base) T
  obtain ⟨fd1, G1, b1⟩ := ok_fraction (P := P) (w := w) (base := base) T
  refine ⟨fd, F.okX sc_read_fraction_keeping (fun _ _ _ _ h => h.1) (fun cdv A outer s H vs Q E hr h => ?_), F.binds fun _ _ _ _ _ _ us hl => match us, hl with | [_, _], _ => rfl⟩
  have hr0 := hr.mono (by decide : 3 ≤ 3)
  have hr1 := hr.mono (by decide : 2 ≤ 3)
  refine ⟨_, (pss_cons (ps_expr (pe_call G0 hr0 (by rfl) T.g_want T.k_want b0 .nil (passes_call (takes_of rfl rfl rfl rfl) (fun _ _ _ _ h => h)) (pa_cons (pe_and (pe_chain op_le op_le pe_int (pv 1) (C8.pe_gc (by rfl) T.c_MOST_LOWER)) (pe_one (pe_chain op_le op_le pe_int (pv 0) (pv 1)))) (pa_cons (C8.pe_gc (by rfl) T.c_NOT_AS_TOLD) pa_nil))))
    (pss_one (ps_ret (pe_call G1 hr1 (by rfl) T.g_fraction T.k_fraction b1 .nil pass0 (pa_cons (pv 0) (pa_cons (pv 1) pa_nil)))))), ?_⟩
  obtain ⟨_, h⟩ := h
  obtain ⟨a, d, rfl, qe, q⟩ := h
  refine want_call (B := Vbkdai.within d 1 1000 && Vbkdai.within a 0 d) (fun Qa hQ => ?_) (fun hb => qe _ ?_) (fun hb H1 e1 => ?_)
  · have fin : ∀ b, b = (Vbkdai.within d 1 1000 && Vbkdai.within a 0 d) → Qa (.bl b) H := fun b hb => by rw [hb]; exact hQ H (Same.refl H)
    unfold Vbkdai.within at fin
    refine ⟨_, rfl, _, _, rfl, rfl, _, rfl, ?_⟩
    by_cases c1 : 1 ≤ d
    · rw [decide_eq_true c1] at fin ⊢
      refine iteT ⟨_, _, rfl, rfl, _, rfl, ?_⟩
      by_cases c2 : d ≤ 1000
      · rw [decide_eq_true c2] at fin ⊢
        refine iteT ⟨_, rfl, _, _, rfl, rfl, _, rfl, ?_⟩
        by_cases c3 : 0 ≤ a
        · rw [decide_eq_true c3] at fin ⊢
          exact iteT ⟨_, rfl, _, _, rfl, rfl, fin _ rfl⟩
        · rw [decide_eq_false c3] at fin ⊢
          exact iteF (fin _ rfl)
      · rw [decide_eq_false c2] at fin ⊢
        exact iteF (fin _ rfl)
    · rw [decide_eq_false c1] at fin ⊢
      exact iteF ⟨_, rfl, iteF (fin _ rfl)⟩
  · unfold fracR Vbkdai.fracOf
    rw [if_neg (fun z : Vbkdai.within d 1 (Vbkdai.LOW : Int) = true ∧ Vbkdai.within a 0 d = true => by
      have : (Vbkdai.within d 1 1000 && Vbkdai.within a 0 d) = true := by rw [Bool.and_eq_true]; exact z
      rw [this] at hb
      cases hb)]
  · rw [Bool.and_eq_true] at hb
    have hf : fracR a d = .ok (VbkdCore.mk a d.toNat) := by
      unfold fracR Vbkdai.fracOf
      rw [if_pos (show Vbkdai.within d 1 (Vbkdai.LOW : Int) = true ∧ Vbkdai.within a 0 d = true from hb)]
    have hd : 1 ≤ d ∧ d ≤ 1000 := by
      have := hb.1
      unfold Vbkdai.within at this
      rw [Bool.and_eq_true, decide_eq_true_eq, decide_eq_true_eq] at this
      exact this
    refine ⟨_, rfl, _, rfl, rfl, a, d.toNat, ?_, by omega, Nat.lt_of_lt_of_le (show d.toNat < 2 ^ 10 by omega) (Nat.pow_le_pow_right (by decide) (by decide)), fun v H2 e2 hv => q _ hf _ _ (e1.trans e2) hv⟩
    rw [show ((d.toNat : Nat) : Int) = d by omega]
    rfl
theorem last_is : ∀ (k : Nat) (r : List Nat), ∃ i, k :: r = i ++ [r.getLastD k]
  | k, [] => ⟨[], rfl⟩
  | k, a :: b => by
    obtain ⟨i, e⟩ := last_is a b
    refine ⟨k :: i, ?_⟩
    have e2 : (a :: b).getLastD k = b.getLastD a := by rw [List.getLastD_cons]
    rw [e2, e]
    rfl
theorem last_at (k : Nat) (r : List Nat) : atI ((nI (k :: r)).map V.int) (-1) = some (V.int ((r.getLastD k : Nat) : Int)) := by
  obtain ⟨i, e⟩ := last_is k r
  rw [e, nI_snoc]
  exact atI_last _ _
theorem sc_parts_told : FnScope N_parts_told ["plan", "some"] (defScope s_parts_told) := ⟨rfl, rfl, rfl, by decide +kernel, rfl, by decide +kernel, by decide +kernel⟩
theorem ok_parts_told (T : TX K mg) : FOk P w K mg base CX0 3 (He.ga K "parts_told") ["plan", "some"] (sp_parts_told K) := by
  obtain ⟨fd, F⟩ := T.f_parts_told
  obtain ⟨fd0, G0, b0⟩ := ok_fraction (P := P) (w := w) (base := base) T
  refine ⟨fd, F.ok sc_parts_told (fun _ _ _ _ h => h.1) (fun cdv A outer s H vs Q E hr h => ?_), F.binds fun _ _ _ _ _ _ us hl => match us, hl with | [_, _], _ => rfl⟩
  have hr0 := hr.mono (by decide : 2 ≤ 2)
  have hu64 := hr.units
  refine ⟨_, PSs.nox (pss_cons (ps_if (pt_cmpR (op_eqD hu64) (pv 1) (pe_lst pa_nil) (by rfl)) (pss_one (ps_ret (pe_lst (pa_cons pe_int pa_nil)))) pss_nil)
    (pss_cons (ps_par (i := 2) (j := 3) (by rfl) sc_parts_told.nd rfl rfl (by decide) rfl rfl (pa_cons (pe_call G0 hr0 (by rfl) T.g_fraction T.k_fraction b0 .nil pass0 (pa_cons (pe_ix ix_list (pv 1) pe_int (fun _ _ => rfl)) (pa_cons (pe_fld (pv 0) rfl) pa_nil))) (pa_cons (pe_call G0 hr0 (by rfl) T.g_fraction T.k_fraction b0 .nil pass0 (pa_cons (pe_op op_add (pe_ix ix_list (pv 1) (pe_un un_neg pe_int) (fun _ _ => rfl)) pe_int) (pa_cons (pe_fld (pv 0) rfl) pa_nil))) pa_nil)) (by rfl))
    (pss_one (ps_ret (pe_op op_cat (pe_op op_cat (pe_op op_cat (pe_lst (pa_cons (pe_callB call_len_seq (by rfl) T.n_len (by decide +kernel) (pa_cons (pv 1) pa_nil)) pa_nil)) (pv 1)) (pe_callTy call_list_of (by rfl) T.n_list (by decide +kernel) (pa_cons (pv 2) pa_nil))) (pe_callTy call_list_of (by rfl) T.n_list (by decide +kernel) (pa_cons (pv 3) pa_nil))))))), ?_⟩
  obtain ⟨_, h⟩ := h
  obtain ⟨v, w, p, l, rfl, ⟨a, dx, cl, vs, rfl, ha, hl, hv⟩, ⟨wa, rfl, hw⟩, g1, g12, l12, q⟩ := h
  have lg : p.parts < 2 ^ 8000 := Nat.lt_of_lt_of_le (show p.parts < 2 ^ 10 by omega) (Nat.pow_le_pow_right (by decide) (by decide))
  refine ⟨_, rfl, by show 0 ≤ sizeLine; decide, fun f nf => ⟨_, _, dp_ints ⟨wa, rfl, (Same.new nf) _ _ hw⟩, dp_ints (ns := []) ⟨f, rfl, upd_same⟩, ints_shaped _, ints_shaped _, _, rfl, ?_⟩⟩
  have kf : Same H (upd H f (.lst [])) := Same.new nf
  generalize upd H f (.lst []) = H0 at kf ⊢
  rw [ints_eqv]
  cases l with
  | nil => exact iteT ⟨by show 1 ≤ sizeLine; decide, fun g ng => q _ _ (kf.trans (Same.new ng)) ⟨g, rfl, upd_same⟩⟩
  | cons k r =>
    refine ite2 (fun z => by cases of_decide_eq_true z) (fun _ => ?_)
    refine ⟨_, rfl, wa, _, _, _, rfl, rfl, SqL.of (kf _ _ hw), atI_nat (j := 0) rfl, _, rfl, a, _, dx, _, _, rfl, kf _ _ ha, T.cl_Plan, T.na_Plan_parts, L_Plan_parts, rfl, (k : Int), p.parts, rfl, by omega, lg, fun v1 H1 e1 hv1 => ?_⟩
    have k1 := kf.trans e1
    refine ⟨_, rfl, _, rfl, wa, _, _, _, rfl, rfl, SqL.of (k1 _ _ hw), last_at k r, _, _, rfl, rfl, _, rfl, a, _, dx, _, _, rfl, k1 _ _ ha, T.cl_Plan, T.na_Plan_parts, L_Plan_parts, rfl, _, p.parts, rfl, by omega, lg, fun v2 H2 e2 hv2 => ?_⟩
    have k2 := k1.trans e2
    obtain ⟨b1, rfl, hb1⟩ := hv1.same e2
    obtain ⟨b2, rfl, hb2⟩ := hv2
    refine ⟨_, _, rfl, ?_⟩
    refine ⟨_, rfl, wa, _, rfl, .inl (SqL.of (k2 _ _ hw)), by show 1 ≤ sizeLine; decide, fun p1 n1 => ?_⟩
    have k3 : Same H2 (upd H2 p1 (.lst [.int (((nI (k :: r)).map V.int).length : Int)])) := Same.new n1
    have h3 : (upd H2 p1 (.lst [.int (((nI (k :: r)).map V.int).length : Int)])) p1 = some (.lst [.int ((k :: r).length : Int)]) := by rw [upd_same, nI_len]
    generalize upd H2 p1 (.lst [.int (((nI (k :: r)).map V.int).length : Int)]) = H3 at k3 h3 ⊢
    have k23 := k2.trans k3
    refine ⟨_, rfl, p1, wa, _, _, rfl, rfl, h3, k23 _ _ hw, ?_, fun p2 n2 => ?_⟩
    · rw [nI_len]
      exact Nat.le_of_lt (small1000 (show 1 + _ ≤ 1000 by omega))
    have k4 : Same H3 (upd H3 p2 (.lst ([V.int ((k :: r).length : Int)] ++ (nI (k :: r)).map V.int))) := Same.new n2
    have h4 : (upd H3 p2 (.lst ([V.int ((k :: r).length : Int)] ++ (nI (k :: r)).map V.int))) p2 = some (.lst ([V.int ((k :: r).length : Int)] ++ (nI (k :: r)).map V.int)) := upd_same
    generalize upd H3 p2 (.lst ([V.int ((k :: r).length : Int)] ++ (nI (k :: r)).map V.int)) = H4 at k4 h4 ⊢
    have t34 := k3.trans k4
    refine ⟨_, rfl, b1, _, rfl, .inr (t34.tup hb1), fun p3 n3 => ?_⟩
    have k5 : Same H4 (upd H4 p3 (.lst (qV (VbkdCore.mk (k : Int) p.parts)))) := Same.new n3
    have h5 : (upd H4 p3 (.lst (qV (VbkdCore.mk (k : Int) p.parts)))) p3 = some (.lst (qV (VbkdCore.mk (k : Int) p.parts))) := upd_same
    generalize upd H4 p3 (.lst (qV (VbkdCore.mk (k : Int) p.parts))) = H5 at k5 h5 ⊢
    refine ⟨p2, p3, _, _, rfl, rfl, k5 _ _ h4, h5, ?_, fun p4 n4 => ?_⟩
    · rw [List.length_append, nI_len]
      exact Nat.le_of_lt (small1000 (show 1 + _ + 2 ≤ 1000 by omega))
    have k6 : Same H5 (upd H5 p4 (.lst ([V.int ((k :: r).length : Int)] ++ (nI (k :: r)).map V.int ++ qV (VbkdCore.mk (k : Int) p.parts)))) := Same.new n4
    have h6 : (upd H5 p4 (.lst ([V.int ((k :: r).length : Int)] ++ (nI (k :: r)).map V.int ++ qV (VbkdCore.mk (k : Int) p.parts)))) p4 = some (.lst ([V.int ((k :: r).length : Int)] ++ (nI (k :: r)).map V.int ++ qV (VbkdCore.mk (k : Int) p.parts))) := upd_same
    generalize upd H5 p4 (.lst ([V.int ((k :: r).length : Int)] ++ (nI (k :: r)).map V.int ++ qV (VbkdCore.mk (k : Int) p.parts))) = H6 at k6 h6 ⊢
    have t36 := (t34.trans k5).trans k6
    refine ⟨_, rfl, b2, _, rfl, .inr (t36.tup hb2), fun p5 n5 => ?_⟩
    refine ⟨p4, p5, _, _, rfl, rfl, (Same.new n5) _ _ h6, upd_same, ?_, fun p6 n6 => q _ _ (((k2.trans t36).trans (Same.new n5)).trans (Same.new n6)) ⟨p6, rfl, ?_⟩⟩
    · rw [List.length_append, List.length_append, nI_len]
      exact Nat.le_of_lt (small1000 (show 1 + _ + 2 + 2 ≤ 1000 by omega))
    · rw [upd_same]
      refine congrArg some (congrArg HO.lst ?_)
      show _ = (Vbkdai.counted (k :: r) ++ (Vbkdai.qRow (VbkdCore.mk (k : Int) p.parts) ++ Vbkdai.qRow (VbkdCore.mk (((r.getLastD k) + 1 : Nat) : Int) p.parts))).map V.int
      unfold Vbkdai.counted Vbkdai.ints
      rw [List.map_append, List.map_append, List.map_cons, Int.natCast_add]
      simp only [List.append_assoc]
      rfl
theorem often_chance {t : Nat} {p : Qd} {a b : Nat} (h : b ≤ t) : VbkdCore.mk ((many t p a (b + 1) : Nat) : Int) (Vbkdai.total t p) = Vbkdai.chance t p a b := by
  unfold Vbkdai.chance Vbkdai.chanceOf Vbkdai.massOf
  rw [stretch_is h]
  rfl
theorem letIn_le {g k : Nat} {c : Vbkdai.Chan} (ok : ChOk c) (h12 : g ≤ 12) (hk : k < g) : (Vbkdai.letIn g c k).2 ≤ c.trials := by
  have hE : ∀ p ∈ endsQ g c, Pr p := endsQ_pr fun _ _ hk he => chanceAt_pr ok h12 hk he
  have h1 := letAt_le (chanceAt_pr ok h12 hk (show 0 ≤ 1 by decide)) hE
  have h2 := letAt_le (chanceAt_pr ok h12 hk (show 1 ≤ 1 by decide)) hE
  show max _ _ ≤ _
  omega
theorem chance_sm {t : Nat} {p : Qd} {a b : Nat} (pr : Pr p) (ht : t ≤ 40) (h : b ≤ t) : Sm 4000 (Vbkdai.chance t p a b) := by
  rw [← often_chance h]
  refine sm_mk (total_pos pr) ?_ (Nat.lt_trans (total_small pr ht) (Nat.pow_lt_pow_right (by decide) (by decide)))
  rw [Int.natAbs_natCast]
  exact many_small pr ht _ _
theorem sc_how_often_apart : FnScope N_how_often_apart ["plan", "channel", "k", "j", "e"] (defScope s_how_often_apart) := ⟨rfl, rfl, rfl, by decide +kernel, rfl, by decide +kernel, by decide +kernel⟩
theorem ok_how_often_apart (T : TX K mg) : FOk P w K mg base CX0 9 (He.ga K "how_often_apart") ["plan", "channel", "k", "j", "e"] (sp_how_often_apart K) := by
  obtain ⟨fd, F⟩ := T.f_how_often_apart
  obtain ⟨fd0, G0, b0⟩ := ok_part_let (P := P) (w := w) (base := base) T
  obtain ⟨fd1, G1, b1⟩ := ok_spread_at (P := P) (w := w) (base := base) T
  obtain ⟨fd2, G2, b2⟩ := ok_Spread_often (P := P) (w := w) (base := base) T
  obtain ⟨fd3, G3, b3⟩ := ok_minus (P := P) (w := w) (base := base) T
  refine ⟨fd, F.ok sc_how_often_apart (fun _ _ _ _ h => h.1) (fun cdv A outer s H vs Q E hr h => ?_), F.binds fun _ _ _ _ _ _ us hl => match us, hl with | [_, _, _, _, _], _ => rfl⟩
  have hr0 := hr.mono (by decide : 8 ≤ 8)
  have hr1 := hr.mono (by decide : 6 ≤ 8)
  have hr2 := hr.mono (by decide : 3 ≤ 8)
  have hr3 := hr.mono (by decide : 3 ≤ 8)
  refine ⟨_, PSs.nox (pss_cons (ps_asg (pe_call G0 hr0 (by rfl) T.g_part_let T.k_part_let b0 .nil pass0 (pa_cons (pv 0) (pa_cons (pv 1) (pa_cons (pv 2) pa_nil)))) (pg_tup (by rfl) (pgs_cons (pg_name (i := 5) sc_how_often_apart.nd rfl (.inl rfl)) (pgs_cons (pg_name (i := 6) sc_how_often_apart.nd rfl (.inl rfl)) pgs_nil))))
    (pss_one (ps_ret (pe_call G3 hr3 (by rfl) T.g_minus T.k_minus b3 .nil pass0 (pa_cons (C8.pe_gc (by rfl) T.c_ONE) (pa_cons (pe_meth (pe_call G1 hr1 (by rfl) T.g_spread_at T.k_spread_at b1 .nil pass0 (pa_cons (pv 0) (pa_cons (pv 1) (pa_cons (pv 3) (pa_cons (pv 4) pa_nil))))) T.cl_Spread T.m_Spread_often G2 hr2 b2 .nil pass0 (pa_cons (pv 5) (pa_cons (pv 6) pa_nil))) pa_nil)))))), ?_⟩
  obtain ⟨_, h⟩ := h
  obtain ⟨v, w, p, c, k, j, e, rfl, hp, hc, ok, g12, hk, hj, he, q⟩ := h
  refine ⟨_, rfl, _, rfl, _, rfl, rfl, p, c, v, w, k, rfl, hp, hc, ok, g12, hk, fun v1 H1 e1 ⟨a1, ea, h1⟩ => ?_⟩
  subst ea
  refine ⟨a1, _, rfl, SqT.of h1, rfl, _, _, rfl, _, _, rfl, rfl, ?_⟩
  have pr := chanceAt_pr ok g12 hj he
  refine ⟨_, rfl, _, rfl, _, rfl, _, rfl, rfl, p, c, v, w, j, e, rfl, hp.same e1, hc.same e1, ok, g12, hj, he, fun vs H2 e2 hs => ?_⟩
  obtain ⟨sa, sdx, sl, rfl, hs1, hs2⟩ := id hs
  refine ⟨sa, sdx, _, rfl, hs1, L_Spread_often, _, rfl, _, rfl, rfl, _, c.trials, _, _, _, rfl, hs, pr, ok.t40, fun vf H3 e3 hf => ?_⟩
  have lb := letIn_le ok g12 hk
  rw [often_chance lb] at hf
  exact ⟨rfl, Vbkdai.one, _, _, _, rfl, ⟨_, rfl, T.t_ONE H3⟩, hf, one_sm.mono (by decide), chance_sm pr ok.t40 lb, fun u H4 e4 hu => q _ _ (((e1.trans e2).trans e3).trans e4) hu⟩
theorem sc_Keeping_init : FnScope N_Keeping_init ["self"] (defScope s_Keeping_init) := ⟨rfl, rfl, rfl, by decide +kernel, rfl, by decide +kernel, by decide +kernel⟩
theorem ok_Keeping_init (T : TX K mg) : FOk P w K mg base CX0 1 (He.ma K (He.ga K "Keeping") "__init__") ["self"] (sp_Keeping_init K) := by
  obtain ⟨fd, F⟩ := T.f_Keeping_init
  refine ⟨fd, F.ok sc_Keeping_init (fun _ _ _ _ h => h.1) (fun cdv A outer s H vs Q E hr h => ?_), F.binds fun _ _ _ _ _ _ us hl => match us, hl with | [_], _ => rfl⟩
  refine ⟨_, PSs.nox (pss_cons (ps_fld (pv 0) pe_non rfl)
    (pss_one (ps_fld (pv 0) (pe_lst pa_nil) rfl))), ?_⟩
  obtain ⟨_, h⟩ := h
  obtain ⟨a, dx, rfl, ha, q⟩ := h
  refine ⟨_, rfl, a, _, dx, _, rfl, ha, T.cl_Keeping, T.na_Keeping_plan, by show 0 < 1000; decide, ?_⟩
  refine ⟨by show 0 ≤ sizeLine; decide, fun cl nc => ?_⟩
  have ca : cl ≠ a := fun z => by rw [z, upd_same] at nc; cases nc
  have nc0 : H cl = none := by rw [upd_ne ca] at nc; exact nc
  have h2 : (upd (upd H a (.ins (He.ga K "Keeping") dx (putF "plan" .non []))) cl (.lst [])) a = some (.ins (He.ga K "Keeping") dx (putF "plan" .non [])) := by rw [upd_ne (Ne.symm ca), upd_same]
  refine ⟨_, rfl, a, _, dx, _, rfl, h2, T.cl_Keeping, T.na_Keeping_counted, by show 1 < 1000; decide, ?_⟩
  rw [M_Keeping]
  have e : upd (upd (upd H a (.ins (He.ga K "Keeping") dx (putF "plan" .non []))) cl (.lst [])) a (.ins (He.ga K "Keeping") dx (F_Keeping .non (.ref cl))) = upd (upd H cl (.lst [])) a (.ins (He.ga K "Keeping") dx (F_Keeping .non (.ref cl))) := by
    funext b
    by_cases h1 : b = a
    · rw [h1, upd_same, upd_same]
    · rw [upd_ne h1, upd_ne h1]
      by_cases h2 : b = cl
      · rw [h2, upd_same, upd_same]
      · rw [upd_ne h2, upd_ne h2, upd_ne h1]
  have := q cl nc0
  rw [← e] at this
  exact this
theorem sc_Keeping_want_channel : FnScope N_Keeping_want_channel ["self", "c"] (defScope s_Keeping_want_channel) := ⟨rfl, rfl, rfl, by decide +kernel, rfl, by decide +kernel, by decide +kernel⟩
theorem ok_Keeping_want_channel (T : TX K mg) : FOk P w K mg base (L2.CX P w) 4 (He.ma K (He.ga K "Keeping") "want_channel") ["self", "c"] (sp_Keeping_want_channel K) := by
  obtain ⟨fd, F⟩ := T.f_Keeping_want_channel
  obtain ⟨fd0, G0, b0⟩ := ok_want (P := P) (w := w) (base := base) T
  refine ⟨fd, F.okX sc_Keeping_want_channel (fun _ _ _ _ h => h.1) (fun cdv A outer s H vs Q E hr h => ?_), F.binds fun _ _ _ _ _ _ us hl => match us, hl with | [_, _], _ => rfl⟩
  have hr0 := hr.mono (by decide : 3 ≤ 3)
  refine ⟨_, (pss_cons (ps_expr (pe_call G0 hr0 (by rfl) T.g_want T.k_want b0 .nil (passes_call (takes_of rfl rfl rfl rfl) (fun _ _ _ _ h => h)) (pa_cons (pe_cmpR op_lt (pv 1) (pe_callB call_len_seq (by rfl) T.n_len (by decide +kernel) (pa_cons (pe_fld (pe_fld (pv 0) rfl) rfl) pa_nil)) (by rfl)) (pa_cons (C8.pe_gc (by rfl) T.c_NO_CHANNEL) pa_nil))))
    (pss_one (ps_ret (pe_ix ix_list (pe_fld (pe_fld (pv 0) rfl) rfl) (pv 1) (fun _ _ => rfl))))), ?_⟩
  obtain ⟨_, h⟩ := h
  obtain ⟨k, p, cs, c, rfl, ⟨dx, pv, cl, hk, ⟨pa, pdx, l, vs, rfl, hp, hl, hv⟩, hc, ok, lc⟩, c0, qe, q⟩ := h
  have lv := paired_len hv
  refine want_call (B := decide (c < (p.chans.length : Int))) (fun Qa hQ => ?_) (fun hb => qe _ ?_) (fun hb H1 e1 => ?_)
  · refine ⟨_, rfl, _, rfl, k, _, dx, _, _, rfl, hk, T.cl_Keeping, T.na_Keeping_plan, L_Keeping_plan, pa, _, pdx, _, _, rfl, hp, T.cl_Plan, T.na_Plan_channels, L_Plan_channels, l, _, rfl, .inl (SqL.of hl), _, _, rfl, rfl, ?_⟩
    rw [lv]
    exact hQ H (Same.refl H)
  · have := of_decide_eq_false hb
    unfold wantC
    rw [List.getElem?_eq_none (by omega)]
  · have := of_decide_eq_true hb
    obtain ⟨x, hx⟩ : ∃ x, p.chans[c.toNat]? = some x := ⟨_, List.getElem?_eq_getElem (by omega)⟩
    obtain ⟨u, hu, hux⟩ := paired_at hv hx
    refine ⟨_, rfl, k, _, dx, _, _, rfl, e1 _ _ hk, T.cl_Keeping, T.na_Keeping_plan, L_Keeping_plan, pa, _, pdx, _, _, rfl, e1 _ _ hp, T.cl_Plan, T.na_Plan_channels, L_Plan_channels, _, rfl, l, _, _, u, rfl, rfl, SqL.of (e1 _ _ hl), at_of (show c = ((c.toNat : Nat) : Int) by omega) hu, ?_⟩
    exact q x (by unfold wantC; rw [hx]) _ _ e1 (hux.same e1)
theorem sc_Keeping_want_parts : FnScope N_Keeping_want_parts ["self", "parts"] (defScope s_Keeping_want_parts) := ⟨rfl, rfl, rfl, by decide +kernel, rfl, by decide +kernel, by decide +kernel⟩
theorem ok_Keeping_want_parts (T : TX K mg) : FOk P w K mg base (L2.CX P w) 4 (He.ma K (He.ga K "Keeping") "want_parts") ["self", "parts"] (sp_Keeping_want_parts K) := by
  obtain ⟨fd, F⟩ := T.f_Keeping_want_parts
  obtain ⟨fd0, G0, b0⟩ := ok_want (P := P) (w := w) (base := base) T
  refine ⟨fd, F.okX sc_Keeping_want_parts (fun _ _ _ _ h => h.1) (fun cdv A outer s H vs Q E hr h => ?_), F.binds fun _ _ _ _ _ _ us hl => match us, hl with | [_, _], _ => rfl⟩
  have hr0 := hr.mono (by decide : 3 ≤ 3)
  refine ⟨_, (pss_one (ps_expr (pe_call G0 hr0 (by rfl) T.g_want T.k_want b0 .nil (passes_call (takes_of rfl rfl rfl rfl) (fun _ _ _ _ h => h)) (pa_cons (pe_callB (cr_all rfl) (by rfl) T.n_all (by decide +kernel) (pa_cons (pe_lc (g := (gName 2)) (te := (tOp (rI0 fun i j => .bl (decide (i < j))) (tVar 2) (tFld K (tFld K (tVar 0) "plan") "parts"))) (own := [("k", 2)]) (by rfl) sc_Keeping_want_parts.nd (pi_list (pv 1)) (blkOk_by (own := [("k", 2)]) (N := N_Keeping_want_parts) (sc := defScope s_Keeping_want_parts) (by decide +kernel)) (fun _ _ _ _ _ => by exact (pg_name (i := 2) sc_Keeping_want_parts.nd rfl (.inl rfl))) (fun _ _ _ _ _ => by exact pts_nil) (fun _ _ _ _ _ => by exact (pe_cmpR op_lt (pv 2) (pe_fld (pe_fld (pv 0) rfl) rfl) (by rfl)))) pa_nil)) (pa_cons (C8.pe_gc (by rfl) T.c_NO_PART) pa_nil))))), ?_⟩
  obtain ⟨_, h⟩ := h
  obtain ⟨k, p, cs, v, ps, rfl, ⟨dx, pv, cl, hk, ⟨pa, pdx, l, vs, rfl, hp, hl, hv⟩, hc, ok, lc⟩, ⟨a, rfl, ha⟩, l1, qe, q⟩ := h
  refine want_call (B := ps.all fun k => decide (k < (p.parts : Int))) (fun Qa hQ => ?_) (fun hb => qe _ (wantB_f hb)) (fun hb H1 e1 => q () (wantB_t hb) _ _ e1 rfl)
  refine ⟨_, rfl, a, rfl, ⟨_, SqL.of ha⟩, fun D nD => lc_list (K := K) (a := a) (xs := ps.map V.int)
    (fun i H' => Same H H' ∧ H' D = some (.lst (((ps.take i).map fun k => decide (k < (p.parts : Int))).map V.bl))) ⟨Same.new nD, upd_same⟩ (fun i H' _ ⟨e, _⟩ => SqL.of (e _ _ ha)) ?_ ?_⟩
  · rintro i x H' hx ⟨e, hD⟩
    obtain ⟨z, hz, rfl⟩ := int_get hx
    have il := (List.getElem?_eq_some_iff.mp hz).1
    refine ⟨rfl, ?_⟩
    refine ⟨_, rfl, _, rfl, k, _, dx, _, _, rfl, e _ _ hk, T.cl_Keeping, T.na_Keeping_plan, L_Keeping_plan, pa, _, pdx, _, _, rfl, e _ _ hp, T.cl_Plan, T.na_Plan_parts, L_Plan_parts, _, _, rfl, rfl, _, hD, ?_, e.mut nD, ?_⟩
    · rw [List.length_map, List.length_map, List.length_take]
      exact small1000 (by omega)
    · rw [upd_same, take_succ hz, List.map_append, List.map_append]
      rfl
  · rintro H' ⟨e, hD⟩
    rw [List.length_map, List.take_length] at hD
    refine ⟨D, _, rfl, SqL.of hD, ?_⟩
    rw [List.all_map]
    exact hQ _ e
theorem sc_Keeping_channel_at : FnScope N_Keeping_channel_at ["self", "c", "parts"] (defScope s_Keeping_channel_at) := ⟨rfl, rfl, rfl, by decide +kernel, rfl, by decide +kernel, by decide +kernel⟩
theorem ok_Keeping_channel_at (T : TX K mg) : FOk P w K mg base (L2.CX P w) 5 (He.ma K (He.ga K "Keeping") "channel_at") ["self", "c", "parts"] (sp_Keeping_channel_at K) := by
  obtain ⟨fd, F⟩ := T.f_Keeping_channel_at
  obtain ⟨fd0, G0, b0⟩ := ok_want_up_to (P := P) (w := w) (base := base) T
  obtain ⟨fd1, G1, b1⟩ := ok_Keeping_want_channel (P := P) (w := w) (base := base) T
  obtain ⟨fd2, G2, b2⟩ := ok_Keeping_want_parts (P := P) (w := w) (base := base) T
  refine ⟨fd, F.okX sc_Keeping_channel_at (fun _ _ _ _ h => h.1) (fun cdv A outer s H vs Q E hr h => ?_), F.binds fun _ _ _ _ _ _ us hl => match us, hl with | [_, _, _], _ => rfl⟩
  have hr0 := hr.mono (by decide : 4 ≤ 4)
  have hr1 := hr.mono (by decide : 4 ≤ 4)
  have hr2 := hr.mono (by decide : 4 ≤ 4)
  refine ⟨_, (pss_cons (ps_expr (pe_call G0 hr0 (by rfl) T.g_want_up_to T.k_want_up_to b0 .nil (passes_call (takes_of rfl rfl rfl rfl) (fun _ _ _ _ h => h)) (pa_cons (pe_lst (pa_cons (pv 1) pa_nil)) (pa_cons (pe_op op_sub (C8.pe_gc (by rfl) T.c_MOST_CHANNELS) pe_int) pa_nil))))
    (pss_cons (ps_expr (pe_call G0 hr0 (by rfl) T.g_want_up_to T.k_want_up_to b0 .nil (passes_call (takes_of rfl rfl rfl rfl) (fun _ _ _ _ h => h)) (pa_cons (pv 2) (pa_cons (pe_op op_sub (C8.pe_gc (by rfl) T.c_MOST_PARTS) pe_int) pa_nil))))
    (pss_cons (ps_set (i := 3) sc_Keeping_channel_at.nd rfl (.inl rfl) (pe_meth (pv 0) T.cl_Keeping T.m_Keeping_want_channel G1 hr1 b1 .nil (passes_call (takes_of rfl rfl rfl rfl) (fun _ _ _ _ h => h)) (pa_cons (pv 1) pa_nil)))
    (pss_cons (ps_expr (pe_meth (pv 0) T.cl_Keeping T.m_Keeping_want_parts G2 hr2 b2 .nil (passes_call (takes_of rfl rfl rfl rfl) (fun _ _ _ _ h => h)) (pa_cons (pv 2) pa_nil)))
    (pss_one (ps_ret (pv 3))))))), ?_⟩
  obtain ⟨_, h⟩ := h
  obtain ⟨k, p, cs, c, v, ps, rfl, hK, hv, l1, qe, q⟩ := h
  obtain ⟨dx, pv, cl, hk, _⟩ := id hK
  refine ⟨_, rfl, by show 1 ≤ sizeLine; decide, fun f nf => ⟨_, _, rfl, rfl, rfl, .ref f, [c], 3, rfl, ⟨f, rfl, upd_same⟩, by show 1 ≤ 1000; decide, fun n hn => ?_, fun x1 hx1 _ H1 e1 _ => ?_⟩⟩
  · exact (qe n (by unfold chanR; rw [hn]; rfl)).pre (Same.new nf)
  have k1 := (Same.new nf).trans e1
  have c0 := (upTo_ok hx1 c List.mem_cons_self).1
  refine ⟨_, rfl, _, _, rfl, rfl, rfl, v, ps, 11, rfl, hv.same k1, l1, fun n hn => ?_, fun x2 hx2 _ H2 e2 _ => ?_⟩
  · exact (qe n (by unfold chanR; rw [hx1]; show (upTo ps 11).bind _ = _; rw [hn]; rfl)).pre k1
  have k2 := k1.trans e2
  refine ⟨_, rfl, k, dx, _, rfl, k2 _ _ hk, L_Keeping_want_channel, _, rfl, rfl, k, p, cs, c, rfl, hK.same k2, c0, fun n hn => ?_, fun x3 hx3 vc H3 e3 hvc => ?_⟩
  · exact (qe n (by unfold chanR; rw [hx1]; show (upTo ps 11).bind _ = _; rw [hx2]; show (wantC p c).bind _ = _; rw [hn]; rfl)).pre k2
  have k3 := k2.trans e3
  refine ⟨_, rfl, k, dx, _, rfl, k3 _ _ hk, L_Keeping_want_parts, _, rfl, rfl, k, p, cs, v, ps, rfl, hK.same k3, hv.same k3, l1, fun n hn => ?_, fun x4 hx4 _ H4 e4 _ => ?_⟩
  · exact (qe n (by unfold chanR; rw [hx1]; show (upTo ps 11).bind _ = _; rw [hx2]; show (wantC p c).bind _ = _; rw [hx3]; show (wantP p ps).bind _ = _; rw [hn]; rfl)).pre k3
  exact ⟨_, rfl, q x3 (by unfold chanR; rw [hx1]; show (upTo ps 11).bind _ = _; rw [hx2]; show (wantC p c).bind _ = _; rw [hx3]; show (wantP p ps).bind _ = _; rw [hx4]; rfl) _ _ (k3.trans e4) (hvc.same e4)⟩
end
end Bc


-- end of a part
set_option Elab.async false
set_option linter.all false
set_option maxRecDepth 100000
set_option maxHeartbeats 4000000
set_option exponentiation.threshold 100000
/-! # keeping: what is answered -/
namespace Bc
open PySem PySem.Spec PyProof.Rows L2
def sp_Keeping_told_text (K : PySem.W.Frag) : Sp := mkSp 1 fun vs H Q E => ∃ (kp : Addr) (p : Vbkdai.Plan) (cs : List (Option Nat)), vs = [.ref kp] ∧ KpAt K H kp p cs ∧ Ret H Q fun v H' => InAt H' v (mText p)
def sp_Keeping_chance (K : PySem.W.Frag) : Sp := mkSp 4 fun vs H Q E => ∃ (kp : Addr) (p : Vbkdai.Plan) (cs : List (Option Nat)) (c k e : Int), vs = [.ref kp, .int c, .int k, .int e] ∧ KpAt K H kp p cs ∧ ROut K H Q E (mChance p c k e) fun l v H' => InAt H' v l
def sp_Keeping_how_often (K : PySem.W.Frag) : Sp := mkSp 6 fun vs H Q E => ∃ (kp : Addr) (p : Vbkdai.Plan) (cs : List (Option Nat)) (c k e a b : Int), vs = [.ref kp, .int c, .int k, .int e, .int a, .int b] ∧ KpAt K H kp p cs ∧ ROut K H Q E (mOften p c k e a b) fun l v H' => InAt H' v l
def sp_Keeping_part (K : PySem.W.Frag) : Sp := mkSp 3 fun vs H Q E => ∃ (kp : Addr) (p : Vbkdai.Plan) (cs : List (Option Nat)) (c k : Int), vs = [.ref kp, .int c, .int k] ∧ KpAt K H kp p cs ∧ ROut K H Q E (mPart p c k) fun l v H' => InAt H' v l
def sp_Keeping_belt (K : PySem.W.Frag) : Sp := mkSp 2 fun vs H Q E => ∃ (kp : Addr) (p : Vbkdai.Plan) (cs : List (Option Nat)) (c : Int), vs = [.ref kp, .int c] ∧ KpAt K H kp p cs ∧ ROut K H Q E (mBelt p c) fun l v H' => InAt H' v l
def sp_Keeping_would (K : PySem.W.Frag) : Sp := mkSp 3 fun vs H Q E => ∃ (kp : Addr) (p : Vbkdai.Plan) (cs : List (Option Nat)) (c n : Int), vs = [.ref kp, .int c, .int n] ∧ KpAt K H kp p cs ∧ ROut K H Q E (mWould p c n) fun l v H' => InAt H' v l
def sp_Keeping_leaves (K : PySem.W.Frag) : Sp := mkSp 2 fun vs H Q E => ∃ (kp : Addr) (p : Vbkdai.Plan) (cs : List (Option Nat)) (c : Int), vs = [.ref kp, .int c] ∧ KpAt K H kp p cs ∧ ROut K H Q E (mLeaves p cs c) fun l v H' => InAt H' v l
def sp_Keeping_apart (K : PySem.W.Frag) : Sp := mkSp 5 fun vs H Q E => ∃ (kp : Addr) (p : Vbkdai.Plan) (cs : List (Option Nat)) (c k j e : Int), vs = [.ref kp, .int c, .int k, .int j, .int e] ∧ KpAt K H kp p cs ∧ ROut K H Q E (mApart p c k j e) fun l v H' => InAt H' v l
def sp_Keeping_few (K : PySem.W.Frag) : Sp := mkSp 4 fun vs H Q E => ∃ (kp : Addr) (p : Vbkdai.Plan) (cs : List (Option Nat)) (c k e : Int), vs = [.ref kp, .int c, .int k, .int e] ∧ KpAt K H kp p cs ∧ ROut K H Q E (mFew p c k e) fun l v H' => InAt H' v l
def sp_Keeping_table (K : PySem.W.Frag) : Sp := mkSp 2 fun vs H Q E => ∃ (kp : Addr) (p : Vbkdai.Plan) (cs : List (Option Nat)) (c : Int), vs = [.ref kp, .int c] ∧ KpAt K H kp p cs ∧ ROut K H Q E (mTable p c) fun l v H' => InAt H' v l
theorem toN {z m : Int} (h : 0 ≤ z ∧ z ≤ m) : ∃ n : Nat, z = (n : Int) := ⟨z.toNat, by omega⟩
theorem pair_ref {H : Hp} {v : V} {x : Nat × Nat} (h : PAt H v x) : ∃ a, v = .ref a := let ⟨a, e, _⟩ := h; ⟨a, e⟩
theorem pairs_refs {H : Hp} : ∀ {vs : List V} {b : List (Nat × Nat)}, Paired (PAt H) vs b → refs vs
  | _, _, .nil => fun x hx => by cases hx
  | _, _, .cons h r => fun x hx => by
    rcases List.mem_cons.mp hx with e | hx
    · rw [e]
      exact pair_ref h
    · exact pairs_refs r x hx
theorem BeltAt.off {H : Hp} {v : V} {b : List (Nat × Nat)} {f : Addr} {ns : List Int} (h : BeltAt H v b) (hf : H f = some (.lst (ns.map V.int))) (n : 0 < ns.length) : BeltAt (del H f) v b := by
  obtain ⟨a, vs, rfl, ha, hv⟩ := h
  refine ⟨a, vs, rfl, ?_, paired_imp (fun _ _ z => z.off hf) hv⟩
  rw [del_ne (ne_of ha hf (fun z => ints_ne_refs n (pairs_refs hv) z.symm))]
  exact ha
theorem belt_len (g : Nat) (c : Vbkdai.Chan) : (Vbkdai.belt g c).length = g := by
  unfold Vbkdai.belt
  rw [List.length_map, List.length_range]
theorem parts_len (b : List (Nat × Nat)) (n : Nat) (h : b.length ≤ 12) : (Vbkdai.partsOf b n).length ≤ 12 := by
  unfold Vbkdai.partsOf
  exact Nat.le_trans filter_len h
theorem likely_perm (t : Nat) (p : Qd) (hp : Pr p) : (Vbkdai.byChance t p).Perm (List.range (t + 1)) := by
  rw [likely_law hp]
  exact allF_perm _
section
variable {P : Program} {w : World} {K : PySem.W.Frag} {mg : Str → Option Value} {base : Heap}
theorem sc_Keeping_told_text : FnScope N_Keeping_told_text ["self"] (defScope s_Keeping_told_text) := ⟨rfl, rfl, rfl, by decide +kernel, rfl, by decide +kernel, by decide +kernel⟩
theorem ok_Keeping_told_text (T : TX K mg) : FOk P w K mg base CX0 5 (He.ma K (He.ga K "Keeping") "told_text") ["self"] (sp_Keeping_told_text K) := by
  obtain ⟨fd, F⟩ := T.f_Keeping_told_text
  obtain ⟨fd0, G0, b0⟩ := ok_plan_bytes (P := P) (w := w) (base := base) T
  refine ⟨fd, F.ok sc_Keeping_told_text (fun _ _ _ _ h => h.1) (fun cdv A outer s H vs Q E hr h => ?_), F.binds fun _ _ _ _ _ _ us hl => match us, hl with | [_], _ => rfl⟩
  have hr0 := hr.mono (by decide : 4 ≤ 4)
  refine ⟨_, PSs.nox (pss_cons (ps_set (i := 1) sc_Keeping_told_text.nd rfl (.inl rfl) (pe_call G0 hr0 (by rfl) T.g_plan_bytes T.k_plan_bytes b0 .nil pass0 (pa_cons (pe_fld (pv 0) rfl) pa_nil)))
    (pss_one (ps_ret (pe_op op_cat (pe_lst (pa_cons (pe_callB call_len_seq (by rfl) T.n_len (by decide +kernel) (pa_cons (pv 1) pa_nil)) pa_nil)) (pv 1))))), ?_⟩
  obtain ⟨_, h⟩ := h
  obtain ⟨kp, p, cs, rfl, hK, q⟩ := h
  obtain ⟨dx, pv, cl, hk, hp, hcl, ok, lc⟩ := id hK
  have pl := planText_len ok
  refine ⟨_, rfl, kp, _, dx, _, _, rfl, hk, T.cl_Keeping, T.na_Keeping_plan, L_Keeping_plan, rfl, pv, p, rfl, hp, ok, fun v H1 e1 ⟨ra, ev, hr⟩ => ?_⟩
  subst ev
  refine ⟨_, rfl, ra, _, rfl, .inl (SqL.of hr), by show 1 ≤ sizeLine; decide, fun p1 n1 => ⟨_, rfl, p1, ra, _, _, rfl, rfl, upd_same, (Same.new n1) _ _ hr, ?_, fun p2 n2 => q _ _ ((e1.trans (Same.new n1)).trans (Same.new n2)) ⟨p2, rfl, ?_⟩⟩⟩
  · rw [nI_len]
    exact Nat.le_of_lt (Nat.lt_of_le_of_lt (show 1 + _ ≤ 1001 by omega) (by decide))
  · rw [upd_same, nI_len]
    rfl
theorem sc_Keeping_chance : FnScope N_Keeping_chance ["self", "c", "k", "e"] (defScope s_Keeping_chance) := ⟨rfl, rfl, rfl, by decide +kernel, rfl, by decide +kernel, by decide +kernel⟩
theorem ok_Keeping_chance (T : TX K mg) : FOk P w K mg base (L2.CX P w) 6 (He.ma K (He.ga K "Keeping") "chance") ["self", "c", "k", "e"] (sp_Keeping_chance K) := by
  obtain ⟨fd, F⟩ := T.f_Keeping_chance
  obtain ⟨fd0, G0, b0⟩ := ok_want_up_to (P := P) (w := w) (base := base) T
  obtain ⟨fd1, G1, b1⟩ := ok_Keeping_channel_at (P := P) (w := w) (base := base) T
  obtain ⟨fd2, G2, b2⟩ := ok_chance_at (P := P) (w := w) (base := base) T
  refine ⟨fd, F.okX sc_Keeping_chance (fun _ _ _ _ h => h.1) (fun cdv A outer s H vs Q E hr h => ?_), F.binds fun _ _ _ _ _ _ us hl => match us, hl with | [_, _, _, _], _ => rfl⟩
  have hr0 := hr.mono (by decide : 4 ≤ 5)
  have hr1 := hr.mono (by decide : 5 ≤ 5)
  have hr2 := hr.mono (by decide : 5 ≤ 5)
  refine ⟨_, (pss_cons (ps_expr (pe_call G0 hr0 (by rfl) T.g_want_up_to T.k_want_up_to b0 .nil (passes_call (takes_of rfl rfl rfl rfl) (fun _ _ _ _ h => h)) (pa_cons (pe_lst (pa_cons (pv 3) pa_nil)) (pa_cons (C8.pe_gc (by rfl) T.c_ENDING) pa_nil))))
    (pss_cons (ps_set (i := 4) sc_Keeping_chance.nd rfl (.inl rfl) (pe_meth (pv 0) T.cl_Keeping T.m_Keeping_channel_at G1 hr1 b1 .nil (passes_call (takes_of rfl rfl rfl rfl) (fun _ _ _ _ h => h)) (pa_cons (pv 1) (pa_cons (pe_lst (pa_cons (pv 2) pa_nil)) pa_nil))))
    (pss_one (ps_ret (pe_callTy call_list_of (by rfl) T.n_list (by decide +kernel) (pa_cons (pe_call G2 hr2 (by rfl) T.g_chance_at T.k_chance_at b2 .nil pass0 (pa_cons (pe_fld (pv 0) rfl) (pa_cons (pv 4) (pa_cons (pv 2) (pa_cons (pv 3) pa_nil))))) pa_nil)))))), ?_⟩
  obtain ⟨_, h⟩ := h
  obtain ⟨kp, p, cs, c, k, e, rfl, hK, qe, q⟩ := h
  obtain ⟨dx, pv, cl, hk, hp, hcl, ok, lc⟩ := id hK
  have g1 := ok.g1
  have g12 := ok.g12
  have c4 := ok.c4
  have k0 : Same H H := Same.refl H
  refine ⟨_, rfl, by show 1 ≤ sizeLine; decide, fun f1 n1 => ⟨rfl, .ref f1, [e], 1, rfl, ⟨f1, rfl, upd_same⟩, by show 1 ≤ 1000; decide, fun n hn => (qe n (by simp only [mChance, hn, Except.bind])).pre (k0.trans (Same.new n1)), fun x1 hx1 _ H1 e1 _ => ?_⟩⟩
  have k1 := (k0.trans (Same.new n1)).trans e1
  have b_e := upTo_ok hx1 e (by simp)
  refine ⟨_, rfl, kp, dx, _, rfl, k1 _ _ hk, L_Keeping_channel_at, _, rfl, _, rfl, by show 1 ≤ sizeLine; decide, fun f2 n2 => ⟨rfl, kp, p, cs, c, .ref f2, [k], rfl, hK.same (k1.trans (Same.new n2)), ⟨f2, rfl, upd_same⟩, by show 1 ≤ 1000; decide, fun n hn => (qe n (by simp only [mChance, hx1, hn, Except.bind])).pre (k1.trans (Same.new n2)), fun x hx2 vc H2 e2 hvc => ?_⟩⟩
  have k2 := (k1.trans (Same.new n2)).trans e2
  have cr := chanR_ok hx2
  have okx := ok.ch x (List.mem_of_getElem? cr.2.2)
  have t40 := okx.t40
  have b_k := cr.2.1 k (by simp)
  obtain ⟨en, rfl⟩ : ∃ m : Nat, e = (m : Int) := ⟨e.toNat, by omega⟩
  obtain ⟨kn, rfl⟩ : ∃ m : Nat, k = (m : Int) := ⟨k.toNat, by omega⟩
  refine ⟨_, rfl, kp, _, dx, _, _, rfl, k2 _ _ hk, T.cl_Keeping, T.na_Keeping_plan, L_Keeping_plan, _, rfl, _, rfl, _, rfl, rfl, p, x, pv, vc, kn, en, rfl, hp.same k2, hvc, okx, g12, by omega, by omega, fun v H9 e9 ⟨fa, ev, hf⟩ => ?_⟩
  have k3 := k2.trans e9
  subst ev
  have hm : mChance p c kn en = .ok (Vbkdai.qRow (Vbkdai.chanceAt p.parts x kn en)) := by first | (simp only [mChance, hx1, hx2, Except.bind]; done) | (simp only [mChance, hx1, hx2, Except.bind]; rfl)
  exact ⟨fa, _, rfl, .inr hf, fun l nl => q _ hm _ _ (k3.trans (Same.new nl)) ⟨l, rfl, upd_same⟩⟩
theorem sc_Keeping_how_often : FnScope N_Keeping_how_often ["self", "c", "k", "e", "a", "b"] (defScope s_Keeping_how_often) := ⟨rfl, rfl, rfl, by decide +kernel, rfl, by decide +kernel, by decide +kernel⟩
theorem ok_Keeping_how_often (T : TX K mg) : FOk P w K mg base (L2.CX P w) 7 (He.ma K (He.ga K "Keeping") "how_often") ["self", "c", "k", "e", "a", "b"] (sp_Keeping_how_often K) := by
  obtain ⟨fd, F⟩ := T.f_Keeping_how_often
  obtain ⟨fd0, G0, b0⟩ := ok_want_up_to (P := P) (w := w) (base := base) T
  obtain ⟨fd1, G1, b1⟩ := ok_want (P := P) (w := w) (base := base) T
  obtain ⟨fd2, G2, b2⟩ := ok_Keeping_channel_at (P := P) (w := w) (base := base) T
  obtain ⟨fd3, G3, b3⟩ := ok_spread_at (P := P) (w := w) (base := base) T
  obtain ⟨fd4, G4, b4⟩ := ok_Spread_often (P := P) (w := w) (base := base) T
  refine ⟨fd, F.okX sc_Keeping_how_often (fun _ _ _ _ h => h.1) (fun cdv A outer s H vs Q E hr h => ?_), F.binds fun _ _ _ _ _ _ us hl => match us, hl with | [_, _, _, _, _, _], _ => rfl⟩
  have hr0 := hr.mono (by decide : 4 ≤ 6)
  have hr1 := hr.mono (by decide : 3 ≤ 6)
  have hr2 := hr.mono (by decide : 5 ≤ 6)
  have hr3 := hr.mono (by decide : 6 ≤ 6)
  have hr4 := hr.mono (by decide : 3 ≤ 6)
  refine ⟨_, (pss_cons (ps_expr (pe_call G0 hr0 (by rfl) T.g_want_up_to T.k_want_up_to b0 .nil (passes_call (takes_of rfl rfl rfl rfl) (fun _ _ _ _ h => h)) (pa_cons (pe_lst (pa_cons (pv 3) pa_nil)) (pa_cons (C8.pe_gc (by rfl) T.c_ENDING) pa_nil))))
    (pss_cons (ps_expr (pe_call G0 hr0 (by rfl) T.g_want_up_to T.k_want_up_to b0 .nil (passes_call (takes_of rfl rfl rfl rfl) (fun _ _ _ _ h => h)) (pa_cons (pe_lst (pa_cons (pv 4) (pa_cons (pv 5) pa_nil))) (pa_cons (C8.pe_gc (by rfl) T.c_MOST_TRIALS) pa_nil))))
    (pss_cons (ps_expr (pe_call G1 hr1 (by rfl) T.g_want T.k_want b1 .nil (passes_call (takes_of rfl rfl rfl rfl) (fun _ _ _ _ h => h)) (pa_cons (pe_cmpR op_le (pv 4) (pv 5) (by rfl)) (pa_cons (C8.pe_gc (by rfl) T.c_NOT_AS_TOLD) pa_nil))))
    (pss_cons (ps_set (i := 6) sc_Keeping_how_often.nd rfl (.inl rfl) (pe_meth (pv 0) T.cl_Keeping T.m_Keeping_channel_at G2 hr2 b2 .nil (passes_call (takes_of rfl rfl rfl rfl) (fun _ _ _ _ h => h)) (pa_cons (pv 1) (pa_cons (pe_lst (pa_cons (pv 2) pa_nil)) pa_nil))))
    (pss_cons (ps_expr (pe_call G1 hr1 (by rfl) T.g_want T.k_want b1 .nil (passes_call (takes_of rfl rfl rfl rfl) (fun _ _ _ _ h => h)) (pa_cons (pe_cmpR op_le (pv 5) (pe_fld (pv 6) rfl) (by rfl)) (pa_cons (C8.pe_gc (by rfl) T.c_TOO_GREAT) pa_nil))))
    (pss_one (ps_ret (pe_callTy call_list_of (by rfl) T.n_list (by decide +kernel) (pa_cons (pe_meth (pe_call G3 hr3 (by rfl) T.g_spread_at T.k_spread_at b3 .nil pass0 (pa_cons (pe_fld (pv 0) rfl) (pa_cons (pv 6) (pa_cons (pv 2) (pa_cons (pv 3) pa_nil))))) T.cl_Spread T.m_Spread_often G4 hr4 b4 .nil pass0 (pa_cons (pv 4) (pa_cons (pv 5) pa_nil))) pa_nil))))))))), ?_⟩
  obtain ⟨_, h⟩ := h
  obtain ⟨kp, p, cs, c, k, e, a, b, rfl, hK, qe, q⟩ := h
  obtain ⟨dx, pv, cl, hk, hp, hcl, ok, lc⟩ := id hK
  have g1 := ok.g1
  have g12 := ok.g12
  have c4 := ok.c4
  have k0 : Same H H := Same.refl H
  refine ⟨_, rfl, by show 1 ≤ sizeLine; decide, fun f1 n1 => ⟨rfl, .ref f1, [e], 1, rfl, ⟨f1, rfl, upd_same⟩, by show 1 ≤ 1000; decide, fun n hn => (qe n (by simp only [mOften, hn, Except.bind])).pre (k0.trans (Same.new n1)), fun x1 hx1 _ H1 e1 _ => ?_⟩⟩
  have k1 := (k0.trans (Same.new n1)).trans e1
  have b_e := upTo_ok hx1 e (by simp)
  refine ⟨_, rfl, _, rfl, by show 2 ≤ sizeLine; decide, fun f2 n2 => ⟨rfl, .ref f2, [a, b], 40, rfl, ⟨f2, rfl, upd_same⟩, by show 2 ≤ 1000; decide, fun n hn => (qe n (by simp only [mOften, hx1, hn, Except.bind])).pre (k1.trans (Same.new n2)), fun x2 hx2 _ H2 e2 _ => ?_⟩⟩
  have k2 := (k1.trans (Same.new n2)).trans e2
  have b_a := upTo_ok hx2 a (by simp)
  have b_b := upTo_ok hx2 b (by simp)
  refine ⟨_, rfl, _, rfl, _, _, rfl, rfl, rfl, decide (a ≤ b), -1, rfl, fun n hn => (qe n (by simp only [mOften, hx1, hx2, hn, Except.bind])).pre k2, fun u3 hx3 _ H3 e3 _ => ?_⟩
  have hb3 := wantB_ok hx3
  have k3 := k2.trans e3
  refine ⟨_, rfl, kp, dx, _, rfl, k3 _ _ hk, L_Keeping_channel_at, _, rfl, _, rfl, by show 1 ≤ sizeLine; decide, fun f4 n4 => ⟨rfl, kp, p, cs, c, .ref f4, [k], rfl, hK.same (k3.trans (Same.new n4)), ⟨f4, rfl, upd_same⟩, by show 1 ≤ 1000; decide, fun n hn => (qe n (by simp only [mOften, hx1, hx2, hx3, hn, Except.bind])).pre (k3.trans (Same.new n4)), fun x hx4 vc H4 e4 hvc => ?_⟩⟩
  have k4 := (k3.trans (Same.new n4)).trans e4
  have cr := chanR_ok hx4
  have okx := ok.ch x (List.mem_of_getElem? cr.2.2)
  have t40 := okx.t40
  have b_k := cr.2.1 k (by simp)
  obtain ⟨ca, cdx, nm, cb, cg, csu, rfl, hca, _⟩ := id hvc
  refine ⟨_, rfl, _, rfl, ca, _, cdx, _, _, rfl, hca, T.cl_Channel, T.na_Channel_trials, L_Channel_trials, _, _, rfl, rfl, rfl, decide (b ≤ (x.trials : Int)), -3, rfl, fun n hn => (qe n (by simp only [mOften, hx1, hx2, hx3, hx4, hn, Except.bind])).pre k4, fun u5 hx5 _ H5 e5 _ => ?_⟩
  have hb5 := wantB_ok hx5
  have k5 := k4.trans e5
  have bt := of_decide_eq_true hb5
  obtain ⟨en, rfl⟩ : ∃ m : Nat, e = (m : Int) := ⟨e.toNat, by omega⟩
  obtain ⟨kn, rfl⟩ : ∃ m : Nat, k = (m : Int) := ⟨k.toNat, by omega⟩
  obtain ⟨an, rfl⟩ : ∃ m : Nat, a = (m : Int) := ⟨a.toNat, by omega⟩
  obtain ⟨bn, rfl⟩ : ∃ m : Nat, b = (m : Int) := ⟨b.toNat, by omega⟩
  refine ⟨_, rfl, kp, _, dx, _, _, rfl, k5 _ _ hk, T.cl_Keeping, T.na_Keeping_plan, L_Keeping_plan, _, rfl, _, rfl, _, rfl, rfl, p, x, pv, _, kn, en, rfl, hp.same k5, hvc.same e5, okx, g12, by omega, by omega, fun vs H8 e8 hs => ?_⟩
  have k6 := k5.trans e8
  obtain ⟨sa, sdx, sl, rfl, hs1, hs2⟩ := id hs
  have pr := chanceAt_pr okx g12 (show kn < p.parts by omega) (show en ≤ 1 by omega)
  refine ⟨sa, sdx, _, rfl, hs1, L_Spread_often, _, rfl, _, rfl, rfl, _, x.trials, _, an, bn, rfl, hs, pr, t40, fun vf H9 e9 ⟨fa, ev, hf⟩ => ?_⟩
  have k7 := k6.trans e9
  subst ev
  rw [often_chance (show bn ≤ x.trials by omega)] at hf
  have hm : mOften p c kn en an bn = .ok (Vbkdai.qRow (Vbkdai.chance x.trials (Vbkdai.chanceAt p.parts x kn en) an bn)) := by first | (simp only [mOften, hx1, hx2, hx3, hx4, hx5, Except.bind]; done) | (simp only [mOften, hx1, hx2, hx3, hx4, hx5, Except.bind]; rfl)
  exact ⟨fa, _, rfl, .inr hf, fun l nl => q _ hm _ _ (k7.trans (Same.new nl)) ⟨l, rfl, upd_same⟩⟩
theorem sc_Keeping_part : FnScope N_Keeping_part ["self", "c", "k"] (defScope s_Keeping_part) := ⟨rfl, rfl, rfl, by decide +kernel, rfl, by decide +kernel, by decide +kernel⟩
theorem ok_Keeping_part (T : TX K mg) : FOk P w K mg base (L2.CX P w) 9 (He.ma K (He.ga K "Keeping") "part") ["self", "c", "k"] (sp_Keeping_part K) := by
  obtain ⟨fd, F⟩ := T.f_Keeping_part
  obtain ⟨fd0, G0, b0⟩ := ok_Keeping_channel_at (P := P) (w := w) (base := base) T
  obtain ⟨fd1, G1, b1⟩ := ok_part_let (P := P) (w := w) (base := base) T
  obtain ⟨fd2, G2, b2⟩ := ok_spread_at (P := P) (w := w) (base := base) T
  obtain ⟨fd3, G3, b3⟩ := ok_Spread_often (P := P) (w := w) (base := base) T
  refine ⟨fd, F.okX sc_Keeping_part (fun _ _ _ _ h => h.1) (fun cdv A outer s H vs Q E hr h => ?_), F.binds fun _ _ _ _ _ _ us hl => match us, hl with | [_, _, _], _ => rfl⟩
  have hr0 := hr.mono (by decide : 5 ≤ 8)
  have hr1 := hr.mono (by decide : 8 ≤ 8)
  have hr2 := hr.mono (by decide : 6 ≤ 8)
  have hr3 := hr.mono (by decide : 3 ≤ 8)
  refine ⟨_, (pss_cons (ps_set (i := 3) sc_Keeping_part.nd rfl (.inl rfl) (pe_meth (pv 0) T.cl_Keeping T.m_Keeping_channel_at G0 hr0 b0 .nil (passes_call (takes_of rfl rfl rfl rfl) (fun _ _ _ _ h => h)) (pa_cons (pv 1) (pa_cons (pe_lst (pa_cons (pv 2) pa_nil)) pa_nil))))
    (pss_cons (ps_asg (pe_call G1 hr1 (by rfl) T.g_part_let T.k_part_let b1 .nil pass0 (pa_cons (pe_fld (pv 0) rfl) (pa_cons (pv 3) (pa_cons (pv 2) pa_nil)))) (pg_tup (by rfl) (pgs_cons (pg_name (i := 4) sc_Keeping_part.nd rfl (.inl rfl)) (pgs_cons (pg_name (i := 5) sc_Keeping_part.nd rfl (.inl rfl)) pgs_nil))))
    (pss_cons (ps_set (i := 6) sc_Keeping_part.nd rfl (.inl rfl) (pe_lst (pa_cons (pv 4) (pa_cons (pv 5) pa_nil))))
    (pss_cons (ps_for (passes_of rfl) rfl (pi_tup (pe_tup (pa_cons (C8.pe_gc (by rfl) T.c_BEGINNING) (pa_cons (C8.pe_gc (by rfl) T.c_ENDING) pa_nil)))) (pg_name (i := 7) sc_Keeping_part.nd rfl (.inl rfl)) (pss_one (ps_expr (pe_bm PySem.F.plainAttrs_list PySem.F.slot_list_extend PySem.F.type_list_extend mt_extend (pv 6) (pa_cons (pe_callTy call_list_of (by rfl) T.n_list (by decide +kernel) (pa_cons (pe_meth (pe_call G2 hr2 (by rfl) T.g_spread_at T.k_spread_at b2 .nil pass0 (pa_cons (pe_fld (pv 0) rfl) (pa_cons (pv 3) (pa_cons (pv 2) (pa_cons (pv 7) pa_nil))))) T.cl_Spread T.m_Spread_often G3 hr3 b3 .nil pass0 (pa_cons (pv 4) (pa_cons (pv 5) pa_nil))) pa_nil)) pa_nil)))))
    (pss_one (ps_ret (pv 6))))))), ?_⟩
  obtain ⟨_, h⟩ := h
  obtain ⟨kp, p, cs, c, k, rfl, hK, qe, q⟩ := h
  obtain ⟨dx, pv, cl, hk, hp, hcl, ok, lc⟩ := id hK
  have g1 := ok.g1
  have g12 := ok.g12
  have c4 := ok.c4
  have k0 : Same H H := Same.refl H
  refine ⟨_, rfl, kp, dx, _, rfl, k0 _ _ hk, L_Keeping_channel_at, _, rfl, _, rfl, by show 1 ≤ sizeLine; decide, fun f1 n1 => ⟨rfl, kp, p, cs, c, .ref f1, [k], rfl, hK.same (k0.trans (Same.new n1)), ⟨f1, rfl, upd_same⟩, by show 1 ≤ 1000; decide, fun n hn => (qe n (by simp only [mPart, hn, Except.bind])).pre (k0.trans (Same.new n1)), fun x hx1 vc H1 e1 hvc => ?_⟩⟩
  have k1 := (k0.trans (Same.new n1)).trans e1
  have cr := chanR_ok hx1
  have okx := ok.ch x (List.mem_of_getElem? cr.2.2)
  have t40 := okx.t40
  have b_k := cr.2.1 k (by simp)
  obtain ⟨kn, rfl⟩ : ∃ m : Nat, k = (m : Int) := ⟨k.toNat, by omega⟩
  refine ⟨_, rfl, kp, _, dx, _, _, rfl, k1 _ _ hk, T.cl_Keeping, T.na_Keeping_plan, L_Keeping_plan, _, rfl, _, rfl, rfl, p, x, pv, vc, kn, rfl, hp.same k1, hvc, okx, g12, by omega, fun v1 H8 e8 ⟨a1, ea, h1⟩ => ?_⟩
  have k2 := k1.trans e8
  subst ea
  refine ⟨a1, _, rfl, SqT.of h1, rfl, _, _, rfl, _, _, rfl, rfl, ?_⟩
  have lb := letIn_le okx g12 (show kn < p.parts by omega)
  refine ⟨_, rfl, _, rfl, by show 2 ≤ sizeLine; decide, fun F nF => ?_⟩
  generalize hy : Vbkdai.letIn p.parts x kn = y at *
  have kF : Same H8 (upd H8 F (.lst [.int (y.1 : Int), .int (y.2 : Int)])) := Same.new nF
  have hF : (upd H8 F (.lst [.int (y.1 : Int), .int (y.2 : Int)])) F = some (.lst ((Vbkdai.ints [y.1, y.2] ++ (List.range 0).flatMap fun e => Vbkdai.qRow (Vbkdai.chance x.trials (Vbkdai.chanceAt p.parts x kn e) y.1 y.2)).map V.int)) := upd_same
  generalize upd H8 F (.lst [.int (y.1 : Int), .int (y.2 : Int)]) = H7 at kF hF ⊢
  refine ⟨by show 2 ≤ sizeLine; decide, fun t nt => ?_⟩
  have kt : Same H7 (upd H7 t (.tup [.int 0, .int 1])) := Same.new nt
  have ht : (upd H7 t (.tup [.int 0, .int 1])) t = some (.tup [.int 0, .int 1]) := upd_same
  generalize upd H7 t (.tup [.int 0, .int 1]) = H6 at kt ht ⊢
  have tF : t ≠ F := fun z => by rw [z, hF] at nt; cases nt
  refine ⟨t, rfl, ⟨_, SqT.of ht⟩, for_tup (K := K) (a := t) (xs := [.int 0, .int 1])
    (fun i σ H' => ∃ v7, σ = [some (.ref kp), some (.int c), some (.int (kn : Int)), some vc, some (.int (y.1 : Int)), some (.int (y.2 : Int)), some (.ref F), v7] ∧ Same H8 H' ∧ H' t = some (.tup [.int 0, .int 1]) ∧ H' F = some (.lst ((Vbkdai.ints [y.1, y.2] ++ (List.range i).flatMap fun e => Vbkdai.qRow (Vbkdai.chance x.trials (Vbkdai.chanceAt p.parts x kn e) y.1 y.2)).map V.int)))
    ⟨none, rfl, kF.trans kt, ht, kt _ _ hF⟩ (fun i σ H' _ ⟨_, _, _, ht, _⟩ => SqT.of ht) ?_ ?_⟩
  · rintro i z σ H' hz ⟨v7, rfl, e8', ht, hF⟩
    have e := k2.trans e8'
    have hv := (hvc.same e8).same e8'
    have il : i < 2 := (List.getElem?_eq_some_iff.mp hz).1
    have ez : z = V.int (i : Int) := by
      rcases (show i = 0 ∨ i = 1 by omega) with rfl | rfl
      · exact (Option.some.inj hz).symm
      · exact (Option.some.inj hz).symm
    subst ez
    have pr := chanceAt_pr okx g12 (show kn < p.parts by omega) (show i ≤ 1 by omega)
    refine ⟨_, rfl, Or.inl ⟨rfl, _, SqL.of hF⟩, _, rfl, kp, _, dx, _, _, rfl, e _ _ hk, T.cl_Keeping, T.na_Keeping_plan, L_Keeping_plan, _, rfl, _, rfl, _, rfl, rfl, p, x, pv, vc, kn, i, rfl, hp.same e, hv, okx, g12, by omega, by omega, fun vs H2 e2 hs => ?_⟩
    obtain ⟨sa, sdx, sl, rfl, hs1, hs2⟩ := id hs
    refine ⟨sa, sdx, _, rfl, hs1, L_Spread_often, _, rfl, _, rfl, rfl, _, x.trials, _, y.1, y.2, rfl, hs, pr, t40, fun vf H3 e3 ⟨fa, ev, hf⟩ => ?_⟩
    subst ev
    rw [often_chance lb] at hf
    refine ⟨fa, _, rfl, .inr hf, fun l nl => ?_⟩
    have e4 := (e2.trans e3).trans (Same.new (o := .lst (qV (Vbkdai.chance x.trials (Vbkdai.chanceAt p.parts x kn i) y.1 y.2))) nl)
    have Ft : F ≠ t := Ne.symm tF
    refine ⟨F, l, _, _, rfl, rfl, e4 _ _ hF, upd_same, ?_, some (.int (i : Int)), rfl, (e8'.trans e4).mut nF, ?_, ?_⟩
    · rcases (show i = 0 ∨ i = 1 by omega) with rfl | rfl
      · exact Nat.le_of_lt (small1000 (show 2 + 2 ≤ 1000 by omega))
      · exact Nat.le_of_lt (small1000 (show 4 + 2 ≤ 1000 by omega))
    · rw [upd_ne tF]
      exact e4 _ _ ht
    · rw [upd_same, List.range_succ, List.flatMap_append, ← List.append_assoc, List.map_append (l₂ := List.flatMap _ [i])]
      rfl
  · rintro σ H' ⟨v7, rfl, e, ht, hF⟩
    have hm : mPart p c kn = .ok (Vbkdai.ints [y.1, y.2] ++ (Vbkdai.qRow (Vbkdai.chance x.trials (Vbkdai.chanceAt p.parts x kn 0) y.1 y.2) ++ Vbkdai.qRow (Vbkdai.chance x.trials (Vbkdai.chanceAt p.parts x kn 1) y.1 y.2))) := by
      simp only [mPart, hx1, Except.bind]
      rw [← hy]
      rfl
    exact ⟨_, rfl, q _ hm _ _ (k2.trans e) ⟨F, rfl, hF⟩⟩
theorem sc_Keeping_belt : FnScope N_Keeping_belt ["self", "c"] (defScope s_Keeping_belt) := ⟨rfl, rfl, rfl, by decide +kernel, rfl, by decide +kernel, by decide +kernel⟩
theorem ok_Keeping_belt (T : TX K mg) : FOk P w K mg base (L2.CX P w) 9 (He.ma K (He.ga K "Keeping") "belt") ["self", "c"] (sp_Keeping_belt K) := by
  obtain ⟨fd, F⟩ := T.f_Keeping_belt
  obtain ⟨fd0, G0, b0⟩ := ok_Keeping_channel_at (P := P) (w := w) (base := base) T
  obtain ⟨fd1, G1, b1⟩ := ok_belt_of (P := P) (w := w) (base := base) T
  refine ⟨fd, F.okX sc_Keeping_belt (fun _ _ _ _ h => h.1) (fun cdv A outer s H vs Q E hr h => ?_), F.binds fun _ _ _ _ _ _ us hl => match us, hl with | [_, _], _ => rfl⟩
  have hr0 := hr.mono (by decide : 5 ≤ 8)
  have hr1 := hr.mono (by decide : 8 ≤ 8)
  refine ⟨_, (pss_cons (ps_set (i := 2) sc_Keeping_belt.nd rfl (.inl rfl) (pe_meth (pv 0) T.cl_Keeping T.m_Keeping_channel_at G0 hr0 b0 .nil (passes_call (takes_of rfl rfl rfl rfl) (fun _ _ _ _ h => h)) (pa_cons (pv 1) (pa_cons (pe_lst pa_nil) pa_nil))))
    (pss_cons (ps_set (i := 3) sc_Keeping_belt.nd rfl (.inl rfl) (pe_lst (pa_cons (pe_fld (pe_fld (pv 0) rfl) rfl) pa_nil)))
    (pss_cons (ps_for (passes_of rfl) rfl (pi_list (pe_call G1 hr1 (by rfl) T.g_belt_of T.k_belt_of b1 .nil pass0 (pa_cons (pe_fld (pv 0) rfl) (pa_cons (pv 2) pa_nil)))) (pg_tup (by rfl) (pgs_cons (pg_name (i := 4) sc_Keeping_belt.nd rfl (.inl rfl)) (pgs_cons (pg_name (i := 5) sc_Keeping_belt.nd rfl (.inl rfl)) pgs_nil))) (pss_one (ps_expr (pe_bm PySem.F.plainAttrs_list PySem.F.slot_list_extend PySem.F.type_list_extend mt_extend (pv 3) (pa_cons (pe_lst (pa_cons (pv 4) (pa_cons (pv 5) pa_nil))) pa_nil)))))
    (pss_one (ps_ret (pv 3)))))), ?_⟩
  obtain ⟨_, h⟩ := h
  obtain ⟨kp, p, cs, c, rfl, hK, qe, q⟩ := h
  obtain ⟨dx, pv, cl, hk, hp, hcl, ok, lc⟩ := id hK
  have g1 := ok.g1
  have g12 := ok.g12
  have c4 := ok.c4
  have k0 : Same H H := Same.refl H
  refine ⟨_, rfl, kp, dx, _, rfl, k0 _ _ hk, L_Keeping_channel_at, _, rfl, by show 0 ≤ sizeLine; decide, fun f1 n1 => ⟨rfl, kp, p, cs, c, .ref f1, [], rfl, hK.same (k0.trans (Same.new n1)), ⟨f1, rfl, upd_same⟩, by show 0 ≤ 1000; decide, fun n hn => (qe n (by simp only [mBelt, hn, Except.bind])).pre (k0.trans (Same.new n1)), fun x hx1 vc H1 e1 hvc => ?_⟩⟩
  have k1 := (k0.trans (Same.new n1)).trans e1
  have cr := chanR_ok hx1
  have okx := ok.ch x (List.mem_of_getElem? cr.2.2)
  have t40 := okx.t40
  obtain ⟨pa, pdx, pl, pvs, ep, hpa, hpl, hpv⟩ := id hp
  subst ep
  refine ⟨_, rfl, kp, _, dx, _, _, rfl, k1 _ _ hk, T.cl_Keeping, T.na_Keeping_plan, L_Keeping_plan, pa, _, pdx, _, _, rfl, k1 _ _ hpa, T.cl_Plan, T.na_Plan_parts, L_Plan_parts, by show 1 ≤ sizeLine; decide, fun F nF => ?_⟩
  have kF : Same H1 (upd H1 F (.lst [.int (p.parts : Int)])) := Same.new nF
  have hF : (upd H1 F (.lst [.int (p.parts : Int)])) F = some (.lst ([(p.parts : Int)].map V.int)) := upd_same
  have nF0 : H F = none := by
    cases z : H F with
    | none => rfl
    | some o => rw [k1 _ _ z] at nF; cases nF
  generalize upd H1 F (.lst [.int (p.parts : Int)]) = H7 at kF hF ⊢
  have k7 := k1.trans kF
  refine ⟨_, rfl, kp, _, dx, _, _, rfl, k7 _ _ hk, T.cl_Keeping, T.na_Keeping_plan, L_Keeping_plan, _, rfl, rfl, p, x, _, vc, rfl, hp.same k7, hvc.same kF, okx, g12, fun vb H8 e8 hb => ?_⟩
  have hF8 := e8 _ _ hF
  have hbo := hb.off (ns := [(p.parts : Int)]) hF8 Nat.one_pos
  obtain ⟨ba, bvs, rfl, hba, hbv⟩ := hbo
  have lb := paired_len hbv
  rw [belt_len] at lb
  have bF : ba ≠ F := fun z => by rw [z, del_same] at hba; cases hba
  rw [del_ne bF] at hba
  refine ⟨ba, rfl, ⟨_, SqL.of hba⟩, for_list (K := K) (a := ba) (xs := bvs)
    (fun i σ H' => ∃ v4 v5, σ = [some (.ref kp), some (.int c), some vc, some (.ref F), v4, v5] ∧ Same H H' ∧ H' ba = some (.lst bvs) ∧ Paired (PAt (del H' F)) bvs (Vbkdai.belt p.parts x) ∧ H' F = some (.lst (((p.parts : Int) :: ((Vbkdai.belt p.parts x).take i).flatMap fun y => Vbkdai.ints [y.1, y.2]).map V.int)))
    ⟨none, none, rfl, k7.trans e8, hba, hbv, hF8⟩ (fun i σ H' _ ⟨_, _, _, _, h, _⟩ => SqL.of h) ?_ ?_⟩
  · rintro i z σ H' hz ⟨v4, v5, rfl, e, hba, hbv, hF⟩
    obtain ⟨y, hy, a1, ea, h1⟩ := paired_at' hbv hz
    subst ea
    have il := (List.getElem?_eq_some_iff.mp hz).1
    refine ⟨a1, _, rfl, SqT.of (same_del _ _ h1), rfl, _, _, rfl, _, _, rfl, rfl, ?_⟩
    refine ⟨_, rfl, Or.inl ⟨rfl, _, SqL.of hF⟩, _, rfl, _, rfl, by show 2 ≤ sizeLine; decide, fun l nl => ?_⟩
    have kl : Same H' (upd H' l (.lst [.int (y.1 : Int), .int (y.2 : Int)])) := Same.new nl
    have lF : F ≠ l := ne_of_none hF nl
    have ll : ((((p.parts : Int) :: ((Vbkdai.belt p.parts x).take i).flatMap fun y => Vbkdai.ints [y.1, y.2]).map V.int)).length = 1 + 2 * i := by
      rw [List.length_map, List.length_cons]
      have : ∀ l : List (Nat × Nat), (l.flatMap fun y => Vbkdai.ints [y.1, y.2]).length = 2 * l.length := fun l => by
        induction l with
        | nil => rfl
        | cons a r ih =>
          rw [List.flatMap_cons, List.length_append, ih, List.length_cons]
          show 2 + _ = _
          omega
      rw [this, List.length_take, belt_len]
      omega
    refine ⟨F, l, _, _, rfl, rfl, kl _ _ hF, upd_same, ?_, some (.int (y.1 : Int)), some (.int (y.2 : Int)), rfl, (e.trans kl).mut nF0, ?_, ?_, ?_⟩
    · rw [ll]
      exact Nat.le_of_lt (small1000 (show 1 + 2 * i + 2 ≤ 1000 by omega))
    · rw [upd_ne bF]
      exact kl _ _ hba
    · rw [del_upd]
      exact paired_imp (fun _ _ z => z.same (Same_del kl)) hbv
    · rw [upd_same, take_succ hy, List.flatMap_append, List.map_cons, List.map_cons, List.map_append, List.cons_append]
      rfl
  · rintro σ H' ⟨v4, v5, rfl, e, hba, hbv, hF⟩
    rw [lb, List.take_of_length_le (by rw [belt_len]; exact Nat.le_refl _)] at hF
    exact ⟨_, rfl, q _ (by simp only [mBelt, hx1, Except.bind]) _ _ e ⟨F, rfl, hF⟩⟩
theorem sc_Keeping_would : FnScope N_Keeping_would ["self", "c", "n"] (defScope s_Keeping_would) := ⟨rfl, rfl, rfl, by decide +kernel, rfl, by decide +kernel, by decide +kernel⟩
theorem ok_Keeping_would (T : TX K mg) : FOk P w K mg base (L2.CX P w) 9 (He.ma K (He.ga K "Keeping") "would") ["self", "c", "n"] (sp_Keeping_would K) := by
  obtain ⟨fd, F⟩ := T.f_Keeping_would
  obtain ⟨fd0, G0, b0⟩ := ok_want_up_to (P := P) (w := w) (base := base) T
  obtain ⟨fd1, G1, b1⟩ := ok_Keeping_channel_at (P := P) (w := w) (base := base) T
  obtain ⟨fd2, G2, b2⟩ := ok_want (P := P) (w := w) (base := base) T
  obtain ⟨fd3, G3, b3⟩ := ok_belt_of (P := P) (w := w) (base := base) T
  obtain ⟨fd4, G4, b4⟩ := ok_parts_left (P := P) (w := w) (base := base) T
  obtain ⟨fd5, G5, b5⟩ := ok_parts_told (P := P) (w := w) (base := base) T
  refine ⟨fd, F.okX sc_Keeping_would (fun _ _ _ _ h => h.1) (fun cdv A outer s H vs Q E hr h => ?_), F.binds fun _ _ _ _ _ _ us hl => match us, hl with | [_, _, _], _ => rfl⟩
  have hr0 := hr.mono (by decide : 4 ≤ 8)
  have hr1 := hr.mono (by decide : 5 ≤ 8)
  have hr2 := hr.mono (by decide : 3 ≤ 8)
  have hr3 := hr.mono (by decide : 8 ≤ 8)
  have hr4 := hr.mono (by decide : 1 ≤ 8)
  have hr5 := hr.mono (by decide : 3 ≤ 8)
  refine ⟨_, (pss_cons (ps_expr (pe_call G0 hr0 (by rfl) T.g_want_up_to T.k_want_up_to b0 .nil (passes_call (takes_of rfl rfl rfl rfl) (fun _ _ _ _ h => h)) (pa_cons (pe_lst (pa_cons (pv 2) pa_nil)) (pa_cons (C8.pe_gc (by rfl) T.c_MOST_TRIALS) pa_nil))))
    (pss_cons (ps_set (i := 3) sc_Keeping_would.nd rfl (.inl rfl) (pe_meth (pv 0) T.cl_Keeping T.m_Keeping_channel_at G1 hr1 b1 .nil (passes_call (takes_of rfl rfl rfl rfl) (fun _ _ _ _ h => h)) (pa_cons (pv 1) (pa_cons (pe_lst pa_nil) pa_nil))))
    (pss_cons (ps_expr (pe_call G2 hr2 (by rfl) T.g_want T.k_want b2 .nil (passes_call (takes_of rfl rfl rfl rfl) (fun _ _ _ _ h => h)) (pa_cons (pe_cmpR op_le (pv 2) (pe_fld (pv 3) rfl) (by rfl)) (pa_cons (C8.pe_gc (by rfl) T.c_TOO_GREAT) pa_nil))))
    (pss_one (ps_ret (pe_call G5 hr5 (by rfl) T.g_parts_told T.k_parts_told b5 .nil pass0 (pa_cons (pe_fld (pv 0) rfl) (pa_cons (pe_call G4 hr4 (by rfl) T.g_parts_left T.k_parts_left b4 .nil pass0 (pa_cons (pe_call G3 hr3 (by rfl) T.g_belt_of T.k_belt_of b3 .nil pass0 (pa_cons (pe_fld (pv 0) rfl) (pa_cons (pv 3) pa_nil))) (pa_cons (pv 2) pa_nil))) pa_nil)))))))), ?_⟩
  obtain ⟨_, h⟩ := h
  obtain ⟨kp, p, cs, c, n, rfl, hK, qe, q⟩ := h
  obtain ⟨dx, pv, cl, hk, hp, hcl, ok, lc⟩ := id hK
  have g1 := ok.g1
  have g12 := ok.g12
  have c4 := ok.c4
  have k0 : Same H H := Same.refl H
  refine ⟨_, rfl, by show 1 ≤ sizeLine; decide, fun f1 n1 => ⟨rfl, .ref f1, [n], 40, rfl, ⟨f1, rfl, upd_same⟩, by show 1 ≤ 1000; decide, fun n hn => (qe n (by simp only [mWould, hn, Except.bind])).pre (k0.trans (Same.new n1)), fun x1 hx1 _ H1 e1 _ => ?_⟩⟩
  have k1 := (k0.trans (Same.new n1)).trans e1
  have b_n := upTo_ok hx1 n (by simp)
  refine ⟨_, rfl, kp, dx, _, rfl, k1 _ _ hk, L_Keeping_channel_at, _, rfl, by show 0 ≤ sizeLine; decide, fun f2 n2 => ⟨rfl, kp, p, cs, c, .ref f2, [], rfl, hK.same (k1.trans (Same.new n2)), ⟨f2, rfl, upd_same⟩, by show 0 ≤ 1000; decide, fun n hn => (qe n (by simp only [mWould, hx1, hn, Except.bind])).pre (k1.trans (Same.new n2)), fun x hx2 vc H2 e2 hvc => ?_⟩⟩
  have k2 := (k1.trans (Same.new n2)).trans e2
  have cr := chanR_ok hx2
  have okx := ok.ch x (List.mem_of_getElem? cr.2.2)
  have t40 := okx.t40
  obtain ⟨ca, cdx, nm, cb, cg, csu, rfl, hca, _⟩ := id hvc
  refine ⟨_, rfl, _, rfl, ca, _, cdx, _, _, rfl, hca, T.cl_Channel, T.na_Channel_trials, L_Channel_trials, _, _, rfl, rfl, rfl, decide (n ≤ (x.trials : Int)), -3, rfl, fun n hn => (qe n (by simp only [mWould, hx1, hx2, hn, Except.bind])).pre k2, fun u3 hx3 _ H3 e3 _ => ?_⟩
  have hb3 := wantB_ok hx3
  have k3 := k2.trans e3
  obtain ⟨nn, rfl⟩ : ∃ m : Nat, n = (m : Int) := ⟨n.toNat, by omega⟩
  refine ⟨_, rfl, kp, _, dx, _, _, rfl, k3 _ _ hk, T.cl_Keeping, T.na_Keeping_plan, L_Keeping_plan, _, rfl, kp, _, dx, _, _, rfl, k3 _ _ hk, T.cl_Keeping, T.na_Keeping_plan, L_Keeping_plan, _, rfl, rfl, p, x, pv, _, rfl, hp.same k3, hvc.same e3, okx, g12, fun vb H7 e7 hb => ?_⟩
  have k4 := k3.trans e7
  refine ⟨_, rfl, rfl, vb, nn, _, rfl, hb, by rw [belt_len]; exact g12, fun vl H8 e8 hl => ?_⟩
  have k5 := k4.trans e8
  have hm : mWould p c nn = .ok (Vbkdai.partsRow p.parts (Vbkdai.partsFor p.parts x nn)) := by first | (simp only [mWould, hx1, hx2, hx3, Except.bind]; done) | (simp only [mWould, hx1, hx2, hx3, Except.bind]; rfl)
  exact ⟨rfl, pv, vl, p, _, rfl, hp.same k5, hl, g1, g12, parts_len _ _ (by rw [belt_len]; exact g12), fun v H9 e9 hv => q _ hm _ _ (k5.trans e9) hv⟩
theorem sc_Keeping_leaves : FnScope N_Keeping_leaves ["self", "c"] (defScope s_Keeping_leaves) := ⟨rfl, rfl, rfl, by decide +kernel, rfl, by decide +kernel, by decide +kernel⟩
theorem ok_Keeping_leaves (T : TX K mg) : FOk P w K mg base (L2.CX P w) 9 (He.ma K (He.ga K "Keeping") "leaves") ["self", "c"] (sp_Keeping_leaves K) := by
  obtain ⟨fd, F⟩ := T.f_Keeping_leaves
  obtain ⟨fd0, G0, b0⟩ := ok_Keeping_channel_at (P := P) (w := w) (base := base) T
  obtain ⟨fd1, G1, b1⟩ := ok_want (P := P) (w := w) (base := base) T
  obtain ⟨fd2, G2, b2⟩ := ok_belt_of (P := P) (w := w) (base := base) T
  obtain ⟨fd3, G3, b3⟩ := ok_parts_left (P := P) (w := w) (base := base) T
  obtain ⟨fd4, G4, b4⟩ := ok_parts_told (P := P) (w := w) (base := base) T
  refine ⟨fd, F.okX sc_Keeping_leaves (fun _ _ _ _ h => h.1) (fun cdv A outer s H vs Q E hr h => ?_), F.binds fun _ _ _ _ _ _ us hl => match us, hl with | [_, _], _ => rfl⟩
  have hr0 := hr.mono (by decide : 5 ≤ 8)
  have hr1 := hr.mono (by decide : 3 ≤ 8)
  have hr2 := hr.mono (by decide : 8 ≤ 8)
  have hr3 := hr.mono (by decide : 1 ≤ 8)
  have hr4 := hr.mono (by decide : 3 ≤ 8)
  refine ⟨_, (pss_cons (ps_set (i := 2) sc_Keeping_leaves.nd rfl (.inl rfl) (pe_meth (pv 0) T.cl_Keeping T.m_Keeping_channel_at G0 hr0 b0 .nil (passes_call (takes_of rfl rfl rfl rfl) (fun _ _ _ _ h => h)) (pa_cons (pv 1) (pa_cons (pe_lst pa_nil) pa_nil))))
    (pss_cons (ps_expr (pe_call G1 hr1 (by rfl) T.g_want T.k_want b1 .nil (passes_call (takes_of rfl rfl rfl rfl) (fun _ _ _ _ h => h)) (pa_cons (pe_cmpR op_notN (pe_ix ix_list (pe_fld (pv 0) rfl) (pv 1) (fun _ _ => rfl)) pe_non (by rfl)) (pa_cons (C8.pe_gc (by rfl) T.c_NO_COUNT) pa_nil))))
    (pss_one (ps_ret (pe_call G4 hr4 (by rfl) T.g_parts_told T.k_parts_told b4 .nil pass0 (pa_cons (pe_fld (pv 0) rfl) (pa_cons (pe_call G3 hr3 (by rfl) T.g_parts_left T.k_parts_left b3 .nil pass0 (pa_cons (pe_call G2 hr2 (by rfl) T.g_belt_of T.k_belt_of b2 .nil pass0 (pa_cons (pe_fld (pv 0) rfl) (pa_cons (pv 2) pa_nil))) (pa_cons (pe_ix ix_list (pe_fld (pv 0) rfl) (pv 1) (fun _ _ => rfl)) pa_nil))) pa_nil))))))), ?_⟩
  obtain ⟨_, h⟩ := h
  obtain ⟨kp, p, cs, c, rfl, hK, qe, q⟩ := h
  obtain ⟨dx, pv, cl, hk, hp, hcl, ok, lc⟩ := id hK
  have g1 := ok.g1
  have g12 := ok.g12
  have c4 := ok.c4
  have k0 : Same H H := Same.refl H
  refine ⟨_, rfl, kp, dx, _, rfl, k0 _ _ hk, L_Keeping_channel_at, _, rfl, by show 0 ≤ sizeLine; decide, fun f1 n1 => ⟨rfl, kp, p, cs, c, .ref f1, [], rfl, hK.same (k0.trans (Same.new n1)), ⟨f1, rfl, upd_same⟩, by show 0 ≤ 1000; decide, fun n hn => (qe n (by simp only [mLeaves, hn, Except.bind])).pre (k0.trans (Same.new n1)), fun x hx1 vc H1 e1 hvc => ?_⟩⟩
  have k1 := (k0.trans (Same.new n1)).trans e1
  have cr := chanR_ok hx1
  have okx := ok.ch x (List.mem_of_getElem? cr.2.2)
  have t40 := okx.t40
  obtain ⟨cn, rfl⟩ : ∃ m : Nat, c = (m : Int) := ⟨c.toNat, by omega⟩
  have lcn : cn < cs.length := by
    have := (List.getElem?_eq_some_iff.mp cr.2.2).1
    rw [Int.toNat_natCast] at this
    omega
  obtain ⟨o, ho⟩ : ∃ o, cs[cn]? = some o := ⟨_, List.getElem?_eq_getElem lcn⟩
  have hv : (cs.map optV)[cn]? = some (optV o) := by rw [List.getElem?_map, ho]; rfl
  have hg : cs.getD cn none = o := by rw [List.getD_eq_getElem?_getD, ho]; rfl
  refine ⟨_, rfl, kp, _, dx, _, _, rfl, k1 _ _ hk, T.cl_Keeping, T.na_Keeping_counted, L_Keeping_counted, _, rfl, cl, _, _, _, rfl, rfl, SqL.of (k1 _ _ hcl), atI_nat hv, rfl, rfl, _, -6, rfl, fun n hn => (qe n ?_).pre k1, fun u hu _ H6 e6 _ => ?_⟩
  · cases o with
    | none =>
      cases hn
      simp only [mLeaves, hx1, Except.bind, Int.toNat_natCast, hg]
    | some z => cases hn
  have k2 := k1.trans e6
  cases o with
  | none => cases hu
  | some nn =>
  refine ⟨_, rfl, kp, _, dx, _, _, rfl, k2 _ _ hk, T.cl_Keeping, T.na_Keeping_plan, L_Keeping_plan, _, rfl, kp, _, dx, _, _, rfl, k2 _ _ hk, T.cl_Keeping, T.na_Keeping_plan, L_Keeping_plan, _, rfl, rfl, p, x, pv, _, rfl, hp.same k2, hvc.same e6, okx, g12, fun vb H7 e7 hb => ?_⟩
  have k3 := k2.trans e7
  refine ⟨_, rfl, kp, _, dx, _, _, rfl, k3 _ _ hk, T.cl_Keeping, T.na_Keeping_counted, L_Keeping_counted, _, rfl, cl, _, _, _, rfl, rfl, SqL.of (k3 _ _ hcl), atI_nat hv, rfl, vb, nn, _, rfl, hb, by rw [belt_len]; exact g12, fun vl H8 e8 hl => ?_⟩
  have k4 := k3.trans e8
  have hm : mLeaves p cs cn = .ok (Vbkdai.partsRow p.parts (Vbkdai.partsFor p.parts x nn)) := by
    simp only [mLeaves, hx1, Except.bind, Int.toNat_natCast, hg]
  exact ⟨rfl, pv, vl, p, _, rfl, hp.same k4, hl, g1, g12, parts_len _ _ (by rw [belt_len]; exact g12), fun v H9 e9 hv => q _ hm _ _ (k4.trans e9) hv⟩
theorem sc_Keeping_apart : FnScope N_Keeping_apart ["self", "c", "k", "j", "e"] (defScope s_Keeping_apart) := ⟨rfl, rfl, rfl, by decide +kernel, rfl, by decide +kernel, by decide +kernel⟩
theorem ok_Keeping_apart (T : TX K mg) : FOk P w K mg base (L2.CX P w) 10 (He.ma K (He.ga K "Keeping") "apart") ["self", "c", "k", "j", "e"] (sp_Keeping_apart K) := by
  obtain ⟨fd, F⟩ := T.f_Keeping_apart
  obtain ⟨fd0, G0, b0⟩ := ok_want_up_to (P := P) (w := w) (base := base) T
  obtain ⟨fd1, G1, b1⟩ := ok_Keeping_channel_at (P := P) (w := w) (base := base) T
  obtain ⟨fd2, G2, b2⟩ := ok_how_often_apart (P := P) (w := w) (base := base) T
  refine ⟨fd, F.okX sc_Keeping_apart (fun _ _ _ _ h => h.1) (fun cdv A outer s H vs Q E hr h => ?_), F.binds fun _ _ _ _ _ _ us hl => match us, hl with | [_, _, _, _, _], _ => rfl⟩
  have hr0 := hr.mono (by decide : 4 ≤ 9)
  have hr1 := hr.mono (by decide : 5 ≤ 9)
  have hr2 := hr.mono (by decide : 9 ≤ 9)
  refine ⟨_, (pss_cons (ps_expr (pe_call G0 hr0 (by rfl) T.g_want_up_to T.k_want_up_to b0 .nil (passes_call (takes_of rfl rfl rfl rfl) (fun _ _ _ _ h => h)) (pa_cons (pe_lst (pa_cons (pv 4) pa_nil)) (pa_cons (C8.pe_gc (by rfl) T.c_ENDING) pa_nil))))
    (pss_cons (ps_set (i := 5) sc_Keeping_apart.nd rfl (.inl rfl) (pe_meth (pv 0) T.cl_Keeping T.m_Keeping_channel_at G1 hr1 b1 .nil (passes_call (takes_of rfl rfl rfl rfl) (fun _ _ _ _ h => h)) (pa_cons (pv 1) (pa_cons (pe_lst (pa_cons (pv 2) (pa_cons (pv 3) pa_nil))) pa_nil))))
    (pss_one (ps_ret (pe_callTy call_list_of (by rfl) T.n_list (by decide +kernel) (pa_cons (pe_call G2 hr2 (by rfl) T.g_how_often_apart T.k_how_often_apart b2 .nil pass0 (pa_cons (pe_fld (pv 0) rfl) (pa_cons (pv 5) (pa_cons (pv 2) (pa_cons (pv 3) (pa_cons (pv 4) pa_nil)))))) pa_nil)))))), ?_⟩
  obtain ⟨_, h⟩ := h
  obtain ⟨kp, p, cs, c, k, j, e, rfl, hK, qe, q⟩ := h
  obtain ⟨dx, pv, cl, hk, hp, hcl, ok, lc⟩ := id hK
  have g1 := ok.g1
  have g12 := ok.g12
  have c4 := ok.c4
  have k0 : Same H H := Same.refl H
  refine ⟨_, rfl, by show 1 ≤ sizeLine; decide, fun f1 n1 => ⟨rfl, .ref f1, [e], 1, rfl, ⟨f1, rfl, upd_same⟩, by show 1 ≤ 1000; decide, fun n hn => (qe n (by simp only [mApart, hn, Except.bind])).pre (k0.trans (Same.new n1)), fun x1 hx1 _ H1 e1 _ => ?_⟩⟩
  have k1 := (k0.trans (Same.new n1)).trans e1
  have b_e := upTo_ok hx1 e (by simp)
  refine ⟨_, rfl, kp, dx, _, rfl, k1 _ _ hk, L_Keeping_channel_at, _, rfl, _, rfl, _, rfl, by show 2 ≤ sizeLine; decide, fun f2 n2 => ⟨rfl, kp, p, cs, c, .ref f2, [k, j], rfl, hK.same (k1.trans (Same.new n2)), ⟨f2, rfl, upd_same⟩, by show 2 ≤ 1000; decide, fun n hn => (qe n (by simp only [mApart, hx1, hn, Except.bind])).pre (k1.trans (Same.new n2)), fun x hx2 vc H2 e2 hvc => ?_⟩⟩
  have k2 := (k1.trans (Same.new n2)).trans e2
  have cr := chanR_ok hx2
  have okx := ok.ch x (List.mem_of_getElem? cr.2.2)
  have t40 := okx.t40
  have b_k := cr.2.1 k (by simp)
  have b_j := cr.2.1 j (by simp)
  obtain ⟨en, rfl⟩ : ∃ m : Nat, e = (m : Int) := ⟨e.toNat, by omega⟩
  obtain ⟨kn, rfl⟩ : ∃ m : Nat, k = (m : Int) := ⟨k.toNat, by omega⟩
  obtain ⟨jn, rfl⟩ : ∃ m : Nat, j = (m : Int) := ⟨j.toNat, by omega⟩
  refine ⟨_, rfl, kp, _, dx, _, _, rfl, k2 _ _ hk, T.cl_Keeping, T.na_Keeping_plan, L_Keeping_plan, _, rfl, _, rfl, _, rfl, _, rfl, rfl, pv, vc, p, x, kn, jn, en, rfl, hp.same k2, hvc, okx, g12, by omega, by omega, by omega, fun v H9 e9 ⟨fa, ev, hf⟩ => ?_⟩
  have k3 := k2.trans e9
  subst ev
  have hm : mApart p c kn jn en = .ok (Vbkdai.qRow (Vbkdai.apart p.parts x kn jn en)) := by first | (simp only [mApart, hx1, hx2, Except.bind]; done) | (simp only [mApart, hx1, hx2, Except.bind]; rfl)
  exact ⟨fa, _, rfl, .inr hf, fun l nl => q _ hm _ _ (k3.trans (Same.new nl)) ⟨l, rfl, upd_same⟩⟩
theorem sc_Keeping_few : FnScope N_Keeping_few ["self", "c", "k", "e"] (defScope s_Keeping_few) := ⟨rfl, rfl, rfl, by decide +kernel, rfl, by decide +kernel, by decide +kernel⟩
theorem ok_Keeping_few (T : TX K mg) : FOk P w K mg base (L2.CX P w) 7 (He.ma K (He.ga K "Keeping") "few") ["self", "c", "k", "e"] (sp_Keeping_few K) := by
  obtain ⟨fd, F⟩ := T.f_Keeping_few
  obtain ⟨fd0, G0, b0⟩ := ok_want_up_to (P := P) (w := w) (base := base) T
  obtain ⟨fd1, G1, b1⟩ := ok_Keeping_channel_at (P := P) (w := w) (base := base) T
  obtain ⟨fd2, G2, b2⟩ := ok_spread_at (P := P) (w := w) (base := base) T
  obtain ⟨fd3, G3, b3⟩ := ok_by_likelihood (P := P) (w := w) (base := base) T
  obtain ⟨fd4, G4, b4⟩ := ok_put_in (P := P) (w := w) (base := base) T
  refine ⟨fd, F.okX sc_Keeping_few (fun _ _ _ _ h => h.1) (fun cdv A outer s H vs Q E hr h => ?_), F.binds fun _ _ _ _ _ _ us hl => match us, hl with | [_, _, _, _], _ => rfl⟩
  have hr0 := hr.mono (by decide : 4 ≤ 6)
  have hr1 := hr.mono (by decide : 5 ≤ 6)
  have hr2 := hr.mono (by decide : 6 ≤ 6)
  have hr3 := hr.mono (by decide : 1 ≤ 6)
  have hr4 := hr.mono (by decide : 2 ≤ 6)
  refine ⟨_, (pss_cons (ps_expr (pe_call G0 hr0 (by rfl) T.g_want_up_to T.k_want_up_to b0 .nil (passes_call (takes_of rfl rfl rfl rfl) (fun _ _ _ _ h => h)) (pa_cons (pe_lst (pa_cons (pv 3) pa_nil)) (pa_cons (C8.pe_gc (by rfl) T.c_ENDING) pa_nil))))
    (pss_cons (ps_set (i := 4) sc_Keeping_few.nd rfl (.inl rfl) (pe_meth (pv 0) T.cl_Keeping T.m_Keeping_channel_at G1 hr1 b1 .nil (passes_call (takes_of rfl rfl rfl rfl) (fun _ _ _ _ h => h)) (pa_cons (pv 1) (pa_cons (pe_lst (pa_cons (pv 2) pa_nil)) pa_nil))))
    (pss_cons (ps_set (i := 5) sc_Keeping_few.nd rfl (.inl rfl) (pe_call G2 hr2 (by rfl) T.g_spread_at T.k_spread_at b2 .nil pass0 (pa_cons (pe_fld (pv 0) rfl) (pa_cons (pv 4) (pa_cons (pv 2) (pa_cons (pv 3) pa_nil))))))
    (pss_one (ps_ret (pe_lst (pa_cons (pe_callB call_len_seq (by rfl) T.n_len (by decide +kernel) (pa_cons (pe_call G4 hr4 (by rfl) T.g_put_in T.k_put_in b4 .nil pass0 (pa_cons (pv 5) (pa_cons (pe_call G3 hr3 (by rfl) T.g_by_likelihood T.k_by_likelihood b3 .nil pass0 (pa_cons (pv 5) pa_nil)) (pa_cons (pe_fld (pv 4) rfl) pa_nil)))) pa_nil)) pa_nil))))))), ?_⟩
  obtain ⟨_, h⟩ := h
  obtain ⟨kp, p, cs, c, k, e, rfl, hK, qe, q⟩ := h
  obtain ⟨dx, pv, cl, hk, hp, hcl, ok, lc⟩ := id hK
  have g1 := ok.g1
  have g12 := ok.g12
  have c4 := ok.c4
  have k0 : Same H H := Same.refl H
  refine ⟨_, rfl, by show 1 ≤ sizeLine; decide, fun f1 n1 => ⟨rfl, .ref f1, [e], 1, rfl, ⟨f1, rfl, upd_same⟩, by show 1 ≤ 1000; decide, fun n hn => (qe n (by simp only [mFew, hn, Except.bind])).pre (k0.trans (Same.new n1)), fun x1 hx1 _ H1 e1 _ => ?_⟩⟩
  have k1 := (k0.trans (Same.new n1)).trans e1
  have b_e := upTo_ok hx1 e (by simp)
  refine ⟨_, rfl, kp, dx, _, rfl, k1 _ _ hk, L_Keeping_channel_at, _, rfl, _, rfl, by show 1 ≤ sizeLine; decide, fun f2 n2 => ⟨rfl, kp, p, cs, c, .ref f2, [k], rfl, hK.same (k1.trans (Same.new n2)), ⟨f2, rfl, upd_same⟩, by show 1 ≤ 1000; decide, fun n hn => (qe n (by simp only [mFew, hx1, hn, Except.bind])).pre (k1.trans (Same.new n2)), fun x hx2 vc H2 e2 hvc => ?_⟩⟩
  have k2 := (k1.trans (Same.new n2)).trans e2
  have cr := chanR_ok hx2
  have okx := ok.ch x (List.mem_of_getElem? cr.2.2)
  have t40 := okx.t40
  have b_k := cr.2.1 k (by simp)
  obtain ⟨en, rfl⟩ : ∃ m : Nat, e = (m : Int) := ⟨e.toNat, by omega⟩
  obtain ⟨kn, rfl⟩ : ∃ m : Nat, k = (m : Int) := ⟨k.toNat, by omega⟩
  obtain ⟨ca, cdx, nm, cb, cg, csu, rfl, hca, c1, c2, c3, c5⟩ := id hvc
  refine ⟨_, rfl, kp, _, dx, _, _, rfl, k2 _ _ hk, T.cl_Keeping, T.na_Keeping_plan, L_Keeping_plan, _, rfl, _, rfl, _, rfl, rfl, p, x, pv, _, kn, en, rfl, hp.same k2, hvc, okx, g12, by omega, by omega, fun vs H7 e7 hs => ?_⟩
  have k3 := k2.trans e7
  have pr := chanceAt_pr okx g12 (show kn < p.parts by omega) (show en ≤ 1 by omega)
  refine ⟨_, rfl, _, rfl, rfl, vs, x.trials, _, rfl, hs, pr, t40, fun vl H8 e8 hl => ?_⟩
  have k4 := k3.trans e8
  have bp := likely_perm x.trials (Vbkdai.chanceAt p.parts x kn en) pr
  refine ⟨_, rfl, ca, _, cdx, _, _, rfl, (e7.trans e8) _ _ hca, T.cl_Channel, T.na_Channel_sure, L_Channel_sure, rfl, vs, vl, csu, x.trials, _, x.sure, _, rfl, hs.same e8, hl, c5.same (e7.trans e8), pr, t40, okx.su, by rw [bp.length_eq, List.length_range]; omega, fun n hn => ?_, fun vf H9 e9 ⟨fa, ev, hf⟩ => ?_⟩
  · have := List.mem_range.mp (bp.mem_iff.mp hn)
    omega
  have k5 := k4.trans e9
  subst ev
  have hm : mFew p c kn en = .ok ([(Vbkdai.fewCounts p.parts x kn en : Int)]) := by first | (simp only [mFew, hx1, hx2, Except.bind]; done) | (simp only [mFew, hx1, hx2, Except.bind]; rfl)
  refine ⟨fa, _, rfl, .inl (SqL.of hf), by show 1 ≤ sizeLine; decide, fun l nl => q _ hm _ _ (k5.trans (Same.new nl)) ⟨l, rfl, ?_⟩⟩
  rw [upd_same, nI_len]
  rfl
end
end Bc


-- end of a part
set_option Elab.async false
set_option linter.all false
set_option maxRecDepth 100000
set_option maxHeartbeats 4000000
set_option exponentiation.threshold 100000
/-! # keeping: what is answered, with loops -/
namespace Bc
open PySem PySem.Spec PyProof.Rows L2
def sp_Keeping_jointly (K : PySem.W.Frag) : Sp := mkSp 1 fun vs H Q E => ∃ (kp : Addr) (p : Vbkdai.Plan) (cs : List (Option Nat)), vs = [.ref kp] ∧ KpAt K H kp p cs ∧ Ret H Q fun v H' => InAt H' v (mJoint p cs)
def sp_Keeping_told_counts (K : PySem.W.Frag) : Sp := mkSp 1 fun vs H Q E => ∃ (kp : Addr) (p : Vbkdai.Plan) (cs : List (Option Nat)), vs = [.ref kp] ∧ KpAt K H kp p cs ∧ Ret H Q fun v H' => InAt H' v (mCounts p cs)
def sp_Keeping_covers (K : PySem.W.Frag) : Sp := mkSp 4 fun vs H Q E => ∃ (kp : Addr) (p : Vbkdai.Plan) (cs : List (Option Nat)) (c k : Int) (v : V) (a d b f g h : Int), vs = [.ref kp, .int c, .int k, v] ∧ KpAt K H kp p cs ∧ InAt H v [a, d, b, f, g, h] ∧ ROut K H Q E (mCovers p c k a d b f g h) fun l v H' => InAt H' v l
def sp_Keeping_fewest (K : PySem.W.Frag) : Sp := mkSp 7 fun vs H Q E => ∃ (kp : Addr) (p : Vbkdai.Plan) (cs : List (Option Nat)) (c k j e a d : Int), vs = [.ref kp, .int c, .int k, .int j, .int e, .int a, .int d] ∧ KpAt K H kp p cs ∧ ROut K H Q E (mFewest p c k j e a d) fun l v H' => InAt H' v l
theorem cnt_len (l : List (Vbkdai.Chan × Option Nat)) : (l.flatMap cntR).length = 3 * l.length := by
  induction l with
  | nil => rfl
  | cons a r ih =>
    rw [List.flatMap_cons, List.length_append, ih, List.length_cons]
    show 3 + _ = _
    omega
def cntV : Option Nat → Int
  | none => -1
  | some n => (n : Int)
theorem zip_at {α β : Type} {l : List α} {m : List β} {i : Nat} {x : α} {y : β} (hx : l[i]? = some x) (hy : m[i]? = some y) : (l.zip m)[i]? = some (x, y) := by
  rw [List.getElem?_zip_eq_some]
  exact ⟨hx, hy⟩
theorem opt_at {cs : List (Option Nat)} {i : Nat} {v : V} (h : (cs.map optV)[i]? = some v) : ∃ o, cs[i]? = some o ∧ v = optV o := by
  rw [List.getElem?_map] at h
  cases e : cs[i]? with
  | none => rw [e] at h; cases h
  | some o => rw [e] at h; exact ⟨o, rfl, (Option.some.inj h).symm⟩
/-- the parts that these counts leave -/
def someOf (g : Nat) (l : List (Vbkdai.Chan × Option Nat)) : List Nat := (List.range g).filter fun k => l.all fun x => x.2.all fun n => Vbkdai.isLet (Vbkdai.letIn g x.1 k) n
theorem some_app (g : Nat) (l : List (Vbkdai.Chan × Option Nat)) (x : Vbkdai.Chan × Option Nat) : someOf g (l ++ [x]) = (someOf g l).filter fun k => x.2.all fun n => Vbkdai.isLet (Vbkdai.letIn g x.1 k) n := by
  unfold someOf
  rw [List.filter_filter]
  congr 1
  funext k
  rw [List.all_append]
  simp [Bool.and_comm]
theorem belt_getD {g k : Nat} {c : Vbkdai.Chan} (h : k < g) : (Vbkdai.belt g c).getD k (0, 0) = Vbkdai.letIn g c k := by
  rw [List.getD_eq_getElem?_getD]
  unfold Vbkdai.belt
  rw [List.getElem?_map, List.getElem?_range h]
  rfl
theorem mem_parts {g k n : Nat} {c : Vbkdai.Chan} (h : k < g) : decide (k ∈ Vbkdai.partsOf (Vbkdai.belt g c) n) = Vbkdai.isLet (Vbkdai.letIn g c k) n := by
  unfold Vbkdai.partsOf
  cases e : Vbkdai.isLet (Vbkdai.letIn g c k) n with
  | true => exact decide_eq_true (List.mem_filter.mpr ⟨List.mem_range.mpr (by rw [belt_len]; exact h), by rw [belt_getD h]; exact e⟩)
  | false =>
    refine decide_eq_false fun z => ?_
    have := (List.mem_filter.mp z).2
    rw [belt_getD h, e] at this
    cases this
section
variable {P : Program} {w : World} {K : PySem.W.Frag} {mg : Str → Option Value} {base : Heap}
theorem few_some {g k j e t : Nat} {c : Vbkdai.Chan} {q : Qd} (h40 : t ≤ 40) (h : VbkdCore.le q (Vbkdai.apart g { c with trials := t } k j e) = true) (no : ∀ s, 1 ≤ s → s < t → VbkdCore.le q (Vbkdai.apart g { c with trials := s } k j e) = false) (h1 : 1 ≤ t := by omega) : Vbkdai.fewest g c k j e q = some t := by
  unfold Vbkdai.fewest
  refine List.find?_eq_some_iff_getElem.mpr ⟨h, t - 1, by simp [Vbkdai.TRIALS]; omega, ?_, fun s hs => ?_⟩
  · simp
    omega
  · have := no (s + 1) (by omega) (by omega)
    simp [this]
theorem few_none {g k j e : Nat} {c : Vbkdai.Chan} {q : Qd} (no : ∀ s, 1 ≤ s → s < 1 + 40 → VbkdCore.le q (Vbkdai.apart g { c with trials := s } k j e) = false) : Vbkdai.fewest g c k j e q = none := by
  unfold Vbkdai.fewest
  refine List.find?_eq_none.mpr fun t ht => ?_
  obtain ⟨i, hi, rfl⟩ := List.mem_map.mp ht
  have := List.mem_range.mp hi
  have h40 : Vbkdai.TRIALS = 40 := rfl
  rw [no (i + 1) (by omega) (by omega)]
  decide
theorem prow_len (g : Nat) (l : List Nat) : (Vbkdai.partsRow g l).length ≤ l.length + 5 := by
  unfold Vbkdai.partsRow Vbkdai.counted Vbkdai.ints Vbkdai.hull Vbkdai.qRow
  cases l with
  | nil => exact Nat.le_of_ble_eq_true rfl
  | cons k r =>
    simp only [List.length_append, List.length_cons, List.length_map, List.length_nil]
    omega
theorem cov_fq {x : Vbkdai.Chan} {t u w : Qd} (ok : ChOk x) (ft : Fq 1000 t) (fu : Fq 1000 u) (fw : Fq 1000 w) (h1 : (VbkdCore.le x.base1 u && VbkdCore.le u x.base2) = true) (h2 : (VbkdCore.le x.gain1 w && VbkdCore.le w x.gain2) = true) : Fq (1000 * (1000 * 1000)) (VbkdCore.add u (VbkdCore.mul w t)) := by
  rw [Bool.and_eq_true] at h1 h2
  exact chance_fq fu fw ft (bg_of ok fu fw (le_iff.mp h1.2) (le_iff.mp h2.2))
theorem many_small2 {t : Nat} {p : Qd} (h : Pr p) (ht : t ≤ 40) (a b : Nat) : many t p a b < 2 ^ 3007 := by
  unfold many
  rw [List.map_drop, List.map_take]
  refine Nat.lt_of_le_of_lt (Nat.le_trans (sum_drop_le _ _) (sum_take_le _ _)) ?_
  refine Nat.lt_of_le_of_lt (sum_bound (B := 2 ^ 3000) _ fun x hx => ?_) ?_
  · obtain ⟨n, hn, rfl⟩ := List.mem_map.mp hx
    exact Nat.le_of_lt (term_small h ht (by have := List.mem_range.mp hn; omega))
  · rw [List.length_map, List.length_range]
    refine Nat.lt_of_le_of_lt (Nat.mul_le_mul_right _ (show t + 1 ≤ 2 ^ 6 by omega)) ?_
    rw [← Nat.pow_add]
    exact Nat.pow_lt_pow_right (by decide) (by decide)
theorem apart_sm {g k j e : Nat} {c : Vbkdai.Chan} (ok : ChOk c) (g12 : g ≤ 12) (hk : k < g) (hj : j < g) (he : e ≤ 1) : Sm 4000 (Vbkdai.apart g c k j e) := by
  have lb := letIn_le ok g12 hk
  have pr := chanceAt_pr ok g12 hj he
  show Sm 4000 (VbkdCore.sub Vbkdai.one (Vbkdai.chance c.trials (Vbkdai.chanceAt g c j e) (Vbkdai.letIn g c k).1 (Vbkdai.letIn g c k).2))
  have s3 : Sm 3100 (Vbkdai.chance c.trials (Vbkdai.chanceAt g c j e) (Vbkdai.letIn g c k).1 (Vbkdai.letIn g c k).2) := by
    rw [← often_chance lb]
    refine sm_mk (total_pos pr) ?_ (Nat.lt_trans (total_small pr ok.t40) (Nat.pow_lt_pow_right (by decide) (by decide)))
    rw [Int.natAbs_natCast]
    exact Nat.lt_trans (many_small2 pr ok.t40 _ _) (Nat.pow_lt_pow_right (by decide) (by decide))
  rw [sub_eq]
  have h1 := s3.1
  have h3 := s3.2.2
  have p1 : (2 : Nat) ^ 3100 + 2 ^ 3100 ≤ 2 ^ 4000 := by
    rw [← Nat.two_mul, ← Nat.pow_succ']
    exact Nat.pow_le_pow_right (by decide) (by decide)
  refine sm_mk (Nat.mul_pos (by decide) s3.2.1) (Nat.lt_of_lt_of_le ?_ p1) (Nat.lt_of_lt_of_le ?_ p1)
  · generalize Vbkdai.chance c.trials (Vbkdai.chanceAt g c j e) (Vbkdai.letIn g c k).1 (Vbkdai.letIn g c k).2 = z at h1 h3 ⊢
    show (1 * (z.d : Int) - z.n * ((1 : Nat) : Int)).natAbs < _
    generalize (2 : Nat) ^ 3100 = B at h1 h3 ⊢
    omega
  · generalize Vbkdai.chance c.trials (Vbkdai.chanceAt g c j e) (Vbkdai.letIn g c k).1 (Vbkdai.letIn g c k).2 = z at h1 h3 ⊢
    show 1 * z.d < _
    generalize (2 : Nat) ^ 3100 = B at h1 h3 ⊢
    omega
theorem sc_Keeping_table : FnScope N_Keeping_table ["self", "c"] (defScope s_Keeping_table) := ⟨rfl, rfl, rfl, by decide +kernel, rfl, by decide +kernel, by decide +kernel⟩
theorem ok_Keeping_table (T : TX K mg) : FOk P w K mg base (L2.CX P w) 9 (He.ma K (He.ga K "Keeping") "table") ["self", "c"] (sp_Keeping_table K) := by
  obtain ⟨fd, F⟩ := T.f_Keeping_table
  obtain ⟨fd0, G0, b0⟩ := ok_Keeping_channel_at (P := P) (w := w) (base := base) T
  obtain ⟨fd1, G1, b1⟩ := ok_belt_of (P := P) (w := w) (base := base) T
  obtain ⟨fd2, G2, b2⟩ := ok_parts_left (P := P) (w := w) (base := base) T
  refine ⟨fd, F.okX sc_Keeping_table (fun _ _ _ _ h => h.1) (fun cdv A outer s H vs Q E hr h => ?_), F.binds fun _ _ _ _ _ _ us hl => match us, hl with | [_, _], _ => rfl⟩
  have hr0 := hr.mono (by decide : 5 ≤ 8)
  have hr1 := hr.mono (by decide : 8 ≤ 8)
  have hr2 := hr.mono (by decide : 1 ≤ 8)
  refine ⟨_, (pss_cons (ps_set (i := 2) sc_Keeping_table.nd rfl (.inl rfl) (pe_meth (pv 0) T.cl_Keeping T.m_Keeping_channel_at G0 hr0 b0 .nil (passes_call (takes_of rfl rfl rfl rfl) (fun _ _ _ _ h => h)) (pa_cons (pv 1) (pa_cons (pe_lst pa_nil) pa_nil))))
    (pss_cons (ps_set (i := 3) sc_Keeping_table.nd rfl (.inl rfl) (pe_call G1 hr1 (by rfl) T.g_belt_of T.k_belt_of b1 .nil pass0 (pa_cons (pe_fld (pv 0) rfl) (pa_cons (pv 2) pa_nil))))
    (pss_cons (ps_set (i := 4) sc_Keeping_table.nd rfl (.inl rfl) (pe_lst (pa_cons (pe_op op_add (pe_fld (pv 2) rfl) pe_int) pa_nil)))
    (pss_cons (ps_for (passes_of rfl) rfl (pi_range1 (by rfl) T.n_range (pa_cons (pe_op op_add (pe_fld (pv 2) rfl) pe_int) pa_nil)) (pg_name (i := 5) sc_Keeping_table.nd rfl (.inl rfl)) (pss_cons (ps_set (i := 6) sc_Keeping_table.nd rfl (.inl rfl) (pe_call G2 hr2 (by rfl) T.g_parts_left T.k_parts_left b2 .nil pass0 (pa_cons (pv 3) (pa_cons (pv 5) pa_nil))))
    (pss_one (ps_expr (pe_bm PySem.F.plainAttrs_list PySem.F.slot_list_extend PySem.F.type_list_extend mt_extend (pv 4) (pa_cons (pe_op op_cat (pe_lst (pa_cons (pe_callB call_len_seq (by rfl) T.n_len (by decide +kernel) (pa_cons (pv 6) pa_nil)) pa_nil)) (pv 6)) pa_nil))))))
    (pss_one (ps_ret (pv 4))))))), ?_⟩
  obtain ⟨_, h⟩ := h
  obtain ⟨kp, p, cs, c, rfl, hK, qe, q⟩ := h
  obtain ⟨dx, pv, cl, hk, hp, hcl, ok, lc⟩ := id hK
  have g1 := ok.g1
  have g12 := ok.g12
  have c4 := ok.c4
  have k0 : Same H H := Same.refl H
  refine ⟨_, rfl, kp, dx, _, rfl, k0 _ _ hk, L_Keeping_channel_at, _, rfl, by show 0 ≤ sizeLine; decide, fun f1 n1 => ⟨rfl, kp, p, cs, c, .ref f1, [], rfl, hK.same (k0.trans (Same.new n1)), ⟨f1, rfl, upd_same⟩, by show 0 ≤ 1000; decide, fun n hn => (qe n (by simp only [mTable, hn, Except.bind])).pre (k0.trans (Same.new n1)), fun x hx1 vc H1 e1 hvc => ?_⟩⟩
  have k1 := (k0.trans (Same.new n1)).trans e1
  have cr := chanR_ok hx1
  have okx := ok.ch x (List.mem_of_getElem? cr.2.2)
  have t40 := okx.t40
  obtain ⟨ca, cdx, nm, cb, cg, csu, rfl, hca, _⟩ := id hvc
  refine ⟨_, rfl, kp, _, dx, _, _, rfl, k1 _ _ hk, T.cl_Keeping, T.na_Keeping_plan, L_Keeping_plan, _, rfl, rfl, p, x, pv, _, rfl, hp.same k1, hvc, okx, g12, fun vb H7 e7 hb => ?_⟩
  have k2 := k1.trans e7
  refine ⟨_, rfl, ca, _, cdx, _, _, rfl, e7 _ _ hca, T.cl_Channel, T.na_Channel_trials, L_Channel_trials, _, _, rfl, rfl, by show 1 ≤ sizeLine; decide, fun F nF => ?_⟩
  have pl : ∀ i, ((List.range i).flatMap fun n => Vbkdai.counted (Vbkdai.partsOf (Vbkdai.belt p.parts x) n)).length ≤ 13 * i := fun i => by
    induction i with
    | zero => exact Nat.zero_le _
    | succ i ih =>
      rw [List.range_succ, List.flatMap_append, List.length_append, List.flatMap_cons, List.flatMap_nil, List.append_nil]
      have := parts_len (Vbkdai.belt p.parts x) i (by rw [belt_len]; exact g12)
      have e : (Vbkdai.counted (Vbkdai.partsOf (Vbkdai.belt p.parts x) i)).length = (Vbkdai.partsOf (Vbkdai.belt p.parts x) i).length + 1 := by
        unfold Vbkdai.counted Vbkdai.ints
        rw [List.length_cons, List.length_map]
      omega
  refine ⟨_, rfl, ca, _, cdx, _, _, rfl, (Same.new nF) _ _ (e7 _ _ hca), T.cl_Channel, T.na_Channel_trials, L_Channel_trials, _, _, rfl, rfl, ((x.trials + 1 : Nat) : Int), rfl, by omega, by omega, for_r0 (n := x.trials + 1)
    (fun i σ H' => ∃ v5 v6, σ = [some (.ref kp), some (.int c), some (.ref ca), some vb, some (.ref F), v5, v6] ∧ Same H7 H' ∧ H' F = some (.lst ((((x.trials : Int) + 1) :: (List.range i).flatMap fun n => Vbkdai.counted (Vbkdai.partsOf (Vbkdai.belt p.parts x) n)).map V.int)))
    ⟨none, none, rfl, Same.new nF, upd_same⟩ ?_ ?_⟩
  · rintro i σ H' hi ⟨v5, v6, rfl, e, hF⟩
    refine ⟨_, rfl, _, rfl, rfl, vb, i, _, rfl, hb.same e, by rw [belt_len]; exact g12, fun vl H2 e2 ⟨la, ev, hl⟩ => ?_⟩
    subst ev
    have ll := parts_len (Vbkdai.belt p.parts x) i (by rw [belt_len]; exact g12)
    refine ⟨_, rfl, Or.inl ⟨rfl, _, SqL.of (e2 _ _ hF)⟩, _, rfl, la, _, rfl, .inl (SqL.of hl), by show 1 ≤ sizeLine; decide, fun p1 n1 => ⟨_, rfl, p1, la, _, _, rfl, rfl, upd_same, (Same.new n1) _ _ hl, ?_, fun p2 n2 => ?_⟩⟩
    · rw [nI_len]
      exact Nat.le_of_lt (small1000 (show 1 + _ ≤ 1000 by omega))
    have e4 := (e2.trans (Same.new (o := .lst [V.int (((nI (Vbkdai.partsOf (Vbkdai.belt p.parts x) i)).map V.int).length : Int)]) n1)).trans (Same.new (o := .lst ([V.int (((nI (Vbkdai.partsOf (Vbkdai.belt p.parts x) i)).map V.int).length : Int)] ++ (nI (Vbkdai.partsOf (Vbkdai.belt p.parts x) i)).map V.int)) n2)
    refine ⟨F, p2, _, _, rfl, rfl, e4 _ _ hF, upd_same, ?_, some (.int (i : Int)), some (.ref la), rfl, (e.trans e4).mut nF, ?_⟩
    · rw [List.length_map, List.length_cons, List.length_append, nI_len]
      have := pl i
      exact Nat.le_of_lt (small1000 (show _ + 1 + (1 + _) ≤ 1000 by omega))
    · rw [upd_same, List.range_succ, List.flatMap_append, List.map_cons, List.map_cons, List.map_append, List.flatMap_cons, List.flatMap_nil, List.append_nil, nI_len]
      rfl
  · rintro σ H' ⟨v5, v6, rfl, e, hF⟩
    exact ⟨_, rfl, q _ (by simp only [mTable, hx1, Except.bind]) _ _ (k2.trans e) ⟨F, rfl, hF⟩⟩
theorem sc_Keeping_fewest : FnScope N_Keeping_fewest ["self", "c", "k", "j", "e", "upper", "lower"] (defScope s_Keeping_fewest) := ⟨rfl, rfl, rfl, by decide +kernel, rfl, by decide +kernel, by decide +kernel⟩
theorem ok_Keeping_fewest (T : TX K mg) : FOk P w K mg base (L2.CX P w) 10 (He.ma K (He.ga K "Keeping") "fewest") ["self", "c", "k", "j", "e", "upper", "lower"] (sp_Keeping_fewest K) := by
  obtain ⟨fd, F⟩ := T.f_Keeping_fewest
  obtain ⟨fd0, G0, b0⟩ := ok_want_up_to (P := P) (w := w) (base := base) T
  obtain ⟨fd1, G1, b1⟩ := ok_read_fraction_keeping (P := P) (w := w) (base := base) T
  obtain ⟨fd2, G2, b2⟩ := ok_Keeping_channel_at (P := P) (w := w) (base := base) T
  obtain ⟨fd3, G3, b3⟩ := ok_Channel_with_trials (P := P) (w := w) (base := base) T
  obtain ⟨fd4, G4, b4⟩ := ok_how_often_apart (P := P) (w := w) (base := base) T
  obtain ⟨fd5, G5, b5⟩ := ok_is_less (P := P) (w := w) (base := base) T
  refine ⟨fd, F.okX sc_Keeping_fewest (fun _ _ _ _ h => h.1) (fun cdv A outer s H vs Q E hr h => ?_), F.binds fun _ _ _ _ _ _ us hl => match us, hl with | [_, _, _, _, _, _, _], _ => rfl⟩
  have hr0 := hr.mono (by decide : 4 ≤ 9)
  have hr1 := hr.mono (by decide : 4 ≤ 9)
  have hr2 := hr.mono (by decide : 5 ≤ 9)
  have hr3 := hr.mono (by decide : 3 ≤ 9)
  have hr4 := hr.mono (by decide : 9 ≤ 9)
  have hr5 := hr.mono (by decide : 1 ≤ 9)
  refine ⟨_, (pss_cons (ps_expr (pe_call G0 hr0 (by rfl) T.g_want_up_to T.k_want_up_to b0 .nil (passes_call (takes_of rfl rfl rfl rfl) (fun _ _ _ _ h => h)) (pa_cons (pe_lst (pa_cons (pv 4) pa_nil)) (pa_cons (C8.pe_gc (by rfl) T.c_ENDING) pa_nil))))
    (pss_cons (ps_set (i := 7) sc_Keeping_fewest.nd rfl (.inl rfl) (pe_call G1 hr1 (by rfl) T.g_read_fraction_keeping T.k_read_fraction_keeping b1 .nil (passes_call (takes_of rfl rfl rfl rfl) (fun _ _ _ _ h => h)) (pa_cons (pv 5) (pa_cons (pv 6) pa_nil))))
    (pss_cons (ps_set (i := 8) sc_Keeping_fewest.nd rfl (.inl rfl) (pe_meth (pv 0) T.cl_Keeping T.m_Keeping_channel_at G2 hr2 b2 .nil (passes_call (takes_of rfl rfl rfl rfl) (fun _ _ _ _ h => h)) (pa_cons (pv 1) (pa_cons (pe_lst (pa_cons (pv 2) (pa_cons (pv 3) pa_nil))) pa_nil))))
    (pss_cons (ps_for (passes_of rfl) rfl (pi_range2 (by rfl) T.n_range (pa_cons pe_int (pa_cons (pe_op op_add (C8.pe_gc (by rfl) T.c_MOST_TRIALS) pe_int) pa_nil))) (pg_name (i := 9) sc_Keeping_fewest.nd rfl (.inl rfl)) (pss_one (ps_if (pt_not (pt_val (pe_call G5 hr5 (by rfl) T.g_is_less T.k_is_less b5 .nil pass0 (pa_cons (pe_call G4 hr4 (by rfl) T.g_how_often_apart T.k_how_often_apart b4 .nil pass0 (pa_cons (pe_fld (pv 0) rfl) (pa_cons (pe_meth (pv 8) T.cl_Channel T.m_Channel_with_trials G3 hr3 b3 .nil pass0 (pa_cons (pv 9) pa_nil)) (pa_cons (pv 2) (pa_cons (pv 3) (pa_cons (pv 4) pa_nil)))))) (pa_cons (pv 7) pa_nil))))) (pss_one (ps_ret (pe_lst (pa_cons pe_int (pa_cons (pv 9) pa_nil))))) pss_nil)))
    (pss_one (ps_ret (pe_lst (pa_cons pe_int pa_nil)))))))), ?_⟩
  obtain ⟨_, h⟩ := h
  obtain ⟨kp, p, cs, c, k, j, e, a, d, rfl, hK, qe, q⟩ := h
  obtain ⟨dx, pv, cl, hk, hp, hcl, ok, lc⟩ := id hK
  have g1 := ok.g1
  have g12 := ok.g12
  have c4 := ok.c4
  have k0 : Same H H := Same.refl H
  refine ⟨_, rfl, by show 1 ≤ sizeLine; decide, fun f1 n1 => ⟨rfl, .ref f1, [e], 1, rfl, ⟨f1, rfl, upd_same⟩, by show 1 ≤ 1000; decide, fun n hn => (qe n (by simp only [mFewest, hn, Except.bind])).pre (k0.trans (Same.new n1)), fun x1 hx1 _ H1 e1 _ => ?_⟩⟩
  have k1 := (k0.trans (Same.new n1)).trans e1
  have b_e := upTo_ok hx1 e (by simp)
  refine ⟨_, rfl, _, rfl, rfl, a, d, rfl, fun n hn => (qe n (by simp only [mFewest, hx1, hn, Except.bind])).pre k1, fun qq hx2 v_qq H2 e2 h_qq => ?_⟩
  have k2 := k1.trans e2
  have fq_qq := fracR_ok hx2
  refine ⟨_, rfl, kp, dx, _, rfl, k2 _ _ hk, L_Keeping_channel_at, _, rfl, _, rfl, _, rfl, by show 2 ≤ sizeLine; decide, fun f3 n3 => ⟨rfl, kp, p, cs, c, .ref f3, [k, j], rfl, hK.same (k2.trans (Same.new n3)), ⟨f3, rfl, upd_same⟩, by show 2 ≤ 1000; decide, fun n hn => (qe n (by simp only [mFewest, hx1, hx2, hn, Except.bind])).pre (k2.trans (Same.new n3)), fun x hx3 vc H3 e3 hvc => ?_⟩⟩
  have k3 := (k2.trans (Same.new n3)).trans e3
  have cr := chanR_ok hx3
  have okx := ok.ch x (List.mem_of_getElem? cr.2.2)
  have t40 := okx.t40
  have b_k := cr.2.1 k (by simp)
  have b_j := cr.2.1 j (by simp)
  obtain ⟨en, rfl⟩ : ∃ m : Nat, e = (m : Int) := ⟨e.toNat, by omega⟩
  obtain ⟨kn, rfl⟩ : ∃ m : Nat, k = (m : Int) := ⟨k.toNat, by omega⟩
  obtain ⟨jn, rfl⟩ : ∃ m : Nat, j = (m : Int) := ⟨j.toNat, by omega⟩
  have hq9 : FrAt K H3 v_qq qq := h_qq.same ((Same.new n3).trans e3)
  have sq : Sm 4000 qq := fq_qq.sm (by decide)
  have hm : mFewest p c kn jn en a d = .ok (fewR (Vbkdai.fewest p.parts x kn jn en qq)) := by simp only [mFewest, hx1, hx2, hx3, Except.bind, Int.toNat_natCast]
  refine ⟨_, _, rfl, rfl, 1, 41, rfl, ⟨by omega, by omega, by omega, by omega⟩, for_range (lo := 1) (n := 40)
    (fun i σ H' => ∃ v9, σ = [some (.ref kp), some (.int c), some (.int (kn : Int)), some (.int (jn : Int)), some (.int (en : Int)), some (.int a), some (.int d), some v_qq, some vc, v9] ∧ Same H3 H' ∧ ∀ t, 1 ≤ t → t < 1 + i → VbkdCore.le qq (Vbkdai.apart p.parts { x with trials := t } kn jn en) = false)
    ⟨none, rfl, Same.refl _, fun t h1 h2 => by omega⟩ ?_ ?_⟩
  · rintro i σ H' hi ⟨v9, rfl, e', no⟩
    have hv' := hvc.same e'
    obtain ⟨ca, cdx, nm, cb, cg, csu, rfl, hca, _⟩ := id hv'
    have eI : (1 : Int) + (i : Int) = ((1 + i : Nat) : Int) := by omega
    have okt : ChOk { x with trials := 1 + i } := ⟨by show 1 ≤ 1 + i; omega, by show 1 + i ≤ 40; omega, okx.o4, okx.nm, okx.b1, okx.b2, okx.g1, okx.g2, okx.su, okx.su0, okx.bb, okx.gg, okx.bg⟩
    refine ⟨_, rfl, kp, _, dx, _, _, rfl, (k3.trans e') _ _ hk, T.cl_Keeping, T.na_Keeping_plan, L_Keeping_plan, _, rfl, ca, cdx, _, rfl, hca, L_Channel_with_trials, _, rfl, rfl, _, 1 + i, x, ?_, hv', fun vt H7 e7 ht => ?_⟩
    · rw [← eI]
      rfl
    refine ⟨_, rfl, _, rfl, _, rfl, rfl, pv, vt, p, _, kn, jn, en, rfl, hp.same ((k3.trans e').trans e7), ht, okt, g12, by omega, by omega, by omega, fun va H8 e8 ha => ?_⟩
    have sma : Sm 4000 (Vbkdai.apart p.parts { x with trials := 1 + i } kn jn en) := apart_sm okt g12 (by omega) (by omega) (by omega)
    refine ⟨_, rfl, rfl, _, qq, va, v_qq, rfl, ha, hq9.same ((e'.trans e7).trans e8), sma, sq, _, rfl, ?_⟩
    have el : VbkdCore.le qq (Vbkdai.apart p.parts { x with trials := 1 + i } kn jn en) = !VbkdCore.less (Vbkdai.apart p.parts { x with trials := 1 + i } kn jn en) qq := rfl
    cases hl : VbkdCore.less (Vbkdai.apart p.parts { x with trials := 1 + i } kn jn en) qq with
    | false =>
      refine iteT ⟨_, rfl, by show 2 ≤ sizeLine; decide, fun l nl => q _ hm _ _ ((((k3.trans e').trans e7).trans e8).trans (Same.new nl)) ⟨l, rfl, ?_⟩⟩
      rw [upd_same]
      have hf : Vbkdai.fewest p.parts x kn jn en qq = some (1 + i) := by
        refine few_some (by omega) (by rw [el, hl]; rfl) no
      rw [hf, eI]
      rfl
    | true =>
      refine iteF ⟨some (.int ((1 : Int) + (i : Int))), rfl, (e'.trans e7).trans e8, fun t h1 h2 => ?_⟩
      by_cases z : t = 1 + i
      · rw [z, el, hl]
        rfl
      · exact no t h1 (by omega)
  · rintro σ H' ⟨v9, rfl, e', no⟩
    refine ⟨by show 1 ≤ sizeLine; decide, fun l nl => q _ hm _ _ ((k3.trans e').trans (Same.new nl)) ⟨l, rfl, ?_⟩⟩
    rw [upd_same, few_none no]
    rfl
theorem sc_Keeping_told_counts : FnScope N_Keeping_told_counts ["self"] (defScope s_Keeping_told_counts) := ⟨rfl, rfl, rfl, by decide +kernel, rfl, by decide +kernel, by decide +kernel⟩
theorem ok_Keeping_told_counts (T : TX K mg) : FOk P w K mg base CX0 1 (He.ma K (He.ga K "Keeping") "told_counts") ["self"] (sp_Keeping_told_counts K) := by
  obtain ⟨fd, F⟩ := T.f_Keeping_told_counts
  refine ⟨fd, F.ok sc_Keeping_told_counts (fun _ _ _ _ h => h.1) (fun cdv A outer s H vs Q E hr h => ?_), F.binds fun _ _ _ _ _ _ us hl => match us, hl with | [_], _ => rfl⟩
  refine ⟨_, PSs.nox (pss_cons (ps_set (i := 1) sc_Keeping_told_counts.nd rfl (.inl rfl) (pe_lst (pa_cons (pe_fld (pe_fld (pv 0) rfl) rfl) (pa_cons (pe_callB call_len_seq (by rfl) T.n_len (by decide +kernel) (pa_cons (pe_fld (pe_fld (pv 0) rfl) rfl) pa_nil)) pa_nil))))
    (pss_cons (ps_for PassesOwn.never rfl (pi_zip (by rfl) T.n_zip (pa_cons (pe_fld (pe_fld (pv 0) rfl) rfl) (pa_cons (pe_fld (pv 0) rfl) pa_nil))) (pg_tup (by rfl) (pgs_cons (pg_name (i := 2) sc_Keeping_told_counts.nd rfl (.inl rfl)) (pgs_cons (pg_name (i := 3) sc_Keeping_told_counts.nd rfl (.inl rfl)) pgs_nil))) (pss_one (ps_expr (pe_bm PySem.F.plainAttrs_list PySem.F.slot_list_extend PySem.F.type_list_extend mt_extend (pv 1) (pa_cons (pe_lst (pa_cons (pe_fld (pv 2) rfl) (pa_cons (pe_fld (pv 2) rfl) (pa_cons (pe_ifExp (pt_cmpR op_isN (pv 3) pe_non (by rfl)) (pe_un un_neg pe_int) (pv 3)) pa_nil)))) pa_nil)))))
    (pss_one (ps_ret (pv 1))))), ?_⟩
  obtain ⟨_, h⟩ := h
  obtain ⟨kp, p, cs, rfl, hK, q⟩ := h
  obtain ⟨dx, pv, cl, hk, hp, hcl, ok, lc⟩ := id hK
  have c4 := ok.c4
  obtain ⟨pa, pdx, pl, pvs, rfl, hpa, hpl, hpv⟩ := id hp
  have lp := paired_len hpv
  refine ⟨_, rfl, kp, _, dx, _, _, rfl, hk, T.cl_Keeping, T.na_Keeping_plan, L_Keeping_plan, pa, _, pdx, _, _, rfl, hpa, T.cl_Plan, T.na_Plan_parts, L_Plan_parts, ?_⟩
  refine ⟨_, rfl, kp, _, dx, _, _, rfl, hk, T.cl_Keeping, T.na_Keeping_plan, L_Keeping_plan, pa, _, pdx, _, _, rfl, hpa, T.cl_Plan, T.na_Plan_channels, L_Plan_channels, pl, _, rfl, .inl (SqL.of hpl), by show 2 ≤ sizeLine; decide, fun F nF => ?_⟩
  have kF : Same H (upd H F (.lst [.int (p.parts : Int), .int (pvs.length : Int)])) := Same.new nF
  have hF : (upd H F (.lst [.int (p.parts : Int), .int (pvs.length : Int)])) F = some (.lst (((p.parts : Int) :: (p.chans.length : Int) :: ((p.chans.zip cs).take 0).flatMap cntR).map V.int)) := by rw [upd_same, lp]; rfl
  generalize upd H F (.lst [.int (p.parts : Int), .int (pvs.length : Int)]) = H1 at kF hF ⊢
  refine ⟨_, rfl, kp, _, dx, _, _, rfl, kF _ _ hk, T.cl_Keeping, T.na_Keeping_plan, L_Keeping_plan, pa, _, pdx, _, _, rfl, kF _ _ hpa, T.cl_Plan, T.na_Plan_channels, L_Plan_channels, _, rfl, kp, _, dx, _, _, rfl, kF _ _ hk, T.cl_Keeping, T.na_Keeping_counted, L_Keeping_counted, pl, cl, _, _, rfl, SqL.of (kF _ _ hpl), SqL.of (kF _ _ hcl), for_it (walk_zip (xs := pvs) (ys := cs.map optV) (n := p.chans.length) (by rw [List.length_map, lp, lc, Nat.min_self]))
    (fun i σ H' => ∃ v2 v3, σ = [some (.ref kp), some (.ref F), v2, v3] ∧ Same H H' ∧ H' F = some (.lst (((p.parts : Int) :: (p.chans.length : Int) :: ((p.chans.zip cs).take i).flatMap cntR).map V.int)))
    ⟨none, none, rfl, kF, hF⟩ (fun i σ H' _ ⟨_, _, _, e, _⟩ => ⟨SqL.of (e _ _ hpl), SqL.of (e _ _ hcl)⟩) ?_ ?_⟩
  · rintro i z σ H2 H3 hi ⟨v2, v3, rfl, e, hF⟩ ⟨A2, x1, y1, rfl, nA, rfl, ex, ey⟩
    obtain ⟨x, hx, cx⟩ := paired_at' hpv ex
    obtain ⟨o, ho, rfl⟩ := opt_at ey
    have eA : Same H2 (upd H2 A2 (.tup [x1, optV o])) := Same.new nA
    obtain ⟨ca, cdx, nm, cb, cg, csu, rfl, hca, _⟩ := cx.same (e.trans eA)
    refine ⟨A2, _, rfl, SqT.of upd_same, rfl, _, _, rfl, _, _, rfl, rfl, ?_⟩
    refine ⟨_, rfl, Or.inl ⟨rfl, _, SqL.of (eA _ _ hF)⟩, _, rfl, ca, _, cdx, _, _, rfl, hca, T.cl_Channel, T.na_Channel_trials, L_Channel_trials, _, rfl, ca, _, cdx, _, _, rfl, hca, T.cl_Channel, T.na_Channel_order, L_Channel_order, _, rfl, rfl, _, rfl, ?_⟩
    have fin : ∀ m : Int, m = cntV o → ∀ l, (upd H2 A2 (.tup [.ref ca, optV o])) l = none → ∃ f b xs zs, V.ref F = .ref f ∧ [V.ref l] = [.ref b] ∧ (upd (upd H2 A2 (.tup [.ref ca, optV o])) l (.lst [.int (x.trials : Int), .int (x.order : Int), .int m])) f = some (.lst xs) ∧ (upd (upd H2 A2 (.tup [.ref ca, optV o])) l (.lst [.int (x.trials : Int), .int (x.order : Int), .int m])) b = some (.lst zs) ∧ xs.length + zs.length ≤ sizeLine ∧
        (∃ v2 v3, [some (V.ref kp), some (.ref F), some (.ref ca), some (optV o)] = [some (.ref kp), some (.ref F), v2, v3] ∧ Same H (upd (upd (upd H2 A2 (.tup [.ref ca, optV o])) l (.lst [.int (x.trials : Int), .int (x.order : Int), .int m])) f (.lst (xs ++ zs))) ∧ (upd (upd (upd H2 A2 (.tup [.ref ca, optV o])) l (.lst [.int (x.trials : Int), .int (x.order : Int), .int m])) f (.lst (xs ++ zs))) F = some (.lst (((p.parts : Int) :: (p.chans.length : Int) :: ((p.chans.zip cs).take (i + 1)).flatMap cntR).map V.int))) := fun m hm l nl => by
      have el := eA.trans (Same.new (o := .lst [.int (x.trials : Int), .int (x.order : Int), .int m]) nl)
      refine ⟨F, l, _, _, rfl, rfl, el _ _ hF, upd_same, ?_, _, _, rfl, (e.trans el).mut nF, ?_⟩
      · rw [List.length_map, List.length_cons, List.length_cons, cnt_len, List.length_take, List.length_zip]
        exact Nat.le_of_lt (small1000 (show _ + 1 + 1 + 3 ≤ 1000 by omega))
      · rw [upd_same, take_succ (zip_at hx ho), List.flatMap_append, List.map_cons, List.map_cons, List.map_cons, List.map_cons, List.map_append, hm]
        cases o <;> rfl
    cases o with
    | none =>
      refine ite2 (fun _ => ?_) (fun z => absurd (decide_eq_true rfl) z)
      exact ⟨_, rfl, by show 3 ≤ sizeLine; decide, fin (-1) rfl⟩
    | some n =>
      refine ite2 (fun z => by cases of_decide_eq_true z) (fun _ => ?_)
      exact ⟨_, rfl, by show 3 ≤ sizeLine; decide, fin (n : Int) rfl⟩
  · rintro σ H' ⟨v2, v3, rfl, e, hF⟩
    rw [List.take_of_length_le (by rw [List.length_zip]; omega)] at hF
    exact ⟨_, rfl, q _ _ e ⟨F, rfl, hF⟩⟩
theorem filt_more {f : Nat → Bool} {l : List Nat} {i n : Nat} (h : l[i]? = some n) : (l.take (i + 1)).filter f = (l.take i).filter f ++ (if f n = true then [n] else []) := by
  rw [take_succ h, List.filter_append]
  congr 1
  by_cases z : f n = true
  · rw [if_pos z]
    simp [z]
  · rw [if_neg z]
    simp [z]
def sureF (q : Qd) (x : Vbkdai.Chan × Option Nat) : Qd := if x.2.isSome = true then VbkdCore.mul q x.1.sure else q
theorem someOf_lt {g : Nat} {l : List (Vbkdai.Chan × Option Nat)} {k : Nat} (h : k ∈ someOf g l) : k < g := List.mem_range.mp (List.mem_filter.mp h).1
theorem someOf_len (g : Nat) (l : List (Vbkdai.Chan × Option Nat)) : (someOf g l).length ≤ g := filter_len
theorem sc_Keeping_jointly : FnScope N_Keeping_jointly ["self"] (defScope s_Keeping_jointly) := ⟨rfl, rfl, rfl, by decide +kernel, rfl, by decide +kernel, by decide +kernel⟩
theorem ok_Keeping_jointly (T : TX K mg) : FOk P w K mg base CX0 9 (He.ma K (He.ga K "Keeping") "jointly") ["self"] (sp_Keeping_jointly K) := by
  obtain ⟨fd, F⟩ := T.f_Keeping_jointly
  obtain ⟨fd0, G0, b0⟩ := ok_times (P := P) (w := w) (base := base) T
  obtain ⟨fd1, G1, b1⟩ := ok_belt_of (P := P) (w := w) (base := base) T
  obtain ⟨fd2, G2, b2⟩ := ok_parts_left (P := P) (w := w) (base := base) T
  obtain ⟨fd3, G3, b3⟩ := ok_parts_told (P := P) (w := w) (base := base) T
  refine ⟨fd, F.ok sc_Keeping_jointly (fun _ _ _ _ h => h.1) (fun cdv A outer s H vs Q E hr h => ?_), F.binds fun _ _ _ _ _ _ us hl => match us, hl with | [_], _ => rfl⟩
  have hr0 := hr.mono (by decide : 3 ≤ 8)
  have hr1 := hr.mono (by decide : 8 ≤ 8)
  have hr2 := hr.mono (by decide : 1 ≤ 8)
  have hr3 := hr.mono (by decide : 3 ≤ 8)
  refine ⟨_, PSs.nox (pss_cons (ps_set (i := 1) sc_Keeping_jointly.nd rfl (.inl rfl) (C8.pe_gc (by rfl) T.c_ONE))
    (pss_cons (ps_set (i := 2) sc_Keeping_jointly.nd rfl (.inl rfl) (pe_listRg (by rfl) (by rfl) T.n_list (prg_1 (by rfl) T.n_range (pe_fld (pe_fld (pv 0) rfl) rfl))))
    (pss_cons (ps_for PassesOwn.never rfl (pi_zip (by rfl) T.n_zip (pa_cons (pe_fld (pe_fld (pv 0) rfl) rfl) (pa_cons (pe_fld (pv 0) rfl) pa_nil))) (pg_tup (by rfl) (pgs_cons (pg_name (i := 3) sc_Keeping_jointly.nd rfl (.inl rfl)) (pgs_cons (pg_name (i := 4) sc_Keeping_jointly.nd rfl (.inl rfl)) pgs_nil))) (pss_one (ps_if (pt_cmpR op_notN (pv 4) pe_non (by rfl)) (pss_cons (ps_set (i := 1) sc_Keeping_jointly.nd rfl (.inl rfl) (pe_call G0 hr0 (by rfl) T.g_times T.k_times b0 .nil pass0 (pa_cons (pv 1) (pa_cons (pe_fld (pv 3) rfl) pa_nil))))
    (pss_cons (ps_set (i := 5) sc_Keeping_jointly.nd rfl (.inr rfl) (pe_call G2 hr2 (by rfl) T.g_parts_left T.k_parts_left b2 .nil pass0 (pa_cons (pe_call G1 hr1 (by rfl) T.g_belt_of T.k_belt_of b1 .nil pass0 (pa_cons (pe_fld (pv 0) rfl) (pa_cons (pv 3) pa_nil))) (pa_cons (pv 4) pa_nil))))
    (pss_one (ps_setLc (g := (gName 6)) (tt := tTest (tOp (rIn K false) (tVar 6) (tVar 5))) (i := 2) (own := [("k", 6)]) (by rfl) sc_Keeping_jointly.nd rfl rfl (sw_true rfl rfl rfl (by decide +kernel)) (pi_list (pv 2)) (blkOk_by (own := [("k", 6)]) (N := N_Keeping_jointly) (sc := defScope s_Keeping_jointly) (by decide +kernel)) (fun _ _ _ _ _ => by exact (pg_name (i := 6) sc_Keeping_jointly.nd rfl (.inl rfl))) (fun _ _ _ _ _ => by exact (pts_one (pt_cmpR op_in_seq (pv 6) (pv 5) (by rfl)))) (fun _ _ _ _ _ => by exact (pv 6)))))) pss_nil)))
    (pss_one (ps_ret (pe_op op_cat (pe_callTy call_list_of (by rfl) T.n_list (by decide +kernel) (pa_cons (pv 1) pa_nil)) (pe_call G3 hr3 (by rfl) T.g_parts_told T.k_parts_told b3 .nil pass0 (pa_cons (pe_fld (pv 0) rfl) (pa_cons (pv 2) pa_nil))))))))), ?_⟩
  obtain ⟨_, h⟩ := h
  obtain ⟨kp, p, cs, rfl, hK, q⟩ := h
  obtain ⟨dx, pv, cl, hk, hp, hcl, ok, lc⟩ := id hK
  have c4 := ok.c4
  have g1 := ok.g1
  have g12 := ok.g12
  obtain ⟨pa, pdx, pl, pvs, rfl, hpa, hpl, hpv⟩ := id hp
  have lp := paired_len hpv
  refine ⟨_, rfl, kp, _, dx, _, _, rfl, hk, T.cl_Keeping, T.na_Keeping_plan, L_Keeping_plan, pa, _, pdx, _, _, rfl, hpa, T.cl_Plan, T.na_Plan_parts, L_Plan_parts, (p.parts : Int), rfl, RgOk.of_le (by omega) (by omega) (by omega) (by omega), fun S nS => ?_⟩
  have kS : Same H (upd H S (.lst (rgV 0 (p.parts : Int)))) := Same.new nS
  have hS : (upd H S (.lst (rgV 0 (p.parts : Int)))) S = some (.lst ((nI (someOf p.parts ((p.chans.zip cs).take 0))).map V.int)) := by
    rw [upd_same, rgV_nI]
    refine congrArg some (congrArg HO.lst (congrArg (List.map V.int) (congrArg nI ?_)))
    unfold someOf
    exact (List.filter_eq_self.mpr fun _ _ => rfl).symm
  generalize upd H S (.lst (rgV 0 (p.parts : Int))) = H1 at kS hS ⊢
  refine ⟨_, rfl, kp, _, dx, _, _, rfl, kS _ _ hk, T.cl_Keeping, T.na_Keeping_plan, L_Keeping_plan, pa, _, pdx, _, _, rfl, kS _ _ hpa, T.cl_Plan, T.na_Plan_channels, L_Plan_channels, _, rfl, kp, _, dx, _, _, rfl, kS _ _ hk, T.cl_Keeping, T.na_Keeping_counted, L_Keeping_counted, pl, cl, _, _, rfl, SqL.of (kS _ _ hpl), SqL.of (kS _ _ hcl), for_it (walk_zip (xs := pvs) (ys := cs.map optV) (n := p.chans.length) (by rw [List.length_map, lp, lc, Nat.min_self]))
    (fun i σ H' => ∃ v1 S v3 v4 v5 v6, σ = [some (.ref kp), some v1, some (.ref S), v3, v4, v5, v6] ∧ Same H H' ∧ FrAt K H' v1 (((p.chans.zip cs).take i).foldl sureF Vbkdai.one) ∧ Fq (1000 ^ i) (((p.chans.zip cs).take i).foldl sureF Vbkdai.one) ∧ H' S = some (.lst ((nI (someOf p.parts ((p.chans.zip cs).take i))).map V.int)))
    ⟨_, S, none, none, none, none, rfl, kS, ⟨_, rfl, T.t_ONE H1⟩, (show Fq (1000 ^ 0) Vbkdai.one from ⟨by decide, by decide, by decide, by decide⟩), hS⟩ (fun i σ H' _ ⟨_, _, _, _, _, _, _, e, _⟩ => ⟨SqL.of (e _ _ hpl), SqL.of (e _ _ hcl)⟩) ?_ ?_⟩
  · rintro i z σ H2 H3 hi ⟨v1, S, v3, v4, v5, v6, rfl, e, hf, fq, hS⟩ ⟨A2, x1, y1, rfl, nA, rfl, ex, ey⟩
    obtain ⟨x, hx, cx⟩ := paired_at' hpv ex
    obtain ⟨o, ho, rfl⟩ := opt_at ey
    have okx := ok.ch x (List.mem_of_getElem? hx)
    have eA : Same H2 (upd H2 A2 (.tup [x1, optV o])) := Same.new nA
    have hxA := cx.same (e.trans eA)
    have zt := take_succ (zip_at hx ho)
    have fd : ((p.chans.zip cs).take (i + 1)).foldl sureF Vbkdai.one = sureF (((p.chans.zip cs).take i).foldl sureF Vbkdai.one) (x, o) := by rw [zt, List.foldl_append]; rfl
    have i4 : i ≤ 3 := by omega
    have p40 : 1000 ^ i ≤ 1000 ^ 3 := Nat.pow_le_pow_right (by decide) i4
    refine ⟨A2, _, rfl, SqT.of upd_same, rfl, _, _, rfl, _, _, rfl, rfl, ?_⟩
    refine ⟨_, rfl, rfl, _, rfl, ?_⟩
    cases o with
    | none =>
      refine ite2 (fun z => ?_) (fun _ => ?_)
      · have : (!decide (V.non = V.non)) = true := z
        rw [decide_eq_true rfl] at this
        cases this
      · refine ⟨v1, S, _, _, v5, v6, rfl, e.trans eA, ?_, ?_, ?_⟩
        · rw [fd]
          exact hf.same eA
        · rw [fd]
          exact fq.mono (by rw [Nat.pow_succ]; omega)
        · rw [zt, some_app, eA _ _ hS]
          refine congrArg some (congrArg HO.lst (congrArg (List.map V.int) (congrArg nI ?_)))
          exact (List.filter_eq_self.mpr fun _ _ => rfl).symm
    | some n =>
      refine ite2 (fun _ => ?_) (fun z => absurd (by rw [show (optV (some n)) = V.int (n : Int) from rfl, decide_eq_false (fun z => by cases z)]; rfl) z)
      obtain ⟨ca, cdx, nm, cb, cg, csu, rfl, hca, c1, c2, c3, c5⟩ := id hxA
      refine ⟨_, rfl, _, rfl, ca, _, cdx, _, _, rfl, hca, T.cl_Channel, T.na_Channel_sure, L_Channel_sure, rfl, _, x.sure, v1, csu, rfl, hf.same eA, c5, fq.sm (j := 4000) (Nat.lt_of_le_of_lt p40 (Nat.lt_of_lt_of_le (show 1000 ^ 3 < 2 ^ 40 by decide) (Nat.pow_le_pow_right (by decide) (by decide)))), okx.su.sm (by decide), fun v7 H4 e4 h7 => ?_⟩
      have k4 := (e.trans eA).trans e4
      refine ⟨_, rfl, kp, _, dx, _, _, rfl, k4 _ _ hk, T.cl_Keeping, T.na_Keeping_plan, L_Keeping_plan, _, rfl, rfl, p, x, _, _, rfl, hp.same k4, hxA.same e4, okx, g12, fun vb H5 e5 hb => ?_⟩
      refine ⟨_, rfl, rfl, vb, n, _, rfl, hb, by rw [belt_len]; exact g12, fun vl H6 e6 ⟨la, ev, hl⟩ => ?_⟩
      subst ev
      have e46 := (e4.trans e5).trans e6
      have hS6 := (eA.trans e46) _ _ hS
      have sl := someOf_len p.parts ((p.chans.zip cs).take i)
      refine ⟨_, rfl, S, rfl, ⟨_, SqL.of hS6⟩, fun D nD => lc_list (K := K) (a := S) (xs := (nI (someOf p.parts ((p.chans.zip cs).take i))).map V.int)
        (fun j H' => Same H6 H' ∧ H' D = some (.lst ((nI (((someOf p.parts ((p.chans.zip cs).take i)).take j).filter fun k => Vbkdai.isLet (Vbkdai.letIn p.parts x k) n)).map V.int))) ⟨Same.new nD, upd_same⟩ (fun j H' _ ⟨e7, _⟩ => SqL.of (e7 _ _ hS6)) ?_ ?_⟩
      · rintro j y H' hy ⟨e7, hD⟩
        obtain ⟨kk, hkk, rfl⟩ := nI_get hy
        have kl := someOf_lt (List.mem_of_getElem? hkk)
        refine ⟨rfl, ?_⟩
        refine ⟨_, rfl, _, rfl, la, _, rfl, .inl (SqL.of (e7 _ _ hl)), rfl, ints_flat _, _, rfl, ?_⟩
        rw [inV_nat, mem_parts kl]
        refine ite2 (fun c => ?_) (fun c => ?_)
        · have c : Vbkdai.isLet (Vbkdai.letIn p.parts x kk) n = true := c
          refine ⟨_, rfl, _, hD, ?_, e7.mut nD, ?_⟩
          · rw [nI_len]
            refine small1000 (Nat.le_trans (List.length_filter_le _ _) ?_)
            rw [List.length_take]
            omega
          · rw [upd_same, filt_more hkk, if_pos c, nI_snoc]
        · have c : ¬ Vbkdai.isLet (Vbkdai.letIn p.parts x kk) n = true := c
          refine ⟨e7, ?_⟩
          rw [hD, filt_more hkk, if_neg c, List.append_nil]
      · rintro H' ⟨e7, hD⟩
        rw [nI_len, List.take_length] at hD
        refine ⟨v7, D, _, _, _, _, rfl, ((k4.trans e5).trans e6).trans e7, ?_, ?_, ?_⟩
        · rw [fd]
          exact ((h7.same e5).same e6).same e7
        · rw [fd, Nat.pow_succ]
          exact mul_fq fq okx.su
        · rw [zt, some_app, hD]
          rfl
  · rintro σ H' ⟨v1, S, v3, v4, v5, v6, rfl, e, ⟨sa, ev, hf⟩, fq, hS⟩
    subst ev
    have tk : (p.chans.zip cs).take p.chans.length = p.chans.zip cs := List.take_of_length_le (by rw [List.length_zip]; omega)
    rw [tk] at hf hS
    have sl := someOf_len p.parts (p.chans.zip cs)
    refine ⟨_, rfl, sa, _, rfl, .inr hf, fun p1 n1 => ?_⟩
    have e1 : Same H' (upd H' p1 (.lst (qV ((p.chans.zip cs).foldl sureF Vbkdai.one)))) := Same.new n1
    have h1 : (upd H' p1 (.lst (qV ((p.chans.zip cs).foldl sureF Vbkdai.one)))) p1 = some (.lst (qV ((p.chans.zip cs).foldl sureF Vbkdai.one))) := upd_same
    generalize upd H' p1 (.lst (qV ((p.chans.zip cs).foldl sureF Vbkdai.one))) = H8 at e1 h1 ⊢
    have k8 := e.trans e1
    refine ⟨_, rfl, kp, _, dx, _, _, rfl, k8 _ _ hk, T.cl_Keeping, T.na_Keeping_plan, L_Keeping_plan, _, rfl, rfl, _, .ref S, p, _, rfl, hp.same k8, ⟨S, rfl, e1 _ _ hS⟩, g1, g12, by omega, fun v2 H9 e9 ⟨ra, ev, hr⟩ => ?_⟩
    subst ev
    refine ⟨p1, ra, _, _, rfl, rfl, e9 _ _ h1, hr, ?_, fun p3 n3 => q _ _ ((k8.trans e9).trans (Same.new n3)) ⟨p3, rfl, ?_⟩⟩
    · rw [List.length_map]
      have := prow_len p.parts (someOf p.parts (p.chans.zip cs))
      exact Nat.le_of_lt (small1000 (show 2 + _ ≤ 1000 by omega))
    · rw [upd_same]
      show _ = some (HO.lst ((mJoint p cs).map V.int))
      unfold mJoint
      rw [List.map_append]
      rfl
theorem sc_Keeping_covers : FnScope N_Keeping_covers ["self", "c", "k", "numbers"] (defScope s_Keeping_covers) := ⟨rfl, rfl, rfl, by decide +kernel, rfl, by decide +kernel, by decide +kernel⟩
theorem ok_Keeping_covers (T : TX K mg) : FOk P w K mg base (L2.CX P w) 9 (He.ma K (He.ga K "Keeping") "covers") ["self", "c", "k", "numbers"] (sp_Keeping_covers K) := by
  obtain ⟨fd, F⟩ := T.f_Keeping_covers
  obtain ⟨fd0, G0, b0⟩ := ok_read_fraction_keeping (P := P) (w := w) (base := base) T
  obtain ⟨fd1, G1, b1⟩ := ok_Keeping_channel_at (P := P) (w := w) (base := base) T
  obtain ⟨fd2, G2, b2⟩ := ok_fraction (P := P) (w := w) (base := base) T
  obtain ⟨fd3, G3, b3⟩ := ok_is_between (P := P) (w := w) (base := base) T
  obtain ⟨fd4, G4, b4⟩ := ok_want (P := P) (w := w) (base := base) T
  obtain ⟨fd5, G5, b5⟩ := ok_part_let (P := P) (w := w) (base := base) T
  obtain ⟨fd6, G6, b6⟩ := ok_chance_with (P := P) (w := w) (base := base) T
  obtain ⟨fd7, G7, b7⟩ := ok_Spread_init (P := P) (w := w) (base := base) T
  obtain ⟨fd8, G8, b8⟩ := ok_Spread_often (P := P) (w := w) (base := base) T
  refine ⟨fd, F.okX sc_Keeping_covers (fun _ _ _ _ h => h.1) (fun cdv A outer s H vs Q E hr h => ?_), F.binds fun _ _ _ _ _ _ us hl => match us, hl with | [_, _, _, _], _ => rfl⟩
  have hr0 := hr.mono (by decide : 4 ≤ 8)
  have hr1 := hr.mono (by decide : 5 ≤ 8)
  have hr2 := hr.mono (by decide : 2 ≤ 8)
  have hr3 := hr.mono (by decide : 2 ≤ 8)
  have hr4 := hr.mono (by decide : 3 ≤ 8)
  have hr5 := hr.mono (by decide : 8 ≤ 8)
  have hr6 := hr.mono (by decide : 4 ≤ 8)
  have hr7 := hr.mono (by decide : 3 ≤ 8)
  have hr8 := hr.mono (by decide : 3 ≤ 8)
  refine ⟨_, (pss_cons (ps_set (i := 4) sc_Keeping_covers.nd rfl (.inl rfl) (pe_call G0 hr0 (by rfl) T.g_read_fraction_keeping T.k_read_fraction_keeping b0 .nil (passes_call (takes_of rfl rfl rfl rfl) (fun _ _ _ _ h => h)) (pa_cons (pe_ix ix_list (pv 3) pe_int (fun _ _ => rfl)) (pa_cons (pe_ix ix_list (pv 3) pe_int (fun _ _ => rfl)) pa_nil))))
    (pss_cons (ps_set (i := 5) sc_Keeping_covers.nd rfl (.inl rfl) (pe_call G0 hr0 (by rfl) T.g_read_fraction_keeping T.k_read_fraction_keeping b0 .nil (passes_call (takes_of rfl rfl rfl rfl) (fun _ _ _ _ h => h)) (pa_cons (pe_ix ix_list (pv 3) pe_int (fun _ _ => rfl)) (pa_cons (pe_ix ix_list (pv 3) pe_int (fun _ _ => rfl)) pa_nil))))
    (pss_cons (ps_set (i := 6) sc_Keeping_covers.nd rfl (.inl rfl) (pe_call G0 hr0 (by rfl) T.g_read_fraction_keeping T.k_read_fraction_keeping b0 .nil (passes_call (takes_of rfl rfl rfl rfl) (fun _ _ _ _ h => h)) (pa_cons (pe_ix ix_list (pv 3) pe_int (fun _ _ => rfl)) (pa_cons (pe_ix ix_list (pv 3) pe_int (fun _ _ => rfl)) pa_nil))))
    (pss_cons (ps_set (i := 7) sc_Keeping_covers.nd rfl (.inl rfl) (pe_meth (pv 0) T.cl_Keeping T.m_Keeping_channel_at G1 hr1 b1 .nil (passes_call (takes_of rfl rfl rfl rfl) (fun _ _ _ _ h => h)) (pa_cons (pv 1) (pa_cons (pe_lst (pa_cons (pv 2) pa_nil)) pa_nil))))
    (pss_cons (ps_expr (pe_call G4 hr4 (by rfl) T.g_want T.k_want b4 .nil (passes_call (takes_of rfl rfl rfl rfl) (fun _ _ _ _ h => h)) (pa_cons (pe_call G3 hr3 (by rfl) T.g_is_between T.k_is_between b3 .nil pass0 (pa_cons (pv 4) (pa_cons (pe_call G2 hr2 (by rfl) T.g_fraction T.k_fraction b2 .nil pass0 (pa_cons (pv 2) (pa_cons (pe_fld (pe_fld (pv 0) rfl) rfl) pa_nil))) (pa_cons (pe_call G2 hr2 (by rfl) T.g_fraction T.k_fraction b2 .nil pass0 (pa_cons (pe_op op_add (pv 2) pe_int) (pa_cons (pe_fld (pe_fld (pv 0) rfl) rfl) pa_nil))) pa_nil)))) (pa_cons (C8.pe_gc (by rfl) T.c_NOT_BETWEEN) pa_nil))))
    (pss_cons (ps_expr (pe_call G4 hr4 (by rfl) T.g_want T.k_want b4 .nil (passes_call (takes_of rfl rfl rfl rfl) (fun _ _ _ _ h => h)) (pa_cons (pe_call G3 hr3 (by rfl) T.g_is_between T.k_is_between b3 .nil pass0 (pa_cons (pv 5) (pa_cons (pe_ix ix_tup (pe_fld (pv 7) rfl) pe_int (fun _ _ => rfl)) (pa_cons (pe_ix ix_tup (pe_fld (pv 7) rfl) pe_int (fun _ _ => rfl)) pa_nil)))) (pa_cons (C8.pe_gc (by rfl) T.c_NOT_BETWEEN) pa_nil))))
    (pss_cons (ps_expr (pe_call G4 hr4 (by rfl) T.g_want T.k_want b4 .nil (passes_call (takes_of rfl rfl rfl rfl) (fun _ _ _ _ h => h)) (pa_cons (pe_call G3 hr3 (by rfl) T.g_is_between T.k_is_between b3 .nil pass0 (pa_cons (pv 6) (pa_cons (pe_ix ix_tup (pe_fld (pv 7) rfl) pe_int (fun _ _ => rfl)) (pa_cons (pe_ix ix_tup (pe_fld (pv 7) rfl) pe_int (fun _ _ => rfl)) pa_nil)))) (pa_cons (C8.pe_gc (by rfl) T.c_NOT_BETWEEN) pa_nil))))
    (pss_cons (ps_asg (pe_call G5 hr5 (by rfl) T.g_part_let T.k_part_let b5 .nil pass0 (pa_cons (pe_fld (pv 0) rfl) (pa_cons (pv 7) (pa_cons (pv 2) pa_nil)))) (pg_tup (by rfl) (pgs_cons (pg_name (i := 8) sc_Keeping_covers.nd rfl (.inl rfl)) (pgs_cons (pg_name (i := 9) sc_Keeping_covers.nd rfl (.inl rfl)) pgs_nil))))
    (pss_one (ps_ret (pe_callTy call_list_of (by rfl) T.n_list (by decide +kernel) (pa_cons (pe_meth (pe_make T.mk_Spread G7 hr7 (by rfl) T.g_Spread b7 .nil pass0 (pa_cons (pe_fld (pv 7) rfl) (pa_cons (pe_call G6 hr6 (by rfl) T.g_chance_with T.k_chance_with b6 .nil pass0 (pa_cons (pv 4) (pa_cons (pv 5) (pa_cons (pv 6) pa_nil)))) pa_nil))) T.cl_Spread T.m_Spread_often G8 hr8 b8 .nil pass0 (pa_cons (pv 8) (pa_cons (pv 9) pa_nil))) pa_nil)))))))))))), ?_⟩
  obtain ⟨_, h⟩ := h
  obtain ⟨kp, p, cs, c, k, v, a, d, b, f, g, h, rfl, hK, ⟨na, rfl, hna⟩, qe, q⟩ := h
  obtain ⟨dx, pv, cl, hk, hp, hcl, ok, lc⟩ := id hK
  obtain ⟨pa, pdx, pl, pvs, rfl, hpa, hpl, hpv⟩ := id hp
  have g1 := ok.g1
  have g12 := ok.g12
  have k0 : Same H H := Same.refl H
  have lg : p.parts < 2 ^ 8000 := Nat.lt_of_lt_of_le (show p.parts < 2 ^ 10 by omega) (Nat.pow_le_pow_right (by decide) (by decide))
  refine ⟨_, rfl, na, _, _, _, rfl, rfl, SqL.of (k0 _ _ hna), atI_nat (j := 0) rfl, _, rfl, na, _, _, _, rfl, rfl, SqL.of (k0 _ _ hna), atI_nat (j := 1) rfl, rfl, a, d, rfl, fun n hn => (qe n (by simp only [mCovers, hn, Except.bind])).pre k0, fun t hx1 v_t H1 e1 h_t => ?_⟩
  have k1 := k0.trans e1
  have fq_t := fracR_ok hx1
  refine ⟨_, rfl, na, _, _, _, rfl, rfl, SqL.of (k1 _ _ hna), atI_nat (j := 2) rfl, _, rfl, na, _, _, _, rfl, rfl, SqL.of (k1 _ _ hna), atI_nat (j := 3) rfl, rfl, b, f, rfl, fun n hn => (qe n (by simp only [mCovers, hx1, hn, Except.bind])).pre k1, fun u hx2 v_u H2 e2 h_u => ?_⟩
  have k2 := k1.trans e2
  have fq_u := fracR_ok hx2
  refine ⟨_, rfl, na, _, _, _, rfl, rfl, SqL.of (k2 _ _ hna), atI_nat (j := 4) rfl, _, rfl, na, _, _, _, rfl, rfl, SqL.of (k2 _ _ hna), atI_nat (j := 5) rfl, rfl, g, h, rfl, fun n hn => (qe n (by simp only [mCovers, hx1, hx2, hn, Except.bind])).pre k2, fun w hx3 v_w H3 e3 h_w => ?_⟩
  have k3 := k2.trans e3
  have fq_w := fracR_ok hx3
  refine ⟨_, rfl, kp, dx, _, rfl, k3 _ _ hk, L_Keeping_channel_at, _, rfl, _, rfl, by show 1 ≤ sizeLine; decide, fun f4 n4 => ⟨rfl, kp, p, cs, c, .ref f4, [k], rfl, hK.same (k3.trans (Same.new n4)), ⟨f4, rfl, upd_same⟩, by show 1 ≤ 1000; decide, fun n hn => (qe n (by simp only [mCovers, hx1, hx2, hx3, hn, Except.bind])).pre (k3.trans (Same.new n4)), fun x hx4 vc H4 e4 hvc => ?_⟩⟩
  have k4 := (k3.trans (Same.new n4)).trans e4
  have cr := chanR_ok hx4
  have okx := ok.ch x (List.mem_of_getElem? cr.2.2)
  have t40 := okx.t40
  have b_k := cr.2.1 k (by simp)
  obtain ⟨kn, rfl⟩ : ∃ m : Nat, k = (m : Int) := ⟨k.toNat, by omega⟩
  obtain ⟨ca, cdx, nm, cb, cg, csu, rfl, hca, c1, c2, c3, c5⟩ := id hvc
  have mk1 := (mk_fq (a := (kn : Int)) (b := p.parts) (by omega) (by omega) (by omega)).mono (show p.parts ≤ 1000 by omega)
  have mk2 := (mk_fq (a := (kn : Int) + 1) (b := p.parts) (by omega) (by omega) (by omega)).mono (show p.parts ≤ 1000 by omega)
  have t4 := h_t.same e2 |>.same e3 |>.same (Same.new n4) |>.same e4
  have u4 := h_u.same e3 |>.same (Same.new n4) |>.same e4
  have w4 := h_w.same (Same.new n4) |>.same e4
  refine ⟨_, rfl, _, rfl, _, rfl, kp, _, dx, _, _, rfl, k4 _ _ hk, T.cl_Keeping, T.na_Keeping_plan, L_Keeping_plan, pa, _, pdx, _, _, rfl, k4 _ _ hpa, T.cl_Plan, T.na_Plan_parts, L_Plan_parts, rfl, (kn : Int), p.parts, rfl, by omega, lg, fun v1 H5 e5 q1 => ?_⟩
  have k5 := k4.trans e5
  refine ⟨_, rfl, _, _, rfl, rfl, _, rfl, kp, _, dx, _, _, rfl, k5 _ _ hk, T.cl_Keeping, T.na_Keeping_plan, L_Keeping_plan, pa, _, pdx, _, _, rfl, k5 _ _ hpa, T.cl_Plan, T.na_Plan_parts, L_Plan_parts, rfl, (kn : Int) + 1, p.parts, rfl, by omega, lg, fun v2 H6 e6 q2 => ?_⟩
  have k6 := k5.trans e6
  have t6 := (t4.same e5).same e6
  have u6 := (u4.same e5).same e6
  have w6 := (w4.same e5).same e6
  have x6 := (hvc.same e5).same e6
  refine ⟨rfl, t, _, _, _, _, _, rfl, t6, q1.same e6, q2, fq_t.sm (by decide), mk1.sm (by decide), mk2.sm (by decide), rfl, _, -7, rfl, fun n hn => (qe n (by simp only [mCovers, hx1, hx2, hx3, hx4, hn, Except.bind])).pre k6, fun _ hx5 _ H7 e7 _ => ?_⟩
  have k7 := k6.trans e7
  have t7 := t6.same e7
  have u7 := u6.same e7
  have w7 := w6.same e7
  have x7 := x6.same e7
  obtain ⟨ca, cdx, nm, cb, cg, csu, ec, hca, c1, c2, c3, c5⟩ := id x7
  cases ec
  obtain ⟨ta, tv1, tv2, rfl, hta, ht1, ht2⟩ := c2
  refine ⟨_, rfl, _, rfl, ca, _, cdx, _, _, rfl, hca, T.cl_Channel, T.na_Channel_base, L_Channel_base, ta, _, _, tv1, rfl, rfl, hta, at0, _, rfl, ca, _, cdx, _, _, rfl, hca, T.cl_Channel, T.na_Channel_base, L_Channel_base, ta, _, _, tv2, rfl, rfl, hta, at1, rfl, u, _, _, _, _, _, rfl, u7, ht1, ht2, fq_u.sm (by decide), okx.b1.sm (by decide), okx.b2.sm (by decide), rfl, _, -7, rfl, fun n hn => (qe n (by simp only [mCovers, hx1, hx2, hx3, hx4, hx5, hn, Except.bind])).pre k7, fun _ hx7 _ H8 e8 _ => ?_⟩
  have k8 := k7.trans e8
  have t8 := t7.same e8
  have u8 := u7.same e8
  have w8 := w7.same e8
  have x8 := x7.same e8
  obtain ⟨ca, cdx, nm, cb, cg, csu, ec, hca, c1, c2, c3, c5⟩ := id x8
  cases ec
  obtain ⟨ta, tv1, tv2, rfl, hta, ht1, ht2⟩ := c3
  refine ⟨_, rfl, _, rfl, ca, _, cdx, _, _, rfl, hca, T.cl_Channel, T.na_Channel_gain, L_Channel_gain, ta, _, _, tv1, rfl, rfl, hta, at0, _, rfl, ca, _, cdx, _, _, rfl, hca, T.cl_Channel, T.na_Channel_gain, L_Channel_gain, ta, _, _, tv2, rfl, rfl, hta, at1, rfl, w, _, _, _, _, _, rfl, w8, ht1, ht2, fq_w.sm (by decide), okx.g1.sm (by decide), okx.g2.sm (by decide), rfl, _, -7, rfl, fun n hn => (qe n (by simp only [mCovers, hx1, hx2, hx3, hx4, hx5, hx7, hn, Except.bind])).pre k8, fun _ hx8 _ H9 e9 _ => ?_⟩
  have k9 := k8.trans e9
  have t9 := t8.same e9
  have u9 := u8.same e9
  have w9 := w8.same e9
  have x9 := x8.same e9
  refine ⟨_, rfl, kp, _, dx, _, _, rfl, k9 _ _ hk, T.cl_Keeping, T.na_Keeping_plan, L_Keeping_plan, _, rfl, _, rfl, rfl, p, x, _, _, kn, rfl, hp.same k9, x9, okx, g12, by omega, fun v3 H10 e10 ⟨a1, ea, h1⟩ => ?_⟩
  subst ea
  refine ⟨a1, _, rfl, SqT.of h1, rfl, _, _, rfl, _, _, rfl, rfl, ?_⟩
  have k10 := k9.trans e10
  have lb := letIn_le okx g12 (show kn < p.parts by omega)
  obtain ⟨ca, cdx, nm, cb, cg, csu, ec, hca, c1, c2, c3, c5⟩ := id (x9.same e10)
  cases ec
  refine ⟨_, rfl, ca, _, cdx, _, _, rfl, hca, T.cl_Channel, T.na_Channel_trials, L_Channel_trials, _, rfl, _, rfl, _, rfl, rfl, t, u, w, _, _, _, rfl, t9.same e10, u9.same e10, w9.same e10, fq_t, fq_u, fq_w, fun v4 H11 e11 hv4 => ?_⟩
  have k11 := k10.trans e11
  have fqr := cov_fq okx fq_t fq_u fq_w (wantB_ok hx7) (wantB_ok hx8)
  have pr : Pr (VbkdCore.add u (VbkdCore.mul w t)) := fqr.pr (by decide)
  intro y ydx ny nyd ne
  have ky : Same H11 (upd (upd H11 ydx (.own y)) y (.ins (He.ga K "Spread") ydx [])) := (Same.new nyd).trans (Same.new (by rw [upd_ne (Ne.symm ne)]; exact ny))
  refine ⟨rfl, y, ydx, x.trials, _, v4, rfl, upd_same, hv4.same ky, pr, t40, fun H12 k2 hs => ⟨rfl, ?_⟩⟩
  have k12 : Same H H12 := k11.trans fun b o hb => k2 b o (ne_of_none hb ny) (ky b o hb)
  obtain ⟨sa, sdx, sl, es, hs1, hs2⟩ := id hs
  cases es
  refine ⟨y, sdx, _, rfl, hs1, L_Spread_often, _, rfl, _, rfl, rfl, _, x.trials, _, _, _, rfl, hs, pr, t40, fun vf H13 e13 ⟨fa, ev, hf⟩ => ?_⟩
  subst ev
  rw [often_chance lb] at hf
  have hm : mCovers p c kn a d b f g h = .ok (Vbkdai.qRow (Vbkdai.chance x.trials (VbkdCore.add u (VbkdCore.mul w t)) (Vbkdai.letIn p.parts x kn).1 (Vbkdai.letIn p.parts x kn).2)) := by simp only [mCovers, hx1, hx2, hx3, hx4, hx5, hx7, hx8, Except.bind, Int.toNat_natCast]
  exact ⟨fa, _, rfl, .inr hf, fun l nl => q _ hm _ _ ((k12.trans e13).trans (Same.new nl)) ⟨l, rfl, upd_same⟩⟩
end
end Bc


-- end of a part
set_option Elab.async false
set_option linter.all false
set_option maxRecDepth 100000
set_option maxHeartbeats 4000000
set_option exponentiation.threshold 100000
/-! # keeping: what changes it -/
namespace Bc
open PySem PySem.Spec PyProof.Rows L2
def MOut (K : PySem.W.Frag) (H : Hp) (Q : VK) (E : XK) (kp : Addr) (m : Except Int (Vbkdai.Plan × List (Option Nat))) : Prop := (∀ n, m = .error n → Rf K H E n) ∧ ∀ x, m = .ok x → ∀ v H', SameBut kp H H' → KpAt K H' kp x.1 x.2 → InAt H' v [] → Q v H'
theorem ChanAt.butK {K : PySem.W.Frag} {H H' : Hp} {v : V} {c : Vbkdai.Chan} {a C dx : Addr} {x y : V} (h : ChanAt K H v c) (e : SameBut a H H') (hl : H a = some (.ins C dx (F_Keeping x y))) : ChanAt K H' v c := by
  obtain ⟨b, dx2, nm, bb, g, s, rfl, hb, c1, c2, c3, c4⟩ := h
  refine ⟨b, dx2, nm, bb, g, s, rfl, e _ _ (ne_of hb hl ?_) hb, c1.but e hl, c2.but e hl, c3.but e hl, c4.but e hl⟩
  intro q
  have l := congrArg List.length (HO.ins.inj q).2.2
  exact absurd l (by show ¬ 6 = 2; decide)
theorem PlanAt.butK {K : PySem.W.Frag} {H H' : Hp} {v : V} {p : Vbkdai.Plan} {a C dx : Addr} {x y : V} (h : PlanAt K H v p) (e : SameBut a H H') (hl : H a = some (.ins C dx (F_Keeping x y))) : PlanAt K H' v p := by
  obtain ⟨b, dx2, l, vs, rfl, hb, hl2, hv⟩ := h
  refine ⟨b, dx2, l, vs, rfl, e _ _ (ne_of hb hl ?_) hb, e _ _ (ne_of hl2 hl (by intro z; cases z)) hl2, paired_imp (fun _ _ z => z.butK e hl) hv⟩
  intro q
  have l := (HO.ins.inj q).2.2
  have l2 : (("parts" : Str), V.int (p.parts : Int)) = (("plan" : Str), x) := (List.cons.inj l).1
  have l3 : ("parts" : Str) = ("plan" : Str) := congrArg Prod.fst l2
  exact absurd l3 (by decide +kernel)
theorem plok_set {p : Vbkdai.Plan} {i : Nat} {c : Vbkdai.Chan} (h : PlOk p) (hc : ChOk c) : PlOk { p with chans := p.chans.set i c } := by
  refine ⟨h.g1, h.g12, by rw [show ({ p with chans := p.chans.set i c } : Vbkdai.Plan).chans = p.chans.set i c from rfl, List.length_set]; exact h.c4, fun d hd => ?_⟩
  rcases List.mem_or_eq_of_mem_set hd with z | z
  · exact h.ch d z
  · rw [z]
    exact hc
/-- the counts, one of them put anew -/
theorem cnt_set {cs : List (Option Nat)} {i : Nat} {o : Option Nat} (h : i < cs.length) : (cs.map optV).take i ++ [optV o] ++ (cs.map optV).drop (i + 1) = (cs.set i o).map optV := by
  rw [set_parts o h, List.map_append, List.map_append, List.map_take, List.map_drop]
  rfl
def sp_Keeping_set_count (K : PySem.W.Frag) : Sp := mkSp 3 fun vs H Q E => ∃ (kp : Addr) (p : Vbkdai.Plan) (cs : List (Option Nat)) (c n : Int), vs = [.ref kp, .int c, .int n] ∧ KpAt K H kp p cs ∧ MOut K H Q E kp (mSet p cs c n)
def sp_Keeping_forget (K : PySem.W.Frag) : Sp := mkSp 2 fun vs H Q E => ∃ (kp : Addr) (p : Vbkdai.Plan) (cs : List (Option Nat)) (c : Int), vs = [.ref kp, .int c] ∧ KpAt K H kp p cs ∧ MOut K H Q E kp (mForget p cs c)
def sp_Keeping_set_order (K : PySem.W.Frag) : Sp := mkSp 3 fun vs H Q E => ∃ (kp : Addr) (p : Vbkdai.Plan) (cs : List (Option Nat)) (c o : Int), vs = [.ref kp, .int c, .int o] ∧ KpAt K H kp p cs ∧ MOut K H Q E kp (mOrder p cs c o)
def sp_Keeping_set_sure (K : PySem.W.Frag) : Sp := mkSp 4 fun vs H Q E => ∃ (kp : Addr) (p : Vbkdai.Plan) (cs : List (Option Nat)) (c a d : Int), vs = [.ref kp, .int c, .int a, .int d] ∧ KpAt K H kp p cs ∧ MOut K H Q E kp (mSure p cs c a d)
section
variable {P : Program} {w : World} {K : PySem.W.Frag} {mg : Str → Option Value} {base : Heap}
theorem sc_Keeping_set_count : FnScope N_Keeping_set_count ["self", "c", "n"] (defScope s_Keeping_set_count) := ⟨rfl, rfl, rfl, by decide +kernel, rfl, by decide +kernel, by decide +kernel⟩
theorem ok_Keeping_set_count (T : TX K mg) : FOk P w K mg base (L2.CX P w) 6 (He.ma K (He.ga K "Keeping") "set_count") ["self", "c", "n"] (sp_Keeping_set_count K) := by
  obtain ⟨fd, F⟩ := T.f_Keeping_set_count
  obtain ⟨fd0, G0, b0⟩ := ok_want_up_to (P := P) (w := w) (base := base) T
  obtain ⟨fd1, G1, b1⟩ := ok_Keeping_channel_at (P := P) (w := w) (base := base) T
  obtain ⟨fd2, G2, b2⟩ := ok_want (P := P) (w := w) (base := base) T
  refine ⟨fd, F.okX sc_Keeping_set_count (fun _ _ _ _ h => h.1) (fun cdv A outer s H vs Q E hr h => ?_), F.binds fun _ _ _ _ _ _ us hl => match us, hl with | [_, _, _], _ => rfl⟩
  have hr0 := hr.mono (by decide : 4 ≤ 5)
  have hr1 := hr.mono (by decide : 5 ≤ 5)
  have hr2 := hr.mono (by decide : 3 ≤ 5)
  refine ⟨_, (pss_cons (ps_expr (pe_call G0 hr0 (by rfl) T.g_want_up_to T.k_want_up_to b0 .nil (passes_call (takes_of rfl rfl rfl rfl) (fun _ _ _ _ h => h)) (pa_cons (pe_lst (pa_cons (pv 2) pa_nil)) (pa_cons (C8.pe_gc (by rfl) T.c_MOST_TRIALS) pa_nil))))
    (pss_cons (ps_set (i := 3) sc_Keeping_set_count.nd rfl (.inl rfl) (pe_meth (pv 0) T.cl_Keeping T.m_Keeping_channel_at G1 hr1 b1 .nil (passes_call (takes_of rfl rfl rfl rfl) (fun _ _ _ _ h => h)) (pa_cons (pv 1) (pa_cons (pe_lst pa_nil) pa_nil))))
    (pss_cons (ps_expr (pe_call G2 hr2 (by rfl) T.g_want T.k_want b2 .nil (passes_call (takes_of rfl rfl rfl rfl) (fun _ _ _ _ h => h)) (pa_cons (pe_cmpR op_le (pv 2) (pe_fld (pv 3) rfl) (by rfl)) (pa_cons (C8.pe_gc (by rfl) T.c_TOO_GREAT) pa_nil))))
    (pss_cons (ps_fld (pv 0) (pe_op op_cat (pe_op op_cat (pe_slice sl_list (pe_fld (pv 0) rfl) po_none (po_some (pv 1))) (pe_lst (pa_cons (pv 2) pa_nil))) (pe_slice sl_list (pe_fld (pv 0) rfl) (po_some (pe_op op_add (pv 1) pe_int)) po_none)) rfl)
    (pss_one (ps_ret (pe_lst pa_nil))))))), ?_⟩
  obtain ⟨_, h⟩ := h
  obtain ⟨kp, p, cs, c, n, rfl, hK, qe, q⟩ := h
  obtain ⟨dx, pv, cl, hk, hp, hcl, ok, lc⟩ := id hK
  have g1 := ok.g1
  have g12 := ok.g12
  have c4 := ok.c4
  have k0 : Same H H := Same.refl H
  refine ⟨_, rfl, by show 1 ≤ sizeLine; decide, fun f1 n1 => ⟨rfl, .ref f1, [n], 40, rfl, ⟨f1, rfl, upd_same⟩, by show 1 ≤ 1000; decide, fun n hn => (qe n (by simp only [mSet, hn, Except.bind])).pre (k0.trans (Same.new n1)), fun x1 hx1 _ H1 e1 _ => ?_⟩⟩
  have k1 := (k0.trans (Same.new n1)).trans e1
  have b_n := upTo_ok hx1 n (by simp)
  refine ⟨_, rfl, kp, dx, _, rfl, k1 _ _ hk, L_Keeping_channel_at, _, rfl, by show 0 ≤ sizeLine; decide, fun f2 n2 => ⟨rfl, kp, p, cs, c, .ref f2, [], rfl, hK.same (k1.trans (Same.new n2)), ⟨f2, rfl, upd_same⟩, by show 0 ≤ 1000; decide, fun n hn => (qe n (by simp only [mSet, hx1, hn, Except.bind])).pre (k1.trans (Same.new n2)), fun x hx2 vc H2 e2 hvc => ?_⟩⟩
  have k2 := (k1.trans (Same.new n2)).trans e2
  have cr := chanR_ok hx2
  have okx := ok.ch x (List.mem_of_getElem? cr.2.2)
  have t40 := okx.t40
  obtain ⟨ca, cdx, nm, cb, cg, csu, rfl, hca, _⟩ := id hvc
  refine ⟨_, rfl, _, rfl, ca, _, cdx, _, _, rfl, hca, T.cl_Channel, T.na_Channel_trials, L_Channel_trials, _, _, rfl, rfl, rfl, decide (n ≤ (x.trials : Int)), -3, rfl, fun n hn => (qe n (by simp only [mSet, hx1, hx2, hn, Except.bind])).pre k2, fun u3 hx3 _ H3 e3 _ => ?_⟩
  have hb3 := wantB_ok hx3
  have k3 := k2.trans e3
  obtain ⟨nn, rfl⟩ : ∃ m : Nat, n = (m : Int) := ⟨n.toNat, by omega⟩
  obtain ⟨cn, rfl⟩ : ∃ m : Nat, c = (m : Int) := ⟨c.toNat, by omega⟩
  have hm : mSet p cs cn nn = .ok (p, cs.set cn (some nn)) := by simp only [mSet, hx1, hx2, hx3, Except.bind, Int.toNat_natCast]
  have lcn : cn < cs.length := by
    have := (List.getElem?_eq_some_iff.mp cr.2.2).1
    rw [Int.toNat_natCast] at this
    omega
  have lmap : (cs.map optV).length = cs.length := List.length_map ..
  refine ⟨_, rfl, kp, _, dx, _, _, rfl, k3 _ _ hk, T.cl_Keeping, T.na_Keeping_counted, L_Keeping_counted, _, rfl, _, rfl, cl, _, rfl, SqL.of (k3 _ _ hcl), fun p1 n1 => ?_⟩
  have e1' : Same H3 (upd H3 p1 (.lst (cutV (cs.map optV) none (some (cn : Int))))) := Same.new n1
  have h1 : (upd H3 p1 (.lst (cutV (cs.map optV) none (some (cn : Int))))) p1 = some (.lst ((cs.map optV).take cn)) := by rw [upd_same, cut_vto]
  generalize upd H3 p1 (.lst (cutV (cs.map optV) none (some (cn : Int)))) = G1 at e1' h1 ⊢
  refine ⟨_, rfl, by show 1 ≤ sizeLine; decide, fun p2 n2 => ?_⟩
  have e2' : Same G1 (upd G1 p2 (.lst [.int (nn : Int)])) := Same.new n2
  have h2 : (upd G1 p2 (.lst [.int (nn : Int)])) p2 = some (.lst [.int (nn : Int)]) := upd_same
  generalize upd G1 p2 (.lst [.int (nn : Int)]) = G2 at e2' h2 ⊢
  refine ⟨p1, p2, _, _, rfl, rfl, e2' _ _ h1, h2, ?_, fun p3 n3 => ?_⟩
  · rw [List.length_take, lmap]
    exact Nat.le_of_lt (small1000 (show _ + 1 ≤ 1000 by omega))
  have e3' : Same G2 (upd G2 p3 (.lst ((cs.map optV).take cn ++ [.int (nn : Int)]))) := Same.new n3
  have h3 : (upd G2 p3 (.lst ((cs.map optV).take cn ++ [.int (nn : Int)]))) p3 = some (.lst ((cs.map optV).take cn ++ [.int (nn : Int)])) := upd_same
  generalize upd G2 p3 (.lst ((cs.map optV).take cn ++ [.int (nn : Int)])) = G3 at e3' h3 ⊢
  have e13 := ((k3.trans e1').trans e2').trans e3'
  refine ⟨_, rfl, kp, _, dx, _, _, rfl, e13 _ _ hk, T.cl_Keeping, T.na_Keeping_counted, L_Keeping_counted, _, rfl, _, _, rfl, rfl, _, rfl, cl, _, rfl, SqL.of (e13 _ _ hcl), fun p4 n4 => ?_⟩
  have e4' : Same G3 (upd G3 p4 (.lst (cutV (cs.map optV) (some ((cn : Int) + 1)) none))) := Same.new n4
  have h4 : (upd G3 p4 (.lst (cutV (cs.map optV) (some ((cn : Int) + 1)) none))) p4 = some (.lst ((cs.map optV).drop (cn + 1))) := by
    rw [upd_same]
    exact congrArg some (congrArg HO.lst (cut_vfrom (cs.map optV) (cn + 1)))
  generalize upd G3 p4 (.lst (cutV (cs.map optV) (some ((cn : Int) + 1)) none)) = G4 at e4' h4 ⊢
  refine ⟨p3, p4, _, _, rfl, rfl, e4' _ _ h3, h4, ?_, fun p5 n5 => ?_⟩
  · rw [List.length_append, List.length_take, List.length_drop, lmap]
    exact Nat.le_of_lt (small1000 (show _ + 1 + _ ≤ 1000 by omega))
  have e5' : Same G4 (upd G4 p5 (.lst ((cs.map optV).take cn ++ [.int (nn : Int)] ++ (cs.map optV).drop (cn + 1)))) := Same.new n5
  have h5 : (upd G4 p5 (.lst ((cs.map optV).take cn ++ [.int (nn : Int)] ++ (cs.map optV).drop (cn + 1)))) p5 = some (.lst ((cs.set cn (some nn)).map optV)) := by
    rw [upd_same]
    exact congrArg some (congrArg HO.lst (cnt_set (o := (some nn)) lcn))
  generalize upd G4 p5 (.lst ((cs.map optV).take cn ++ [.int (nn : Int)] ++ (cs.map optV).drop (cn + 1))) = G5 at e5' h5 ⊢
  have k5' := (e13.trans e4').trans e5'
  refine ⟨_, rfl, kp, _, dx, _, rfl, k5' _ _ hk, T.cl_Keeping, T.na_Keeping_counted, by show 2 < 1000; decide, ?_⟩
  rw [P_Keeping_counted]
  have b1 : SameBut kp G5 (upd G5 kp (.ins (He.ga K "Keeping") dx (F_Keeping pv (.ref p5)))) := SameBut.upd
  have hk5 := k5' _ _ hk
  have pk : p5 ≠ kp := ne_of h5 hk5 (by intro z; cases z)
  have hp5 := (hp.same k5').butK b1 hk5
  refine ⟨by show 0 ≤ sizeLine; decide, fun l nl => q _ hm _ _ ((k5'.but.trans b1).trans (Same.new nl).but) ⟨dx, pv, p5, (Same.new nl) _ _ upd_same, hp5.same (Same.new nl), (Same.new nl) _ _ (b1 _ _ pk h5), ok, by rw [List.length_set]; exact lc⟩ ⟨l, rfl, upd_same⟩⟩
theorem sc_Keeping_forget : FnScope N_Keeping_forget ["self", "c"] (defScope s_Keeping_forget) := ⟨rfl, rfl, rfl, by decide +kernel, rfl, by decide +kernel, by decide +kernel⟩
theorem ok_Keeping_forget (T : TX K mg) : FOk P w K mg base (L2.CX P w) 6 (He.ma K (He.ga K "Keeping") "forget") ["self", "c"] (sp_Keeping_forget K) := by
  obtain ⟨fd, F⟩ := T.f_Keeping_forget
  obtain ⟨fd0, G0, b0⟩ := ok_Keeping_channel_at (P := P) (w := w) (base := base) T
  refine ⟨fd, F.okX sc_Keeping_forget (fun _ _ _ _ h => h.1) (fun cdv A outer s H vs Q E hr h => ?_), F.binds fun _ _ _ _ _ _ us hl => match us, hl with | [_, _], _ => rfl⟩
  have hr0 := hr.mono (by decide : 5 ≤ 5)
  refine ⟨_, (pss_cons (ps_expr (pe_meth (pv 0) T.cl_Keeping T.m_Keeping_channel_at G0 hr0 b0 .nil (passes_call (takes_of rfl rfl rfl rfl) (fun _ _ _ _ h => h)) (pa_cons (pv 1) (pa_cons (pe_lst pa_nil) pa_nil))))
    (pss_cons (ps_fld (pv 0) (pe_op op_cat (pe_op op_cat (pe_slice sl_list (pe_fld (pv 0) rfl) po_none (po_some (pv 1))) (pe_lst (pa_cons pe_non pa_nil))) (pe_slice sl_list (pe_fld (pv 0) rfl) (po_some (pe_op op_add (pv 1) pe_int)) po_none)) rfl)
    (pss_one (ps_ret (pe_lst pa_nil))))), ?_⟩
  obtain ⟨_, h⟩ := h
  obtain ⟨kp, p, cs, c, rfl, hK, qe, q⟩ := h
  obtain ⟨dx, pv, cl, hk, hp, hcl, ok, lc⟩ := id hK
  have g1 := ok.g1
  have g12 := ok.g12
  have c4 := ok.c4
  have k0 : Same H H := Same.refl H
  refine ⟨_, rfl, kp, dx, _, rfl, k0 _ _ hk, L_Keeping_channel_at, _, rfl, by show 0 ≤ sizeLine; decide, fun f1 n1 => ⟨rfl, kp, p, cs, c, .ref f1, [], rfl, hK.same (k0.trans (Same.new n1)), ⟨f1, rfl, upd_same⟩, by show 0 ≤ 1000; decide, fun n hn => (qe n (by simp only [mForget, hn, Except.bind])).pre (k0.trans (Same.new n1)), fun x hx1 vc H1 e1 hvc => ?_⟩⟩
  have k1 := (k0.trans (Same.new n1)).trans e1
  have cr := chanR_ok hx1
  have okx := ok.ch x (List.mem_of_getElem? cr.2.2)
  have t40 := okx.t40
  obtain ⟨cn, rfl⟩ : ∃ m : Nat, c = (m : Int) := ⟨c.toNat, by omega⟩
  have hm : mForget p cs cn = .ok (p, cs.set cn none) := by simp only [mForget, hx1, Except.bind, Int.toNat_natCast]
  have lcn : cn < cs.length := by
    have := (List.getElem?_eq_some_iff.mp cr.2.2).1
    rw [Int.toNat_natCast] at this
    omega
  have lmap : (cs.map optV).length = cs.length := List.length_map ..
  refine ⟨_, rfl, kp, _, dx, _, _, rfl, k1 _ _ hk, T.cl_Keeping, T.na_Keeping_counted, L_Keeping_counted, _, rfl, _, rfl, cl, _, rfl, SqL.of (k1 _ _ hcl), fun p1 n1 => ?_⟩
  have e1' : Same H1 (upd H1 p1 (.lst (cutV (cs.map optV) none (some (cn : Int))))) := Same.new n1
  have h1 : (upd H1 p1 (.lst (cutV (cs.map optV) none (some (cn : Int))))) p1 = some (.lst ((cs.map optV).take cn)) := by rw [upd_same, cut_vto]
  generalize upd H1 p1 (.lst (cutV (cs.map optV) none (some (cn : Int)))) = G1 at e1' h1 ⊢
  refine ⟨by show 1 ≤ sizeLine; decide, fun p2 n2 => ?_⟩
  have e2' : Same G1 (upd G1 p2 (.lst [.non])) := Same.new n2
  have h2 : (upd G1 p2 (.lst [.non])) p2 = some (.lst [.non]) := upd_same
  generalize upd G1 p2 (.lst [.non]) = G2 at e2' h2 ⊢
  refine ⟨p1, p2, _, _, rfl, rfl, e2' _ _ h1, h2, ?_, fun p3 n3 => ?_⟩
  · rw [List.length_take, lmap]
    exact Nat.le_of_lt (small1000 (show _ + 1 ≤ 1000 by omega))
  have e3' : Same G2 (upd G2 p3 (.lst ((cs.map optV).take cn ++ [.non]))) := Same.new n3
  have h3 : (upd G2 p3 (.lst ((cs.map optV).take cn ++ [.non]))) p3 = some (.lst ((cs.map optV).take cn ++ [.non])) := upd_same
  generalize upd G2 p3 (.lst ((cs.map optV).take cn ++ [.non])) = G3 at e3' h3 ⊢
  have e13 := ((k1.trans e1').trans e2').trans e3'
  refine ⟨_, rfl, kp, _, dx, _, _, rfl, e13 _ _ hk, T.cl_Keeping, T.na_Keeping_counted, L_Keeping_counted, _, rfl, _, _, rfl, rfl, _, rfl, cl, _, rfl, SqL.of (e13 _ _ hcl), fun p4 n4 => ?_⟩
  have e4' : Same G3 (upd G3 p4 (.lst (cutV (cs.map optV) (some ((cn : Int) + 1)) none))) := Same.new n4
  have h4 : (upd G3 p4 (.lst (cutV (cs.map optV) (some ((cn : Int) + 1)) none))) p4 = some (.lst ((cs.map optV).drop (cn + 1))) := by
    rw [upd_same]
    exact congrArg some (congrArg HO.lst (cut_vfrom (cs.map optV) (cn + 1)))
  generalize upd G3 p4 (.lst (cutV (cs.map optV) (some ((cn : Int) + 1)) none)) = G4 at e4' h4 ⊢
  refine ⟨p3, p4, _, _, rfl, rfl, e4' _ _ h3, h4, ?_, fun p5 n5 => ?_⟩
  · rw [List.length_append, List.length_take, List.length_drop, lmap]
    exact Nat.le_of_lt (small1000 (show _ + 1 + _ ≤ 1000 by omega))
  have e5' : Same G4 (upd G4 p5 (.lst ((cs.map optV).take cn ++ [.non] ++ (cs.map optV).drop (cn + 1)))) := Same.new n5
  have h5 : (upd G4 p5 (.lst ((cs.map optV).take cn ++ [.non] ++ (cs.map optV).drop (cn + 1)))) p5 = some (.lst ((cs.set cn none).map optV)) := by
    rw [upd_same]
    exact congrArg some (congrArg HO.lst (cnt_set (o := none) lcn))
  generalize upd G4 p5 (.lst ((cs.map optV).take cn ++ [.non] ++ (cs.map optV).drop (cn + 1))) = G5 at e5' h5 ⊢
  have k5' := (e13.trans e4').trans e5'
  refine ⟨_, rfl, kp, _, dx, _, rfl, k5' _ _ hk, T.cl_Keeping, T.na_Keeping_counted, by show 2 < 1000; decide, ?_⟩
  rw [P_Keeping_counted]
  have b1 : SameBut kp G5 (upd G5 kp (.ins (He.ga K "Keeping") dx (F_Keeping pv (.ref p5)))) := SameBut.upd
  have hk5 := k5' _ _ hk
  have pk : p5 ≠ kp := ne_of h5 hk5 (by intro z; cases z)
  have hp5 := (hp.same k5').butK b1 hk5
  refine ⟨by show 0 ≤ sizeLine; decide, fun l nl => q _ hm _ _ ((k5'.but.trans b1).trans (Same.new nl).but) ⟨dx, pv, p5, (Same.new nl) _ _ upd_same, hp5.same (Same.new nl), (Same.new nl) _ _ (b1 _ _ pk h5), ok, by rw [List.length_set]; exact lc⟩ ⟨l, rfl, upd_same⟩⟩
theorem sc_Keeping_set_order : FnScope N_Keeping_set_order ["self", "c", "order"] (defScope s_Keeping_set_order) := ⟨rfl, rfl, rfl, by decide +kernel, rfl, by decide +kernel, by decide +kernel⟩
theorem ok_Keeping_set_order (T : TX K mg) : FOk P w K mg base (L2.CX P w) 6 (He.ma K (He.ga K "Keeping") "set_order") ["self", "c", "order"] (sp_Keeping_set_order K) := by
  obtain ⟨fd, F⟩ := T.f_Keeping_set_order
  obtain ⟨fd0, G0, b0⟩ := ok_want_up_to (P := P) (w := w) (base := base) T
  obtain ⟨fd1, G1, b1⟩ := ok_Keeping_channel_at (P := P) (w := w) (base := base) T
  obtain ⟨fd2, G2, b2⟩ := ok_Channel_with_order (P := P) (w := w) (base := base) T
  obtain ⟨fd3, G3, b3⟩ := ok_Plan_with_channel (P := P) (w := w) (base := base) T
  refine ⟨fd, F.okX sc_Keeping_set_order (fun _ _ _ _ h => h.1) (fun cdv A outer s H vs Q E hr h => ?_), F.binds fun _ _ _ _ _ _ us hl => match us, hl with | [_, _, _], _ => rfl⟩
  have hr0 := hr.mono (by decide : 4 ≤ 5)
  have hr1 := hr.mono (by decide : 5 ≤ 5)
  have hr2 := hr.mono (by decide : 3 ≤ 5)
  have hr3 := hr.mono (by decide : 3 ≤ 5)
  refine ⟨_, (pss_cons (ps_expr (pe_call G0 hr0 (by rfl) T.g_want_up_to T.k_want_up_to b0 .nil (passes_call (takes_of rfl rfl rfl rfl) (fun _ _ _ _ h => h)) (pa_cons (pe_lst (pa_cons (pv 2) pa_nil)) (pa_cons (pe_op op_sub (pe_callB call_len_seq (by rfl) T.n_len (by decide +kernel) (pa_cons (C8.pe_gc (by rfl) T.c_ORDERS) pa_nil)) pe_int) pa_nil))))
    (pss_cons (ps_set (i := 3) sc_Keeping_set_order.nd rfl (.inl rfl) (pe_meth (pv 0) T.cl_Keeping T.m_Keeping_channel_at G1 hr1 b1 .nil (passes_call (takes_of rfl rfl rfl rfl) (fun _ _ _ _ h => h)) (pa_cons (pv 1) (pa_cons (pe_lst pa_nil) pa_nil))))
    (pss_cons (ps_fld (pv 0) (pe_meth (pe_fld (pv 0) rfl) T.cl_Plan T.m_Plan_with_channel G3 hr3 b3 .nil pass0 (pa_cons (pv 1) (pa_cons (pe_meth (pv 3) T.cl_Channel T.m_Channel_with_order G2 hr2 b2 .nil pass0 (pa_cons (pv 2) pa_nil)) pa_nil))) rfl)
    (pss_one (ps_ret (pe_lst pa_nil)))))), ?_⟩
  obtain ⟨_, h⟩ := h
  obtain ⟨kp, p, cs, c, o, rfl, hK, qe, q⟩ := h
  obtain ⟨dx, pv, cl, hk, hp, hcl, ok, lc⟩ := id hK
  have g1 := ok.g1
  have g12 := ok.g12
  have c4 := ok.c4
  have k0 : Same H H := Same.refl H
  refine ⟨_, rfl, by show 1 ≤ sizeLine; decide, fun f1 n1 => ⟨He.ga K "ORDERS", _, rfl, .inr (T.t_ORDERS _), _, _, rfl, rfl, rfl, .ref f1, [o], 4, rfl, ⟨f1, rfl, upd_same⟩, by show 1 ≤ 1000; decide, fun n hn => (qe n (by simp only [mOrder, hn, Except.bind])).pre (k0.trans (Same.new n1)), fun x1 hx1 _ H1 e1 _ => ?_⟩⟩
  have k1 := (k0.trans (Same.new n1)).trans e1
  have b_o := upTo_ok hx1 o (by simp)
  refine ⟨_, rfl, kp, dx, _, rfl, k1 _ _ hk, L_Keeping_channel_at, _, rfl, by show 0 ≤ sizeLine; decide, fun f2 n2 => ⟨rfl, kp, p, cs, c, .ref f2, [], rfl, hK.same (k1.trans (Same.new n2)), ⟨f2, rfl, upd_same⟩, by show 0 ≤ 1000; decide, fun n hn => (qe n (by simp only [mOrder, hx1, hn, Except.bind])).pre (k1.trans (Same.new n2)), fun x hx2 vc H2 e2 hvc => ?_⟩⟩
  have k2 := (k1.trans (Same.new n2)).trans e2
  have cr := chanR_ok hx2
  have okx := ok.ch x (List.mem_of_getElem? cr.2.2)
  have t40 := okx.t40
  obtain ⟨cn, rfl⟩ : ∃ m : Nat, c = (m : Int) := ⟨c.toNat, by omega⟩
  obtain ⟨on, rfl⟩ : ∃ m : Nat, o = (m : Int) := ⟨o.toNat, by omega⟩
  have hm : mOrder p cs cn on = .ok ({ p with chans := p.chans.set cn { x with order := on } }, cs) := by simp only [mOrder, hx1, hx2, Except.bind, Int.toNat_natCast]
  obtain ⟨pa, pdx, pl, pvs, rfl, hpa, hpl, hpv⟩ := id hp
  obtain ⟨ca, cdx, nm, cb, cg, csu, rfl, hca, _⟩ := id hvc
  have lcn : cn < p.chans.length := by
    have := (List.getElem?_eq_some_iff.mp cr.2.2).1
    rw [Int.toNat_natCast] at this
    exact this
  refine ⟨_, rfl, kp, _, dx, _, _, rfl, k2 _ _ hk, T.cl_Keeping, T.na_Keeping_plan, L_Keeping_plan, pa, pdx, _, rfl, k2 _ _ hpa, L_Plan_with_channel, _, rfl, _, rfl, ca, cdx, _, rfl, hca, L_Channel_with_order, _, rfl, rfl, _, on, x, rfl, hvc, fun vc2 H8 e8 hc2 => ?_⟩
  have k8 := k2.trans e8
  refine ⟨rfl, _, vc2, cn, p, _, rfl, hp.same k8, hc2, lcn, c4, fun vp H9 e9 hp9 => ?_⟩
  have k9 := k8.trans e9
  refine ⟨_, rfl, kp, _, dx, _, rfl, k9 _ _ hk, T.cl_Keeping, T.na_Keeping_plan, by show 2 < 1000; decide, ?_⟩
  rw [P_Keeping_plan]
  have b1 : SameBut kp H9 (upd H9 kp (.ins (He.ga K "Keeping") dx (F_Keeping vp (.ref cl)))) := SameBut.upd
  have hk9 := k9 _ _ hk
  have ck : cl ≠ kp := ne_of (k9 _ _ hcl) hk9 (by intro z; cases z)
  have hpn := hp9.butK b1 hk9
  refine ⟨by show 0 ≤ sizeLine; decide, fun l nl => q _ hm _ _ ((k9.but.trans b1).trans (Same.new nl).but) ⟨dx, vp, cl, (Same.new nl) _ _ upd_same, hpn.same (Same.new nl), (Same.new nl) _ _ (b1 _ _ ck (k9 _ _ hcl)), plok_set ok ⟨okx.t1, okx.t40, by show on ≤ 4; omega, okx.nm, okx.b1, okx.b2, okx.g1, okx.g2, okx.su, okx.su0, okx.bb, okx.gg, okx.bg⟩, ?_⟩ ⟨l, rfl, upd_same⟩⟩
  show cs.length = (p.chans.set cn _).length
  rw [List.length_set]
  exact lc
theorem sc_Keeping_set_sure : FnScope N_Keeping_set_sure ["self", "c", "upper", "lower"] (defScope s_Keeping_set_sure) := ⟨rfl, rfl, rfl, by decide +kernel, rfl, by decide +kernel, by decide +kernel⟩
theorem ok_Keeping_set_sure (T : TX K mg) : FOk P w K mg base (L2.CX P w) 6 (He.ma K (He.ga K "Keeping") "set_sure") ["self", "c", "upper", "lower"] (sp_Keeping_set_sure K) := by
  obtain ⟨fd, F⟩ := T.f_Keeping_set_sure
  obtain ⟨fd0, G0, b0⟩ := ok_read_fraction_keeping (P := P) (w := w) (base := base) T
  obtain ⟨fd1, G1, b1⟩ := ok_is_less (P := P) (w := w) (base := base) T
  obtain ⟨fd2, G2, b2⟩ := ok_want (P := P) (w := w) (base := base) T
  obtain ⟨fd3, G3, b3⟩ := ok_Keeping_channel_at (P := P) (w := w) (base := base) T
  obtain ⟨fd4, G4, b4⟩ := ok_Channel_with_sure (P := P) (w := w) (base := base) T
  obtain ⟨fd5, G5, b5⟩ := ok_Plan_with_channel (P := P) (w := w) (base := base) T
  refine ⟨fd, F.okX sc_Keeping_set_sure (fun _ _ _ _ h => h.1) (fun cdv A outer s H vs Q E hr h => ?_), F.binds fun _ _ _ _ _ _ us hl => match us, hl with | [_, _, _, _], _ => rfl⟩
  have hr0 := hr.mono (by decide : 4 ≤ 5)
  have hr1 := hr.mono (by decide : 1 ≤ 5)
  have hr2 := hr.mono (by decide : 3 ≤ 5)
  have hr3 := hr.mono (by decide : 5 ≤ 5)
  have hr4 := hr.mono (by decide : 3 ≤ 5)
  have hr5 := hr.mono (by decide : 3 ≤ 5)
  refine ⟨_, (pss_cons (ps_set (i := 4) sc_Keeping_set_sure.nd rfl (.inl rfl) (pe_call G0 hr0 (by rfl) T.g_read_fraction_keeping T.k_read_fraction_keeping b0 .nil (passes_call (takes_of rfl rfl rfl rfl) (fun _ _ _ _ h => h)) (pa_cons (pv 2) (pa_cons (pv 3) pa_nil))))
    (pss_cons (ps_expr (pe_call G2 hr2 (by rfl) T.g_want T.k_want b2 .nil (passes_call (takes_of rfl rfl rfl rfl) (fun _ _ _ _ h => h)) (pa_cons (pe_call G1 hr1 (by rfl) T.g_is_less T.k_is_less b1 .nil pass0 (pa_cons (C8.pe_gc (by rfl) T.c_NOUGHT_fractions) (pa_cons (pv 4) pa_nil))) (pa_cons (C8.pe_gc (by rfl) T.c_NOT_AS_TOLD) pa_nil))))
    (pss_cons (ps_set (i := 5) sc_Keeping_set_sure.nd rfl (.inl rfl) (pe_meth (pv 0) T.cl_Keeping T.m_Keeping_channel_at G3 hr3 b3 .nil (passes_call (takes_of rfl rfl rfl rfl) (fun _ _ _ _ h => h)) (pa_cons (pv 1) (pa_cons (pe_lst pa_nil) pa_nil))))
    (pss_cons (ps_fld (pv 0) (pe_meth (pe_fld (pv 0) rfl) T.cl_Plan T.m_Plan_with_channel G5 hr5 b5 .nil pass0 (pa_cons (pv 1) (pa_cons (pe_meth (pv 5) T.cl_Channel T.m_Channel_with_sure G4 hr4 b4 .nil pass0 (pa_cons (pv 4) pa_nil)) pa_nil))) rfl)
    (pss_one (ps_ret (pe_lst pa_nil))))))), ?_⟩
  obtain ⟨_, h⟩ := h
  obtain ⟨kp, p, cs, c, a, d, rfl, hK, qe, q⟩ := h
  obtain ⟨dx, pv, cl, hk, hp, hcl, ok, lc⟩ := id hK
  have g1 := ok.g1
  have g12 := ok.g12
  have c4 := ok.c4
  have k0 : Same H H := Same.refl H
  refine ⟨_, rfl, _, rfl, rfl, a, d, rfl, fun n hn => (qe n (by simp only [mSure, hn, Except.bind])).pre k0, fun qq hx1 v_qq H1 e1 h_qq => ?_⟩
  have k1 := k0.trans e1
  have fq_qq := fracR_ok hx1
  have el := less_zero fq_qq
  refine ⟨_, rfl, rfl, Vbkdai.zero, qq, _, _, rfl, ⟨_, rfl, T.t_NOUGHT_fractions _⟩, h_qq, zero_sm.mono (by decide), fq_qq.sm (by decide), rfl, VbkdCore.less Vbkdai.zero qq, -1, rfl, fun n hn => (qe n (by simp only [mSure, hx1, hn, Except.bind])).pre k1, fun u2 hx2 _ H2 e2 _ => ?_⟩
  have hb2 := wantB_ok hx2
  have k2 := k1.trans e2
  refine ⟨_, rfl, kp, dx, _, rfl, k2 _ _ hk, L_Keeping_channel_at, _, rfl, by show 0 ≤ sizeLine; decide, fun f3 n3 => ⟨rfl, kp, p, cs, c, .ref f3, [], rfl, hK.same (k2.trans (Same.new n3)), ⟨f3, rfl, upd_same⟩, by show 0 ≤ 1000; decide, fun n hn => (qe n (by simp only [mSure, hx1, hx2, hn, Except.bind])).pre (k2.trans (Same.new n3)), fun x hx3 vc H3 e3 hvc => ?_⟩⟩
  have k3 := (k2.trans (Same.new n3)).trans e3
  have cr := chanR_ok hx3
  have okx := ok.ch x (List.mem_of_getElem? cr.2.2)
  have t40 := okx.t40
  obtain ⟨cn, rfl⟩ : ∃ m : Nat, c = (m : Int) := ⟨c.toNat, by omega⟩
  have n0 : 0 < qq.n := by
    rw [el] at hb2
    have h0 := fq_qq.n0
    have : ¬ qq.n = 0 := by simpa using hb2
    omega
  have hm : mSure p cs cn a d = .ok ({ p with chans := p.chans.set cn { x with sure := qq } }, cs) := by simp only [mSure, hx1, hx2, hx3, Except.bind, Int.toNat_natCast]
  have hq8 := ((h_qq.same e2).same (Same.new n3)).same e3
  obtain ⟨pa, pdx, pl, pvs, rfl, hpa, hpl, hpv⟩ := id hp
  obtain ⟨ca, cdx, nm, cb, cg, csu, rfl, hca, _⟩ := id hvc
  have lcn : cn < p.chans.length := by
    have := (List.getElem?_eq_some_iff.mp cr.2.2).1
    rw [Int.toNat_natCast] at this
    exact this
  refine ⟨_, rfl, kp, _, dx, _, _, rfl, k3 _ _ hk, T.cl_Keeping, T.na_Keeping_plan, L_Keeping_plan, pa, pdx, _, rfl, k3 _ _ hpa, L_Plan_with_channel, _, rfl, _, rfl, ca, cdx, _, rfl, hca, L_Channel_with_sure, _, rfl, rfl, _, v_qq, qq, x, rfl, hvc, hq8, fun vc2 H8 e8 hc2 => ?_⟩
  have k8 := k3.trans e8
  refine ⟨rfl, _, vc2, cn, p, _, rfl, hp.same k8, hc2, lcn, c4, fun vp H9 e9 hp9 => ?_⟩
  have k9 := k8.trans e9
  refine ⟨_, rfl, kp, _, dx, _, rfl, k9 _ _ hk, T.cl_Keeping, T.na_Keeping_plan, by show 2 < 1000; decide, ?_⟩
  rw [P_Keeping_plan]
  have b1 : SameBut kp H9 (upd H9 kp (.ins (He.ga K "Keeping") dx (F_Keeping vp (.ref cl)))) := SameBut.upd
  have hk9 := k9 _ _ hk
  have ck : cl ≠ kp := ne_of (k9 _ _ hcl) hk9 (by intro z; cases z)
  have hpn := hp9.butK b1 hk9
  refine ⟨by show 0 ≤ sizeLine; decide, fun l nl => q _ hm _ _ ((k9.but.trans b1).trans (Same.new nl).but) ⟨dx, vp, cl, (Same.new nl) _ _ upd_same, hpn.same (Same.new nl), (Same.new nl) _ _ (b1 _ _ ck (k9 _ _ hcl)), plok_set ok ⟨okx.t1, okx.t40, okx.o4, okx.nm, okx.b1, okx.b2, okx.g1, okx.g2, fq_qq, n0, okx.bb, okx.gg, okx.bg⟩, ?_⟩ ⟨l, rfl, upd_same⟩⟩
  show cs.length = (p.chans.set cn _).length
  rw [List.length_set]
  exact lc
end
end Bc


-- end of a part
set_option Elab.async false
set_option linter.all false
set_option maxRecDepth 100000
set_option maxHeartbeats 4000000
set_option exponentiation.threshold 100000
/-! # judge -/
namespace Bc
open PySem PySem.Spec PyProof.Rows L2 L2N
def sp_Keeping_judge (K : PySem.W.Frag) : Sp := mkSp 3 fun vs H Q E => ∃ (kp : Addr) (p : Vbkdai.Plan) (cs : List (Option Nat)) (c : Int) (v : V) (l : List Int), vs = [.ref kp, .int c, v] ∧ KpAt K H kp p cs ∧ InAt H v l ∧ l.length ≤ 1000 ∧ ROut K H Q E (mJudge p c l) fun l v H' => InAt H' v l
theorem newPairs_belt : ∀ {H H' : Hp} {ts : List Addr} {b : List (Nat × Nat)}, NewPairs H ts (b.map fun y => (V.int (y.1 : Int), V.int (y.2 : Int))) H' → Same H H' ∧ Paired (PAt H') (ts.map V.ref) b
  | _, _, [], [], .nil _ => ⟨Same.refl _, .nil⟩
  | _, _, [], _ :: _, h => by cases h
  | _, _, _ :: _, [], h => by cases h
  | H, H', T :: ts, y :: b, h => by
    cases h with
    | cons hT r =>
      obtain ⟨e, f⟩ := newPairs_belt r
      exact ⟨(Same.new hT).trans e, .cons ⟨T, rfl, e _ _ upd_same⟩ f⟩
theorem pick2_map {α β : Type} (f : α → β) (lo : Nat) (l : List α) : pick2 lo (l.map f) = (pick2 lo l).map f := by
  unfold pick2
  rw [List.length_map, List.map_filterMap]
  congr 1
  funext k
  rw [List.getElem?_map]
/-- the row's pairs -/
def prN (l : List Int) : List (Nat × Nat) := (prz l).map fun y => (y.1.toNat, y.2.toNat)
theorem prN_zip {l : List Int} (h : ∀ z ∈ l, 0 ≤ z ∧ z ≤ 40) : (pick2 0 (l.map V.int)).zip (pick2 1 (l.map V.int)) = (prN l).map fun y => (V.int (y.1 : Int), V.int (y.2 : Int)) := by
  rw [pick2_map, pick2_map, List.zip_map]
  show (prz l).map _ = _
  unfold prN
  rw [List.map_map]
  refine List.map_congr_left fun y hy => ?_
  obtain ⟨h1, h2⟩ := prz_mem hy
  have := h _ h1
  have := h _ h2
  show (V.int y.1, V.int y.2) = (V.int ((y.1.toNat : Nat) : Int), V.int ((y.2.toNat : Nat) : Int))
  rw [Int.toNat_of_nonneg (by omega), Int.toNat_of_nonneg (by omega)]
theorem prN_all {l : List Int} (h : ∀ z ∈ l, 0 ≤ z ∧ z ≤ 40) : ((prz l).all fun y => decide (y.1 ≤ y.2)) = (prN l).all fun y => decide (y.1 ≤ y.2) := by
  unfold prN
  rw [List.all_map]
  rw [Bool.eq_iff_iff, List.all_eq_true, List.all_eq_true]
  refine forall_congr' fun y => forall_congr' fun hy => ?_
  obtain ⟨h1, h2⟩ := prz_mem hy
  have := h _ h1
  have := h _ h2
  show decide (y.1 ≤ y.2) = true ↔ decide (y.1.toNat ≤ y.2.toNat) = true
  rw [decide_eq_true_eq, decide_eq_true_eq]
  omega
theorem prN_len {l : List Int} : (prN l).length ≤ l.length := by
  unfold prN prz
  rw [List.length_map, List.length_zip]
  exact Nat.le_trans (Nat.min_le_left _ _) (pick2_len 0 l)
theorem mJudge_nf (p : Vbkdai.Plan) (c : Int) (l : List Int) : mJudge p c l = (wantB (decide (l.length % 2 = 0)) (-1)).bind fun _ => (upTo l 40).bind fun _ => (wantB ((prz l).all fun y => decide (y.1 ≤ y.2)) (-1)).bind fun _ => (chanR p c []).bind fun x => (wantB (decide ((prN l).length = p.parts)) (-3)).bind fun _ => (wantB ((prN l).all fun y => decide (y.2 ≤ x.trials)) (-3)).bind fun _ => .ok (judR p x (prN l)) := by
  unfold mJudge
  rw [pairsR_law]
  cases wantB (decide (l.length % 2 = 0)) (-1) with
  | error e => rfl
  | ok u =>
    show (((upTo l 40).bind _).bind _) = (upTo l 40).bind _
    cases upTo l 40 with
    | error e => rfl
    | ok u =>
      show (((wantB ((prz l).all fun y => decide (y.1 ≤ y.2)) (-1)).bind _).bind _) = (wantB ((prz l).all fun y => decide (y.1 ≤ y.2)) (-1)).bind _
      cases wantB ((prz l).all fun y => decide (y.1 ≤ y.2)) (-1) <;> rfl
section
variable {P : Program} {w : World} {K : PySem.W.Frag} {mg : Str → Option Value} {base : Heap}
theorem sc_Keeping_judge : FnScope N_Keeping_judge ["self", "c", "row"] (defScope s_Keeping_judge) := ⟨rfl, rfl, rfl, by decide +kernel, rfl, by decide +kernel, by decide +kernel⟩
theorem ok_Keeping_judge (T : TX K mg) : FOk P w K mg base (L2.CX P w) 7 (He.ma K (He.ga K "Keeping") "judge") ["self", "c", "row"] (sp_Keeping_judge K) := by
  obtain ⟨fd, F⟩ := T.f_Keeping_judge
  obtain ⟨fd0, G0, b0⟩ := ok_want (P := P) (w := w) (base := base) T
  obtain ⟨fd1, G1, b1⟩ := ok_want_up_to (P := P) (w := w) (base := base) T
  obtain ⟨fd2, G2, b2⟩ := ok_Keeping_channel_at (P := P) (w := w) (base := base) T
  obtain ⟨fd3, G3, b3⟩ := ok_spread_at (P := P) (w := w) (base := base) T
  obtain ⟨fd4, G4, b4⟩ := ok_Spread_many_from (P := P) (w := w) (base := base) T
  obtain ⟨fd5, G5, b5⟩ := ok_Spread_is_sure (P := P) (w := w) (base := base) T
  obtain ⟨fd6, G6, b6⟩ := ok_Spread_often (P := P) (w := w) (base := base) T
  refine ⟨fd, F.okX sc_Keeping_judge (fun _ _ _ _ h => h.1) (fun cdv A outer s H vs Q E hr h => ?_), F.binds fun _ _ _ _ _ _ us hl => match us, hl with | [_, _, _], _ => rfl⟩
  have hr0 := hr.mono (by decide : 3 ≤ 6)
  have hr1 := hr.mono (by decide : 4 ≤ 6)
  have hr2 := hr.mono (by decide : 5 ≤ 6)
  have hr3 := hr.mono (by decide : 6 ≤ 6)
  have hr4 := hr.mono (by decide : 1 ≤ 6)
  have hr5 := hr.mono (by decide : 1 ≤ 6)
  have hr6 := hr.mono (by decide : 3 ≤ 6)
  refine ⟨_, (pss_cons (ps_expr (pe_call G0 hr0 (by rfl) T.g_want T.k_want b0 .nil (passes_call (takes_of rfl rfl rfl rfl) (fun _ _ _ _ h => h)) (pa_cons (pe_cmpR op_eq (pe_op op_mod (pe_callB call_len_seq (by rfl) T.n_len (by decide +kernel) (pa_cons (pv 2) pa_nil)) pe_int) pe_int (by rfl)) (pa_cons (C8.pe_gc (by rfl) T.c_NOT_AS_TOLD) pa_nil))))
    (pss_cons (ps_expr (pe_call G1 hr1 (by rfl) T.g_want_up_to T.k_want_up_to b1 .nil (passes_call (takes_of rfl rfl rfl rfl) (fun _ _ _ _ h => h)) (pa_cons (pv 2) (pa_cons (C8.pe_gc (by rfl) T.c_MOST_TRIALS) pa_nil))))
    (pss_cons (ps_set (i := 3) sc_Keeping_judge.nd rfl (.inl rfl) (pe_listZip (by rfl) (by rfl) T.n_list (by rfl) T.n_zip (pa_cons (pe_step2 (pv 2) po_none) (pa_cons (pe_step2 (pv 2) (po_some pe_int)) pa_nil))))
    (pss_cons (ps_expr (pe_call G0 hr0 (by rfl) T.g_want T.k_want b0 .nil (passes_call (takes_of rfl rfl rfl rfl) (fun _ _ _ _ h => h)) (pa_cons (pe_callB (cr_all rfl) (by rfl) T.n_all (by decide +kernel) (pa_cons (pe_lc (g := (gTup K 2 (gCons (gName 4) (gCons (gName 5) gNil)))) (own := [("low", 4), ("high", 5)]) (by rfl) sc_Keeping_judge.nd (pi_list (pv 3)) (blkOk_by (own := [("low", 4), ("high", 5)]) (N := N_Keeping_judge) (sc := defScope s_Keeping_judge) (by decide +kernel)) (fun _ _ _ _ _ => by exact (pg_tup (by rfl) (pgs_cons (pg_name (i := 4) sc_Keeping_judge.nd rfl (.inl rfl)) (pgs_cons (pg_name (i := 5) sc_Keeping_judge.nd rfl (.inl rfl)) pgs_nil)))) (fun _ _ _ _ _ => by exact pts_nil) (fun _ _ _ _ _ => by exact (pe_cmpR op_le (pv 4) (pv 5) (by rfl)))) pa_nil)) (pa_cons (C8.pe_gc (by rfl) T.c_NOT_AS_TOLD) pa_nil))))
    (pss_cons (ps_set (i := 6) sc_Keeping_judge.nd rfl (.inr rfl) (pe_meth (pv 0) T.cl_Keeping T.m_Keeping_channel_at G2 hr2 b2 .nil (passes_call (takes_of rfl rfl rfl rfl) (fun _ _ _ _ h => h)) (pa_cons (pv 1) (pa_cons (pe_lst pa_nil) pa_nil))))
    (pss_cons (ps_expr (pe_call G0 hr0 (by rfl) T.g_want T.k_want b0 .nil (passes_call (takes_of rfl rfl rfl rfl) (fun _ _ _ _ h => h)) (pa_cons (pe_cmpR op_eq (pe_callB call_len_seq (by rfl) T.n_len (by decide +kernel) (pa_cons (pv 3) pa_nil)) (pe_fld (pe_fld (pv 0) rfl) rfl) (by rfl)) (pa_cons (C8.pe_gc (by rfl) T.c_TOO_GREAT) pa_nil))))
    (pss_cons (ps_expr (pe_call G0 hr0 (by rfl) T.g_want T.k_want b0 .nil (passes_call (takes_of rfl rfl rfl rfl) (fun _ _ _ _ h => h)) (pa_cons (pe_callB (cr_all rfl) (by rfl) T.n_all (by decide +kernel) (pa_cons (pe_lc (g := (gTup K 2 (gCons (gName 4) (gCons (gName 5) gNil)))) (te := (tOp (rI0 fun i j => .bl (decide (i ≤ j))) (tVar 5) (tFld K (tVar 6) "trials"))) (own := [("low", 4), ("high", 5)]) (by rfl) sc_Keeping_judge.nd (pi_list (pv 3)) (blkOk_by (own := [("low", 4), ("high", 5)]) (N := N_Keeping_judge) (sc := defScope s_Keeping_judge) (by decide +kernel)) (fun _ _ _ _ _ => by exact (pg_tup (by rfl) (pgs_cons (pg_name (i := 4) sc_Keeping_judge.nd rfl (.inl rfl)) (pgs_cons (pg_name (i := 5) sc_Keeping_judge.nd rfl (.inl rfl)) pgs_nil)))) (fun _ _ _ _ _ => by exact pts_nil) (fun _ _ _ _ _ => by exact (pe_cmpR op_le (pv 5) (pe_fld (pv 6) rfl) (by rfl)))) pa_nil)) (pa_cons (C8.pe_gc (by rfl) T.c_TOO_GREAT) pa_nil))))
    (pss_cons (ps_for (passes_of rfl) rfl (pi_enum (by rfl) T.n_enumerate (pa_cons (pv 3) pa_nil)) (pg_tup (by rfl) (pgs_cons (pg_name (i := 7) sc_Keeping_judge.nd rfl (.inl rfl)) (pgs_cons (pg_tup (by rfl) (pgs_cons (pg_name (i := 4) sc_Keeping_judge.nd rfl (.inl rfl)) (pgs_cons (pg_name (i := 5) sc_Keeping_judge.nd rfl (.inl rfl)) pgs_nil))) pgs_nil))) (pss_one (ps_for (passes_of rfl) rfl (pi_tup (pe_tup (pa_cons (C8.pe_gc (by rfl) T.c_BEGINNING) (pa_cons (C8.pe_gc (by rfl) T.c_ENDING) pa_nil)))) (pg_name (i := 8) sc_Keeping_judge.nd rfl (.inl rfl)) (pss_cons (ps_set (i := 9) sc_Keeping_judge.nd rfl (.inl rfl) (pe_call G3 hr3 (by rfl) T.g_spread_at T.k_spread_at b3 .nil pass0 (pa_cons (pe_fld (pv 0) rfl) (pa_cons (pv 6) (pa_cons (pv 7) (pa_cons (pv 8) pa_nil))))))
    (pss_one (ps_if (pt_not (pt_val (pe_meth (pv 9) T.cl_Spread T.m_Spread_is_sure G5 hr5 b5 .nil pass0 (pa_cons (pe_meth (pv 9) T.cl_Spread T.m_Spread_many_from G4 hr4 b4 .nil pass0 (pa_cons (pv 4) (pa_cons (pv 5) pa_nil))) (pa_cons (pe_fld (pv 6) rfl) pa_nil))))) (pss_one (ps_ret (pe_op op_cat (pe_lst (pa_cons pe_int (pa_cons (pv 7) (pa_cons (pv 8) pa_nil)))) (pe_callTy call_list_of (by rfl) T.n_list (by decide +kernel) (pa_cons (pe_meth (pv 9) T.cl_Spread T.m_Spread_often G6 hr6 b6 .nil pass0 (pa_cons (pv 4) (pa_cons (pv 5) pa_nil))) pa_nil))))) pss_nil))))))
    (pss_one (ps_ret (pe_lst (pa_cons pe_int pa_nil)))))))))))), ?_⟩
  obtain ⟨_, h⟩ := h
  obtain ⟨kp, p, cs, c, v, l, rfl, hK, hl, l1, q⟩ := h
  obtain ⟨dx, pv, cl, hk, hp, hcl, ok, lc⟩ := id hK
  obtain ⟨la, rfl, hla⟩ := hl
  have g1 := ok.g1
  have g12 := ok.g12
  have k0 : Same H H := Same.refl H
  obtain ⟨qe, q⟩ := q
  rw [mJudge_nf] at qe q
  refine want_call (B := decide (l.length % 2 = 0)) (fun Qa hQ => ?_) (fun hb => qe _ (by rw [wantB_f hb]; rfl)) (fun hb1 H1 e1 => ?_)
  · refine ⟨_, rfl, la, _, rfl, .inl (SqL.of hla), _, _, rfl, rfl, by show (0 : Int) < 2; decide, ?_⟩
    refine ⟨rfl, ?_⟩
    refine (congrArg (fun b => Qa (.bl b) H) ?_).mpr (hQ H k0)
    rw [Bool.eq_iff_iff, decide_eq_true_eq, decide_eq_true_eq, List.length_map]
    constructor
    · intro z
      have z2 : ((l.length : Nat) : Int) % 2 = 0 := V.int.inj z
      omega
    · intro z
      refine congrArg V.int (?_ : ((l.length : Nat) : Int) % 2 = 0)
      omega
  have w1 := wantB_t (n := -1) hb1
  refine ⟨_, rfl, rfl, .ref la, l, 40, rfl, ⟨la, rfl, e1 _ _ hla⟩, l1, fun n hn => (qe n (by simp only [w1, hn, Except.bind])).pre e1, fun u2 hx2 _ H2 e2 _ => ?_⟩
  have k2 := e1.trans e2
  have bl := upTo_ok hx2
  refine ⟨_, rfl, la, _, 0, rfl, .inl ⟨rfl, rfl⟩, by decide, SqL.of (k2 _ _ hla), fun p1 n1 => ?_⟩
  have kp1 : Same H2 (upd H2 p1 (.lst (pick2 0 (l.map V.int)))) := Same.new n1
  have hp1 : (upd H2 p1 (.lst (pick2 0 (l.map V.int)))) p1 = some (.lst (pick2 0 (l.map V.int))) := upd_same
  generalize upd H2 p1 (.lst (pick2 0 (l.map V.int))) = H3 at kp1 hp1 ⊢
  refine ⟨_, rfl, _, rfl, la, _, 1, rfl, .inr rfl, by decide, SqL.of (kp1 _ _ (k2 _ _ hla)), fun p2 n2 => ?_⟩
  have kp2 : Same H3 (upd H3 p2 (.lst (pick2 1 (l.map V.int)))) := Same.new n2
  have hp2 : (upd H3 p2 (.lst (pick2 1 (l.map V.int)))) p2 = some (.lst (pick2 1 (l.map V.int))) := upd_same
  generalize upd H3 p2 (.lst (pick2 1 (l.map V.int))) = H4 at kp2 hp2 ⊢
  refine ⟨p1, p2, _, _, rfl, SqL.of (kp2 _ _ hp1), SqL.of hp2, fun ts H5 np r nr => ?_⟩
  rw [prN_zip bl] at np
  obtain ⟨e5, pr5⟩ := newPairs_belt np
  have lN : (prN l).length ≤ 1000 := Nat.le_trans prN_len l1
  have lts : (ts.map V.ref).length = (prN l).length := paired_len pr5
  generalize ts.map V.ref = vs at pr5 lts ⊢
  have kr : Same H5 (upd H5 r (.lst vs)) := Same.new nr
  have hr6 : (upd H5 r (.lst vs)) r = some (.lst vs) := upd_same
  have pr6 : Paired (PAt (upd H5 r (.lst vs))) vs (prN l) := paired_imp (fun _ _ q => PAt.same q kr) pr5
  generalize upd H5 r (.lst vs) = H6 at kr hr6 pr6 ⊢
  have k6 : Same H H6 := (((k2.trans kp1).trans kp2).trans e5).trans kr
  clear np pr5 kr e5 hp1 hp2 kp1 kp2 nr n1 n2
  rw [prN_all bl] at qe q
  refine ⟨_, rfl, r, rfl, ⟨_, SqL.of hr6⟩, fun D nD => lc_list (K := K) (a := r) (xs := vs)
    (fun i H' => Same H6 H' ∧ H' D = some (.lst ((((prN l).take i).map fun y => decide (y.1 ≤ y.2)).map V.bl))) ⟨Same.new nD, upd_same⟩ (fun i H' _ ⟨e, _⟩ => SqL.of (e _ _ hr6)) ?_ ?_⟩
  · rintro i x H' hx ⟨e, hD⟩
    obtain ⟨y, hy, a1, rfl, h1⟩ := paired_at' pr6 hx
    have il := (List.getElem?_eq_some_iff.mp hy).1
    refine ⟨a1, _, rfl, SqT.of (e _ _ h1), rfl, _, _, rfl, _, _, rfl, rfl, rfl, ?_⟩
    refine ⟨_, rfl, _, rfl, _, _, rfl, rfl, _, hD, ?_, e.mut nD, ?_⟩
    · rw [List.length_map, List.length_map, List.length_take]
      exact small1000 (by omega)
    · rw [upd_same, take_succ hy, List.map_append, List.map_append]
      refine congrArg some (congrArg HO.lst (congrArg _ ?_))
      show [V.bl _] = [V.bl _]
      congr 2
      rw [Bool.eq_iff_iff, decide_eq_true_eq, decide_eq_true_eq]
      omega
  rintro H0 ⟨e0, hD⟩
  rw [lts, List.take_length] at hD
  refine ⟨D, _, rfl, SqL.of hD, ?_⟩
  rw [List.all_map]
  refine ⟨rfl, _, -1, rfl, fun n hn => (qe n (by simp only [w1, hx2, show wantB ((prN l).all fun y => decide (y.1 ≤ y.2)) (-1) = .error n from hn, Except.bind])).pre (k6.trans e0), fun u3 hx3 _ H7 e7 _ => ?_⟩
  replace hx3 : wantB ((prN l).all fun y => decide (y.1 ≤ y.2)) (-1) = .ok u3 := hx3
  have k7 := (k6.trans e0).trans e7
  have s7 := e0.trans e7
  have hr7 := s7 _ _ hr6
  have pr7 : Paired (PAt H7) vs (prN l) := paired_imp (fun _ _ q => PAt.same q s7) pr6
  clear hD s7 e0 e7
  refine ⟨_, rfl, kp, dx, _, rfl, k7 _ _ hk, L_Keeping_channel_at, _, rfl, by show 0 ≤ sizeLine; decide, fun f8 n8 => ⟨rfl, kp, p, cs, c, .ref f8, [], rfl, hK.same (k7.trans (Same.new n8)), ⟨f8, rfl, upd_same⟩, by show 0 ≤ 1000; decide, fun n hn => (qe n (by simp only [w1, hx2, hx3, hn, Except.bind])).pre (k7.trans (Same.new n8)), fun x hx4 vc H8 e8 hvc => ?_⟩⟩
  have s8 := (Same.new n8).trans e8
  have k8 := k7.trans s8
  have hr8 := s8 _ _ hr7
  have pr8 : Paired (PAt H8) vs (prN l) := paired_imp (fun _ _ q => PAt.same q s8) pr7
  have cr := chanR_ok hx4
  have okx := ok.ch x (List.mem_of_getElem? cr.2.2)
  have t40 := okx.t40
  obtain ⟨pa, pdx, pl, pvs, rfl, hpa, hpl, hpv⟩ := id hp
  have eB : decide (V.int ((vs.length : Nat) : Int) = V.int (p.parts : Int)) = decide ((prN l).length = p.parts) := by
    rw [Bool.eq_iff_iff, decide_eq_true_eq, decide_eq_true_eq, lts]
    constructor
    · intro z
      have := V.int.inj z
      omega
    · intro z
      rw [z]
  refine ⟨_, rfl, r, _, rfl, .inl (SqL.of hr8), _, rfl, kp, _, dx, _, _, rfl, k8 _ _ hk, T.cl_Keeping, T.na_Keeping_plan, L_Keeping_plan, pa, _, pdx, _, _, rfl, k8 _ _ hpa, T.cl_Plan, T.na_Plan_parts, L_Plan_parts, rfl, rfl, decide (V.int ((vs.length : Nat) : Int) = V.int (p.parts : Int)), -3, rfl, fun n hn => (qe n (by rw [eB] at hn; simp only [w1, hx2, hx3, hx4, hn, Except.bind])).pre k8, fun u5 hx5 _ H9 e9 _ => ?_⟩
  rw [eB] at hx5
  have lp : (prN l).length = p.parts := of_decide_eq_true (wantB_ok hx5)
  have k9 := k8.trans e9
  have hr9 := e9 _ _ hr8
  have pr9 : Paired (PAt H9) vs (prN l) := paired_imp (fun _ _ q => PAt.same q e9) pr8
  have hvc9 := hvc.same e9
  have gg : ∀ y ∈ prN l, y.2 ≤ 40 := fun y hy => by
    unfold prN at hy
    obtain ⟨z, hz, rfl⟩ := List.mem_map.mp hy
    have := bl _ (prz_mem hz).2
    show z.2.toNat ≤ 40
    omega
  refine ⟨_, rfl, r, rfl, ⟨_, SqL.of hr9⟩, fun D nD => lc_list (K := K) (a := r) (xs := vs)
    (fun i H' => Same H9 H' ∧ H' D = some (.lst ((((prN l).take i).map fun y => decide (y.2 ≤ x.trials)).map V.bl))) ⟨Same.new nD, upd_same⟩ (fun i H' _ ⟨e, _⟩ => SqL.of (e _ _ hr9)) ?_ ?_⟩
  · rintro i z H' hx ⟨e, hD⟩
    obtain ⟨y, hy, a1, rfl, h1⟩ := paired_at' pr9 hx
    have il := (List.getElem?_eq_some_iff.mp hy).1
    obtain ⟨ca, cdx, nm, cb, cg, csu, rfl, hca, _⟩ := id (hvc9.same e)
    refine ⟨a1, _, rfl, SqT.of (e _ _ h1), rfl, _, _, rfl, _, _, rfl, rfl, rfl, ?_⟩
    refine ⟨_, rfl, _, rfl, ca, _, cdx, _, _, rfl, hca, T.cl_Channel, T.na_Channel_trials, L_Channel_trials, _, _, rfl, rfl, _, hD, ?_, e.mut nD, ?_⟩
    · rw [List.length_map, List.length_map, List.length_take]
      exact small1000 (by omega)
    · rw [upd_same, take_succ hy, List.map_append, List.map_append]
      refine congrArg some (congrArg HO.lst (congrArg _ ?_))
      show [V.bl _] = [V.bl _]
      congr 2
      rw [Bool.eq_iff_iff, decide_eq_true_eq, decide_eq_true_eq]
      omega
  rintro H0 ⟨e0, hD⟩
  rw [lts, List.take_length] at hD
  refine ⟨D, _, rfl, SqL.of hD, ?_⟩
  rw [List.all_map]
  refine ⟨rfl, _, -3, rfl, fun n hn => (qe n (by simp only [w1, hx2, hx3, hx4, hx5, show wantB ((prN l).all fun y => decide (y.2 ≤ x.trials)) (-3) = .error n from hn, Except.bind])).pre (k9.trans e0), fun u6 hx6 _ H10 e10 _ => ?_⟩
  replace hx6 : wantB ((prN l).all fun y => decide (y.2 ≤ x.trials)) (-3) = .ok u6 := hx6
  have s10 := e0.trans e10
  have k10 := k9.trans s10
  have hr10 := s10 _ _ hr9
  have pr10 : Paired (PAt H10) vs (prN l) := paired_imp (fun _ _ q => PAt.same q s10) pr9
  have hvc10 := hvc9.same s10
  have hm : ((wantB (decide (l.length % 2 = 0)) (-1)).bind fun _ => (upTo l 40).bind fun _ => (wantB ((prN l).all fun y => decide (y.1 ≤ y.2)) (-1)).bind fun _ => (chanR p c []).bind fun x => (wantB (decide ((prN l).length = p.parts)) (-3)).bind fun _ => (wantB ((prN l).all fun y => decide (y.2 ≤ x.trials)) (-3)).bind fun _ => (Except.ok (judR p x (prN l)) : Res)) = .ok (judR p x (prN l)) := by
    simp only [w1, hx2, hx3, hx4, hx5, hx6, Except.bind]
  replace q := q _ hm
  have tr : ∀ y ∈ prN l, y.2 ≤ x.trials := fun y hy => of_decide_eq_true (List.all_eq_true.mp (wantB_ok hx6) y hy)
  clear hD s10 e0 e10 qe hm
  refine ⟨_, rfl, r, _, rfl, SqL.of hr10, for_it walk_enum
    (fun i σ H' => ∃ v4 v5 v7 v8 v9, σ = [some (.ref kp), some (.int c), some (.ref la), some (.ref r), v4, v5, some vc, v7, v8, v9] ∧ Same H10 H' ∧ okB p.parts x (prN l) i)
    ⟨_, _, _, _, _, rfl, Same.refl _, fun i y hi _ => by omega⟩ (fun i σ H' _ ⟨_, _, _, _, _, _, e, _⟩ => SqL.of (e _ _ hr10)) ?_ ?_⟩
  · rintro i z σ H1 H2 hi ⟨v4, v5, v7, v8, v9, rfl, e, okb⟩ ⟨A2, x1, y1, rfl, nA, rfl, ex, ey⟩
    cases ex
    obtain ⟨y, hy, a1, rfl, h1⟩ := paired_at' pr10 ey
    have e1 : Same H1 (upd H1 A2 (.tup [.int (i : Nat), .ref a1])) := Same.new nA
    refine ⟨A2, _, rfl, SqT.of upd_same, rfl, _, _, rfl, _, _, rfl, a1, _, rfl, SqT.of (e1 _ _ (e _ _ h1)), rfl, _, _, rfl, _, _, rfl, rfl, rfl, ?_⟩
    generalize upd H1 A2 (.tup [.int (i : Nat), .ref a1]) = H3 at e1 ⊢
    have s3 := e.trans e1
    have ip : i < p.parts := by
      have := (List.getElem?_eq_some_iff.mp hy).1
      omega
    refine ⟨by show 2 ≤ sizeLine; decide, fun t nt => ?_⟩
    have kt : Same H3 (upd H3 t (.tup [.int 0, .int 1])) := Same.new nt
    have ht : (upd H3 t (.tup [.int 0, .int 1])) t = some (.tup [.int 0, .int 1]) := upd_same
    generalize upd H3 t (.tup [.int 0, .int 1]) = H4 at kt ht ⊢
    have s4 := s3.trans kt
    refine ⟨t, rfl, ⟨_, SqT.of ht⟩, for_tup (K := K) (a := t) (xs := [.int 0, .int 1])
      (fun j σ H' => ∃ v8 v9, σ = [some (.ref kp), some (.int c), some (.ref la), some (.ref r), some (.int (y.1 : Int)), some (.int (y.2 : Int)), some vc, some (.int (i : Int)), v8, v9] ∧ Same H4 H' ∧ ∀ j', j' < j → wrB p.parts x i j' y = false)
      ⟨_, _, rfl, Same.refl _, fun j' hj => by omega⟩ (fun j σ H' _ ⟨_, _, _, e, _⟩ => SqT.of (e _ _ ht)) ?_ ?_⟩
    · rintro j z σ H' hz ⟨v8, v9, rfl, e4, no⟩
      have jl : j < 2 := (List.getElem?_eq_some_iff.mp hz).1
      have ez : z = V.int (j : Int) := by
        rcases (show j = 0 ∨ j = 1 by omega) with rfl | rfl
        · exact (Option.some.inj hz).symm
        · exact (Option.some.inj hz).symm
      subst ez
      have pr := chanceAt_pr okx g12 ip (show j ≤ 1 by omega)
      have s5 := s4.trans e4
      have k5 := k10.trans s5
      refine ⟨_, rfl, kp, _, dx, _, _, rfl, k5 _ _ hk, T.cl_Keeping, T.na_Keeping_plan, L_Keeping_plan, _, rfl, _, rfl, _, rfl, rfl, p, x, .ref pa, vc, i, j, rfl, hp.same k5, hvc10.same s5, okx, g12, ip, by omega, fun vs5 H5 e5 hs => ?_⟩
      have s6 := s5.trans e5
      obtain ⟨sa, sdx, sl, rfl, hs1, hs2⟩ := id hs
      have ty : y.2 ≤ x.trials := tr y (List.mem_of_getElem? hy)
      refine ⟨_, rfl, sa, sdx, _, rfl, hs1, L_Spread_is_sure, _, rfl, sa, sdx, _, rfl, hs1, L_Spread_many_from, _, rfl, _, rfl, rfl, _, x.trials, _, y.1, (y.2 : Int), rfl, hs, by omega, fun H6 e6 => ?_⟩
      have s7 := s6.trans e6
      have hv7 := hvc10.same s7
      obtain ⟨ca, cdx, nm, cb, cg, csu, rfl, hca, _, _, _, hsu⟩ := id hv7
      refine ⟨_, rfl, ca, _, cdx, _, _, rfl, hca, T.cl_Channel, T.na_Channel_sure, L_Channel_sure, rfl, _, csu, x.trials, _, x.sure, many x.trials (Vbkdai.chanceAt p.parts x i j) y.1 (y.2 + 1), ?_, hs.same e6, hsu, pr, t40, okx.su, many_small pr t40 _ _, _, rfl, ?_⟩
      · rfl
      have ew : wrB p.parts x i j y = !Vbkdai.reaches x.trials (Vbkdai.chanceAt p.parts x i j) x.sure (many x.trials (Vbkdai.chanceAt p.parts x i j) y.1 (y.2 + 1)) := by
        unfold wrB
        rw [← often_chance ty]
        exact wr_reach pr okx.su (total_pos pr)
      cases hr : Vbkdai.reaches x.trials (Vbkdai.chanceAt p.parts x i j) x.sure (many x.trials (Vbkdai.chanceAt p.parts x i j) y.1 (y.2 + 1)) with
      | true =>
        rw [hr] at ew
        refine iteF ⟨_, _, rfl, (e4.trans e5).trans e6, fun j' hj' => ?_⟩
        by_cases z : j' = j
        · rw [z]
          exact ew
        · exact no j' (by omega)
      | false =>
        rw [hr] at ew
        refine iteT ⟨_, rfl, _, rfl, by show 3 ≤ sizeLine; decide, fun f1 nf1 => ?_⟩
        have kf1 : Same H6 (upd H6 f1 (.lst [.int 0, .int (i : Int), .int (j : Int)])) := Same.new nf1
        have hf1 : (upd H6 f1 (.lst [.int 0, .int (i : Int), .int (j : Int)])) f1 = some (.lst [.int 0, .int (i : Int), .int (j : Int)]) := upd_same
        generalize upd H6 f1 (.lst [.int 0, .int (i : Int), .int (j : Int)]) = H7 at kf1 hf1 ⊢
        refine ⟨_, rfl, sa, sdx, _, rfl, kf1 _ _ (e6 _ _ hs1), L_Spread_often, _, rfl, _, rfl, rfl, _, x.trials, _, y.1, y.2, rfl, (hs.same e6).same kf1, pr, t40, fun vf H8 e8 ⟨fa, ev, hf⟩ => ?_⟩
        subst ev
        rw [often_chance ty] at hf
        refine ⟨fa, _, rfl, .inr hf, fun f2 nf2 => ?_⟩
        have kf2 := e8.trans (Same.new (o := .lst (qV (Vbkdai.chance x.trials (Vbkdai.chanceAt p.parts x i j) y.1 y.2))) nf2)
        refine ⟨f1, f2, _, _, rfl, rfl, kf2 _ _ hf1, upd_same, ?_, fun f3 nf3 => ?_⟩
        · exact Nat.le_of_lt (small1000 (show 3 + 2 ≤ 1000 by omega))
        · refine q _ _ (((k10.trans s7).trans (kf1.trans kf2)).trans (Same.new nf3)) ⟨f3, rfl, ?_⟩
          rw [upd_same, judR_some okb hy (by omega) no ew]
          rfl
    · rintro σ H' ⟨v8, v9, rfl, e4, no⟩
      exact ⟨_, _, _, _, _, rfl, s4.trans e4, okB_succ okb hy no⟩
  · rintro σ H' ⟨v4, v5, v7, v8, v9, rfl, e, okb⟩
    refine ⟨by show 1 ≤ sizeLine; decide, fun f nf => q _ _ ((k10.trans e).trans (Same.new nf)) ⟨f, rfl, ?_⟩⟩
    rw [lts] at okb
    rw [upd_same, judR_none okb]
    rfl
end
end Bc


-- end of a part
set_option Elab.async false
set_option linter.all false
set_option maxRecDepth 100000
set_option maxHeartbeats 4000000
set_option exponentiation.threshold 100000
/-! # a plan told -/
namespace Bc
open PySem PySem.Spec PyProof.Rows L2 L2N L2H
/-- the keeping at k in this state -/
def StAt (K : PySem.W.Frag) (H : Hp) (k : Addr) (s : Vbkdai.State) : Prop := (s = ⟨none, []⟩ ∧ ∃ dx cl, H k = some (.ins (He.ga K "Keeping") dx (F_Keeping .non (.ref cl))) ∧ H cl = some (.lst [])) ∨ ∃ p cs, s = ⟨some p, cs⟩ ∧ KpAt K H k p cs
theorem StAt.same {K : PySem.W.Frag} {H H' : Hp} {k : Addr} {s : Vbkdai.State} (h : StAt K H k s) (e : Same H H') : StAt K H' k s := by
  rcases h with ⟨h, dx, cl, h1, h2⟩ | ⟨p, cs, h, hK⟩
  · exact .inl ⟨h, dx, cl, e _ _ h1, e _ _ h2⟩
  · exact .inr ⟨p, cs, h, hK.same e⟩
theorem KpAt.obj {K : PySem.W.Frag} {H : Hp} {k : Addr} {p : Vbkdai.Plan} {cs : List (Option Nat)} (h : KpAt K H k p cs) : ∃ dx pv cl, H k = some (.ins (He.ga K "Keeping") dx (F_Keeping pv (.ref cl))) := let ⟨dx, pv, cl, x, _⟩ := h; ⟨dx, pv, cl, x⟩
theorem StAt.obj {K : PySem.W.Frag} {H : Hp} {k : Addr} {s : Vbkdai.State} (h : StAt K H k s) : ∃ dx pv cl, H k = some (.ins (He.ga K "Keeping") dx (F_Keeping pv (.ref cl))) := by
  rcases h with ⟨h, dx, cl, h1, h2⟩ | ⟨p, cs, h, hK⟩
  · exact ⟨dx, _, cl, h1⟩
  · exact hK.obj
def sp_Keeping_tell_plan (K : PySem.W.Frag) : Sp := mkSp 2 fun vs H Q E => ∃ (kp : Addr) (s : Vbkdai.State) (v : V) (l : List Int), vs = [.ref kp, v] ∧ StAt K H kp s ∧ InAt H v l ∧ l.length ≤ 1000 ∧ (∀ n, mTell l = .error n → Rf K H E n) ∧
  ∀ p, mTell l = .ok p → ∀ v H', SameBut kp H H' → KpAt K H' kp p (p.chans.map fun _ => none) → InAt H' v (Vbkdai.ints [p.parts, p.chans.length]) → Q v H'
section
variable {P : Program} {w : World} {K : PySem.W.Frag} {mg : Str → Option Value} {base : Heap}
theorem hot_Refused_init (T : TX K mg) : ∃ fd, FnH P w K mg base CX0 1 (He.ma K (He.ga K "Refused") "__init__") fd ["self", "number"] (sp_Refused_init K) ∧ Binds K fd ["self", "number"] [] := by
  obtain ⟨fd, F⟩ := T.f_Refused_init
  refine ⟨fd, F.okH sc_Refused_init (fun _ _ _ _ h => h.1) (fun cdv A outer s H vs Q E p hot hr h => ?_), F.binds fun _ _ _ _ _ _ us hl => match us, hl with | [_, _], _ => rfl⟩
  refine ⟨_, pss_cons (ps_expr (pe_veinit (by rfl) T.n_ValueError T.ve_init (pa_cons (pv 0) (pa_cons pe_str pa_nil))))
    (pss_one (ps_ost (pv 0) (pv 1))), ?_⟩
  obtain ⟨_, h⟩ := h
  obtain ⟨a, n, rfl, ha, q⟩ := h
  refine ⟨_, rfl, a, _, _, rfl, by show 1 ≤ 1000; decide, T.ox_Refused, ha, ?_⟩
  refine ⟨_, rfl, _, rfl, a, _, rfl, T.ox_Refused, T.na_Refused_number, .inl ⟨ha, fun dx nd ne => ?_⟩⟩
  refine q dx _ nd ne (fun b b1 b2 => ?_) upd_same ?_
  · rw [upd_ne b1, upd_ne b2]
  · rw [upd_ne ne, upd_same]
    rfl
theorem sc_Keeping_tell_plan : FnScope N_Keeping_tell_plan ["self", "row"] (defScope s_Keeping_tell_plan) := ⟨rfl, rfl, rfl, by decide +kernel, rfl, by decide +kernel, by decide +kernel⟩
theorem ok_Keeping_tell_plan (T : TX K mg) : FOk P w K mg base (L2.CX P w) 9 (He.ma K (He.ga K "Keeping") "tell_plan") ["self", "row"] (sp_Keeping_tell_plan K) := by
  obtain ⟨fd, F⟩ := T.f_Keeping_tell_plan
  obtain ⟨fd0, G0, b0⟩ := ok_want (P := P) (w := w) (base := base) T
  obtain ⟨fd1, G1, b1⟩ := ok_want_up_to (P := P) (w := w) (base := base) T
  obtain ⟨fd2, G2, b2⟩ := ok_plan_of (P := P) (w := w) (base := base) T
  obtain ⟨fd3, G3, b3⟩ := hot_Refused_init (P := P) (w := w) (base := base) T
  refine ⟨fd, F.okX sc_Keeping_tell_plan (fun _ _ _ _ h => h.1) (fun cdv A outer s H vs Q E hr h => ?_), F.binds fun _ _ _ _ _ _ us hl => match us, hl with | [_, _], _ => rfl⟩
  have hr0 := hr.mono (by decide : 3 ≤ 8)
  have hr1 := hr.mono (by decide : 4 ≤ 8)
  have hr2 := hr.mono (by decide : 8 ≤ 8)
  have hr3 := hr.mono (by decide : 2 ≤ 8)
  refine ⟨_, (pss_cons (ps_expr (pe_call G0 hr0 (by rfl) T.g_want T.k_want b0 .nil (L2.passes_call (L2.takes_of rfl rfl rfl rfl) (fun _ _ _ _ h => h)) (pa_cons (pe_cmpR op_le (pe_callB call_len_seq (by rfl) T.n_len (by decide +kernel) (pa_cons (pv 1) pa_nil)) (C8.pe_gc (by rfl) T.c_MOST_BYTES) (by rfl)) (pa_cons (C8.pe_gc (by rfl) T.c_NOT_AS_TOLD) pa_nil))))
    (pss_cons (ps_expr (pe_call G1 hr1 (by rfl) T.g_want_up_to T.k_want_up_to b1 .nil (L2.passes_call (L2.takes_of rfl rfl rfl rfl) (fun _ _ _ _ h => h)) (pa_cons (pv 1) (pa_cons (C8.pe_gc (by rfl) T.c_MOST_BYTE) pa_nil))))
    (pss_cons (ps_try_asX (i := 3) (E := E) (tb := fun W => tAsg (tCallS (sp_plan_of K) (WE W) (tCons (tVar 1) tNil)) (gName 2))
      (ts := fun a cls d _ σ H => tMkO (He.ga K "Refused") (sp_Refused_init K) [] (tCons (tOp (rI0 fun i j => .int (i - j)) (tOp (rI CMul fun i j => .int (i * j)) (tUn (rU fun i => .int (-i)) (tC (.int 1000))) (tXf a cls d (He.ga K "Fault") "kind" (tVar 3))) (tXf a cls d (He.ga K "Fault") "place" (tVar 3))) tNil) σ H fun cls d H' => E cls d H')
      rfl rfl sc_Keeping_tell_plan.nd rfl rfl ⟨rfl, by decide, Or.inl T.g_Fault⟩ (fun hd => passesAt_of rfl hd) (L2.takes_of rfl rfl rfl rfl)
      (fun W pn xe tk _ => pss_one (ps_set (i := 2) sc_Keeping_tell_plan.nd rfl (Or.inl rfl) (by exact (pe_callS G2 hr2 rfl T.g_plan_of T.k_plan_of b2 (fun σ => L2N.passAt tk σ) (by exact (pa_cons (pv 1) pa_nil))))))
      (fun a oe cls d pn xe hz hf tk hot => pss_one (ps_raiseH hot tk (pmk5_oexH T.ox_Refused T.i_Refused T.t_Refused G3 (roomH_mark hr3 _) hot b3 pass0 (by rfl) T.g_Refused (by exact (pa_cons (pe_op op_sub (pe_op op_mul (pe_un un_neg (C8.pe_gc (by rfl) T.c_FAULTS)) (pe_xfE T.xf_Fault T.na_Fault_kind hz hf (pv 3))) (pe_xfE T.xf_Fault T.na_Fault_place hz hf (pv 3))) pa_nil))).pmk)))
    (pss_cons (ps_fld (pv 0) (pv 2) rfl)
    (pss_cons (ps_fld (pv 0) (pe_op op_rep (pe_lst (pa_cons pe_non pa_nil)) (pe_callB call_len_seq (by rfl) T.n_len (by decide +kernel) (pa_cons (pe_fld (pv 2) rfl) pa_nil))) rfl)
    (pss_one (ps_ret (pe_lst (pa_cons (pe_fld (pv 2) rfl) (pa_cons (pe_callB call_len_seq (by rfl) T.n_len (by decide +kernel) (pa_cons (pe_fld (pv 2) rfl) pa_nil)) pa_nil)))))))))), ?_⟩
  obtain ⟨_, h⟩ := h
  obtain ⟨kp, stt, v, l, rfl, hS, ⟨la, rfl, hla⟩, l1, qe, q⟩ := h
  obtain ⟨dx, pv0, cl0, hk⟩ := hS.obj
  refine want_call (B := decide (l.length ≤ 400)) (fun Qa hQ => ?_) (fun hb => qe _ (by unfold mTell; rw [wantB_f hb]; rfl)) (fun hb1 H1 e1 => ?_)
  · refine ⟨_, rfl, la, _, rfl, .inl (SqL.of hla), _, _, rfl, rfl, ?_⟩
    refine (congrArg (fun b => Qa (.bl b) H) ?_).mpr (hQ H (Same.refl H))
    rw [Bool.eq_iff_iff, decide_eq_true_eq, decide_eq_true_eq, List.length_map]
    omega
  have w1 := wantB_t (n := -1) hb1
  have l400 : l.length ≤ 400 := of_decide_eq_true hb1
  refine ⟨_, rfl, rfl, .ref la, l, 255, rfl, ⟨la, rfl, e1 _ _ hla⟩, l1, fun n hn => (qe n (by simp only [mTell, w1, hn, Except.bind])).pre e1, fun u2 hx2 _ H2 e2 _ => ?_⟩
  have k2 := e1.trans e2
  have bl := upTo_ok hx2
  have el : nI (Vbkdai.nats l) = l := by
    show ((l.map Int.toNat).map fun n : Nat => (n : Int)) = l
    rw [List.map_map]
    refine (List.map_congr_left fun z hz => ?_).trans (List.map_id l)
    have := bl z hz
    show ((z.toNat : Nat) : Int) = id z
    rw [Int.toNat_of_nonneg (by omega)]
    rfl
  refine ⟨_, rfl, rfl, .ref la, Vbkdai.nats l, rfl, ⟨la, rfl, by rw [el]; exact k2 _ _ hla⟩, by show (l.map Int.toNat).length ≤ 400; rw [List.length_map]; exact l400, fun f hf d H3 e3 hd => ?_, fun p hp v H3 e3 hv okp => ?_⟩
  · refine ⟨T.ex_Fault, fun a ha => ?_⟩
    refine ⟨_, rfl, _, rfl, rfl, rfl, d, _, _, rfl, hd, (lk_past (by decide +kernel)).trans lk_here, _, _, rfl, rfl, .inl ⟨by decide, by decide⟩, _, rfl, rfl, rfl, d, _, _, rfl, hd, lk_here, _, _, rfl, rfl, ?_⟩
    refine raise_refused fun d2 H4 e4 hd2 => ?_
    have hm : mTell l = .error (-1000 * (f.kind : Int) - (f.place : Int)) := by simp only [mTell, w1, hx2, hf, Except.bind]
    exact qe _ hm d2 H4 ((k2.trans e3).trans e4) hd2
  · have hm : mTell l = .ok p := by simp only [mTell, w1, hx2, hp, Except.bind]
    have k3 := k2.trans e3
    have c4 := okp.c4
    obtain ⟨pa, pdx, pl, pvs, rfl, hpa, hpl, hpv⟩ := id hv
    have lpv := paired_len hpv
    have hk3 := k3 _ _ hk
    refine ⟨_, rfl, _, rfl, kp, _, dx, _, rfl, hk3, T.cl_Keeping, T.na_Keeping_plan, by show 2 < 1000; decide, ?_⟩
    rw [P_Keeping_plan]
    have b1 : SameBut kp H3 (upd H3 kp (.ins (He.ga K "Keeping") dx (F_Keeping (.ref pa) (.ref cl0)))) := SameBut.upd
    have hv4 := hv.butK b1 hk3
    have hk4 : (upd H3 kp (.ins (He.ga K "Keeping") dx (F_Keeping (.ref pa) (.ref cl0)))) kp = some (.ins (He.ga K "Keeping") dx (F_Keeping (.ref pa) (.ref cl0))) := upd_same
    have kpa : pa ≠ kp := ne_of hpa hk3 (by
      intro z
      have z2 := (HO.ins.inj z).2.2
      have z3 : (("parts" : Str), V.int (p.parts : Int)) = (("plan" : Str), pv0) := (List.cons.inj z2).1
      have z4 : ("parts" : Str) = ("plan" : Str) := congrArg Prod.fst z3
      exact absurd z4 (by decide +kernel))
    have hpa4 := b1 _ _ kpa hpa
    have hpl4 := b1 _ _ (ne_of hpl hk3 (by intro z; cases z)) hpl
    generalize upd H3 kp (.ins (He.ga K "Keeping") dx (F_Keeping (.ref pa) (.ref cl0))) = H4 at b1 hv4 hk4 hpa4 hpl4 ⊢
    refine ⟨by show 1 ≤ sizeLine; decide, fun f5 n5 => ?_⟩
    have e5 : Same H4 (upd H4 f5 (.lst [.non])) := Same.new n5
    have h5 : (upd H4 f5 (.lst [.non])) f5 = some (.lst [.non]) := upd_same
    generalize upd H4 f5 (.lst [.non]) = H5 at e5 h5 ⊢
    refine ⟨_, rfl, pa, _, pdx, _, _, rfl, e5 _ _ hpa4, T.cl_Plan, T.na_Plan_channels, L_Plan_channels, pl, pvs, rfl, .inl (SqL.of (e5 _ _ hpl4)), f5, (pvs.length : Int), _, rfl, rfl, h5, by omega, by omega, ?_, fun f6 n6 => ?_⟩
    · rw [Int.toNat_natCast, lpv]
      exact Nat.le_of_lt (small1000 (show 1 * _ ≤ 1000 by omega))
    have e6 : Same H5 (upd H5 f6 (.lst (List.replicate ((pvs.length : Int)).toNat [V.non]).flatten)) := Same.new n6
    have h6 : (upd H5 f6 (.lst (List.replicate ((pvs.length : Int)).toNat [V.non]).flatten)) f6 = some (.lst ((p.chans.map fun _ => (none : Option Nat)).map optV)) := by
      rw [upd_same, Int.toNat_natCast, lpv]
      refine congrArg some (congrArg HO.lst ?_)
      generalize p.chans = cs
      induction cs with
      | nil => rfl
      | cons a r ih =>
        rw [List.length_cons, List.replicate_succ, List.flatten_cons, ih]
        rfl
    generalize upd H5 f6 (.lst (List.replicate ((pvs.length : Int)).toNat [V.non]).flatten) = H6 at e6 h6 ⊢
    have e46 := e5.trans e6
    have hk6 := e46 _ _ hk4
    refine ⟨_, rfl, kp, _, dx, _, rfl, hk6, T.cl_Keeping, T.na_Keeping_counted, by show 2 < 1000; decide, ?_⟩
    rw [P_Keeping_counted]
    have b2 : SameBut kp H6 (upd H6 kp (.ins (He.ga K "Keeping") dx (F_Keeping (.ref pa) (.ref f6)))) := SameBut.upd
    have hv7 := (hv4.same e46).butK b2 hk6
    have hk7 : (upd H6 kp (.ins (He.ga K "Keeping") dx (F_Keeping (.ref pa) (.ref f6)))) kp = some (.ins (He.ga K "Keeping") dx (F_Keeping (.ref pa) (.ref f6))) := upd_same
    have hpa7 := b2 _ _ kpa (e46 _ _ hpa4)
    have hpl7 := b2 _ _ (ne_of hpl hk3 (by intro z; cases z)) (e46 _ _ hpl4)
    have h67 := b2 _ _ (ne_of h6 hk6 (by intro z; cases z)) h6
    generalize upd H6 kp (.ins (He.ga K "Keeping") dx (F_Keeping (.ref pa) (.ref f6))) = H7 at b2 hv7 hk7 hpa7 hpl7 h67 ⊢
    refine ⟨_, rfl, pa, _, pdx, _, _, rfl, hpa7, T.cl_Plan, T.na_Plan_parts, L_Plan_parts, _, rfl, pa, _, pdx, _, _, rfl, hpa7, T.cl_Plan, T.na_Plan_channels, L_Plan_channels, pl, pvs, rfl, .inl (SqL.of hpl7), by show 2 ≤ sizeLine; decide, fun f8 n8 => ?_⟩
    have e8 : Same H7 (upd H7 f8 (.lst [.int (p.parts : Int), .int (pvs.length : Int)])) := Same.new n8
    refine q _ hm _ _ ((((k3.but.trans b1).trans e46.but).trans b2).trans e8.but) ⟨dx, .ref pa, f6, e8 _ _ hk7, hv7.same e8, e8 _ _ h67, okp, by rw [List.length_map]⟩ ⟨f8, rfl, ?_⟩
    rw [upd_same, lpv]
    rfl
end
end Bc


-- end of a part
set_option Elab.async false
set_option linter.all false
set_option maxRecDepth 100000
set_option maxHeartbeats 4000000
set_option exponentiation.threshold 100000
/-! # calls -/
namespace Bc
open PySem PySem.Spec PyProof.Rows L2
theorem list0 {l : List Int} (h : l.length = 0) : l = [] := List.length_eq_zero_iff.mp h
theorem list1 {l : List Int} (h : l.length = 1) : ∃ (x0 : Int), l = [x0] := by
  match l, h with
  | [x0], _ => exact ⟨x0, rfl⟩
theorem list2 {l : List Int} (h : l.length = 2) : ∃ (x0 x1 : Int), l = [x0, x1] := by
  match l, h with
  | [x0, x1], _ => exact ⟨x0, x1, rfl⟩
theorem list3 {l : List Int} (h : l.length = 3) : ∃ (x0 x1 x2 : Int), l = [x0, x1, x2] := by
  match l, h with
  | [x0, x1, x2], _ => exact ⟨x0, x1, x2, rfl⟩
theorem list4 {l : List Int} (h : l.length = 4) : ∃ (x0 x1 x2 x3 : Int), l = [x0, x1, x2, x3] := by
  match l, h with
  | [x0, x1, x2, x3], _ => exact ⟨x0, x1, x2, x3, rfl⟩
theorem list5 {l : List Int} (h : l.length = 5) : ∃ (x0 x1 x2 x3 x4 : Int), l = [x0, x1, x2, x3, x4] := by
  match l, h with
  | [x0, x1, x2, x3, x4], _ => exact ⟨x0, x1, x2, x3, x4, rfl⟩
theorem list6 {l : List Int} (h : l.length = 6) : ∃ (x0 x1 x2 x3 x4 x5 : Int), l = [x0, x1, x2, x3, x4, x5] := by
  match l, h with
  | [x0, x1, x2, x3, x4, x5], _ => exact ⟨x0, x1, x2, x3, x4, x5, rfl⟩
theorem list7 {l : List Int} (h : l.length = 7) : ∃ (x0 x1 x2 x3 x4 x5 x6 : Int), l = [x0, x1, x2, x3, x4, x5, x6] := by
  match l, h with
  | [x0, x1, x2, x3, x4, x5, x6], _ => exact ⟨x0, x1, x2, x3, x4, x5, x6, rfl⟩
theorem list8 {l : List Int} (h : l.length = 8) : ∃ (x0 x1 x2 x3 x4 x5 x6 x7 : Int), l = [x0, x1, x2, x3, x4, x5, x6, x7] := by
  match l, h with
  | [x0, x1, x2, x3, x4, x5, x6, x7], _ => exact ⟨x0, x1, x2, x3, x4, x5, x6, x7, rfl⟩
theorem shape_none {c : Int} (h : c < 0 ∨ 19 < c) : PyVbkdai.shape c = none := by
  unfold PyVbkdai.shape
  repeat rw [if_neg (by omega)]
def rowsOf (c : Int) (row : List Int) : List (List Int) := if c = 0 ∨ c = 12 then [row] else []
theorem step_none {c : Int} {ns row : List Int} (h : PyVbkdai.shape c = some (ns.length, (rowsOf c row).length)) (c0 : ¬ c = 0) : Vbkdai.step ⟨none, []⟩ ((c :: ns) :: rowsOf c row) = (⟨none, []⟩, [-4]) := by
  have hc : c = 1 ∨ c = 2 ∨ c = 3 ∨ c = 4 ∨ c = 5 ∨ c = 6 ∨ c = 7 ∨ c = 8 ∨ c = 9 ∨ c = 10 ∨ c = 11 ∨ c = 12 ∨ c = 13 ∨ c = 14 ∨ c = 15 ∨ c = 16 ∨ c = 17 ∨ c = 18 ∨ c = 19 := by
    have h0 : 0 ≤ c := by
      refine Decidable.byContradiction fun z => ?_
      rw [shape_none (.inl (by omega))] at h
      cases h
    have h1 : c ≤ 19 := by
      refine Decidable.byContradiction fun z => ?_
      rw [shape_none (.inr (by omega))] at h
      cases h
    omega
  rcases hc with rfl | rfl | rfl | rfl | rfl | rfl | rfl | rfl | rfl | rfl | rfl | rfl | rfl | rfl | rfl | rfl | rfl | rfl | rfl
  · have hl : ns.length = 0 := (congrArg Prod.fst (Option.some.inj h)).symm
    obtain rfl := list0 hl
    rfl
  · have hl : ns.length = 2 := (congrArg Prod.fst (Option.some.inj h)).symm
    obtain ⟨x0, x1, rfl⟩ := list2 hl
    rfl
  · have hl : ns.length = 1 := (congrArg Prod.fst (Option.some.inj h)).symm
    obtain ⟨x0, rfl⟩ := list1 hl
    rfl
  · have hl : ns.length = 3 := (congrArg Prod.fst (Option.some.inj h)).symm
    obtain ⟨x0, x1, x2, rfl⟩ := list3 hl
    rfl
  · have hl : ns.length = 5 := (congrArg Prod.fst (Option.some.inj h)).symm
    obtain ⟨x0, x1, x2, x3, x4, rfl⟩ := list5 hl
    rfl
  · have hl : ns.length = 2 := (congrArg Prod.fst (Option.some.inj h)).symm
    obtain ⟨x0, x1, rfl⟩ := list2 hl
    rfl
  · have hl : ns.length = 1 := (congrArg Prod.fst (Option.some.inj h)).symm
    obtain ⟨x0, rfl⟩ := list1 hl
    rfl
  · have hl : ns.length = 2 := (congrArg Prod.fst (Option.some.inj h)).symm
    obtain ⟨x0, x1, rfl⟩ := list2 hl
    rfl
  · have hl : ns.length = 1 := (congrArg Prod.fst (Option.some.inj h)).symm
    obtain ⟨x0, rfl⟩ := list1 hl
    rfl
  · have hl : ns.length = 0 := (congrArg Prod.fst (Option.some.inj h)).symm
    obtain rfl := list0 hl
    rfl
  · have hl : ns.length = 8 := (congrArg Prod.fst (Option.some.inj h)).symm
    obtain ⟨x0, x1, x2, x3, x4, x5, x6, x7, rfl⟩ := list8 hl
    rfl
  · have hl : ns.length = 1 := (congrArg Prod.fst (Option.some.inj h)).symm
    obtain ⟨x0, rfl⟩ := list1 hl
    rfl
  · have hl : ns.length = 4 := (congrArg Prod.fst (Option.some.inj h)).symm
    obtain ⟨x0, x1, x2, x3, rfl⟩ := list4 hl
    rfl
  · have hl : ns.length = 6 := (congrArg Prod.fst (Option.some.inj h)).symm
    obtain ⟨x0, x1, x2, x3, x4, x5, rfl⟩ := list6 hl
    rfl
  · have hl : ns.length = 3 := (congrArg Prod.fst (Option.some.inj h)).symm
    obtain ⟨x0, x1, x2, rfl⟩ := list3 hl
    rfl
  · have hl : ns.length = 1 := (congrArg Prod.fst (Option.some.inj h)).symm
    obtain ⟨x0, rfl⟩ := list1 hl
    rfl
  · have hl : ns.length = 2 := (congrArg Prod.fst (Option.some.inj h)).symm
    obtain ⟨x0, x1, rfl⟩ := list2 hl
    rfl
  · have hl : ns.length = 3 := (congrArg Prod.fst (Option.some.inj h)).symm
    obtain ⟨x0, x1, x2, rfl⟩ := list3 hl
    rfl
  · have hl : ns.length = 0 := (congrArg Prod.fst (Option.some.inj h)).symm
    obtain rfl := list0 hl
    rfl
def COut (K : PySem.W.Frag) (H : Hp) (Q : VK) (E : XK) (kp : Addr) (s : Vbkdai.State) (r : Vbkdai.State × List Int) : Prop := (∀ n, r = (s, [n]) → Rf K H E n) ∧ ∀ s' l, r = (s', 0 :: l) → ∀ v H', SameBut kp H H' → StAt K H' kp s' → InAt H' v l → Q v H'
def sp_counted (K : PySem.W.Frag) : Sp := mkSp 3 fun vs H Q E => ∃ (kp : Addr) (p : Vbkdai.Plan) (cs : List (Option Nat)) (c : Int) (v : V) (ns : List Int), vs = [.ref kp, .int c, v] ∧ KpAt K H kp p cs ∧ InAt H v ns ∧ c ≤ 10 ∧ c ≠ 0 ∧ PyVbkdai.shape c = some (ns.length, 0) ∧ COut K H Q E kp ⟨some p, cs⟩ (Vbkdai.step ⟨some p, cs⟩ [c :: ns])
def sp_judged (K : PySem.W.Frag) : Sp := mkSp 4 fun vs H Q E => ∃ (kp : Addr) (p : Vbkdai.Plan) (cs : List (Option Nat)) (c : Int) (v : V) (ns : List Int) (w : V) (row : List Int), vs = [.ref kp, .int c, v, w] ∧ KpAt K H kp p cs ∧ InAt H v ns ∧ InAt H w row ∧ row.length ≤ 1000 ∧ 10 < c ∧ PyVbkdai.shape c = some (ns.length, (rowsOf c row).length) ∧ COut K H Q E kp ⟨some p, cs⟩ (Vbkdai.step ⟨some p, cs⟩ ((c :: ns) :: rowsOf c row))
def sp_called (K : PySem.W.Frag) : Sp := mkSp 4 fun vs H Q E => ∃ (kp : Addr) (s : Vbkdai.State) (c : Int) (v : V) (ns : List Int) (w : V) (row : List Int), vs = [.ref kp, .int c, v, w] ∧ StAt K H kp s ∧ InAt H v ns ∧ InAt H w row ∧ row.length ≤ 1000 ∧ PyVbkdai.shape c = some (ns.length, (rowsOf c row).length) ∧ COut K H Q E kp s (Vbkdai.step s ((c :: ns) :: rowsOf c row))
/-- answered, all as it stood -/
theorem COut.r {K : PySem.W.Frag} {H : Hp} {Q : VK} {E : XK} {kp : Addr} {p : Vbkdai.Plan} {cs : List (Option Nat)} {r : Vbkdai.State × List Int} {m : Res} (h : COut K H Q E kp ⟨some p, cs⟩ r) (hK : KpAt K H kp p cs) (e : r = outR ⟨some p, cs⟩ m) : ROut K H Q E m fun l v H' => InAt H' v l :=
  ⟨fun n hn => h.1 n (by rw [e, hn]; rfl), fun l hl v H' s hv => h.2 _ l (by rw [e, hl]; rfl) v H' s.but (.inr ⟨p, cs, rfl, hK.same s⟩) hv⟩
theorem COut.s {K : PySem.W.Frag} {H : Hp} {Q : VK} {E : XK} {kp : Addr} {p : Vbkdai.Plan} {cs : List (Option Nat)} {r : Vbkdai.State × List Int} {m : ResS} (h : COut K H Q E kp ⟨some p, cs⟩ r) (e : r = outS ⟨some p, cs⟩ m) : MOut K H Q E kp m :=
  ⟨fun n hn => h.1 n (by rw [e, hn]; rfl), fun x hx v H' s hK hv => h.2 _ [] (by rw [e, hx]; rfl) v H' s (.inr ⟨x.1, x.2, rfl, hK⟩) hv⟩
theorem COut.pre {K : PySem.W.Frag} {H H1 : Hp} {Q : VK} {E : XK} {kp : Addr} {s : Vbkdai.State} {r : Vbkdai.State × List Int} (h : COut K H Q E kp s r) (e : Same H H1) : COut K H1 Q E kp s r :=
  ⟨fun n hn => (h.1 n hn).pre e, fun s' l hl v H' b st hv => h.2 s' l hl v H' (e.but.trans b) st hv⟩
section
variable {P : Program} {w : World} {K : PySem.W.Frag} {mg : Str → Option Value} {base : Heap}
theorem sc_counted : FnScope N_counted ["keeping", "call", "n"] (defScope s_counted) := ⟨rfl, rfl, rfl, by decide +kernel, rfl, by decide +kernel, by decide +kernel⟩
theorem ok_counted (T : TX K mg) : FOk P w K mg base (L2.CX P w) 10 (He.ga K "counted") ["keeping", "call", "n"] (sp_counted K) := by
  obtain ⟨fd, F⟩ := T.f_counted
  obtain ⟨fd0, G0, b0⟩ := ok_Keeping_told_text (P := P) (w := w) (base := base) T
  obtain ⟨fd1, G1, b1⟩ := ok_Keeping_set_count (P := P) (w := w) (base := base) T
  obtain ⟨fd2, G2, b2⟩ := ok_Keeping_forget (P := P) (w := w) (base := base) T
  obtain ⟨fd3, G3, b3⟩ := ok_Keeping_chance (P := P) (w := w) (base := base) T
  obtain ⟨fd4, G4, b4⟩ := ok_Keeping_how_often (P := P) (w := w) (base := base) T
  obtain ⟨fd5, G5, b5⟩ := ok_Keeping_part (P := P) (w := w) (base := base) T
  obtain ⟨fd6, G6, b6⟩ := ok_Keeping_belt (P := P) (w := w) (base := base) T
  obtain ⟨fd7, G7, b7⟩ := ok_Keeping_would (P := P) (w := w) (base := base) T
  obtain ⟨fd8, G8, b8⟩ := ok_Keeping_leaves (P := P) (w := w) (base := base) T
  obtain ⟨fd9, G9, b9⟩ := ok_Keeping_jointly (P := P) (w := w) (base := base) T
  refine ⟨fd, F.okX sc_counted (fun _ _ _ _ h => h.1) (fun cdv A outer s H vs Q E hr h => ?_), F.binds fun _ _ _ _ _ _ us hl => match us, hl with | [_, _, _], _ => rfl⟩
  have hr0 := hr.mono (by decide : 5 ≤ 9)
  have hr1 := hr.mono (by decide : 6 ≤ 9)
  have hr2 := hr.mono (by decide : 6 ≤ 9)
  have hr3 := hr.mono (by decide : 6 ≤ 9)
  have hr4 := hr.mono (by decide : 7 ≤ 9)
  have hr5 := hr.mono (by decide : 9 ≤ 9)
  have hr6 := hr.mono (by decide : 9 ≤ 9)
  have hr7 := hr.mono (by decide : 9 ≤ 9)
  have hr8 := hr.mono (by decide : 9 ≤ 9)
  have hr9 := hr.mono (by decide : 9 ≤ 9)
  refine ⟨_, (pss_cons (ps_if (pt_cmpR op_eq (pv 1) pe_int (by rfl)) (pss_one (ps_ret (pe_meth0 (pv 0) T.cl_Keeping T.m_Keeping_told_text G0 hr0 b0 .nil pass0))) pss_nil)
    (pss_cons (ps_if (pt_cmpR op_eq (pv 1) pe_int (by rfl)) (pss_one (ps_ret (pe_meth (pv 0) T.cl_Keeping T.m_Keeping_set_count G1 hr1 b1 .nil (passes_call (takes_of rfl rfl rfl rfl) (fun _ _ _ _ h => h)) (pa_cons (pe_ix ix_list (pv 2) pe_int (fun _ _ => rfl)) (pa_cons (pe_ix ix_list (pv 2) pe_int (fun _ _ => rfl)) pa_nil))))) pss_nil)
    (pss_cons (ps_if (pt_cmpR op_eq (pv 1) pe_int (by rfl)) (pss_one (ps_ret (pe_meth (pv 0) T.cl_Keeping T.m_Keeping_forget G2 hr2 b2 .nil (passes_call (takes_of rfl rfl rfl rfl) (fun _ _ _ _ h => h)) (pa_cons (pe_ix ix_list (pv 2) pe_int (fun _ _ => rfl)) pa_nil)))) pss_nil)
    (pss_cons (ps_if (pt_cmpR op_eq (pv 1) pe_int (by rfl)) (pss_one (ps_ret (pe_meth (pv 0) T.cl_Keeping T.m_Keeping_chance G3 hr3 b3 .nil (passes_call (takes_of rfl rfl rfl rfl) (fun _ _ _ _ h => h)) (pa_cons (pe_ix ix_list (pv 2) pe_int (fun _ _ => rfl)) (pa_cons (pe_ix ix_list (pv 2) pe_int (fun _ _ => rfl)) (pa_cons (pe_ix ix_list (pv 2) pe_int (fun _ _ => rfl)) pa_nil)))))) pss_nil)
    (pss_cons (ps_if (pt_cmpR op_eq (pv 1) pe_int (by rfl)) (pss_one (ps_ret (pe_meth (pv 0) T.cl_Keeping T.m_Keeping_how_often G4 hr4 b4 .nil (passes_call (takes_of rfl rfl rfl rfl) (fun _ _ _ _ h => h)) (pa_cons (pe_ix ix_list (pv 2) pe_int (fun _ _ => rfl)) (pa_cons (pe_ix ix_list (pv 2) pe_int (fun _ _ => rfl)) (pa_cons (pe_ix ix_list (pv 2) pe_int (fun _ _ => rfl)) (pa_cons (pe_ix ix_list (pv 2) pe_int (fun _ _ => rfl)) (pa_cons (pe_ix ix_list (pv 2) pe_int (fun _ _ => rfl)) pa_nil)))))))) pss_nil)
    (pss_cons (ps_if (pt_cmpR op_eq (pv 1) pe_int (by rfl)) (pss_one (ps_ret (pe_meth (pv 0) T.cl_Keeping T.m_Keeping_part G5 hr5 b5 .nil (passes_call (takes_of rfl rfl rfl rfl) (fun _ _ _ _ h => h)) (pa_cons (pe_ix ix_list (pv 2) pe_int (fun _ _ => rfl)) (pa_cons (pe_ix ix_list (pv 2) pe_int (fun _ _ => rfl)) pa_nil))))) pss_nil)
    (pss_cons (ps_if (pt_cmpR op_eq (pv 1) pe_int (by rfl)) (pss_one (ps_ret (pe_meth (pv 0) T.cl_Keeping T.m_Keeping_belt G6 hr6 b6 .nil (passes_call (takes_of rfl rfl rfl rfl) (fun _ _ _ _ h => h)) (pa_cons (pe_ix ix_list (pv 2) pe_int (fun _ _ => rfl)) pa_nil)))) pss_nil)
    (pss_cons (ps_if (pt_cmpR op_eq (pv 1) pe_int (by rfl)) (pss_one (ps_ret (pe_meth (pv 0) T.cl_Keeping T.m_Keeping_would G7 hr7 b7 .nil (passes_call (takes_of rfl rfl rfl rfl) (fun _ _ _ _ h => h)) (pa_cons (pe_ix ix_list (pv 2) pe_int (fun _ _ => rfl)) (pa_cons (pe_ix ix_list (pv 2) pe_int (fun _ _ => rfl)) pa_nil))))) pss_nil)
    (pss_cons (ps_if (pt_cmpR op_eq (pv 1) pe_int (by rfl)) (pss_one (ps_ret (pe_meth (pv 0) T.cl_Keeping T.m_Keeping_leaves G8 hr8 b8 .nil (passes_call (takes_of rfl rfl rfl rfl) (fun _ _ _ _ h => h)) (pa_cons (pe_ix ix_list (pv 2) pe_int (fun _ _ => rfl)) pa_nil)))) pss_nil)
    (pss_one (ps_ret (pe_meth0 (pv 0) T.cl_Keeping T.m_Keeping_jointly G9 hr9 b9 .nil pass0)))))))))))), ?_⟩
  obtain ⟨_, h⟩ := h
  obtain ⟨kp, p, cs, c, v, ns, rfl, hK, ⟨na, rfl, hna⟩, c10, c0, hsh, q⟩ := h
  obtain ⟨dx, pv, cl, hk⟩ := hK.obj
  have hc : c = 1 ∨ c = 2 ∨ c = 3 ∨ c = 4 ∨ c = 5 ∨ c = 6 ∨ c = 7 ∨ c = 8 ∨ c = 9 ∨ c = 10 := by
    have : 0 ≤ c := by
      refine Decidable.byContradiction fun z => ?_
      have e : PyVbkdai.shape c = none := shape_none (.inl (by omega))
      rw [e] at hsh
      cases hsh
    omega
  rcases hc with rfl | rfl | rfl | rfl | rfl | rfl | rfl | rfl | rfl | rfl
  · -- 1
    obtain rfl : ns = [] := by
      have hl : ns.length = 0 := by
        have := Option.some.inj hsh
        exact (congrArg Prod.fst this).symm
      exact list0 hl
    refine ⟨_, rfl, rfl, _, rfl, ?_⟩
    refine ite2 (fun _ => ?_) (fun z => absurd (decide_eq_true rfl) z)
    exact ⟨_, rfl, kp, dx, _, rfl, hk, L_Keeping_told_text, rfl, kp, p, cs, rfl, hK, fun u H1 e1 hu => q.2 _ _ (step1 p cs) _ _ e1.but (.inr ⟨p, cs, rfl, hK.same e1⟩) hu⟩
  · -- 2
    obtain ⟨x0, x1, rfl⟩ : ∃ (x0 x1 : Int), ns = [x0, x1] := by
      have hl : ns.length = 2 := by
        have := Option.some.inj hsh
        exact (congrArg Prod.fst this).symm
      exact list2 hl
    refine ⟨_, rfl, rfl, _, rfl, ?_⟩
    refine ite2 (fun z => absurd (V.int.inj (of_decide_eq_true z)) (by decide)) (fun _ => ?_)
    refine ⟨_, rfl, rfl, _, rfl, ?_⟩
    refine ite2 (fun _ => ?_) (fun z => absurd (decide_eq_true rfl) z)
    exact ⟨_, rfl, kp, dx, _, rfl, hk, L_Keeping_set_count, _, rfl, na, _, _, _, rfl, rfl, SqL.of hna, atI_nat (j := 0) rfl, _, rfl, na, _, _, _, rfl, rfl, SqL.of hna, atI_nat (j := 1) rfl, rfl, kp, p, cs, x0, x1, rfl, hK, q.s (step2 p cs x0 x1)⟩
  · -- 3
    obtain ⟨x0, rfl⟩ : ∃ (x0 : Int), ns = [x0] := by
      have hl : ns.length = 1 := by
        have := Option.some.inj hsh
        exact (congrArg Prod.fst this).symm
      exact list1 hl
    refine ⟨_, rfl, rfl, _, rfl, ?_⟩
    refine ite2 (fun z => absurd (V.int.inj (of_decide_eq_true z)) (by decide)) (fun _ => ?_)
    refine ⟨_, rfl, rfl, _, rfl, ?_⟩
    refine ite2 (fun z => absurd (V.int.inj (of_decide_eq_true z)) (by decide)) (fun _ => ?_)
    refine ⟨_, rfl, rfl, _, rfl, ?_⟩
    refine ite2 (fun _ => ?_) (fun z => absurd (decide_eq_true rfl) z)
    exact ⟨_, rfl, kp, dx, _, rfl, hk, L_Keeping_forget, _, rfl, na, _, _, _, rfl, rfl, SqL.of hna, atI_nat (j := 0) rfl, rfl, kp, p, cs, x0, rfl, hK, q.s (step3 p cs x0)⟩
  · -- 4
    obtain ⟨x0, x1, x2, rfl⟩ : ∃ (x0 x1 x2 : Int), ns = [x0, x1, x2] := by
      have hl : ns.length = 3 := by
        have := Option.some.inj hsh
        exact (congrArg Prod.fst this).symm
      exact list3 hl
    refine ⟨_, rfl, rfl, _, rfl, ?_⟩
    refine ite2 (fun z => absurd (V.int.inj (of_decide_eq_true z)) (by decide)) (fun _ => ?_)
    refine ⟨_, rfl, rfl, _, rfl, ?_⟩
    refine ite2 (fun z => absurd (V.int.inj (of_decide_eq_true z)) (by decide)) (fun _ => ?_)
    refine ⟨_, rfl, rfl, _, rfl, ?_⟩
    refine ite2 (fun z => absurd (V.int.inj (of_decide_eq_true z)) (by decide)) (fun _ => ?_)
    refine ⟨_, rfl, rfl, _, rfl, ?_⟩
    refine ite2 (fun _ => ?_) (fun z => absurd (decide_eq_true rfl) z)
    exact ⟨_, rfl, kp, dx, _, rfl, hk, L_Keeping_chance, _, rfl, na, _, _, _, rfl, rfl, SqL.of hna, atI_nat (j := 0) rfl, _, rfl, na, _, _, _, rfl, rfl, SqL.of hna, atI_nat (j := 1) rfl, _, rfl, na, _, _, _, rfl, rfl, SqL.of hna, atI_nat (j := 2) rfl, rfl, kp, p, cs, x0, x1, x2, rfl, hK, q.r hK (step4 p cs x0 x1 x2)⟩
  · -- 5
    obtain ⟨x0, x1, x2, x3, x4, rfl⟩ : ∃ (x0 x1 x2 x3 x4 : Int), ns = [x0, x1, x2, x3, x4] := by
      have hl : ns.length = 5 := by
        have := Option.some.inj hsh
        exact (congrArg Prod.fst this).symm
      exact list5 hl
    refine ⟨_, rfl, rfl, _, rfl, ?_⟩
    refine ite2 (fun z => absurd (V.int.inj (of_decide_eq_true z)) (by decide)) (fun _ => ?_)
    refine ⟨_, rfl, rfl, _, rfl, ?_⟩
    refine ite2 (fun z => absurd (V.int.inj (of_decide_eq_true z)) (by decide)) (fun _ => ?_)
    refine ⟨_, rfl, rfl, _, rfl, ?_⟩
    refine ite2 (fun z => absurd (V.int.inj (of_decide_eq_true z)) (by decide)) (fun _ => ?_)
    refine ⟨_, rfl, rfl, _, rfl, ?_⟩
    refine ite2 (fun z => absurd (V.int.inj (of_decide_eq_true z)) (by decide)) (fun _ => ?_)
    refine ⟨_, rfl, rfl, _, rfl, ?_⟩
    refine ite2 (fun _ => ?_) (fun z => absurd (decide_eq_true rfl) z)
    exact ⟨_, rfl, kp, dx, _, rfl, hk, L_Keeping_how_often, _, rfl, na, _, _, _, rfl, rfl, SqL.of hna, atI_nat (j := 0) rfl, _, rfl, na, _, _, _, rfl, rfl, SqL.of hna, atI_nat (j := 1) rfl, _, rfl, na, _, _, _, rfl, rfl, SqL.of hna, atI_nat (j := 2) rfl, _, rfl, na, _, _, _, rfl, rfl, SqL.of hna, atI_nat (j := 3) rfl, _, rfl, na, _, _, _, rfl, rfl, SqL.of hna, atI_nat (j := 4) rfl, rfl, kp, p, cs, x0, x1, x2, x3, x4, rfl, hK, q.r hK (step5 p cs x0 x1 x2 x3 x4)⟩
  · -- 6
    obtain ⟨x0, x1, rfl⟩ : ∃ (x0 x1 : Int), ns = [x0, x1] := by
      have hl : ns.length = 2 := by
        have := Option.some.inj hsh
        exact (congrArg Prod.fst this).symm
      exact list2 hl
    refine ⟨_, rfl, rfl, _, rfl, ?_⟩
    refine ite2 (fun z => absurd (V.int.inj (of_decide_eq_true z)) (by decide)) (fun _ => ?_)
    refine ⟨_, rfl, rfl, _, rfl, ?_⟩
    refine ite2 (fun z => absurd (V.int.inj (of_decide_eq_true z)) (by decide)) (fun _ => ?_)
    refine ⟨_, rfl, rfl, _, rfl, ?_⟩
    refine ite2 (fun z => absurd (V.int.inj (of_decide_eq_true z)) (by decide)) (fun _ => ?_)
    refine ⟨_, rfl, rfl, _, rfl, ?_⟩
    refine ite2 (fun z => absurd (V.int.inj (of_decide_eq_true z)) (by decide)) (fun _ => ?_)
    refine ⟨_, rfl, rfl, _, rfl, ?_⟩
    refine ite2 (fun z => absurd (V.int.inj (of_decide_eq_true z)) (by decide)) (fun _ => ?_)
    refine ⟨_, rfl, rfl, _, rfl, ?_⟩
    refine ite2 (fun _ => ?_) (fun z => absurd (decide_eq_true rfl) z)
    exact ⟨_, rfl, kp, dx, _, rfl, hk, L_Keeping_part, _, rfl, na, _, _, _, rfl, rfl, SqL.of hna, atI_nat (j := 0) rfl, _, rfl, na, _, _, _, rfl, rfl, SqL.of hna, atI_nat (j := 1) rfl, rfl, kp, p, cs, x0, x1, rfl, hK, q.r hK (step6 p cs x0 x1)⟩
  · -- 7
    obtain ⟨x0, rfl⟩ : ∃ (x0 : Int), ns = [x0] := by
      have hl : ns.length = 1 := by
        have := Option.some.inj hsh
        exact (congrArg Prod.fst this).symm
      exact list1 hl
    refine ⟨_, rfl, rfl, _, rfl, ?_⟩
    refine ite2 (fun z => absurd (V.int.inj (of_decide_eq_true z)) (by decide)) (fun _ => ?_)
    refine ⟨_, rfl, rfl, _, rfl, ?_⟩
    refine ite2 (fun z => absurd (V.int.inj (of_decide_eq_true z)) (by decide)) (fun _ => ?_)
    refine ⟨_, rfl, rfl, _, rfl, ?_⟩
    refine ite2 (fun z => absurd (V.int.inj (of_decide_eq_true z)) (by decide)) (fun _ => ?_)
    refine ⟨_, rfl, rfl, _, rfl, ?_⟩
    refine ite2 (fun z => absurd (V.int.inj (of_decide_eq_true z)) (by decide)) (fun _ => ?_)
    refine ⟨_, rfl, rfl, _, rfl, ?_⟩
    refine ite2 (fun z => absurd (V.int.inj (of_decide_eq_true z)) (by decide)) (fun _ => ?_)
    refine ⟨_, rfl, rfl, _, rfl, ?_⟩
    refine ite2 (fun z => absurd (V.int.inj (of_decide_eq_true z)) (by decide)) (fun _ => ?_)
    refine ⟨_, rfl, rfl, _, rfl, ?_⟩
    refine ite2 (fun _ => ?_) (fun z => absurd (decide_eq_true rfl) z)
    exact ⟨_, rfl, kp, dx, _, rfl, hk, L_Keeping_belt, _, rfl, na, _, _, _, rfl, rfl, SqL.of hna, atI_nat (j := 0) rfl, rfl, kp, p, cs, x0, rfl, hK, q.r hK (step7 p cs x0)⟩
  · -- 8
    obtain ⟨x0, x1, rfl⟩ : ∃ (x0 x1 : Int), ns = [x0, x1] := by
      have hl : ns.length = 2 := by
        have := Option.some.inj hsh
        exact (congrArg Prod.fst this).symm
      exact list2 hl
    refine ⟨_, rfl, rfl, _, rfl, ?_⟩
    refine ite2 (fun z => absurd (V.int.inj (of_decide_eq_true z)) (by decide)) (fun _ => ?_)
    refine ⟨_, rfl, rfl, _, rfl, ?_⟩
    refine ite2 (fun z => absurd (V.int.inj (of_decide_eq_true z)) (by decide)) (fun _ => ?_)
    refine ⟨_, rfl, rfl, _, rfl, ?_⟩
    refine ite2 (fun z => absurd (V.int.inj (of_decide_eq_true z)) (by decide)) (fun _ => ?_)
    refine ⟨_, rfl, rfl, _, rfl, ?_⟩
    refine ite2 (fun z => absurd (V.int.inj (of_decide_eq_true z)) (by decide)) (fun _ => ?_)
    refine ⟨_, rfl, rfl, _, rfl, ?_⟩
    refine ite2 (fun z => absurd (V.int.inj (of_decide_eq_true z)) (by decide)) (fun _ => ?_)
    refine ⟨_, rfl, rfl, _, rfl, ?_⟩
    refine ite2 (fun z => absurd (V.int.inj (of_decide_eq_true z)) (by decide)) (fun _ => ?_)
    refine ⟨_, rfl, rfl, _, rfl, ?_⟩
    refine ite2 (fun z => absurd (V.int.inj (of_decide_eq_true z)) (by decide)) (fun _ => ?_)
    refine ⟨_, rfl, rfl, _, rfl, ?_⟩
    refine ite2 (fun _ => ?_) (fun z => absurd (decide_eq_true rfl) z)
    exact ⟨_, rfl, kp, dx, _, rfl, hk, L_Keeping_would, _, rfl, na, _, _, _, rfl, rfl, SqL.of hna, atI_nat (j := 0) rfl, _, rfl, na, _, _, _, rfl, rfl, SqL.of hna, atI_nat (j := 1) rfl, rfl, kp, p, cs, x0, x1, rfl, hK, q.r hK (step8 p cs x0 x1)⟩
  · -- 9
    obtain ⟨x0, rfl⟩ : ∃ (x0 : Int), ns = [x0] := by
      have hl : ns.length = 1 := by
        have := Option.some.inj hsh
        exact (congrArg Prod.fst this).symm
      exact list1 hl
    refine ⟨_, rfl, rfl, _, rfl, ?_⟩
    refine ite2 (fun z => absurd (V.int.inj (of_decide_eq_true z)) (by decide)) (fun _ => ?_)
    refine ⟨_, rfl, rfl, _, rfl, ?_⟩
    refine ite2 (fun z => absurd (V.int.inj (of_decide_eq_true z)) (by decide)) (fun _ => ?_)
    refine ⟨_, rfl, rfl, _, rfl, ?_⟩
    refine ite2 (fun z => absurd (V.int.inj (of_decide_eq_true z)) (by decide)) (fun _ => ?_)
    refine ⟨_, rfl, rfl, _, rfl, ?_⟩
    refine ite2 (fun z => absurd (V.int.inj (of_decide_eq_true z)) (by decide)) (fun _ => ?_)
    refine ⟨_, rfl, rfl, _, rfl, ?_⟩
    refine ite2 (fun z => absurd (V.int.inj (of_decide_eq_true z)) (by decide)) (fun _ => ?_)
    refine ⟨_, rfl, rfl, _, rfl, ?_⟩
    refine ite2 (fun z => absurd (V.int.inj (of_decide_eq_true z)) (by decide)) (fun _ => ?_)
    refine ⟨_, rfl, rfl, _, rfl, ?_⟩
    refine ite2 (fun z => absurd (V.int.inj (of_decide_eq_true z)) (by decide)) (fun _ => ?_)
    refine ⟨_, rfl, rfl, _, rfl, ?_⟩
    refine ite2 (fun z => absurd (V.int.inj (of_decide_eq_true z)) (by decide)) (fun _ => ?_)
    refine ⟨_, rfl, rfl, _, rfl, ?_⟩
    refine ite2 (fun _ => ?_) (fun z => absurd (decide_eq_true rfl) z)
    exact ⟨_, rfl, kp, dx, _, rfl, hk, L_Keeping_leaves, _, rfl, na, _, _, _, rfl, rfl, SqL.of hna, atI_nat (j := 0) rfl, rfl, kp, p, cs, x0, rfl, hK, q.r hK (step9 p cs x0)⟩
  · -- 10
    obtain rfl : ns = [] := by
      have hl : ns.length = 0 := by
        have := Option.some.inj hsh
        exact (congrArg Prod.fst this).symm
      exact list0 hl
    refine ⟨_, rfl, rfl, _, rfl, ?_⟩
    refine ite2 (fun z => absurd (V.int.inj (of_decide_eq_true z)) (by decide)) (fun _ => ?_)
    refine ⟨_, rfl, rfl, _, rfl, ?_⟩
    refine ite2 (fun z => absurd (V.int.inj (of_decide_eq_true z)) (by decide)) (fun _ => ?_)
    refine ⟨_, rfl, rfl, _, rfl, ?_⟩
    refine ite2 (fun z => absurd (V.int.inj (of_decide_eq_true z)) (by decide)) (fun _ => ?_)
    refine ⟨_, rfl, rfl, _, rfl, ?_⟩
    refine ite2 (fun z => absurd (V.int.inj (of_decide_eq_true z)) (by decide)) (fun _ => ?_)
    refine ⟨_, rfl, rfl, _, rfl, ?_⟩
    refine ite2 (fun z => absurd (V.int.inj (of_decide_eq_true z)) (by decide)) (fun _ => ?_)
    refine ⟨_, rfl, rfl, _, rfl, ?_⟩
    refine ite2 (fun z => absurd (V.int.inj (of_decide_eq_true z)) (by decide)) (fun _ => ?_)
    refine ⟨_, rfl, rfl, _, rfl, ?_⟩
    refine ite2 (fun z => absurd (V.int.inj (of_decide_eq_true z)) (by decide)) (fun _ => ?_)
    refine ⟨_, rfl, rfl, _, rfl, ?_⟩
    refine ite2 (fun z => absurd (V.int.inj (of_decide_eq_true z)) (by decide)) (fun _ => ?_)
    refine ⟨_, rfl, rfl, _, rfl, ?_⟩
    refine ite2 (fun z => absurd (V.int.inj (of_decide_eq_true z)) (by decide)) (fun _ => ?_)
    exact ⟨_, rfl, kp, dx, _, rfl, hk, L_Keeping_jointly, rfl, kp, p, cs, rfl, hK, fun u H1 e1 hu => q.2 _ _ (step10 p cs) _ _ e1.but (.inr ⟨p, cs, rfl, hK.same e1⟩) hu⟩
theorem sc_judged : FnScope N_judged ["keeping", "call", "n", "row"] (defScope s_judged) := ⟨rfl, rfl, rfl, by decide +kernel, rfl, by decide +kernel, by decide +kernel⟩
theorem ok_judged (T : TX K mg) : FOk P w K mg base (L2.CX P w) 11 (He.ga K "judged") ["keeping", "call", "n", "row"] (sp_judged K) := by
  obtain ⟨fd, F⟩ := T.f_judged
  obtain ⟨fd0, G0, b0⟩ := ok_Keeping_covers (P := P) (w := w) (base := base) T
  obtain ⟨fd1, G1, b1⟩ := ok_Keeping_judge (P := P) (w := w) (base := base) T
  obtain ⟨fd2, G2, b2⟩ := ok_Keeping_apart (P := P) (w := w) (base := base) T
  obtain ⟨fd3, G3, b3⟩ := ok_Keeping_fewest (P := P) (w := w) (base := base) T
  obtain ⟨fd4, G4, b4⟩ := ok_Keeping_few (P := P) (w := w) (base := base) T
  obtain ⟨fd5, G5, b5⟩ := ok_Keeping_table (P := P) (w := w) (base := base) T
  obtain ⟨fd6, G6, b6⟩ := ok_Keeping_set_order (P := P) (w := w) (base := base) T
  obtain ⟨fd7, G7, b7⟩ := ok_Keeping_set_sure (P := P) (w := w) (base := base) T
  obtain ⟨fd8, G8, b8⟩ := ok_Keeping_told_counts (P := P) (w := w) (base := base) T
  refine ⟨fd, F.okX sc_judged (fun _ _ _ _ h => h.1) (fun cdv A outer s H vs Q E hr h => ?_), F.binds fun _ _ _ _ _ _ us hl => match us, hl with | [_, _, _, _], _ => rfl⟩
  have hr0 := hr.mono (by decide : 9 ≤ 10)
  have hr1 := hr.mono (by decide : 7 ≤ 10)
  have hr2 := hr.mono (by decide : 10 ≤ 10)
  have hr3 := hr.mono (by decide : 10 ≤ 10)
  have hr4 := hr.mono (by decide : 7 ≤ 10)
  have hr5 := hr.mono (by decide : 9 ≤ 10)
  have hr6 := hr.mono (by decide : 6 ≤ 10)
  have hr7 := hr.mono (by decide : 6 ≤ 10)
  have hr8 := hr.mono (by decide : 1 ≤ 10)
  refine ⟨_, (pss_cons (ps_if (pt_cmpR op_eq (pv 1) pe_int (by rfl)) (pss_one (ps_ret (pe_meth (pv 0) T.cl_Keeping T.m_Keeping_covers G0 hr0 b0 .nil (passes_call (takes_of rfl rfl rfl rfl) (fun _ _ _ _ h => h)) (pa_cons (pe_ix ix_list (pv 2) pe_int (fun _ _ => rfl)) (pa_cons (pe_ix ix_list (pv 2) pe_int (fun _ _ => rfl)) (pa_cons (pe_slice sl_list (pv 2) (po_some pe_int) po_none) pa_nil)))))) pss_nil)
    (pss_cons (ps_if (pt_cmpR op_eq (pv 1) pe_int (by rfl)) (pss_one (ps_ret (pe_meth (pv 0) T.cl_Keeping T.m_Keeping_judge G1 hr1 b1 .nil (passes_call (takes_of rfl rfl rfl rfl) (fun _ _ _ _ h => h)) (pa_cons (pe_ix ix_list (pv 2) pe_int (fun _ _ => rfl)) (pa_cons (pv 3) pa_nil))))) pss_nil)
    (pss_cons (ps_if (pt_cmpR op_eq (pv 1) pe_int (by rfl)) (pss_one (ps_ret (pe_meth (pv 0) T.cl_Keeping T.m_Keeping_apart G2 hr2 b2 .nil (passes_call (takes_of rfl rfl rfl rfl) (fun _ _ _ _ h => h)) (pa_cons (pe_ix ix_list (pv 2) pe_int (fun _ _ => rfl)) (pa_cons (pe_ix ix_list (pv 2) pe_int (fun _ _ => rfl)) (pa_cons (pe_ix ix_list (pv 2) pe_int (fun _ _ => rfl)) (pa_cons (pe_ix ix_list (pv 2) pe_int (fun _ _ => rfl)) pa_nil))))))) pss_nil)
    (pss_cons (ps_if (pt_cmpR op_eq (pv 1) pe_int (by rfl)) (pss_one (ps_ret (pe_meth (pv 0) T.cl_Keeping T.m_Keeping_fewest G3 hr3 b3 .nil (passes_call (takes_of rfl rfl rfl rfl) (fun _ _ _ _ h => h)) (pa_cons (pe_ix ix_list (pv 2) pe_int (fun _ _ => rfl)) (pa_cons (pe_ix ix_list (pv 2) pe_int (fun _ _ => rfl)) (pa_cons (pe_ix ix_list (pv 2) pe_int (fun _ _ => rfl)) (pa_cons (pe_ix ix_list (pv 2) pe_int (fun _ _ => rfl)) (pa_cons (pe_ix ix_list (pv 2) pe_int (fun _ _ => rfl)) (pa_cons (pe_ix ix_list (pv 2) pe_int (fun _ _ => rfl)) pa_nil))))))))) pss_nil)
    (pss_cons (ps_if (pt_cmpR op_eq (pv 1) pe_int (by rfl)) (pss_one (ps_ret (pe_meth (pv 0) T.cl_Keeping T.m_Keeping_few G4 hr4 b4 .nil (passes_call (takes_of rfl rfl rfl rfl) (fun _ _ _ _ h => h)) (pa_cons (pe_ix ix_list (pv 2) pe_int (fun _ _ => rfl)) (pa_cons (pe_ix ix_list (pv 2) pe_int (fun _ _ => rfl)) (pa_cons (pe_ix ix_list (pv 2) pe_int (fun _ _ => rfl)) pa_nil)))))) pss_nil)
    (pss_cons (ps_if (pt_cmpR op_eq (pv 1) pe_int (by rfl)) (pss_one (ps_ret (pe_meth (pv 0) T.cl_Keeping T.m_Keeping_table G5 hr5 b5 .nil (passes_call (takes_of rfl rfl rfl rfl) (fun _ _ _ _ h => h)) (pa_cons (pe_ix ix_list (pv 2) pe_int (fun _ _ => rfl)) pa_nil)))) pss_nil)
    (pss_cons (ps_if (pt_cmpR op_eq (pv 1) pe_int (by rfl)) (pss_one (ps_ret (pe_meth (pv 0) T.cl_Keeping T.m_Keeping_set_order G6 hr6 b6 .nil (passes_call (takes_of rfl rfl rfl rfl) (fun _ _ _ _ h => h)) (pa_cons (pe_ix ix_list (pv 2) pe_int (fun _ _ => rfl)) (pa_cons (pe_ix ix_list (pv 2) pe_int (fun _ _ => rfl)) pa_nil))))) pss_nil)
    (pss_cons (ps_if (pt_cmpR op_eq (pv 1) pe_int (by rfl)) (pss_one (ps_ret (pe_meth (pv 0) T.cl_Keeping T.m_Keeping_set_sure G7 hr7 b7 .nil (passes_call (takes_of rfl rfl rfl rfl) (fun _ _ _ _ h => h)) (pa_cons (pe_ix ix_list (pv 2) pe_int (fun _ _ => rfl)) (pa_cons (pe_ix ix_list (pv 2) pe_int (fun _ _ => rfl)) (pa_cons (pe_ix ix_list (pv 2) pe_int (fun _ _ => rfl)) pa_nil)))))) pss_nil)
    (pss_one (ps_ret (pe_meth0 (pv 0) T.cl_Keeping T.m_Keeping_told_counts G8 hr8 b8 .nil pass0))))))))))), ?_⟩
  obtain ⟨_, h⟩ := h
  obtain ⟨kp, p, cs, c, v, ns, w, row, rfl, hK, ⟨na, rfl, hna⟩, hw, rl, c10, hsh, q⟩ := h
  obtain ⟨dx, pv, cl, hk⟩ := hK.obj
  have hc : c = 11 ∨ c = 12 ∨ c = 13 ∨ c = 14 ∨ c = 15 ∨ c = 16 ∨ c = 17 ∨ c = 18 ∨ c = 19 := by
    have : c ≤ 19 := by
      refine Decidable.byContradiction fun z => ?_
      have e : PyVbkdai.shape c = none := shape_none (.inr (by omega))
      rw [e] at hsh
      cases hsh
    omega
  rcases hc with rfl | rfl | rfl | rfl | rfl | rfl | rfl | rfl | rfl
  · -- 11
    obtain ⟨x0, x1, x2, x3, x4, x5, x6, x7, rfl⟩ : ∃ (x0 x1 x2 x3 x4 x5 x6 x7 : Int), ns = [x0, x1, x2, x3, x4, x5, x6, x7] := by
      have hl : ns.length = 8 := by
        have := Option.some.inj hsh
        exact (congrArg Prod.fst this).symm
      exact list8 hl
    refine ⟨_, rfl, rfl, _, rfl, ?_⟩
    refine ite2 (fun _ => ?_) (fun z => absurd (decide_eq_true rfl) z)
    refine ⟨_, rfl, kp, dx, _, rfl, hk, L_Keeping_covers, _, rfl, na, _, _, _, rfl, rfl, SqL.of hna, atI_nat (j := 0) rfl, _, rfl, na, _, _, _, rfl, rfl, SqL.of hna, atI_nat (j := 1) rfl, _, rfl, _, rfl, na, _, rfl, SqL.of hna, fun f nf => ?_⟩
    have kf : Same H (upd H f (.lst (cutV ([x0, x1, x2, x3, x4, x5, x6, x7].map V.int) (some 2) none))) := Same.new nf
    exact ⟨rfl, kp, p, cs, x0, x1, .ref f, x2, x3, x4, x5, x6, x7, rfl, hK.same kf, ⟨f, rfl, upd_same⟩, (q.pre kf).r (hK.same kf) (step11 p cs x0 x1 x2 x3 x4 x5 x6 x7)⟩
  · -- 12
    obtain ⟨x0, rfl⟩ : ∃ (x0 : Int), ns = [x0] := by
      have hl : ns.length = 1 := by
        have := Option.some.inj hsh
        exact (congrArg Prod.fst this).symm
      exact list1 hl
    refine ⟨_, rfl, rfl, _, rfl, ?_⟩
    refine ite2 (fun z => absurd (V.int.inj (of_decide_eq_true z)) (by decide)) (fun _ => ?_)
    refine ⟨_, rfl, rfl, _, rfl, ?_⟩
    refine ite2 (fun _ => ?_) (fun z => absurd (decide_eq_true rfl) z)
    exact ⟨_, rfl, kp, dx, _, rfl, hk, L_Keeping_judge, _, rfl, na, _, _, _, rfl, rfl, SqL.of hna, atI_nat (j := 0) rfl, _, rfl, rfl, kp, p, cs, x0, w, row, rfl, hK, hw, rl, q.r hK (step12 p cs x0 row)⟩
  · -- 13
    obtain ⟨x0, x1, x2, x3, rfl⟩ : ∃ (x0 x1 x2 x3 : Int), ns = [x0, x1, x2, x3] := by
      have hl : ns.length = 4 := by
        have := Option.some.inj hsh
        exact (congrArg Prod.fst this).symm
      exact list4 hl
    refine ⟨_, rfl, rfl, _, rfl, ?_⟩
    refine ite2 (fun z => absurd (V.int.inj (of_decide_eq_true z)) (by decide)) (fun _ => ?_)
    refine ⟨_, rfl, rfl, _, rfl, ?_⟩
    refine ite2 (fun z => absurd (V.int.inj (of_decide_eq_true z)) (by decide)) (fun _ => ?_)
    refine ⟨_, rfl, rfl, _, rfl, ?_⟩
    refine ite2 (fun _ => ?_) (fun z => absurd (decide_eq_true rfl) z)
    exact ⟨_, rfl, kp, dx, _, rfl, hk, L_Keeping_apart, _, rfl, na, _, _, _, rfl, rfl, SqL.of hna, atI_nat (j := 0) rfl, _, rfl, na, _, _, _, rfl, rfl, SqL.of hna, atI_nat (j := 1) rfl, _, rfl, na, _, _, _, rfl, rfl, SqL.of hna, atI_nat (j := 2) rfl, _, rfl, na, _, _, _, rfl, rfl, SqL.of hna, atI_nat (j := 3) rfl, rfl, kp, p, cs, x0, x1, x2, x3, rfl, hK, q.r hK (step13 p cs x0 x1 x2 x3)⟩
  · -- 14
    obtain ⟨x0, x1, x2, x3, x4, x5, rfl⟩ : ∃ (x0 x1 x2 x3 x4 x5 : Int), ns = [x0, x1, x2, x3, x4, x5] := by
      have hl : ns.length = 6 := by
        have := Option.some.inj hsh
        exact (congrArg Prod.fst this).symm
      exact list6 hl
    refine ⟨_, rfl, rfl, _, rfl, ?_⟩
    refine ite2 (fun z => absurd (V.int.inj (of_decide_eq_true z)) (by decide)) (fun _ => ?_)
    refine ⟨_, rfl, rfl, _, rfl, ?_⟩
    refine ite2 (fun z => absurd (V.int.inj (of_decide_eq_true z)) (by decide)) (fun _ => ?_)
    refine ⟨_, rfl, rfl, _, rfl, ?_⟩
    refine ite2 (fun z => absurd (V.int.inj (of_decide_eq_true z)) (by decide)) (fun _ => ?_)
    refine ⟨_, rfl, rfl, _, rfl, ?_⟩
    refine ite2 (fun _ => ?_) (fun z => absurd (decide_eq_true rfl) z)
    exact ⟨_, rfl, kp, dx, _, rfl, hk, L_Keeping_fewest, _, rfl, na, _, _, _, rfl, rfl, SqL.of hna, atI_nat (j := 0) rfl, _, rfl, na, _, _, _, rfl, rfl, SqL.of hna, atI_nat (j := 1) rfl, _, rfl, na, _, _, _, rfl, rfl, SqL.of hna, atI_nat (j := 2) rfl, _, rfl, na, _, _, _, rfl, rfl, SqL.of hna, atI_nat (j := 3) rfl, _, rfl, na, _, _, _, rfl, rfl, SqL.of hna, atI_nat (j := 4) rfl, _, rfl, na, _, _, _, rfl, rfl, SqL.of hna, atI_nat (j := 5) rfl, rfl, kp, p, cs, x0, x1, x2, x3, x4, x5, rfl, hK, q.r hK (step14 p cs x0 x1 x2 x3 x4 x5)⟩
  · -- 15
    obtain ⟨x0, x1, x2, rfl⟩ : ∃ (x0 x1 x2 : Int), ns = [x0, x1, x2] := by
      have hl : ns.length = 3 := by
        have := Option.some.inj hsh
        exact (congrArg Prod.fst this).symm
      exact list3 hl
    refine ⟨_, rfl, rfl, _, rfl, ?_⟩
    refine ite2 (fun z => absurd (V.int.inj (of_decide_eq_true z)) (by decide)) (fun _ => ?_)
    refine ⟨_, rfl, rfl, _, rfl, ?_⟩
    refine ite2 (fun z => absurd (V.int.inj (of_decide_eq_true z)) (by decide)) (fun _ => ?_)
    refine ⟨_, rfl, rfl, _, rfl, ?_⟩
    refine ite2 (fun z => absurd (V.int.inj (of_decide_eq_true z)) (by decide)) (fun _ => ?_)
    refine ⟨_, rfl, rfl, _, rfl, ?_⟩
    refine ite2 (fun z => absurd (V.int.inj (of_decide_eq_true z)) (by decide)) (fun _ => ?_)
    refine ⟨_, rfl, rfl, _, rfl, ?_⟩
    refine ite2 (fun _ => ?_) (fun z => absurd (decide_eq_true rfl) z)
    exact ⟨_, rfl, kp, dx, _, rfl, hk, L_Keeping_few, _, rfl, na, _, _, _, rfl, rfl, SqL.of hna, atI_nat (j := 0) rfl, _, rfl, na, _, _, _, rfl, rfl, SqL.of hna, atI_nat (j := 1) rfl, _, rfl, na, _, _, _, rfl, rfl, SqL.of hna, atI_nat (j := 2) rfl, rfl, kp, p, cs, x0, x1, x2, rfl, hK, q.r hK (step15 p cs x0 x1 x2)⟩
  · -- 16
    obtain ⟨x0, rfl⟩ : ∃ (x0 : Int), ns = [x0] := by
      have hl : ns.length = 1 := by
        have := Option.some.inj hsh
        exact (congrArg Prod.fst this).symm
      exact list1 hl
    refine ⟨_, rfl, rfl, _, rfl, ?_⟩
    refine ite2 (fun z => absurd (V.int.inj (of_decide_eq_true z)) (by decide)) (fun _ => ?_)
    refine ⟨_, rfl, rfl, _, rfl, ?_⟩
    refine ite2 (fun z => absurd (V.int.inj (of_decide_eq_true z)) (by decide)) (fun _ => ?_)
    refine ⟨_, rfl, rfl, _, rfl, ?_⟩
    refine ite2 (fun z => absurd (V.int.inj (of_decide_eq_true z)) (by decide)) (fun _ => ?_)
    refine ⟨_, rfl, rfl, _, rfl, ?_⟩
    refine ite2 (fun z => absurd (V.int.inj (of_decide_eq_true z)) (by decide)) (fun _ => ?_)
    refine ⟨_, rfl, rfl, _, rfl, ?_⟩
    refine ite2 (fun z => absurd (V.int.inj (of_decide_eq_true z)) (by decide)) (fun _ => ?_)
    refine ⟨_, rfl, rfl, _, rfl, ?_⟩
    refine ite2 (fun _ => ?_) (fun z => absurd (decide_eq_true rfl) z)
    exact ⟨_, rfl, kp, dx, _, rfl, hk, L_Keeping_table, _, rfl, na, _, _, _, rfl, rfl, SqL.of hna, atI_nat (j := 0) rfl, rfl, kp, p, cs, x0, rfl, hK, q.r hK (step16 p cs x0)⟩
  · -- 17
    obtain ⟨x0, x1, rfl⟩ : ∃ (x0 x1 : Int), ns = [x0, x1] := by
      have hl : ns.length = 2 := by
        have := Option.some.inj hsh
        exact (congrArg Prod.fst this).symm
      exact list2 hl
    refine ⟨_, rfl, rfl, _, rfl, ?_⟩
    refine ite2 (fun z => absurd (V.int.inj (of_decide_eq_true z)) (by decide)) (fun _ => ?_)
    refine ⟨_, rfl, rfl, _, rfl, ?_⟩
    refine ite2 (fun z => absurd (V.int.inj (of_decide_eq_true z)) (by decide)) (fun _ => ?_)
    refine ⟨_, rfl, rfl, _, rfl, ?_⟩
    refine ite2 (fun z => absurd (V.int.inj (of_decide_eq_true z)) (by decide)) (fun _ => ?_)
    refine ⟨_, rfl, rfl, _, rfl, ?_⟩
    refine ite2 (fun z => absurd (V.int.inj (of_decide_eq_true z)) (by decide)) (fun _ => ?_)
    refine ⟨_, rfl, rfl, _, rfl, ?_⟩
    refine ite2 (fun z => absurd (V.int.inj (of_decide_eq_true z)) (by decide)) (fun _ => ?_)
    refine ⟨_, rfl, rfl, _, rfl, ?_⟩
    refine ite2 (fun z => absurd (V.int.inj (of_decide_eq_true z)) (by decide)) (fun _ => ?_)
    refine ⟨_, rfl, rfl, _, rfl, ?_⟩
    refine ite2 (fun _ => ?_) (fun z => absurd (decide_eq_true rfl) z)
    exact ⟨_, rfl, kp, dx, _, rfl, hk, L_Keeping_set_order, _, rfl, na, _, _, _, rfl, rfl, SqL.of hna, atI_nat (j := 0) rfl, _, rfl, na, _, _, _, rfl, rfl, SqL.of hna, atI_nat (j := 1) rfl, rfl, kp, p, cs, x0, x1, rfl, hK, q.s (step17 p cs x0 x1)⟩
  · -- 18
    obtain ⟨x0, x1, x2, rfl⟩ : ∃ (x0 x1 x2 : Int), ns = [x0, x1, x2] := by
      have hl : ns.length = 3 := by
        have := Option.some.inj hsh
        exact (congrArg Prod.fst this).symm
      exact list3 hl
    refine ⟨_, rfl, rfl, _, rfl, ?_⟩
    refine ite2 (fun z => absurd (V.int.inj (of_decide_eq_true z)) (by decide)) (fun _ => ?_)
    refine ⟨_, rfl, rfl, _, rfl, ?_⟩
    refine ite2 (fun z => absurd (V.int.inj (of_decide_eq_true z)) (by decide)) (fun _ => ?_)
    refine ⟨_, rfl, rfl, _, rfl, ?_⟩
    refine ite2 (fun z => absurd (V.int.inj (of_decide_eq_true z)) (by decide)) (fun _ => ?_)
    refine ⟨_, rfl, rfl, _, rfl, ?_⟩
    refine ite2 (fun z => absurd (V.int.inj (of_decide_eq_true z)) (by decide)) (fun _ => ?_)
    refine ⟨_, rfl, rfl, _, rfl, ?_⟩
    refine ite2 (fun z => absurd (V.int.inj (of_decide_eq_true z)) (by decide)) (fun _ => ?_)
    refine ⟨_, rfl, rfl, _, rfl, ?_⟩
    refine ite2 (fun z => absurd (V.int.inj (of_decide_eq_true z)) (by decide)) (fun _ => ?_)
    refine ⟨_, rfl, rfl, _, rfl, ?_⟩
    refine ite2 (fun z => absurd (V.int.inj (of_decide_eq_true z)) (by decide)) (fun _ => ?_)
    refine ⟨_, rfl, rfl, _, rfl, ?_⟩
    refine ite2 (fun _ => ?_) (fun z => absurd (decide_eq_true rfl) z)
    exact ⟨_, rfl, kp, dx, _, rfl, hk, L_Keeping_set_sure, _, rfl, na, _, _, _, rfl, rfl, SqL.of hna, atI_nat (j := 0) rfl, _, rfl, na, _, _, _, rfl, rfl, SqL.of hna, atI_nat (j := 1) rfl, _, rfl, na, _, _, _, rfl, rfl, SqL.of hna, atI_nat (j := 2) rfl, rfl, kp, p, cs, x0, x1, x2, rfl, hK, q.s (step18 p cs x0 x1 x2)⟩
  · -- 19
    obtain rfl : ns = [] := by
      have hl : ns.length = 0 := by
        have := Option.some.inj hsh
        exact (congrArg Prod.fst this).symm
      exact list0 hl
    refine ⟨_, rfl, rfl, _, rfl, ?_⟩
    refine ite2 (fun z => absurd (V.int.inj (of_decide_eq_true z)) (by decide)) (fun _ => ?_)
    refine ⟨_, rfl, rfl, _, rfl, ?_⟩
    refine ite2 (fun z => absurd (V.int.inj (of_decide_eq_true z)) (by decide)) (fun _ => ?_)
    refine ⟨_, rfl, rfl, _, rfl, ?_⟩
    refine ite2 (fun z => absurd (V.int.inj (of_decide_eq_true z)) (by decide)) (fun _ => ?_)
    refine ⟨_, rfl, rfl, _, rfl, ?_⟩
    refine ite2 (fun z => absurd (V.int.inj (of_decide_eq_true z)) (by decide)) (fun _ => ?_)
    refine ⟨_, rfl, rfl, _, rfl, ?_⟩
    refine ite2 (fun z => absurd (V.int.inj (of_decide_eq_true z)) (by decide)) (fun _ => ?_)
    refine ⟨_, rfl, rfl, _, rfl, ?_⟩
    refine ite2 (fun z => absurd (V.int.inj (of_decide_eq_true z)) (by decide)) (fun _ => ?_)
    refine ⟨_, rfl, rfl, _, rfl, ?_⟩
    refine ite2 (fun z => absurd (V.int.inj (of_decide_eq_true z)) (by decide)) (fun _ => ?_)
    refine ⟨_, rfl, rfl, _, rfl, ?_⟩
    refine ite2 (fun z => absurd (V.int.inj (of_decide_eq_true z)) (by decide)) (fun _ => ?_)
    exact ⟨_, rfl, kp, dx, _, rfl, hk, L_Keeping_told_counts, rfl, kp, p, cs, rfl, hK, fun u H1 e1 hu => q.2 _ _ (step19 p cs) _ _ e1.but (.inr ⟨p, cs, rfl, hK.same e1⟩) hu⟩
theorem sc_called : FnScope N_called ["keeping", "call", "n", "row"] (defScope s_called) := ⟨rfl, rfl, rfl, by decide +kernel, rfl, by decide +kernel, by decide +kernel⟩
theorem ok_called (T : TX K mg) : FOk P w K mg base (L2.CX P w) 12 (He.ga K "called") ["keeping", "call", "n", "row"] (sp_called K) := by
  obtain ⟨fd, F⟩ := T.f_called
  obtain ⟨fd0, G0, b0⟩ := ok_Keeping_tell_plan (P := P) (w := w) (base := base) T
  obtain ⟨fd1, G1, b1⟩ := ok_want (P := P) (w := w) (base := base) T
  obtain ⟨fd2, G2, b2⟩ := ok_counted (P := P) (w := w) (base := base) T
  obtain ⟨fd3, G3, b3⟩ := ok_judged (P := P) (w := w) (base := base) T
  refine ⟨fd, F.okX sc_called (fun _ _ _ _ h => h.1) (fun cdv A outer s H vs Q E hr h => ?_), F.binds fun _ _ _ _ _ _ us hl => match us, hl with | [_, _, _, _], _ => rfl⟩
  have hr0 := hr.mono (by decide : 9 ≤ 11)
  have hr1 := hr.mono (by decide : 3 ≤ 11)
  have hr2 := hr.mono (by decide : 10 ≤ 11)
  have hr3 := hr.mono (by decide : 11 ≤ 11)
  refine ⟨_, (pss_cons (ps_if (pt_cmpR op_eq (pv 1) (C8.pe_gc (by rfl) T.c_PLAN) (by rfl)) (pss_one (ps_ret (pe_meth (pv 0) T.cl_Keeping T.m_Keeping_tell_plan G0 hr0 b0 .nil (passes_call (takes_of rfl rfl rfl rfl) (fun _ _ _ _ h => h)) (pa_cons (pv 3) pa_nil)))) pss_nil)
    (pss_cons (ps_expr (pe_call G1 hr1 (by rfl) T.g_want T.k_want b1 .nil (passes_call (takes_of rfl rfl rfl rfl) (fun _ _ _ _ h => h)) (pa_cons (pe_cmpR op_notN (pe_fld (pv 0) rfl) pe_non (by rfl)) (pa_cons (C8.pe_gc (by rfl) T.c_NO_PLAN) pa_nil))))
    (pss_cons (ps_if (pt_cmpR op_le (pv 1) pe_int (by rfl)) (pss_one (ps_ret (pe_call G2 hr2 (by rfl) T.g_counted T.k_counted b2 .nil (passes_call (takes_of rfl rfl rfl rfl) (fun _ _ _ _ h => h)) (pa_cons (pv 0) (pa_cons (pv 1) (pa_cons (pv 2) pa_nil)))))) pss_nil)
    (pss_one (ps_ret (pe_call G3 hr3 (by rfl) T.g_judged T.k_judged b3 .nil (passes_call (takes_of rfl rfl rfl rfl) (fun _ _ _ _ h => h)) (pa_cons (pv 0) (pa_cons (pv 1) (pa_cons (pv 2) (pa_cons (pv 3) pa_nil)))))))))), ?_⟩
  obtain ⟨_, h⟩ := h
  obtain ⟨kp, s, c, v, ns, w, row, rfl, hS, hv, hw, rl, hsh, q⟩ := h
  obtain ⟨dx, pv, cl, hk⟩ := hS.obj
  refine ⟨_, rfl, rfl, _, rfl, ?_⟩
  refine ite2 (fun z => ?_) (fun z => ?_)
  · have c0 : c = 0 := V.int.inj (of_decide_eq_true z)
    subst c0
    have n0 : ns = [] := by
      have := congrArg Prod.fst (Option.some.inj hsh)
      exact List.length_eq_zero_iff.mp this.symm
    subst n0
    have e0 := step0 s row
    have q2 : COut K H Q E kp s (Vbkdai.step s [[0], row]) := q
    rw [e0] at q2
    refine ⟨_, rfl, kp, dx, _, rfl, hk, L_Keeping_tell_plan, _, rfl, rfl, kp, s, w, row, rfl, hS, hw, rl, fun n hn => ?_, fun p hp v H' b hK hv => ?_⟩
    · exact q2.1 n (by rw [hn])
    · exact q2.2 _ _ (by rw [hp]) v H' b (.inr ⟨p, _, rfl, hK⟩) hv
  · have c0 : ¬ c = 0 := fun e => z (decide_eq_true (by rw [e]))
    rcases hS with ⟨rfl, dx1, cl1, h1, h2⟩ | ⟨p, cs, rfl, hK⟩
    · have eN : Vbkdai.step ⟨none, []⟩ ((c :: ns) :: rowsOf c row) = (⟨none, []⟩, [-4]) := step_none hsh c0
      rw [eN] at q
      refine ⟨_, rfl, kp, _, dx1, _, _, rfl, h1, T.cl_Keeping, T.na_Keeping_plan, L_Keeping_plan, rfl, rfl, _, -4, rfl, fun n hn => ?_, fun u hu => ?_⟩
      · cases hn
        exact q.1 _ rfl
      · cases hu
    · obtain ⟨dx1, pv1, cl1, h1, hp, _⟩ := id hK
      obtain ⟨pa, pdx, pl, pvs, rfl, _⟩ := id hp
      refine ⟨_, rfl, kp, _, dx1, _, _, rfl, h1, T.cl_Keeping, T.na_Keeping_plan, L_Keeping_plan, rfl, rfl, _, -4, rfl, (fun n hn => by cases hn), fun u hu _ H1 e1 _ => ?_⟩
      have q := q.pre e1
      refine ⟨_, rfl, _, _, rfl, rfl, _, rfl, ?_⟩
      refine ite2 (fun z => ?_) (fun z => ?_)
      · have z : c ≤ 10 := of_decide_eq_true z
        have er : rowsOf c row = [] := by
          unfold rowsOf
          rw [if_neg (by omega)]
        rw [er] at hsh q
        exact ⟨_, rfl, _, rfl, _, rfl, rfl, kp, p, cs, c, v, ns, rfl, hK.same e1, hv.same e1, z, c0, hsh, q⟩
      · have z : ¬ c ≤ 10 := fun e => z (decide_eq_true e)
        exact ⟨_, rfl, _, rfl, _, rfl, _, rfl, rfl, kp, p, cs, c, v, ns, w, row, rfl, hK.same e1, hv.same e1, hw.same e1, rl, by omega, hsh, q⟩
end
end Bc


-- end of a part
set_option Elab.async false
set_option linter.all false
set_option maxRecDepth 100000
set_option maxHeartbeats 4000000
set_option exponentiation.threshold 100000
/-! # a call answered -/
namespace Bc
open PySem PySem.Spec PyProof.Rows L2
def sp_answer (K : PySem.W.Frag) : Sp := mkSp 4 fun vs H Q _ => ∃ (kp : Addr) (s : Vbkdai.State) (c : Int) (v : V) (ns : List Int) (w : V) (row : List Int), vs = [.ref kp, .int c, v, w] ∧ StAt K H kp s ∧ InAt H v ns ∧ InAt H w row ∧ row.length ≤ 1000 ∧ PyVbkdai.shape c = some (ns.length, (rowsOf c row).length) ∧
  (Vbkdai.step s ((c :: ns) :: rowsOf c row)).2.length ≤ 2001 ∧ ∀ u H', SameBut kp H H' → StAt K H' kp (Vbkdai.step s ((c :: ns) :: rowsOf c row)).1 → InAt H' u (Vbkdai.step s ((c :: ns) :: rowsOf c row)).2 → Q u H'
section
variable {P : Program} {w : World} {K : PySem.W.Frag} {mg : Str → Option Value} {base : Heap}
theorem sc_answer : FnScope N_answer ["keeping", "call", "n", "row"] (defScope s_answer) := ⟨rfl, rfl, rfl, by decide +kernel, rfl, by decide +kernel, by decide +kernel⟩
theorem ok_answer (T : TX K mg) : FOk P w K mg base CX0 13 (He.ga K "answer") ["keeping", "call", "n", "row"] (sp_answer K) := by
  obtain ⟨fd, F⟩ := T.f_answer
  obtain ⟨fd0, G0, b0⟩ := ok_called (P := P) (w := w) (base := base) T
  refine ⟨fd, F.ok sc_answer (fun _ _ _ _ h => h.1) (fun cdv A outer s H vs Q E hr h => ?_), F.binds fun _ _ _ _ _ _ us hl => match us, hl with | [_, _, _, _], _ => rfl⟩
  have hr0 := hr.mono (by decide : 12 ≤ 12)
  refine ⟨_, PSs.nox (pss_cons (ps_try_as (i := 5) (tb := fun W => tAsg (tOp rCat (tLst (tCons (tC (.int 0)) tNil)) (tCallS (sp_called K) (WE W) (tCons (tVar 0) (tCons (tVar 1) (tCons (tVar 2) (tCons (tVar 3) tNil)))))) (gName 4)) (ts := fun a cls d => tAsg (tLst (tCons (tXf a cls d (He.ga K "Refused") "number" (tVar 5)) tNil)) (gName 4)) (Wout := fun _ _ _ _ => False) rfl rfl sc_answer.nd rfl rfl ⟨rfl, by decide, Or.inl T.g_Refused⟩ takes0
    (fun W pn xe tk _ => pss_one (ps_set (i := 4) sc_answer.nd rfl (Or.inl rfl) (by exact (pe_op op_cat (pe_lst (pa_cons pe_int pa_nil)) (pe_callS G0 hr0 rfl T.g_called T.k_called b0 (fun σ => passAt tk σ) (by exact (pa_cons (pv 0) (pa_cons (pv 1) (pa_cons (pv 2) (pa_cons (pv 3) pa_nil))))))))))
    (fun a oe cls d pn hz hf => pss_one (ps_set (i := 4) sc_answer.nd rfl (Or.inl rfl) (by exact (pe_lst (pa_cons (pe_xf T.xf_Refused T.na_Refused_number hz hf (pv 5)) pa_nil))))))
    (pss_one (ps_ret (pv 4)))), ?_⟩
  obtain ⟨_, h⟩ := h
  obtain ⟨kp, s, c, v, ns, w, row, rfl, hS, hv, hw, rl, hsh, len, q⟩ := h
  refine ⟨by show 1 ≤ sizeLine; decide, fun z nz => ?_⟩
  have kz : Same H (upd H z (.lst [.int 0])) := Same.new nz
  have hz : (upd H z (.lst [.int 0])) z = some (.lst [.int 0]) := upd_same
  generalize upd H z (.lst [.int 0]) = H1 at kz hz ⊢
  obtain ⟨dx, pv, cl, hk⟩ := hS.obj
  have zk : z ≠ kp := ne_of hz (kz _ _ hk) (by intro y; cases y)
  refine ⟨_, rfl, _, rfl, _, rfl, _, rfl, rfl, kp, s, c, v, ns, w, row, rfl, hS.same kz, hv.same kz, hw.same kz, rl, hsh, fun n hn d H' e hd => ?_, fun s' l hl u H' b st hu => ?_⟩
  · refine ⟨true, T.ex_Refused, fun _ a ha => ?_, fun y => by cases y⟩
    rw [hn] at q
    refine ⟨_, rfl, rfl, rfl, d, _, _, rfl, hd, lk_here, by show 1 ≤ sizeLine; decide, fun p np => ?_⟩
    have k2 := (kz.trans e).trans (Same.new (o := .lst [.int n]) np)
    exact ⟨_, rfl, q _ _ k2.but (hS.same k2) ⟨p, rfl, upd_same⟩⟩
  · obtain ⟨la, rfl, hla⟩ := hu
    rw [hl] at q len
    refine ⟨z, la, _, _, rfl, rfl, b _ _ zk hz, hla, ?_, fun p np => ?_⟩
    · rw [List.length_map]
      have len : l.length + 1 ≤ 2001 := len
      exact Nat.le_trans (show 1 + l.length ≤ 2001 by omega) (by decide)
    · exact ⟨_, rfl, q _ _ ((kz.but.trans b).trans (Same.new np).but) (st.same (Same.new np)) ⟨p, rfl, upd_same⟩⟩
end
end Bc


-- end of a part
set_option Elab.async false
set_option linter.all false
set_option maxRecDepth 100000
set_option maxHeartbeats 4000000
set_option exponentiation.threshold 100000
/-! # how long an answer may be -/
namespace Bc
open PySem PySem.Spec PyProof.Rows L2
theorem outR_len {s : Vbkdai.State} {m : Res} (h : ∀ l, m = .ok l → l.length ≤ 2000) : (outR s m).2.length ≤ 2001 := by
  cases m with
  | error n => exact Nat.le_of_ble_eq_true rfl
  | ok l =>
    have := h l rfl
    show l.length + 1 ≤ 2001
    omega
theorem outS_len {s : Vbkdai.State} {m : ResS} : (outS s m).2.length ≤ 2001 := by
  cases m with
  | error n => exact Nat.le_of_ble_eq_true rfl
  | ok l => exact Nat.le_of_ble_eq_true rfl
theorem bind_len {α : Type} {x : Except Int α} {f : α → Res} (h : ∀ a, x = .ok a → ∀ l, f a = .ok l → l.length ≤ 2000) : ∀ l, x.bind f = .ok l → l.length ≤ 2000 := fun l hl => by
  obtain ⟨a, h1, h2⟩ := bind_ok hl
  exact h a h1 l h2
theorem ok_len {l m : List Int} (h : l.length ≤ 2000) (e : (Except.ok l : Res) = .ok m) : m.length ≤ 2000 := by
  cases e
  exact h
theorem qRow_len (q : Qd) : (Vbkdai.qRow q).length = 2 := rfl
theorem pf_len (p : Vbkdai.Plan) (x : Vbkdai.Chan) (n : Nat) (h : PlOk p) : (Vbkdai.partsRow p.parts (Vbkdai.partsFor p.parts x n)).length ≤ 2000 := by
  have h1 := prow_len p.parts (Vbkdai.partsFor p.parts x n)
  have h2 : (Vbkdai.partsFor p.parts x n).length ≤ 12 := parts_len _ _ (by rw [belt_len]; exact h.g12)
  omega
theorem table_len {p : Vbkdai.Plan} {x : Vbkdai.Chan} (g12 : p.parts ≤ 12) : ∀ i, ((List.range i).flatMap fun n => Vbkdai.counted (Vbkdai.partsOf (Vbkdai.belt p.parts x) n)).length ≤ 13 * i := fun i => by
  induction i with
  | zero => exact Nat.zero_le _
  | succ i ih =>
    rw [List.range_succ, List.flatMap_append, List.length_append, List.flatMap_cons, List.flatMap_nil, List.append_nil]
    have := parts_len (Vbkdai.belt p.parts x) i (by rw [belt_len]; exact g12)
    have e : (Vbkdai.counted (Vbkdai.partsOf (Vbkdai.belt p.parts x) i)).length = (Vbkdai.partsOf (Vbkdai.belt p.parts x) i).length + 1 := by
      unfold Vbkdai.counted Vbkdai.ints
      rw [List.length_cons, List.length_map]
    omega
theorem two_len (l : List (Nat × Nat)) : (l.flatMap fun y => Vbkdai.ints [y.1, y.2]).length = 2 * l.length := by
  induction l with
  | nil => rfl
  | cons a r ih =>
    rw [List.flatMap_cons, List.length_append, ih, List.length_cons]
    show 2 + _ = _
    omega
theorem some_step_len {p : Vbkdai.Plan} {cs : List (Option Nat)} (h : PlOk p) {c : Int} {ns row : List Int} (hs : PyVbkdai.shape c = some (ns.length, (rowsOf c row).length)) : (Vbkdai.step ⟨some p, cs⟩ ((c :: ns) :: rowsOf c row)).2.length ≤ 2001 := by
  have hc : c = 0 ∨ c = 1 ∨ c = 2 ∨ c = 3 ∨ c = 4 ∨ c = 5 ∨ c = 6 ∨ c = 7 ∨ c = 8 ∨ c = 9 ∨ c = 10 ∨ c = 11 ∨ c = 12 ∨ c = 13 ∨ c = 14 ∨ c = 15 ∨ c = 16 ∨ c = 17 ∨ c = 18 ∨ c = 19 := by
    have h0 : 0 ≤ c := by
      refine Decidable.byContradiction fun z => ?_
      rw [shape_none (.inl (by omega))] at hs
      cases hs
    have h1 : c ≤ 19 := by
      refine Decidable.byContradiction fun z => ?_
      rw [shape_none (.inr (by omega))] at hs
      cases hs
    omega
  have g12 := h.g12
  have c4 := h.c4
  rcases hc with rfl | rfl | rfl | rfl | rfl | rfl | rfl | rfl | rfl | rfl | rfl | rfl | rfl | rfl | rfl | rfl | rfl | rfl | rfl | rfl
  · have hl : ns.length = 0 := (congrArg Prod.fst (Option.some.inj hs)).symm
    obtain rfl := list0 hl
    show (Vbkdai.step ⟨some p, cs⟩ [[0], row]).2.length ≤ 2001
    rw [step0]
    cases mTell row <;> exact Nat.le_of_ble_eq_true rfl
  · have hl : ns.length = 0 := (congrArg Prod.fst (Option.some.inj hs)).symm
    obtain rfl := list0 hl
    show (Vbkdai.step ⟨some p, cs⟩ [[1]]).2.length ≤ 2001
    rw [step1]
    have := planText_len h
    show (0 :: Vbkdai.counted (Vbkdai.planText p)).length ≤ 2001
    unfold Vbkdai.counted Vbkdai.ints
    rw [List.length_cons, List.length_cons, List.length_map]
    omega
  · have hl : ns.length = 2 := (congrArg Prod.fst (Option.some.inj hs)).symm
    obtain ⟨x0, x1, rfl⟩ := list2 hl
    show (Vbkdai.step ⟨some p, cs⟩ [[2, x0, x1]]).2.length ≤ 2001
    rw [step2]
    exact outS_len
  · have hl : ns.length = 1 := (congrArg Prod.fst (Option.some.inj hs)).symm
    obtain ⟨x0, rfl⟩ := list1 hl
    show (Vbkdai.step ⟨some p, cs⟩ [[3, x0]]).2.length ≤ 2001
    rw [step3]
    exact outS_len
  · have hl : ns.length = 3 := (congrArg Prod.fst (Option.some.inj hs)).symm
    obtain ⟨x0, x1, x2, rfl⟩ := list3 hl
    show (Vbkdai.step ⟨some p, cs⟩ [[4, x0, x1, x2]]).2.length ≤ 2001
    rw [step4]
    refine outR_len ?_
    unfold mChance
    refine bind_len fun y0 _ => ?_
    refine bind_len fun y1 _ => ?_
    exact fun l => ok_len (Nat.le_of_ble_eq_true rfl)
  · have hl : ns.length = 5 := (congrArg Prod.fst (Option.some.inj hs)).symm
    obtain ⟨x0, x1, x2, x3, x4, rfl⟩ := list5 hl
    show (Vbkdai.step ⟨some p, cs⟩ [[5, x0, x1, x2, x3, x4]]).2.length ≤ 2001
    rw [step5]
    refine outR_len ?_
    unfold mOften
    refine bind_len fun y0 _ => ?_
    refine bind_len fun y1 _ => ?_
    refine bind_len fun y2 _ => ?_
    refine bind_len fun y3 _ => ?_
    refine bind_len fun y4 _ => ?_
    exact fun l => ok_len (Nat.le_of_ble_eq_true rfl)
  · have hl : ns.length = 2 := (congrArg Prod.fst (Option.some.inj hs)).symm
    obtain ⟨x0, x1, rfl⟩ := list2 hl
    show (Vbkdai.step ⟨some p, cs⟩ [[6, x0, x1]]).2.length ≤ 2001
    rw [step6]
    refine outR_len ?_
    unfold mPart
    refine bind_len fun y0 _ => ?_
    exact fun l => ok_len (Nat.le_of_ble_eq_true rfl)
  · have hl : ns.length = 1 := (congrArg Prod.fst (Option.some.inj hs)).symm
    obtain ⟨x0, rfl⟩ := list1 hl
    show (Vbkdai.step ⟨some p, cs⟩ [[7, x0]]).2.length ≤ 2001
    rw [step7]
    refine outR_len ?_
    unfold mBelt
    refine bind_len fun y0 _ => ?_
    refine fun l => ok_len ?_
    rw [List.length_cons, two_len, belt_len]
    omega
  · have hl : ns.length = 2 := (congrArg Prod.fst (Option.some.inj hs)).symm
    obtain ⟨x0, x1, rfl⟩ := list2 hl
    show (Vbkdai.step ⟨some p, cs⟩ [[8, x0, x1]]).2.length ≤ 2001
    rw [step8]
    refine outR_len ?_
    unfold mWould
    refine bind_len fun y0 _ => ?_
    refine bind_len fun y1 _ => ?_
    refine bind_len fun y2 _ => ?_
    exact fun l => ok_len (pf_len p _ _ h)
  · have hl : ns.length = 1 := (congrArg Prod.fst (Option.some.inj hs)).symm
    obtain ⟨x0, rfl⟩ := list1 hl
    show (Vbkdai.step ⟨some p, cs⟩ [[9, x0]]).2.length ≤ 2001
    rw [step9]
    refine outR_len ?_
    unfold mLeaves
    refine bind_len fun y0 _ => ?_
    cases cs.getD x0.toNat none with
    | none => exact fun l hl => by cases hl
    | some n => exact fun l => ok_len (pf_len p _ _ h)
  · have hl : ns.length = 0 := (congrArg Prod.fst (Option.some.inj hs)).symm
    obtain rfl := list0 hl
    show (Vbkdai.step ⟨some p, cs⟩ [[10]]).2.length ≤ 2001
    rw [step10]
    show (0 :: mJoint p cs).length ≤ 2001
    unfold mJoint
    have h1 := prow_len p.parts (Vbkdai.jointly p cs)
    have h2 : (Vbkdai.jointly p cs).length ≤ p.parts := filter_len
    rw [List.length_cons, List.length_append, qRow_len]
    omega
  · have hl : ns.length = 8 := (congrArg Prod.fst (Option.some.inj hs)).symm
    obtain ⟨x0, x1, x2, x3, x4, x5, x6, x7, rfl⟩ := list8 hl
    show (Vbkdai.step ⟨some p, cs⟩ [[11, x0, x1, x2, x3, x4, x5, x6, x7]]).2.length ≤ 2001
    rw [step11]
    refine outR_len ?_
    unfold mCovers
    refine bind_len fun y0 _ => ?_
    refine bind_len fun y1 _ => ?_
    refine bind_len fun y2 _ => ?_
    refine bind_len fun y3 _ => ?_
    refine bind_len fun y4 _ => ?_
    refine bind_len fun y5 _ => ?_
    refine bind_len fun y6 _ => ?_
    exact fun l => ok_len (Nat.le_of_ble_eq_true rfl)
  · have hl : ns.length = 1 := (congrArg Prod.fst (Option.some.inj hs)).symm
    obtain ⟨x0, rfl⟩ := list1 hl
    show (Vbkdai.step ⟨some p, cs⟩ [[12, x0], row]).2.length ≤ 2001
    rw [step12]
    refine outR_len ?_
    unfold mJudge
    refine bind_len fun y0 _ => ?_
    refine bind_len fun y1 _ => ?_
    refine bind_len fun y2 _ => ?_
    refine bind_len fun y3 _ => ?_
    refine fun l => ok_len ?_
    unfold judR
    cases Vbkdai.wrongAt p.parts y1 y0 <;> exact Nat.le_of_ble_eq_true rfl
  · have hl : ns.length = 4 := (congrArg Prod.fst (Option.some.inj hs)).symm
    obtain ⟨x0, x1, x2, x3, rfl⟩ := list4 hl
    show (Vbkdai.step ⟨some p, cs⟩ [[13, x0, x1, x2, x3]]).2.length ≤ 2001
    rw [step13]
    refine outR_len ?_
    unfold mApart
    refine bind_len fun y0 _ => ?_
    refine bind_len fun y1 _ => ?_
    exact fun l => ok_len (Nat.le_of_ble_eq_true rfl)
  · have hl : ns.length = 6 := (congrArg Prod.fst (Option.some.inj hs)).symm
    obtain ⟨x0, x1, x2, x3, x4, x5, rfl⟩ := list6 hl
    show (Vbkdai.step ⟨some p, cs⟩ [[14, x0, x1, x2, x3, x4, x5]]).2.length ≤ 2001
    rw [step14]
    refine outR_len ?_
    unfold mFewest
    refine bind_len fun y0 _ => ?_
    refine bind_len fun y1 _ => ?_
    refine bind_len fun y2 _ => ?_
    refine fun l => ok_len ?_
    unfold fewR
    cases Vbkdai.fewest p.parts y2 x1.toNat x2.toNat x3.toNat y1 <;> exact Nat.le_of_ble_eq_true rfl
  · have hl : ns.length = 3 := (congrArg Prod.fst (Option.some.inj hs)).symm
    obtain ⟨x0, x1, x2, rfl⟩ := list3 hl
    show (Vbkdai.step ⟨some p, cs⟩ [[15, x0, x1, x2]]).2.length ≤ 2001
    rw [step15]
    refine outR_len ?_
    unfold mFew
    refine bind_len fun y0 _ => ?_
    refine bind_len fun y1 _ => ?_
    exact fun l => ok_len (Nat.le_of_ble_eq_true rfl)
  · have hl : ns.length = 1 := (congrArg Prod.fst (Option.some.inj hs)).symm
    obtain ⟨x0, rfl⟩ := list1 hl
    show (Vbkdai.step ⟨some p, cs⟩ [[16, x0]]).2.length ≤ 2001
    rw [step16]
    refine outR_len ?_
    unfold mTable
    refine bind_len fun y0 _ => ?_
    rename_i hr
    refine fun l => ok_len ?_
    have t40 := (h.ch y0 (List.mem_of_getElem? (chanR_ok hr).2.2)).t40
    have := table_len (x := y0) g12 (y0.trials + 1)
    rw [List.length_cons]
    omega
  · have hl : ns.length = 2 := (congrArg Prod.fst (Option.some.inj hs)).symm
    obtain ⟨x0, x1, rfl⟩ := list2 hl
    show (Vbkdai.step ⟨some p, cs⟩ [[17, x0, x1]]).2.length ≤ 2001
    rw [step17]
    exact outS_len
  · have hl : ns.length = 3 := (congrArg Prod.fst (Option.some.inj hs)).symm
    obtain ⟨x0, x1, x2, rfl⟩ := list3 hl
    show (Vbkdai.step ⟨some p, cs⟩ [[18, x0, x1, x2]]).2.length ≤ 2001
    rw [step18]
    exact outS_len
  · have hl : ns.length = 0 := (congrArg Prod.fst (Option.some.inj hs)).symm
    obtain rfl := list0 hl
    show (Vbkdai.step ⟨some p, cs⟩ [[19]]).2.length ≤ 2001
    rw [step19]
    show (0 :: mCounts p cs).length ≤ 2001
    unfold mCounts
    rw [List.length_cons, List.length_cons, List.length_cons, cnt_len, List.length_zip]
    omega
theorem none_step_len {c : Int} {ns row : List Int} (hs : PyVbkdai.shape c = some (ns.length, (rowsOf c row).length)) : (Vbkdai.step ⟨none, []⟩ ((c :: ns) :: rowsOf c row)).2.length ≤ 2001 := by
  by_cases c0 : c = 0
  · subst c0
    obtain rfl := list0 (congrArg Prod.fst (Option.some.inj hs)).symm
    show (Vbkdai.step ⟨none, []⟩ [[0], row]).2.length ≤ 2001
    rw [step0]
    cases mTell row <;> exact Nat.le_of_ble_eq_true rfl
  · rw [step_none hs c0]
    exact Nat.le_of_ble_eq_true rfl
end Bc


-- end of a part
set_option Elab.async false
set_option linter.all false
set_option maxRecDepth 100000
set_option maxHeartbeats 4000000
set_option exponentiation.threshold 100000
/-! # all calls -/
namespace Bc
open PySem PySem.Spec PyProof.Rows L2
/-! ### plain laws of calls -/
theorem whole_id (c : List (List Int)) : PyVbkdai.whole c = c := by
  unfold PyVbkdai.whole
  split <;> rfl
theorem map_whole (cs : List (List (List Int))) : cs.map PyVbkdai.whole = cs := by
  induction cs with
  | nil => rfl
  | cons a r ih => rw [List.map_cons, whole_id, ih]
def numbersV : List V := [.int 0, .int 0, .int 2, .int 1, .int 3, .int 5, .int 2, .int 1, .int 2, .int 1, .int 0, .int 8, .int 1, .int 4, .int 6, .int 3, .int 1, .int 2, .int 3, .int 0]
theorem shape_at {c : Int} {n k : Nat} (h : PyVbkdai.shape c = some (n, k)) : atI numbersV c = some (.int (n : Int)) ∧ n ≤ 8 ∧ 0 ≤ c ∧ c ≤ 19 ∧ k = (if c = 0 ∨ c = 12 then 1 else 0) := by
  have h0 : 0 ≤ c := by
    refine Decidable.byContradiction fun z => ?_
    rw [shape_none (.inl (by omega))] at h
    cases h
  have h1 : c ≤ 19 := by
    refine Decidable.byContradiction fun z => ?_
    rw [shape_none (.inr (by omega))] at h
    cases h
  have hc : c = 0 ∨ c = 1 ∨ c = 2 ∨ c = 3 ∨ c = 4 ∨ c = 5 ∨ c = 6 ∨ c = 7 ∨ c = 8 ∨ c = 9 ∨ c = 10 ∨ c = 11 ∨ c = 12 ∨ c = 13 ∨ c = 14 ∨ c = 15 ∨ c = 16 ∨ c = 17 ∨ c = 18 ∨ c = 19 := by omega
  rcases hc with rfl | rfl | rfl | rfl | rfl | rfl | rfl | rfl | rfl | rfl | rfl | rfl | rfl | rfl | rfl | rfl | rfl | rfl | rfl | rfl <;> (cases h; exact ⟨rfl, by decide, by decide, by decide, rfl⟩)
/-- one call off the list -/
theorem call_is {c : Int} {r : List Int} {cc : List (List Int)} {t : List Int} (h : PyFlat.call PyVbkdai.shape (c :: r) = some (cc, t)) :
    ∃ n row, n ≤ r.length ∧ PyVbkdai.shape c = some ((r.take n).length, (rowsOf c row).length) ∧ cc = (c :: r.take n) :: rowsOf c row ∧
      ((c = 0 ∨ c = 12) → ∃ m r2, r.drop n = (m : Int) :: r2 ∧ 0 ≤ m ∧ m.toNat ≤ r2.length ∧ row = r2.take m.toNat ∧ t = r2.drop m.toNat) ∧ (¬ (c = 0 ∨ c = 12) → row = [] ∧ t = r.drop n) := by
  unfold PyFlat.call at h
  simp only at h
  cases hs : PyVbkdai.shape c with
  | none => rw [hs] at h; cases h
  | some nk =>
    obtain ⟨n, k⟩ := nk
    rw [hs] at h
    simp only at h
    obtain ⟨_, _, _, _, hk⟩ := shape_at hs
    by_cases hn : r.length < n
    · rw [if_pos hn] at h
      cases h
    · rw [if_neg hn] at h
      have ln : (r.take n).length = n := by rw [List.length_take]; omega
      by_cases hc : c = 0 ∨ c = 12
      · rw [if_pos hc] at hk
        subst hk
        cases hr : r.drop n with
        | nil =>
          rw [hr] at h
          cases h
        | cons m r2 =>
          rw [hr] at h
          unfold PyFlat.rows PyFlat.row PyFlat.rows at h
          simp only at h
          by_cases hm : 0 ≤ m ∧ m.toNat ≤ r2.length
          · rw [if_pos hm] at h
            simp only [Option.some.injEq, Prod.mk.injEq] at h
            obtain ⟨h1, h2⟩ := h
            refine ⟨n, r2.take m.toNat, by omega, ?_, ?_, fun _ => ⟨m, r2, hr, hm.1, hm.2, rfl, h2.symm⟩, fun z => absurd hc z⟩
            · unfold rowsOf
              rw [if_pos hc, ln]
              rfl
            · unfold rowsOf
              rw [if_pos hc]
              exact h1.symm
          · rw [if_neg hm] at h
            cases h
      · rw [if_neg hc] at hk
        subst hk
        unfold PyFlat.rows at h
        simp only [Option.some.injEq, Prod.mk.injEq] at h
        obtain ⟨h1, h2⟩ := h
        refine ⟨n, [], by omega, ?_, ?_, fun z => absurd z hc, fun _ => ⟨rfl, h2.symm⟩⟩
        · unfold rowsOf
          rw [if_neg hc, ln]
          rfl
        · unfold rowsOf
          rw [if_neg hc]
          exact h1.symm
theorem calls_is {f : Nat} {c : Int} {r : List Int} {raws : List (List (List Int))} (h : PyFlat.calls PyVbkdai.shape f (c :: r) = some raws) :
    ∃ f' cc t cs, PyFlat.call PyVbkdai.shape (c :: r) = some (cc, t) ∧ PyFlat.calls PyVbkdai.shape f' t = some cs ∧ raws = cc :: cs := by
  cases f with
  | zero => cases h
  | succ f =>
    rw [PyFlat.calls] at h
    cases h1 : PyFlat.call PyVbkdai.shape (c :: r) with
    | none => rw [h1] at h; cases h
    | some x =>
      obtain ⟨cc, t⟩ := x
      rw [h1] at h
      simp only at h
      cases h2 : PyFlat.calls PyVbkdai.shape f t with
      | none => rw [h2] at h; cases h
      | some cs =>
        rw [h2] at h
        cases h
        exact ⟨f, cc, t, cs, rfl, h2, rfl⟩
/-- a row is short -/
theorem row_short {c : Int} {xs row : List Int} (h : PyInside.call PyVbkdai.bound ((c :: xs) :: rowsOf c row) = true) (hc : c = 0 ∨ c = 12) : row.length ≤ 500 := by
  unfold rowsOf at h
  rw [if_pos hc] at h
  have h2 : (PyInside.each (PyVbkdai.bound c).1 xs && PyInside.lists (PyVbkdai.bound c).2 [row]) = true := h
  rw [Bool.and_eq_true] at h2
  have h3 := h2.2
  rcases hc with rfl | rfl
  · have h4 : (decide (0 ≤ row.length) && decide (row.length ≤ 500) && row.all (PyInside.within (-1000000000000000000) 1000000000000000000) && true) = true := h3
    simp only [Bool.and_eq_true, decide_eq_true_eq] at h4
    exact h4.1.1.2
  · have h4 : (decide (0 ≤ row.length) && decide (row.length ≤ 500) && row.all (PyInside.within (-1000000000000000000) 1000000000000000000) && true) = true := h3
    simp only [Bool.and_eq_true, decide_eq_true_eq] at h4
    exact h4.1.1.2
/-! ### what isn't the locked list -/
section
variable {K : PySem.W.Frag} {H : Hp} {f : Addr} {od : Obj} {ys : List V}
theorem InAt.unl {v : V} {ns : List Int} (h : InAt H v ns) (hf : H f = some (.frz od (.lst ys))) : InAt (del H f) v ns := by
  obtain ⟨a, rfl, h⟩ := h
  exact ⟨a, rfl, by rw [del_ne (ne_of h hf (by intro z; cases z))]; exact h⟩
theorem SqT.unl {a : Addr} {xs : List V} (h : SqT K H a xs) (hf : H f = some (.frz od (.lst ys))) : SqT K (del H f) a xs := by
  rcases h with (h | ⟨o, h⟩) | h
  · exact .inl (.inl (by rw [del_ne (ne_of h hf (by intro z; cases z))]; exact h))
  · exact .inl (.inr ⟨o, by rw [del_ne (ne_of h hf (by intro z; cases z))]; exact h⟩)
  · exact .inr h
theorem FrAt.unl {v : V} {q : Qd} (h : FrAt K H v q) (hf : H f = some (.frz od (.lst ys))) : FrAt K (del H f) v q := let ⟨a, e, h⟩ := h; ⟨a, e, SqT.unl h hf⟩
theorem Fr2At.unl {v : V} {x y : Qd} (h : Fr2At K H v x y) (hf : H f = some (.frz od (.lst ys))) : Fr2At K (del H f) v x y := let ⟨a, u, w, q, r, s, t⟩ := h; ⟨a, u, w, q, SqT.unl r hf, s.unl hf, t.unl hf⟩
theorem ChanAt.unl {v : V} {c : Vbkdai.Chan} (h : ChanAt K H v c) (hf : H f = some (.frz od (.lst ys))) : ChanAt K (del H f) v c := by
  obtain ⟨a, dx, nm, b, g, s, rfl, h1, c1, c2, c3, c4⟩ := h
  exact ⟨a, dx, nm, b, g, s, rfl, by rw [del_ne (ne_of h1 hf (by intro z; cases z))]; exact h1, c1.unl hf, c2.unl hf, c3.unl hf, c4.unl hf⟩
theorem PlanAt.unl {v : V} {p : Vbkdai.Plan} (h : PlanAt K H v p) (hf : H f = some (.frz od (.lst ys))) : PlanAt K (del H f) v p := by
  obtain ⟨a, dx, l, vs, rfl, h1, h2, h3⟩ := h
  exact ⟨a, dx, l, vs, rfl, by rw [del_ne (ne_of h1 hf (by intro z; cases z))]; exact h1, by rw [del_ne (ne_of h2 hf (by intro z; cases z))]; exact h2, paired_imp (fun _ _ z => z.unl hf) h3⟩
theorem StAt.unl {k : Addr} {s : Vbkdai.State} (h : StAt K H k s) (hf : H f = some (.frz od (.lst ys))) : StAt K (del H f) k s := by
  rcases h with ⟨h, dx, cl, h1, h2⟩ | ⟨p, cs, h, dx, pv, cl, h1, h2, h3, h4⟩
  · exact .inl ⟨h, dx, cl, by rw [del_ne (ne_of h1 hf (by intro z; cases z))]; exact h1, by rw [del_ne (ne_of h2 hf (by intro z; cases z))]; exact h2⟩
  · exact .inr ⟨p, cs, h, dx, pv, cl, by rw [del_ne (ne_of h1 hf (by intro z; cases z))]; exact h1, h2.unl hf, by rw [del_ne (ne_of h3 hf (by intro z; cases z))]; exact h3, h4⟩
end
theorem stat_len {K : PySem.W.Frag} {H : Hp} {k : Addr} {s : Vbkdai.State} (h : StAt K H k s) {c : Int} {ns row : List Int} (hs : PyVbkdai.shape c = some (ns.length, (rowsOf c row).length)) : (Vbkdai.step s ((c :: ns) :: rowsOf c row)).2.length ≤ 2001 := by
  rcases h with ⟨rfl, _⟩ | ⟨p, cs, rfl, dx, pv, cl, _, _, _, ok, _⟩
  · exact none_step_len hs
  · exact some_step_len ok hs
theorem SqL.same {K : PySem.W.Frag} {H H' : Hp} {a : Addr} {xs : List V} (h : SqL K H a xs) (e : Same H H') : SqL K H' a xs := by
  rcases h with (h | ⟨o, h⟩) | h
  · exact .inl (.inl (e _ _ h))
  · exact .inl (.inr ⟨o, e _ _ h⟩)
  · exact .inr h
def sp_answers (K : PySem.W.Frag) : Sp := mkSp 1 fun vs H Q _ => ∃ (a : Addr) (ns : List Int), vs = [.ref a] ∧ SqL K H a (ns.map V.int) ∧ PyVbkdai.answers_asked ns = true ∧
  ∀ (H' : Hp) (p : Addr), H' p = some (.lst ((PyVbkdai.answers ns).map V.int)) → Q (.ref p) H'
section
variable {P : Program} {w : World} {K : PySem.W.Frag} {mg : Str → Option Value} {base : Heap}
theorem sc_answers : FnScope N_answers ["calls"] (defScope s_answers) := ⟨rfl, rfl, rfl, by decide +kernel, rfl, by decide +kernel, by decide +kernel⟩
theorem fn_answers (T : TX K mg) {fd : FuncData} (F : Fun K "answers" "answers" s_answers (He.ga K "answers") fd) : FnOk P w K mg base CX0 14 (He.ga K "answers") fd ["calls"] (sp_answers K) := by
  obtain ⟨fd0, G0, b0⟩ := ok_Keeping_init (P := P) (w := w) (base := base) T
  obtain ⟨fd1, G1, b1⟩ := ok_answer (P := P) (w := w) (base := base) T
  refine F.ok sc_answers (fun _ _ _ _ h => h.1) (fun cdv A outer s H vs Q E hr h => ?_)
  have hr0 := hr.mono (by decide : 2 ≤ 13)
  have hr1 := hr.mono (by decide : 13 ≤ 13)
  refine ⟨_, PSs.nox (pss_cons (ps_set (i := 1) sc_answers.nd rfl (.inl rfl) (pe_make0 T.mk_Keeping G0 hr0 (by rfl) T.g_Keeping b0 .nil pass0))
    (pss_cons (ps_set (i := 2) sc_answers.nd rfl (.inl rfl) (pe_lst pa_nil))
    (pss_cons (ps_set (i := 3) sc_answers.nd rfl (.inl rfl) pe_int)
    (pss_cons (ps_while PassesOwn.never (pt_cmpR op_lt (pv 3) (pe_callB call_len_seq (by rfl) T.n_len (by decide +kernel) (pa_cons (pv 0) pa_nil)) (by rfl)) (pss_cons (ps_set (i := 4) sc_answers.nd rfl (.inl rfl) (pe_ix ix_list (pv 0) (pv 3) (fun _ _ => rfl)))
    (pss_cons (ps_set (i := 5) sc_answers.nd rfl (.inl rfl) (pe_op op_add (pe_op op_add (pv 3) pe_int) (pe_ix ix_tup (C8.pe_gc (by rfl) T.c_NUMBERS) (pv 4) (fun _ _ => rfl))))
    (pss_cons (ps_par (i := 6) (j := 7) (by rfl) sc_answers.nd rfl rfl (by decide) rfl rfl (pa_cons (pe_slice sl_list (pv 0) (po_some (pe_op op_add (pv 3) pe_int)) (po_some (pv 5))) (pa_cons (pe_lst pa_nil) pa_nil)) (by rfl))
    (pss_cons (ps_if (pt_cmpR op_in_seq (pv 4) (C8.pe_gc (by rfl) T.c_WITH_ROW) (by rfl)) (pss_cons (ps_set (i := 7) sc_answers.nd rfl (.inl rfl) (pe_slice sl_list (pv 0) (po_some (pe_op op_add (pv 5) pe_int)) (po_some (pe_op op_add (pe_op op_add (pv 5) pe_int) (pe_ix ix_list (pv 0) (pv 5) (fun _ _ => rfl))))))
    (pss_one (ps_set (i := 5) sc_answers.nd rfl (.inl rfl) (pe_op op_add (pe_op op_add (pv 5) pe_int) (pe_callB call_len_seq (by rfl) T.n_len (by decide +kernel) (pa_cons (pv 7) pa_nil)))))) pss_nil)
    (pss_cons (ps_set (i := 8) sc_answers.nd rfl (.inl rfl) (pe_lock (pe_call G1 hr1 (by rfl) T.g_answer T.k_answer b1 .nil pass0 (pa_cons (pv 1) (pa_cons (pv 4) (pa_cons (pv 6) (pa_cons (pv 7) pa_nil)))))))
    (pss_cons (ps_expr (pe_bm PySem.F.plainAttrs_list PySem.F.slot_list_append PySem.F.type_list_append mt_append (pv 2) (pa_cons (pe_callB call_len_seq (by rfl) T.n_len (by decide +kernel) (pa_cons (pv 8) pa_nil)) pa_nil)))
    (pss_cons (ps_expr (pe_bm PySem.F.plainAttrs_list PySem.F.slot_list_extend PySem.F.type_list_extend mt_extend (pv 2) (pa_cons (pv 8) pa_nil)))
    (pss_one (ps_set (i := 3) sc_answers.nd rfl (.inl rfl) (pv 5)))))))))))
    (pss_one (ps_ret (pv 2))))))), ?_⟩
  obtain ⟨_, h⟩ := h
  obtain ⟨a, ns, rfl, ha, hask, q⟩ := h
  have hraw : ∃ raws, PyFlat.calls PyVbkdai.shape ns.length ns = some raws ∧ raws.length ≤ 40 ∧ raws.all (PyInside.call PyVbkdai.bound) = true := by
    unfold PyVbkdai.answers_asked at hask
    cases hc : PyFlat.calls PyVbkdai.shape ns.length ns with
    | none => rw [hc] at hask; cases hask
    | some raws =>
      rw [hc] at hask
      simp only [Bool.and_eq_true] at hask
      exact ⟨raws, rfl, of_decide_eq_true hask.1.1.1.2, hask.1.1.2⟩
  obtain ⟨raws0, hr0, h40, hin0⟩ := hraw
  have hans0 : PyVbkdai.answers ns = [] ++ PyFlat.told (PyFlat.played VbkdaiNeutral.step ⟨none, []⟩ raws0) := by
    unfold PyVbkdai.answers PyVbkdai.calls
    rw [hr0]
    show PyFlat.told (PyFlat.played VbkdaiNeutral.step VbkdaiNeutral.start (raws0.map PyVbkdai.whole)) = _
    rw [map_whole]
    rfl
  intro kp dx nk nd ne
  refine ⟨rfl, kp, dx, rfl, upd_same, fun cl nc => ⟨rfl, ?_⟩⟩
  have c1 : cl ≠ kp := fun z => by rw [z, upd_same] at nc; cases nc
  have nc0 : H cl = none := by
    rw [upd_ne c1] at nc
    have c2 : cl ≠ dx := fun z => by rw [z, upd_same] at nc; cases nc
    rw [upd_ne c2] at nc
    exact nc
  have e1 : Same H (upd (upd (upd (upd H dx (.own kp)) kp (.ins (He.ga K "Keeping") dx [])) cl (.lst [])) kp (.ins (He.ga K "Keeping") dx (F_Keeping .non (.ref cl)))) := fun b o hb => by
    rw [upd_ne (ne_of_none hb nk), upd_ne (ne_of_none hb nc0), upd_ne (ne_of_none hb nk), upd_ne (ne_of_none hb nd)]
    exact hb
  have hk1 : (upd (upd (upd (upd H dx (.own kp)) kp (.ins (He.ga K "Keeping") dx [])) cl (.lst [])) kp (.ins (He.ga K "Keeping") dx (F_Keeping .non (.ref cl)))) kp = some (.ins (He.ga K "Keeping") dx (F_Keeping .non (.ref cl))) := upd_same
  have hc1 : (upd (upd (upd (upd H dx (.own kp)) kp (.ins (He.ga K "Keeping") dx [])) cl (.lst [])) kp (.ins (He.ga K "Keeping") dx (F_Keeping .non (.ref cl)))) cl = some (.lst []) := by rw [upd_ne c1, upd_same]
  generalize upd (upd (upd (upd H dx (.own kp)) kp (.ins (He.ga K "Keeping") dx [])) cl (.lst [])) kp (.ins (He.ga K "Keeping") dx (F_Keeping .non (.ref cl))) = H1 at e1 hk1 hc1 ⊢
  refine ⟨by show 0 ≤ sizeLine; decide, fun F nF => ?_⟩
  have nF0 : H F = none := by
    cases z : H F with
    | none => rfl
    | some o => rw [e1 _ _ z] at nF; cases nF
  have nk0 : H kp = none := nk
  obtain ⟨W, hW⟩ : ∃ W : Nat → L2.St → Hp → Prop, W = fun m σ H' => ∃ (at_ f : Nat) (raws : List (List (List Int))) (s : Vbkdai.State) (done : List Int) (v4 v5 v6 v7 v8 : Option V), raws.length = m ∧ σ = [some (.ref a), some (.ref kp), some (.ref F), some (.int (at_ : Int)), v4, v5, v6, v7, v8] ∧ at_ ≤ ns.length ∧
      PyFlat.calls PyVbkdai.shape f (ns.drop at_) = some raws ∧ raws.all (PyInside.call PyVbkdai.bound) = true ∧ Same H H' ∧ StAt K (del H' F) kp s ∧ H' F = some (.lst (done.map V.int)) ∧ PyVbkdai.answers ns = done ++ PyFlat.told (PyFlat.played VbkdaiNeutral.step s raws) ∧ done.length + 2002 * raws.length ≤ 2002 * 40 := ⟨_, rfl⟩
  refine ⟨W, ⟨raws0.length, ?_⟩, fun m σ H2 w => ?_⟩
  · rw [hW]
    refine ⟨0, ns.length, raws0, ⟨none, []⟩, [], none, none, none, none, none, rfl, rfl, Nat.zero_le _, hr0, hin0, e1.trans (Same.new nF), ?_, upd_same, hans0, by rw [List.length_nil]; omega⟩
    rw [del_upd]
    exact .inl ⟨rfl, dx, cl, by rw [del_ne (ne_of_none hk1 nF)]; exact hk1, by rw [del_ne (ne_of_none hc1 nF)]; exact hc1⟩
  · have w2 := w
    rw [hW] at w2
    obtain ⟨at_, f, raws, s, done, v4, v5, v6, v7, v8, hm, rfl, hat, hcalls, hin, e0, hS, hF, hans, hsz⟩ := w2
    have ha2 := SqL.same ha e0
    refine ⟨_, rfl, _, rfl, a, _, rfl, .inl ha2, _, _, rfl, rfl, _, rfl, ?_⟩
    rw [List.length_map]
    refine ite2 (fun cc => ?_) (fun cc => ?_)
    · have lt : at_ < ns.length := by
        have : (at_ : Int) < (ns.length : Int) := of_decide_eq_true cc
        omega
      have hd : ns.drop at_ = ns[at_] :: ns.drop (at_ + 1) := List.drop_eq_getElem_cons lt
      have hget : (ns.map V.int)[at_]? = some (V.int ns[at_]) := by rw [List.getElem?_map, List.getElem?_eq_getElem lt]; rfl
      rw [hd] at hcalls
      generalize hc : ns[at_] = c at hcalls hget hd
      generalize hr : ns.drop (at_ + 1) = r at hcalls hd
      obtain ⟨f', cl2, t, cs, hcall, hcs, rfl⟩ := calls_is hcalls
      obtain ⟨n, row, hn, hsh, rfl, hrow, hno⟩ := call_is hcall
      have ln : (r.take n).length = n := by rw [List.length_take]; omega
      have lr : r.length + (at_ + 1) = ns.length := by
        rw [← hr, List.length_drop]
        omega
      obtain ⟨hnum, n8, c0, c19, hk2⟩ := shape_at hsh
      rw [ln] at hnum
      rw [List.all_cons, Bool.and_eq_true] at hin
      have hlen : ∀ {H' : Hp}, StAt K H' kp s → (Vbkdai.step s ((c :: r.take n) :: rowsOf c row)).2.length ≤ 2001 := fun h => stat_len h hsh
      have hlen := hlen hS
      refine ⟨W (m - 1), fun σ' H' w' => ⟨m - 1, by rw [← hm, List.length_cons]; omega, w'⟩, ?_⟩
      refine ⟨_, rfl, _, rfl, a, _, _, _, rfl, rfl, ha2, atI_nat hget, ?_⟩
      refine ⟨_, rfl, _, _, rfl, rfl, _, rfl, He.ga K "NUMBERS", _, _, _, rfl, rfl, T.t_NUMBERS H2, hnum, _, _, rfl, rfl, ?_⟩
      refine ⟨_, rfl, _, rfl, _, _, rfl, rfl, _, rfl, _, rfl, _, rfl, a, _, rfl, ha2, fun p np => ?_⟩
      have e3 : Same H2 (upd H2 p (.lst (cutV (ns.map V.int) (some ((at_ : Int) + 1)) (some ((at_ : Int) + 1 + (n : Int)))))) := Same.new np
      have hp3 : (upd H2 p (.lst (cutV (ns.map V.int) (some ((at_ : Int) + 1)) (some ((at_ : Int) + 1 + (n : Int)))))) p = some (.lst ((r.take n).map V.int)) := by
        rw [upd_same]
        refine congrArg some (congrArg HO.lst ((cut_ints ns (at_ + 1) (at_ + 1 + n)).trans ?_))
        rw [List.drop_take, hr, show at_ + 1 + n - (at_ + 1) = n by omega]
      have pF : p ≠ F := fun z => by rw [z, hF] at np; cases np
      generalize upd H2 p (.lst (cutV (ns.map V.int) (some ((at_ : Int) + 1)) (some ((at_ : Int) + 1 + (n : Int))))) = H3 at e3 hp3 ⊢
      refine ⟨by show 0 ≤ sizeLine; decide, fun em nem => ?_⟩
      have e34 : Same H3 (upd H3 em (.lst [])) := Same.new nem
      have hem : (upd H3 em (.lst [])) em = some (.lst (([] : List Int).map V.int)) := upd_same
      have emF : em ≠ F := fun z => by rw [z, e3 _ _ hF] at nem; cases nem
      generalize upd H3 em (.lst []) = H4 at e34 hem ⊢
      have e24 := e3.trans e34
      have hp4 := e34 _ _ hp3
      refine ⟨_, _, rfl, ?_⟩
      refine ⟨_, rfl, He.ga K "WITH_ROW", _, rfl, .inr (T.t_WITH_ROW H4), rfl, rfl, _, rfl, ?_⟩
      have hinv : inV (.int c) [.int 0, .int 12] = decide (c = 0 ∨ c = 12) := by
        show ((0 == c) || ((12 == c) || false)) = _
        by_cases h0 : c = 0
        · subst h0
          rfl
        · by_cases h12 : c = 12
          · subst h12
            rfl
          · have h0' : ¬ (0 : Int) = c := fun z => h0 z.symm
            have h12' : ¬ (12 : Int) = c := fun z => h12 z.symm
            simp [h0, h12, h0', h12']
      show (if inV (.int c) [.int 0, .int 12] = true then _ else _)
      rw [hinv]
      by_cases hcr : c = 0 ∨ c = 12
      · rw [decide_eq_true hcr]
        refine iteT ?_
        have rl := Nat.le_trans (row_short hin.1 hcr) (show 500 ≤ 1000 by decide)
        obtain ⟨m0, r2, hdm, m00, hm0, erow, et⟩ := hrow hcr
        have lrow : row.length = m0.toNat := by rw [erow, List.length_take]; omega
        have hda : ns.drop (at_ + 1 + n) = m0 :: r2 := by rw [← List.drop_drop, hr, hdm]
        have hd5 : ns.drop (at_ + 1 + n + 1) = r2 := by rw [← List.drop_drop, hda]; rfl
        have lr2 : r2.length + (at_ + 1 + n + 1) = ns.length := by
          have := congrArg List.length hda
          rw [List.length_drop, List.length_cons] at this
          omega
        have hd4 : ns.drop (at_ + 1 + n + 1 + row.length) = t := by rw [← List.drop_drop, hd5, et, lrow]
        have hm1 : (ns.map V.int)[at_ + 1 + n]? = some (V.int m0) := by
          have h6 : ns[at_ + 1 + n]? = some m0 := by
            have := congrArg (fun l => l[0]?) hda
            simp only [List.getElem?_drop] at this
            exact this
          rw [List.getElem?_map, h6]
          rfl
        have ha4 := SqL.same ha2 e24
        refine ⟨_, rfl, _, rfl, _, _, rfl, rfl, _, rfl, _, rfl, _, _, rfl, rfl, _, rfl, _, rfl, a, _, _, _, rfl, rfl, ha4, atI_nat (j := at_ + 1 + n) hm1, _, _, rfl, rfl, _, rfl, a, _, rfl, ha4, fun p2 np2 => ?_⟩
        have e45 : Same H4 (upd H4 p2 (.lst (cutV (ns.map V.int) (some ((at_ : Int) + 1 + (n : Int) + 1)) (some ((at_ : Int) + 1 + (n : Int) + 1 + m0))))) := Same.new np2
        have hp2 : (upd H4 p2 (.lst (cutV (ns.map V.int) (some ((at_ : Int) + 1 + (n : Int) + 1)) (some ((at_ : Int) + 1 + (n : Int) + 1 + m0))))) p2 = some (.lst (row.map V.int)) := by
          rw [upd_same, show (at_ : Int) + 1 + (n : Int) + 1 + m0 = ((at_ + 1 + n + 1 + m0.toNat : Nat) : Int) by omega]
          refine congrArg some (congrArg HO.lst ((cut_ints ns (at_ + 1 + n + 1) (at_ + 1 + n + 1 + m0.toNat)).trans ?_))
          rw [List.drop_take, hd5, show at_ + 1 + n + 1 + m0.toNat - (at_ + 1 + n + 1) = m0.toNat by omega, erow]
        have p2F : p2 ≠ F := fun z => by rw [z, e24 _ _ hF] at np2; cases np2
        generalize upd H4 p2 (.lst (cutV (ns.map V.int) (some ((at_ : Int) + 1 + (n : Int) + 1)) (some ((at_ : Int) + 1 + (n : Int) + 1 + m0)))) = G4 at e45 hp2 ⊢
        replace e24 := e24.trans e45
        replace hp4 := e45 _ _ hp4
        refine ⟨_, rfl, _, _, rfl, rfl, _, rfl, p2, _, rfl, .inl (SqL.of hp2), _, _, rfl, rfl, ?_⟩
        clear hrow hno
        have hF4 := e24 _ _ hF
        refine ⟨F, _, hF4, trivial, fun od => ?_⟩
        have off : Same (del G4 F) (upd G4 F (.frz od (.lst (done.map V.int)))) := same_del_upd
        have hn5 : InAt (upd G4 F (.frz od (.lst (done.map V.int)))) (.ref p) (r.take n) := ⟨p, rfl, by rw [upd_ne pF]; exact hp4⟩
        have hw5 : InAt (upd G4 F (.frz od (.lst (done.map V.int)))) (.ref p2) row := ⟨p2, rfl, by rw [upd_ne p2F]; exact hp2⟩
        have hS5 : StAt K (upd G4 F (.frz od (.lst (done.map V.int)))) kp s := (hS.same (Same_del e24)).same off
        refine ⟨_, rfl, _, rfl, _, rfl, _, rfl, rfl, kp, s, c, .ref p, r.take n, (.ref p2), row, rfl, hS5, hn5, hw5, rl, hsh, stat_len hS5 hsh, fun u H6 b6 hS6 hu => ?_⟩
        have kpF : kp ≠ F := by
          intro z
          obtain ⟨dx', pv', cl', hk'⟩ := hS5.obj
          rw [z, upd_same] at hk'
          cases hk'
        have hF6 : H6 F = some (.frz od (.lst (done.map V.int))) := b6 _ _ (Ne.symm kpF) upd_same
        refine ⟨hF6, ?_⟩
        have hS7 := hS6.unl hF6
        obtain ⟨ua, rfl, hua⟩ := hu.unl hF6
        have uF : ua ≠ F := fun z => by rw [z, del_same] at hua; cases hua
        rw [del_ne uF] at hua
        generalize hr2 : Vbkdai.step s ((c :: r.take n) :: rowsOf c row) = rr at hS7 hua hlen
        have hF7 : (upd H6 F (.lst (done.map V.int))) F = some (.lst (done.map V.int)) := upd_same
        have hua7 : (upd H6 F (.lst (done.map V.int))) ua = some (.lst (rr.2.map V.int)) := by rw [upd_ne uF]; exact hua
        have e07 : Same H (upd H6 F (.lst (done.map V.int))) := fun b o hb => by
          have bF : b ≠ F := ne_of_none hb nF0
          have bk : b ≠ kp := ne_of_none hb nk0
          rw [upd_ne bF]
          exact b6 b o bk (by rw [upd_ne bF]; exact (e0.trans e24) b o hb)
        have hS8 : StAt K (del (upd H6 F (.lst (done.map V.int))) F) kp rr.1 := by rw [del_upd]; exact hS7
        generalize upd H6 F (.lst (done.map V.int)) = H7 at hF7 hua7 e07 hS8 ⊢
        refine ⟨_, rfl, Or.inl ⟨rfl, _, SqL.of hF7⟩, _, rfl, ua, _, rfl, .inl (SqL.of hua7), F, _, _, rfl, rfl, hF7, by rw [List.length_map]; exact Nat.lt_of_le_of_lt (show done.length ≤ 100000 by omega) (by decide), ?_⟩
        refine ⟨_, rfl, Or.inl ⟨rfl, _, SqL.of upd_same⟩, _, rfl, F, ua, _, _, rfl, rfl, upd_same, by rw [upd_ne uF]; exact hua7, ?_, ?_⟩
        · rw [List.length_append, List.length_map, List.length_map]
          exact Nat.le_trans (show done.length + 1 + rr.2.length ≤ 200000 by omega) (by decide)
        refine ⟨_, rfl, ?_⟩
        show W (m - 1) _ _
        rw [hW]
        refine ⟨(at_ + 1 + n + 1 + row.length), f', cs, rr.1, done ++ ((rr.2.length : Int) :: rr.2), some (.int c), some (.int ((at_ + 1 + n + 1 + row.length) : Nat)), some (.ref p), some (.ref p2), some (.ref ua), by rw [← hm]; rfl, ?_, ?_, ?_, hin.2, ?_, ?_, ?_, ?_, ?_⟩
        · skip
          rw [List.length_map]
          rfl
        · omega
        · rw [hd4]
          exact hcs
        · intro b o hb
          have bF : b ≠ F := ne_of_none hb nF0
          rw [upd_ne bF, upd_ne bF]
          exact e07 b o hb
        · rw [del_upd, del_upd]
          exact hS8
        · rw [upd_same, List.map_append, List.map_cons, List.append_assoc, List.length_map]
          rfl
        · rw [hans, List.append_assoc]
          rw [← hr2]
          rfl
        · rw [List.length_append, List.length_cons]
          rw [List.length_cons] at hsz
          omega
      · rw [decide_eq_false hcr]
        refine iteF ?_
        obtain ⟨erow, et⟩ := hno hcr
        have rl : row.length ≤ 1000 := by rw [erow]; decide
        clear hrow hno
        have hF4 := e24 _ _ hF
        refine ⟨F, _, hF4, trivial, fun od => ?_⟩
        have off : Same (del H4 F) (upd H4 F (.frz od (.lst (done.map V.int)))) := same_del_upd
        have hn5 : InAt (upd H4 F (.frz od (.lst (done.map V.int)))) (.ref p) (r.take n) := ⟨p, rfl, by rw [upd_ne pF]; exact hp4⟩
        have hw5 : InAt (upd H4 F (.frz od (.lst (done.map V.int)))) (.ref em) row := ⟨em, rfl, by rw [upd_ne emF, erow]; exact hem⟩
        have hS5 : StAt K (upd H4 F (.frz od (.lst (done.map V.int)))) kp s := (hS.same (Same_del e24)).same off
        refine ⟨_, rfl, _, rfl, _, rfl, _, rfl, rfl, kp, s, c, .ref p, r.take n, (.ref em), row, rfl, hS5, hn5, hw5, rl, hsh, stat_len hS5 hsh, fun u H6 b6 hS6 hu => ?_⟩
        have kpF : kp ≠ F := by
          intro z
          obtain ⟨dx', pv', cl', hk'⟩ := hS5.obj
          rw [z, upd_same] at hk'
          cases hk'
        have hF6 : H6 F = some (.frz od (.lst (done.map V.int))) := b6 _ _ (Ne.symm kpF) upd_same
        refine ⟨hF6, ?_⟩
        have hS7 := hS6.unl hF6
        obtain ⟨ua, rfl, hua⟩ := hu.unl hF6
        have uF : ua ≠ F := fun z => by rw [z, del_same] at hua; cases hua
        rw [del_ne uF] at hua
        generalize hr2 : Vbkdai.step s ((c :: r.take n) :: rowsOf c row) = rr at hS7 hua hlen
        have hF7 : (upd H6 F (.lst (done.map V.int))) F = some (.lst (done.map V.int)) := upd_same
        have hua7 : (upd H6 F (.lst (done.map V.int))) ua = some (.lst (rr.2.map V.int)) := by rw [upd_ne uF]; exact hua
        have e07 : Same H (upd H6 F (.lst (done.map V.int))) := fun b o hb => by
          have bF : b ≠ F := ne_of_none hb nF0
          have bk : b ≠ kp := ne_of_none hb nk0
          rw [upd_ne bF]
          exact b6 b o bk (by rw [upd_ne bF]; exact (e0.trans e24) b o hb)
        have hS8 : StAt K (del (upd H6 F (.lst (done.map V.int))) F) kp rr.1 := by rw [del_upd]; exact hS7
        generalize upd H6 F (.lst (done.map V.int)) = H7 at hF7 hua7 e07 hS8 ⊢
        refine ⟨_, rfl, Or.inl ⟨rfl, _, SqL.of hF7⟩, _, rfl, ua, _, rfl, .inl (SqL.of hua7), F, _, _, rfl, rfl, hF7, by rw [List.length_map]; exact Nat.lt_of_le_of_lt (show done.length ≤ 100000 by omega) (by decide), ?_⟩
        refine ⟨_, rfl, Or.inl ⟨rfl, _, SqL.of upd_same⟩, _, rfl, F, ua, _, _, rfl, rfl, upd_same, by rw [upd_ne uF]; exact hua7, ?_, ?_⟩
        · rw [List.length_append, List.length_map, List.length_map]
          exact Nat.le_trans (show done.length + 1 + rr.2.length ≤ 200000 by omega) (by decide)
        refine ⟨_, rfl, ?_⟩
        show W (m - 1) _ _
        rw [hW]
        refine ⟨(at_ + 1 + n), f', cs, rr.1, done ++ ((rr.2.length : Int) :: rr.2), some (.int c), some (.int ((at_ + 1 + n) : Nat)), some (.ref p), some (.ref em), some (.ref ua), by rw [← hm]; rfl, ?_, ?_, ?_, hin.2, ?_, ?_, ?_, ?_, ?_⟩
        · skip
          rfl
        · omega
        · rw [show ns.drop (at_ + 1 + n) = t by rw [← List.drop_drop, hr, et]]
          exact hcs
        · intro b o hb
          have bF : b ≠ F := ne_of_none hb nF0
          rw [upd_ne bF, upd_ne bF]
          exact e07 b o hb
        · rw [del_upd, del_upd]
          exact hS8
        · rw [upd_same, List.map_append, List.map_cons, List.append_assoc, List.length_map]
          rfl
        · rw [hans, List.append_assoc]
          rw [← hr2]
          rfl
        · rw [List.length_append, List.length_cons]
          rw [List.length_cons] at hsz
          omega
    · have ge : at_ = ns.length := by
        have : ¬ (at_ : Int) < (ns.length : Int) := fun z => cc (decide_eq_true z)
        omega
      subst ge
      rw [List.drop_length] at hcalls
      have : raws = [] := by
        cases f <;> (cases hcalls; rfl)
      subst this
      refine ⟨_, rfl, q _ F ?_⟩
      rw [hF, hans]
      show _ = some (HO.lst ((done ++ []).map V.int))
      rw [List.append_nil]
end
end Bc


-- end of a part
set_option Elab.async false
set_option linter.all false
set_option maxRecDepth 100000
set_option maxHeartbeats 0
/-! # the end: from the promise of answers to the row -/
namespace L2
open PySem PySem.Spec PyProof.Rows
open PySem.W (Codec OpenSpec)
/-- as walk_spec, the written part found behind the top -/
theorem walk_specE {r : OpenSpec} {k : Nat} {q : Program} {loose : List Str} {XP : (Str → Option Value) → Heap → Prop} {YP : World → Heap → Prop} {d : DefRec} {CX : World → CXT} {ps : List Str}
    (hwell : r.wellSaid = true) (hlen : r.args.length = ps.length) (hr : Room k callerA)
    (F : ∀ (w : World) (mg : Str → Option Value) (fa : Addr) (h : Heap), YP w h → h.Ns mainGlobals mg → mg d.name = some (.ref fa) →
      ∃ (K : PySem.W.Frag) (fd : FuncData) (sp : Sp), K.In h ∧ (∀ (s : Shared) (us : List Value), us.length = ps.length → BindsTo s fd ⟨us, []⟩ (ps.zip us)) ∧
        (∀ base : Heap, K.In base → base.Ns mainGlobals mg → FnOk r.prog w K mg base (CX w) k fa fd ps sp) ∧
        ∀ (H : Hp) (xs : List V) (a : Codec.denoteAll r.args), OnlyF H → Codec.withinAll r.args a = true → Codec.app r.args r.asked a = true → DwAll K H xs (Codec.encAll r.args a) →
          sp xs H (fun v H' => Dw K H' v (r.ret.enc (Codec.app r.args r.f a))) fun _ _ _ => False)
    (hCX : ∀ (w : World) (H : Hp) (s : Shared) (e : Value) (s' : Shared), CX w [] H s (fun _ _ _ => False) e s' → False) :
    PySem.W.WalkOS q loose XP YP r d [] (fun f vs => PySem.call f vs) := by
  intro w s0 s1 mg mb G Y fa o pm cd doc dV kV ho hd hcd hD hmg hg args vals as hpre hlay hrd hwl hlo
  obtain ⟨a, e1, e2⟩ := PySem.W.os_pre_some hpre
  obtain ⟨e3, hwi⟩ := Codec.encAll_of_decAll r.args args a e1
  subst e3
  obtain ⟨K, fd, sp, KX, hb, hF, hsp⟩ := F w mg fa _ Y G.T.g hmg
  refine PySem.W.enter_call (codeAny_mono (spec_call (R := []) (cl := classAt s0.heap) (d0 := r.ret.enc (Codec.app r.args r.f a)) KX G.T.g G.T.b G.T.builtins G.T.nolimit hg hwl (pl_encAll _ _) (layable_weight hlay) hr hF hb (by rw [encAll_len]; exact hlen)
    (fun H xs hO hS => hsp H xs a hO hwi e2 hS) fun H e s' => hCX w H s1 e s') fun r' s' hq => ?_)
  obtain ⟨u, as', rfl, h1, h2, h3, h4⟩ := hq
  exact ⟨.inl ⟨u, _, as', rfl, fun _ => rfl, h1, (OpenSpec.post_iff hwell hwi _ _).mpr rfl, fun z => Bool.noConfusion (show false = true from z)⟩, h2, h3, h4⟩
end L2
namespace Bc
open PySem PySem.Spec PyProof.Rows L2
open PySem.W (Codec)
theorem facts {P : Program} {w : World} {mg : Str → Option Value} {h : Heap} {fa : Addr} (Y : hk.says w h) (G : h.Ns mainGlobals mg) (hfa : mg "answers" = some (.ref fa)) :
    ∃ (K : PySem.W.Frag) (fd : FuncData) (sp : Sp), K.In h ∧ (∀ (s : Shared) (us : List Value), us.length = (["calls"] : List Str).length → BindsTo s fd ⟨us, []⟩ ((["calls"] : List Str).zip us)) ∧
      (∀ base : Heap, K.In base → base.Ns mainGlobals mg → FnOk P w K mg base CX0 14 fa fd ["calls"] sp) ∧ sp = sp_answers K := by
  obtain ⟨K, X, c, e⟩ := Y
  have T : TX K mg := ⟨⟨h, X, G⟩, c, e⟩
  have ef := hfa.symm.trans T.g_answers
  cases ef
  obtain ⟨fd, F⟩ := T.sd.def_ 97 (d := d_answers) rfl
  refine ⟨K, fd, sp_answers K, X, F.bindsA fun _ _ _ _ _ _ us hl => match us, hl with | [_], _ => rfl, fun base _ _ => ?_, rfl⟩
  exact fn_answers (P := P) (w := w) (base := base) T (fun_of F)
end Bc
open PySem PySem.W PyProof.Rows
theorem PySem.Challenge.cw_beltcounts_s01_answers_holds : PySem.Challenge.rw_beltcounts_s01_answers.Holds := by
  w_on
  refine HandSHeadRun.head_spec (r := PySem.Challenge.rw_beltcounts_s01_answers) (q := Bc.qv) (H := Bc.hk) (ob := Bc.ob) (M := 20000) (loose := Bc.loose) (d := HandSHeadRun.topDef PySem.Challenge.rw_beltcounts_s01_answers.prog 114) (kwd := []) Bc.ob_eq
    (by kernel_rfl) (fun s => by kernel_rfl) Bc.run (by kernel_rfl) (by kernel_rfl) (by kernel_rfl) os_shapes (by first | assumption | decide +kernel) (by decide +kernel) ⟨rfl, rfl, rfl, rfl, rfl, by decide +kernel⟩ ?hw ?hc
  case hw => exact ⟨[.list [.int 19]], by decide +kernel, by decide +kernel⟩
  case hc =>
    refine L2.walk_specE (k := 14) (CX := fun _ => L2.CX0) (ps := ["calls"]) (by decide +kernel) rfl ⟨rfl, by decide, by decide⟩ ?F (fun _ _ _ _ _ z => z)
    intro w mg fa h Y G hmg0
    have hmg : mg ("answers" : PySem.Str) = some (.ref fa) := by
      have e : (HandSHeadRun.topDef PySem.Challenge.rw_beltcounts_s01_answers.prog 114).name = ("answers" : PySem.Str) := by kernel_rfl
      rw [← e]
      exact hmg0
    obtain ⟨K, fd, sp, X, hb, hF, rfl⟩ := Bc.facts (P := PySem.Challenge.rw_beltcounts_s01_answers.prog) Y G hmg
    refine ⟨K, fd, _, X, hb, hF, fun H xs a hO hwi hask hx => ?_⟩
    cases hx with
    | cons h1 h2 =>
      cases h2
      cases h1 with
      | lst hs ha =>
        have e := L2.ints_dw a.1 _ ha
        subst e
        exact ⟨rfl, _, a.1, rfl, hs, hask, fun H' p hp => .lst (L2.SqL.of hp) (L2.dw_ints _)⟩


-- end of a part
